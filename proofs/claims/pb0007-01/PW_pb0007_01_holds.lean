import PyProof.Rows.All
import Wide.All
import OpenK.AllK
import Wide.FinOn
import PySem.Challenge.RW_pb0007_01
set_option Elab.async false
set_option maxRecDepth 100000
set_option rowWalk.seconds 0
open PySem PySem.W PySem.Calls PyProof.Rows
namespace Mine
section
set_option maxHeartbeats 1000000
section
/-- what the walk sees of the text: all but the lines that bind __name__ -/
def q : Program := PySem.W.view PySem.Challenge.pw_pb0007_01 [1, 2, 3, 5, 7, 8, 9, 11, 12, 13, 14, 15, 16, 17, 18, 20, 21, 22, 23, 24, 25, 26]
theorem sd1 : namesResolve PySem.Challenge.pw_pb0007_01 = true := by kernel_rfl!
theorem sd2 : noRoadLSs { strict := !(importedModules PySem.Challenge.pw_pb0007_01.main.body).all cThrough.contains, foot := none, bare := (["vars", "dir", "locals"] : List Str).filter (readsOut PySem.Challenge.pw_pb0007_01 PySem.Challenge.pw_pb0007_01.main.body) } PySem.Challenge.pw_pb0007_01.main.body = true := by kernel_rfl!
theorem sd3 : namesMeet PySem.Challenge.pw_pb0007_01 PySem.Challenge.pw_pb0007_01.main.body (fun _ n => attrL n) = true := by kernel_rfl!
theorem sd4 : looksOpen PySem.Challenge.pw_pb0007_01 = true := by
  unfold looksOpen
  refine look_both (look_both (look_both (look_both (look_both ?_ ?_) sd1) ?_) sd2) sd3
  all_goals kernel_rfl!
theorem sd5 : noRoadLSs { strict := true, foot := some PySem.Challenge.rw_pb0007_01.bound', writes := false, may := PySem.Challenge.rw_pb0007_01.may } PySem.Challenge.rw_pb0007_01.footing = true := by kernel_rfl!
theorem sd6 : PySem.Challenge.rw_pb0007_01.row.wellSaid = true := by
  unfold OpenRow.wellSaid OpenRow.partSaid
  repeat' (with_reducible refine look_both ?_ ?_)
  exact sd4
  all_goals kernel_rfl!
theorem said1 : PySem.Challenge.rw_pb0007_01.wellSaid = true := by
  unfold OpenLaw.wellSaid
  repeat' (with_reducible refine look_both ?_ ?_)
  exact sd6
  iterate 5 kernel_rfl!
  exact sd5
  all_goals kernel_rfl!
theorem fine1 : (chainsOk q && opensWell PySem.Challenge.rw_pb0007_01.row.prog && (frees PySem.Challenge.rw_pb0007_01.row.toRowW && PySem.Challenge.rw_pb0007_01.row.within.isEmpty)) = true := by kernel_rfl!
/-- the text's parts, by their place in the given program -/
noncomputable def st (i : Nat) : Stmt := PySem.Challenge.pw_pb0007_01.main.body.getD i default
noncomputable def sub (i j : Nat) : Stmt := (match st i with | .ClassDef _ _ _ b _ _ _ _ _ _ _ => b | _ => []).getD j default
noncomputable def cScope : Stmt → Scope
  | .ClassDef _ _ _ _ _ _ sc _ _ _ _ => sc
  | _ => default
noncomputable def fPar : Stmt → Arguments
  | .FunctionDef _ a _ _ _ _ _ _ _ _ => a
  | _ => default
noncomputable def fBody : Stmt → List Stmt
  | .FunctionDef _ _ b _ _ _ _ _ _ _ => b
  | _ => []
noncomputable def fScope : Stmt → Scope
  | .FunctionDef _ _ _ _ _ _ sc _ _ _ => sc
  | _ => default
noncomputable def ob0 : Params → Obj := fun _ => (Obj.mk (Value.type "tuple") none (Data.seq (List.toArray ([] : List Value)) 0) (List.toArray ([] : List (Option Value))))
noncomputable def ob1 : Params → Obj := fun _ => (Obj.mk Value.none none (Data.fields (List.toArray ([] : List Value))) (List.toArray ([] : List (Option Value))))
noncomputable def ob2 : Params → Obj := fun _ => (Obj.mk (Value.type "code") none (Data.fields (List.toArray [(Value.str (Str.ofString "<module>") 182), (Value.str (Str.ofString "<module>") 183), (Value.str (Str.ofString "/claim/cut.py") 184), (Value.int 1 0), (Value.int 0 0), (Value.int 0 0), (Value.int 0 0), (Value.int 0 0), (.ref 11 : Value), (Value.bool false), (Value.int 181 0), (.ref 12 : Value), Value.none, Value.none, Value.none, Value.none, (Value.int 185 0), (Value.int 1 0), (Value.str (Str.ofString "/claim/cut.py") 186)])) (List.toArray ([] : List (Option Value))))
noncomputable def ob3 : Params → Obj := fun _ => (Obj.mk (Value.type "frame") none Data.plain (List.toArray [(some (.ref 13 : Value)), (some (.ref 3 : Value)), (some (.ref 3 : Value)), (none : Option Value), (some (Value.str (Str.ofString "__main__") 164)), (none : Option Value), (some (.ref 0 : Value))]))
noncomputable def hp0 : Params → Heap := fun P => ⟨⟨[boot_o_0 P, boot_o_1 P, boot_o_2 P, boot_o_3 P, boot_o_4 P, boot_o_5 P, boot_o_6 P, boot_o_7 P, boot_o_8 P, boot_o_9 P, boot_o_10 P, ob0 P, ob1 P, ob2 P, ob3 P]⟩, (Life.mk ([] : List @Nat) ([] : List @Nat) ([] : List @Nat) 0 ([] : List (@Prod @Nat @Nat)) ([] : List @Nat) false (List.toArray ([] : List @Nat)) ([] : List @Nat) 0 false false false 0 [2000, 10, 10] false 0 true ([] : List @Nat) ([] : List @Nat) 0 false)⟩
noncomputable def S0 (w : World) (os : OsState) : Shared := ⟨hp0 w.params, Array.mk [], (Drawn.mk 0 0 0 0), 187, os⟩
noncomputable def hp1 : Params → Heap := fun P => ⟨⟨[boot_o_0 P, boot_o_1 P, boot_o_2 P, boot_o_3 P, boot_o_4 P, boot_o_5 P, boot_o_6 P, boot_o_7 P, boot_o_8 P, boot_o_9 P, boot_o_10 P, ob0 P, ob1 P, ob2 P, ob3 P]⟩, (Life.mk ([] : List @Nat) ([] : List @Nat) ([] : List @Nat) 0 ([] : List (@Prod @Nat @Nat)) ([] : List @Nat) false (List.toArray ([] : List @Nat)) ([] : List @Nat) 0 false false false 0 [2000, 10, 10] false 0 true ([] : List @Nat) ([] : List @Nat) 0 false)⟩
noncomputable def S1 (w : World) (os : OsState) : Shared := ⟨hp1 w.params, Array.mk [], (Drawn.mk 0 0 0 0), 187, os⟩
noncomputable def ob4 : Params → Obj := fun P => (Obj.mk Value.none none (Data.dict (List.toArray [(DictEntry.mk (PyData.keyHash P (Str.ofString "type.__subclasses__.Exception.0")) (Value.str (Str.ofString "type.__subclasses__.Exception.0") 214) (Value.int 31 0)), (DictEntry.mk (PyData.keyHash P (Str.ofString "type.__subclasses__.Exception.n")) (Value.str (Str.ofString "type.__subclasses__.Exception.n") 215) (Value.int 1 0))]) 2) (List.toArray ([] : List (Option Value))))
noncomputable def ob5 : Params → Obj := fun P => (Obj.mk (Value.type "dict") none (Data.dict (List.toArray [(DictEntry.mk (PyData.keyHash P (Str.ofString "__name__")) (Value.str (Str.ofString "__name__") 165) (Value.str (Str.ofString "adacore.errors") 187)), (DictEntry.mk (PyData.keyHash P (Str.ofString "__doc__")) (Value.str (Str.ofString "__doc__") 166) Value.none), (DictEntry.mk (PyData.keyHash P (Str.ofString "__package__")) (Value.str (Str.ofString "__package__") 167) Value.none), (DictEntry.mk (PyData.keyHash P (Str.ofString "__loader__")) (Value.str (Str.ofString "__loader__") 168) (Value.builtin "__main__.__loader__#opaque")), (DictEntry.mk (PyData.keyHash P (Str.ofString "__spec__")) (Value.str (Str.ofString "__spec__") 169) Value.none), (DictEntry.mk (PyData.keyHash P (Str.ofString "__annotations__")) (Value.str (Str.ofString "__annotations__") 170) (.ref 6 : Value)), (DictEntry.mk (PyData.keyHash P (Str.ofString "__builtins__")) (Value.str (Str.ofString "__builtins__") 171) (.ref 4 : Value)), (DictEntry.mk (PyData.keyHash P (Str.ofString "__file__")) (Value.str (Str.ofString "__file__") 173) (Value.str (Str.ofString "/claim/cut.py") 172)), (DictEntry.mk (PyData.keyHash P (Str.ofString "__cached__")) (Value.str (Str.ofString "__cached__") 174) Value.none), (DictEntry.mk (PyData.keyHash P (Str.ofString "AdaError")) (Value.str (Str.ofString "AdaError") 217) (.ref 31 : Value))]) 10) (List.toArray ([] : List (Option Value))))
noncomputable def ob6 : Params → Obj := fun _ => (Obj.mk Value.none none (Data.fields (List.toArray [(Value.int 2 0), (Value.int 0 0), (.ref 20 : Value)])) (List.toArray ([] : List (Option Value))))
noncomputable def ob7 : Params → Obj := fun _ => (Obj.mk (Value.type "tuple") none (Data.seq (List.toArray [(Value.type "Exception")]) 0) (List.toArray ([] : List (Option Value))))
noncomputable def ob8 : Params → Obj := fun _ => (Obj.mk (Value.type "builtin_function_or_method") none (Data.fields (List.toArray [(Value.builtin "type.__prepare__"), (Value.type "type")])) (List.toArray ([] : List (Option Value))))
noncomputable def ob9 : Params → Obj := fun P => (Obj.mk (Value.type "dict") none (Data.dict (List.toArray [(DictEntry.mk (PyData.keyHash P (Str.ofString "__module__")) (Value.str (Str.ofString "__module__") 196) (Value.str (Str.ofString "adacore.errors") 187)), (DictEntry.mk (PyData.keyHash P (Str.ofString "__qualname__")) (Value.str (Str.ofString "__qualname__") 198) (Value.str (Str.ofString "AdaError") 197)), (DictEntry.mk (PyData.keyHash P (Str.ofString "__firstlineno__")) (Value.str (Str.ofString "__firstlineno__") 200) (Value.int 2 199)), (DictEntry.mk (PyData.keyHash P (Str.ofString "__init__")) (Value.str (Str.ofString "__init__") 208) (.ref 28 : Value)), (DictEntry.mk (PyData.keyHash P (Str.ofString "__static_attributes__")) (Value.str (Str.ofString "__static_attributes__") 210) (.ref 29 : Value))]) 5) (List.toArray ([] : List (Option Value))))
noncomputable def ob10 : Params → Obj := fun _ => (Obj.mk (Value.type "tuple") none (Data.seq (List.toArray ([] : List Value)) 0) (List.toArray ([] : List (Option Value))))
noncomputable def ob11 : Params → Obj := fun _ => (Obj.mk Value.none none (Data.fields (List.toArray [(Value.int 4 0), (Value.int 4 0), (.ref 27 : Value)])) (List.toArray ([] : List (Option Value))))
noncomputable def ob12 : Params → Obj := fun _ => (Obj.mk (Value.type "code") none (Data.fields (List.toArray [(Value.str (Str.ofString "AdaError") 191), (Value.str (Str.ofString "AdaError") 192), (Value.str (Str.ofString "/claim/cut.py") 193), (Value.int 2 0), (Value.int 0 0), (Value.int 0 0), (Value.int 0 0), (Value.int 0 0), (.ref 18 : Value), (Value.bool false), (Value.int 181 0), (.ref 19 : Value), Value.none, Value.none, Value.none, Value.none, (Value.int 194 0), (Value.int 2 0), (Value.str (Str.ofString "/claim/cut.py") 195)])) (List.toArray ([] : List (Option Value))))
noncomputable def ob13 : Params → Obj := fun _ => (Obj.mk (Value.type "frame") none Data.plain (List.toArray [(some (.ref 20 : Value)), (some (.ref 3 : Value)), (some (.ref 17 : Value)), (none : Option Value), (some (Value.str (Str.ofString "adacore.errors") 187)), (none : Option Value), (some (.ref 0 : Value))]))
noncomputable def ob14 : Params → Obj := fun _ => (Obj.mk (Value.type "tuple") none (Data.seq (List.toArray ([] : List Value)) 0) (List.toArray ([] : List (Option Value))))
noncomputable def ob15 : Params → Obj := fun _ => (Obj.mk Value.none none (Data.fields (List.toArray ([] : List Value))) (List.toArray ([] : List (Option Value))))
noncomputable def ob16 : Params → Obj := fun _ => (Obj.mk (Value.type "tuple") none (Data.seq (List.toArray [(Value.str (Str.ofString "self") 204), (Value.str (Str.ofString "text") 205)]) 0) (List.toArray ([] : List (Option Value))))
noncomputable def ob17 : Params → Obj := fun _ => (Obj.mk (Value.type "tuple") none (Data.seq (List.toArray ([] : List Value)) 0) (List.toArray ([] : List (Option Value))))
noncomputable def ob18 : Params → Obj := fun _ => (Obj.mk Value.none none (Data.func (FuncData.mk (Str.ofString "__init__") (Str.ofString "AdaError.__init__") (fPar (sub 1 0)) (FuncBody.stmts (fBody (sub 1 0))) (fScope (sub 1 0)) 0 ([] : List (@Prod Str @Nat)) Value.none Value.none Value.none Value.none none Value.none Value.none 0)) (List.toArray ([] : List (Option Value))))
noncomputable def ob19 : Params → Obj := fun _ => (Obj.mk (Value.type "code") none (Data.fields (List.toArray [(Value.str (Str.ofString "__init__") 201), (Value.str (Str.ofString "AdaError.__init__") 202), (Value.str (Str.ofString "/claim/cut.py") 203), (Value.int 4 0), (Value.int 2 0), (Value.int 0 0), (Value.int 0 0), (Value.int 3 0), (.ref 22 : Value), (Value.bool true), (Value.int 181 0), (.ref 23 : Value), Value.none, (.ref 24 : Value), (.ref 25 : Value), (.ref 26 : Value), (Value.int 206 0), (Value.int 4 0), (Value.str (Str.ofString "/claim/cut.py") 207)])) (List.toArray ([] : List (Option Value))))
noncomputable def ob20 : Params → Obj := fun _ => (Obj.mk (Value.type "function") none (Data.func (FuncData.mk (Str.ofString "__init__") (Str.ofString "AdaError.__init__") (fPar (sub 1 0)) (FuncBody.stmts (fBody (sub 1 0))) (fScope (sub 1 0)) 3 ([] : List (@Prod Str @Nat)) Value.none Value.none Value.none (Value.str (Str.ofString "adacore.errors") 187) none (.ref 27 : Value) Value.none 0)) (List.toArray ([] : List (Option Value))))
noncomputable def ob21 : Params → Obj := fun _ => (Obj.mk (Value.type "tuple") none (Data.seq (List.toArray [(Value.str (Str.ofString "text") 209)]) 0) (List.toArray ([] : List (Option Value))))
noncomputable def ob22 : Params → Obj := fun P => (Obj.mk (Value.type "dict") none (Data.dict (List.toArray [(DictEntry.mk (PyData.keyHash P (Str.ofString "__module__")) (Value.str (Str.ofString "__module__") 196) (Value.str (Str.ofString "adacore.errors") 187)), (DictEntry.mk (PyData.keyHash P (Str.ofString "__firstlineno__")) (Value.str (Str.ofString "__firstlineno__") 200) (Value.int 2 199)), (DictEntry.mk (PyData.keyHash P (Str.ofString "__init__")) (Value.str (Str.ofString "__init__") 208) (.ref 28 : Value)), (DictEntry.mk (PyData.keyHash P (Str.ofString "__static_attributes__")) (Value.str (Str.ofString "__static_attributes__") 210) (.ref 29 : Value)), (DictEntry.mk (PyData.keyHash P (Str.ofString "__weakref__")) (Value.str (Str.ofString "__weakref__") 212) (.ref 32 : Value)), (DictEntry.mk (PyData.keyHash P (Str.ofString "__doc__")) (Value.str (Str.ofString "__doc__") 213) Value.none)]) 3) (List.toArray ([] : List (Option Value))))
noncomputable def ob23 : Params → Obj := fun _ => (Obj.mk (Value.type "type") none (Data.cls (ClassData.mk (Str.ofString "AdaError") [(Value.type "Exception")] [(.ref 31 : Value), (Value.type "Exception"), (Value.type "BaseException"), (Value.type "object")] 30 (Str.ofString "AdaError") true ([] : List Str) ([] : List Value) false (none : Option @Bool) false)) (List.toArray [(some (.ref 15 : Value)), (none : Option Value), (some (Value.str (Str.ofString "AdaError") 189)), (some (Value.str (Str.ofString "AdaError") 197)), (some (Value.builtin "Exception.__new__")), (some (Value.bool true))]))
noncomputable def ob24 : Params → Obj := fun _ => (Obj.mk (Value.type "getset_descriptor") none (Data.fields (List.toArray [(Value.str (Str.ofString "__weakref__") 211), (.ref 31 : Value), (Value.builtin "ExceptionGroup.__weakref__"), Value.none])) (List.toArray ([] : List (Option Value))))
noncomputable def ob25 : Params → Obj := fun _ => (Obj.mk (Value.type "super") none (Data.fields (List.toArray [(.ref 31 : Value), (.ref 31 : Value), (.ref 31 : Value)])) (List.toArray ([] : List (Option Value))))
noncomputable def ob26 : Params → Obj := fun _ => (Obj.mk (Value.type "builtin_function_or_method") none (Data.fields (List.toArray [(Value.builtin "object.__init_subclass__"), (.ref 31 : Value)])) (List.toArray ([] : List (Option Value))))
noncomputable def hp2 : Params → Heap := fun P => ⟨⟨[boot_o_0 P, boot_o_1 P, ob4 P, ob5 P, boot_o_4 P, boot_o_5 P, boot_o_6 P, boot_o_7 P, boot_o_8 P, boot_o_9 P, boot_o_10 P, ob0 P, ob6 P, ob2 P, ob3 P, ob7 P, ob8 P, ob9 P, ob10 P, ob11 P, ob12 P, ob13 P, ob14 P, ob15 P, ob16 P, ob17 P, ob18 P, ob19 P, ob20 P, ob21 P, ob22 P, ob23 P, ob24 P, ob25 P, ob26 P]⟩, (Life.mk ([] : List @Nat) ([] : List @Nat) ([] : List @Nat) 0 ([] : List (@Prod @Nat @Nat)) ([] : List @Nat) false (List.toArray ([] : List @Nat)) ([] : List @Nat) 0 false false false 0 [2000, 10, 10] false 0 true ([] : List @Nat) ([] : List @Nat) 0 false)⟩
noncomputable def S2 (w : World) (os : OsState) : Shared := ⟨hp2 w.params, Array.mk [], (Drawn.mk 0 0 0 0), 218, os⟩
noncomputable def ob27 : Params → Obj := fun P => (Obj.mk (Value.type "dict") none (Data.dict (List.toArray [(DictEntry.mk (PyData.keyHash P (Str.ofString "__name__")) (Value.str (Str.ofString "__name__") 165) (Value.str (Str.ofString "adacore.errors") 187)), (DictEntry.mk (PyData.keyHash P (Str.ofString "__doc__")) (Value.str (Str.ofString "__doc__") 166) Value.none), (DictEntry.mk (PyData.keyHash P (Str.ofString "__package__")) (Value.str (Str.ofString "__package__") 167) Value.none), (DictEntry.mk (PyData.keyHash P (Str.ofString "__loader__")) (Value.str (Str.ofString "__loader__") 168) (Value.builtin "__main__.__loader__#opaque")), (DictEntry.mk (PyData.keyHash P (Str.ofString "__spec__")) (Value.str (Str.ofString "__spec__") 169) Value.none), (DictEntry.mk (PyData.keyHash P (Str.ofString "__annotations__")) (Value.str (Str.ofString "__annotations__") 170) (.ref 6 : Value)), (DictEntry.mk (PyData.keyHash P (Str.ofString "__builtins__")) (Value.str (Str.ofString "__builtins__") 171) (.ref 4 : Value)), (DictEntry.mk (PyData.keyHash P (Str.ofString "__file__")) (Value.str (Str.ofString "__file__") 173) (Value.str (Str.ofString "/claim/cut.py") 172)), (DictEntry.mk (PyData.keyHash P (Str.ofString "__cached__")) (Value.str (Str.ofString "__cached__") 174) Value.none), (DictEntry.mk (PyData.keyHash P (Str.ofString "AdaError")) (Value.str (Str.ofString "AdaError") 217) (.ref 31 : Value)), (DictEntry.mk (PyData.keyHash P (Str.ofString "CheckFault")) (Value.str (Str.ofString "CheckFault") 243) (.ref 51 : Value))]) 11) (List.toArray ([] : List (Option Value))))
noncomputable def ob28 : Params → Obj := fun _ => (Obj.mk Value.none none (Data.fields (List.toArray [(Value.int 2 0), (Value.int 0 0), (.ref 20 : Value), (Value.int 7 0), (Value.int 0 0), (.ref 40 : Value)])) (List.toArray ([] : List (Option Value))))
noncomputable def ob29 : Params → Obj := fun _ => (Obj.mk (Value.type "type") none (Data.cls (ClassData.mk (Str.ofString "AdaError") [(Value.type "Exception")] [(.ref 31 : Value), (Value.type "Exception"), (Value.type "BaseException"), (Value.type "object")] 30 (Str.ofString "AdaError") true ([] : List Str) [(.ref 51 : Value)] false (none : Option @Bool) false)) (List.toArray [(some (.ref 15 : Value)), (none : Option Value), (some (Value.str (Str.ofString "AdaError") 189)), (some (Value.str (Str.ofString "AdaError") 197)), (some (Value.builtin "Exception.__new__")), (some (Value.bool true))]))
noncomputable def ob30 : Params → Obj := fun _ => (Obj.mk (Value.type "tuple") none (Data.seq (List.toArray [(.ref 31 : Value)]) 0) (List.toArray ([] : List (Option Value))))
noncomputable def ob31 : Params → Obj := fun _ => (Obj.mk (Value.type "builtin_function_or_method") none (Data.fields (List.toArray [(Value.builtin "type.__prepare__"), (Value.type "type")])) (List.toArray ([] : List (Option Value))))
noncomputable def ob32 : Params → Obj := fun P => (Obj.mk (Value.type "dict") none (Data.dict (List.toArray [(DictEntry.mk (PyData.keyHash P (Str.ofString "__module__")) (Value.str (Str.ofString "__module__") 225) (Value.str (Str.ofString "adacore.errors") 187)), (DictEntry.mk (PyData.keyHash P (Str.ofString "__qualname__")) (Value.str (Str.ofString "__qualname__") 227) (Value.str (Str.ofString "CheckFault") 226)), (DictEntry.mk (PyData.keyHash P (Str.ofString "__firstlineno__")) (Value.str (Str.ofString "__firstlineno__") 229) (Value.int 7 228)), (DictEntry.mk (PyData.keyHash P (Str.ofString "__init__")) (Value.str (Str.ofString "__init__") 238) (.ref 48 : Value)), (DictEntry.mk (PyData.keyHash P (Str.ofString "__static_attributes__")) (Value.str (Str.ofString "__static_attributes__") 240) (.ref 49 : Value))]) 5) (List.toArray ([] : List (Option Value))))
noncomputable def ob33 : Params → Obj := fun _ => (Obj.mk (Value.type "tuple") none (Data.seq (List.toArray ([] : List Value)) 0) (List.toArray ([] : List (Option Value))))
noncomputable def ob34 : Params → Obj := fun _ => (Obj.mk Value.none none (Data.fields (List.toArray [(Value.int 9 0), (Value.int 4 0), (.ref 47 : Value)])) (List.toArray ([] : List (Option Value))))
noncomputable def ob35 : Params → Obj := fun _ => (Obj.mk (Value.type "code") none (Data.fields (List.toArray [(Value.str (Str.ofString "CheckFault") 220), (Value.str (Str.ofString "CheckFault") 221), (Value.str (Str.ofString "/claim/cut.py") 222), (Value.int 7 0), (Value.int 0 0), (Value.int 0 0), (Value.int 0 0), (Value.int 0 0), (.ref 38 : Value), (Value.bool false), (Value.int 181 0), (.ref 39 : Value), Value.none, Value.none, Value.none, Value.none, (Value.int 223 0), (Value.int 7 0), (Value.str (Str.ofString "/claim/cut.py") 224)])) (List.toArray ([] : List (Option Value))))
noncomputable def ob36 : Params → Obj := fun _ => (Obj.mk (Value.type "frame") none Data.plain (List.toArray [(some (.ref 40 : Value)), (some (.ref 3 : Value)), (some (.ref 37 : Value)), (none : Option Value), (some (Value.str (Str.ofString "adacore.errors") 187)), (none : Option Value), (some (.ref 0 : Value))]))
noncomputable def ob37 : Params → Obj := fun _ => (Obj.mk (Value.type "tuple") none (Data.seq (List.toArray ([] : List Value)) 0) (List.toArray ([] : List (Option Value))))
noncomputable def ob38 : Params → Obj := fun _ => (Obj.mk Value.none none (Data.fields (List.toArray ([] : List Value))) (List.toArray ([] : List (Option Value))))
noncomputable def ob39 : Params → Obj := fun _ => (Obj.mk (Value.type "tuple") none (Data.seq (List.toArray [(Value.str (Str.ofString "self") 233), (Value.str (Str.ofString "line") 234), (Value.str (Str.ofString "text") 235)]) 0) (List.toArray ([] : List (Option Value))))
noncomputable def ob40 : Params → Obj := fun _ => (Obj.mk (Value.type "tuple") none (Data.seq (List.toArray ([] : List Value)) 0) (List.toArray ([] : List (Option Value))))
noncomputable def ob41 : Params → Obj := fun _ => (Obj.mk Value.none none (Data.func (FuncData.mk (Str.ofString "__init__") (Str.ofString "CheckFault.__init__") (fPar (sub 2 0)) (FuncBody.stmts (fBody (sub 2 0))) (fScope (sub 2 0)) 0 ([] : List (@Prod Str @Nat)) Value.none Value.none Value.none Value.none none Value.none Value.none 0)) (List.toArray ([] : List (Option Value))))
noncomputable def ob42 : Params → Obj := fun _ => (Obj.mk (Value.type "code") none (Data.fields (List.toArray [(Value.str (Str.ofString "__init__") 230), (Value.str (Str.ofString "CheckFault.__init__") 231), (Value.str (Str.ofString "/claim/cut.py") 232), (Value.int 9 0), (Value.int 3 0), (Value.int 0 0), (Value.int 0 0), (Value.int 3 0), (.ref 42 : Value), (Value.bool true), (Value.int 181 0), (.ref 43 : Value), Value.none, (.ref 44 : Value), (.ref 45 : Value), (.ref 46 : Value), (Value.int 236 0), (Value.int 9 0), (Value.str (Str.ofString "/claim/cut.py") 237)])) (List.toArray ([] : List (Option Value))))
noncomputable def ob43 : Params → Obj := fun _ => (Obj.mk (Value.type "function") none (Data.func (FuncData.mk (Str.ofString "__init__") (Str.ofString "CheckFault.__init__") (fPar (sub 2 0)) (FuncBody.stmts (fBody (sub 2 0))) (fScope (sub 2 0)) 3 ([] : List (@Prod Str @Nat)) Value.none Value.none Value.none (Value.str (Str.ofString "adacore.errors") 187) none (.ref 47 : Value) Value.none 0)) (List.toArray ([] : List (Option Value))))
noncomputable def ob44 : Params → Obj := fun _ => (Obj.mk (Value.type "tuple") none (Data.seq (List.toArray [(Value.str (Str.ofString "line") 239)]) 0) (List.toArray ([] : List (Option Value))))
noncomputable def ob45 : Params → Obj := fun P => (Obj.mk (Value.type "dict") none (Data.dict (List.toArray [(DictEntry.mk (PyData.keyHash P (Str.ofString "__module__")) (Value.str (Str.ofString "__module__") 225) (Value.str (Str.ofString "adacore.errors") 187)), (DictEntry.mk (PyData.keyHash P (Str.ofString "__firstlineno__")) (Value.str (Str.ofString "__firstlineno__") 229) (Value.int 7 228)), (DictEntry.mk (PyData.keyHash P (Str.ofString "__init__")) (Value.str (Str.ofString "__init__") 238) (.ref 48 : Value)), (DictEntry.mk (PyData.keyHash P (Str.ofString "__static_attributes__")) (Value.str (Str.ofString "__static_attributes__") 240) (.ref 49 : Value)), (DictEntry.mk (PyData.keyHash P (Str.ofString "__doc__")) (Value.str (Str.ofString "__doc__") 241) Value.none)]) 2) (List.toArray ([] : List (Option Value))))
noncomputable def ob46 : Params → Obj := fun _ => (Obj.mk (Value.type "type") none (Data.cls (ClassData.mk (Str.ofString "CheckFault") [(.ref 31 : Value)] [(.ref 51 : Value), (.ref 31 : Value), (Value.type "Exception"), (Value.type "BaseException"), (Value.type "object")] 50 (Str.ofString "CheckFault") true ([] : List Str) ([] : List Value) false (none : Option @Bool) false)) (List.toArray [(some (.ref 35 : Value)), (none : Option Value), (some (Value.str (Str.ofString "CheckFault") 218)), (some (Value.str (Str.ofString "CheckFault") 226)), (some (Value.builtin "Exception.__new__")), (some (Value.bool true))]))
noncomputable def ob47 : Params → Obj := fun _ => (Obj.mk (Value.type "super") none (Data.fields (List.toArray [(.ref 51 : Value), (.ref 51 : Value), (.ref 51 : Value)])) (List.toArray ([] : List (Option Value))))
noncomputable def ob48 : Params → Obj := fun _ => (Obj.mk (Value.type "builtin_function_or_method") none (Data.fields (List.toArray [(Value.builtin "object.__init_subclass__"), (.ref 51 : Value)])) (List.toArray ([] : List (Option Value))))
noncomputable def hp3 : Params → Heap := fun P => ⟨⟨[boot_o_0 P, boot_o_1 P, ob4 P, ob27 P, boot_o_4 P, boot_o_5 P, boot_o_6 P, boot_o_7 P, boot_o_8 P, boot_o_9 P, boot_o_10 P, ob0 P, ob28 P, ob2 P, ob3 P, ob7 P, ob8 P, ob9 P, ob10 P, ob11 P, ob12 P, ob13 P, ob14 P, ob15 P, ob16 P, ob17 P, ob18 P, ob19 P, ob20 P, ob21 P, ob22 P, ob29 P, ob24 P, ob25 P, ob26 P, ob30 P, ob31 P, ob32 P, ob33 P, ob34 P, ob35 P, ob36 P, ob37 P, ob38 P, ob39 P, ob40 P, ob41 P, ob42 P, ob43 P, ob44 P, ob45 P, ob46 P, ob47 P, ob48 P]⟩, (Life.mk ([] : List @Nat) ([] : List @Nat) ([] : List @Nat) 0 ([] : List (@Prod @Nat @Nat)) ([] : List @Nat) false (List.toArray ([] : List @Nat)) ([] : List @Nat) 0 false false false 0 [2000, 10, 10] false 0 true ([] : List @Nat) ([] : List @Nat) 0 false)⟩
noncomputable def S3 (w : World) (os : OsState) : Shared := ⟨hp3 w.params, Array.mk [], (Drawn.mk 0 0 0 0), 244, os⟩
noncomputable def ob49 : Params → Obj := fun P => (Obj.mk (Value.type "dict") none (Data.dict (List.toArray [(DictEntry.mk (PyData.keyHash P (Str.ofString "__name__")) (Value.str (Str.ofString "__name__") 165) (Value.str (Str.ofString "adacore.types") 281)), (DictEntry.mk (PyData.keyHash P (Str.ofString "__doc__")) (Value.str (Str.ofString "__doc__") 166) Value.none), (DictEntry.mk (PyData.keyHash P (Str.ofString "__package__")) (Value.str (Str.ofString "__package__") 167) Value.none), (DictEntry.mk (PyData.keyHash P (Str.ofString "__loader__")) (Value.str (Str.ofString "__loader__") 168) (Value.builtin "__main__.__loader__#opaque")), (DictEntry.mk (PyData.keyHash P (Str.ofString "__spec__")) (Value.str (Str.ofString "__spec__") 169) Value.none), (DictEntry.mk (PyData.keyHash P (Str.ofString "__annotations__")) (Value.str (Str.ofString "__annotations__") 170) (.ref 6 : Value)), (DictEntry.mk (PyData.keyHash P (Str.ofString "__builtins__")) (Value.str (Str.ofString "__builtins__") 171) (.ref 4 : Value)), (DictEntry.mk (PyData.keyHash P (Str.ofString "__file__")) (Value.str (Str.ofString "__file__") 173) (Value.str (Str.ofString "/claim/cut.py") 172)), (DictEntry.mk (PyData.keyHash P (Str.ofString "__cached__")) (Value.str (Str.ofString "__cached__") 174) Value.none), (DictEntry.mk (PyData.keyHash P (Str.ofString "AdaError")) (Value.str (Str.ofString "AdaError") 217) (.ref 31 : Value)), (DictEntry.mk (PyData.keyHash P (Str.ofString "CheckFault")) (Value.str (Str.ofString "CheckFault") 243) (.ref 51 : Value)), (DictEntry.mk (PyData.keyHash P (Str.ofString "AdaRaise")) (Value.str (Str.ofString "AdaRaise") 272) (.ref 70 : Value)), (DictEntry.mk (PyData.keyHash P (Str.ofString "variant_names")) (Value.str (Str.ofString "variant_names") 280) (.ref 77 : Value))]) 13) (List.toArray ([] : List (Option Value))))
noncomputable def ob50 : Params → Obj := fun _ => (Obj.mk Value.none none (Data.fields (List.toArray [(Value.int 2 0), (Value.int 0 0), (.ref 20 : Value), (Value.int 7 0), (Value.int 0 0), (.ref 40 : Value), (Value.int 12 0), (Value.int 0 0), (.ref 59 : Value), (Value.int 20 0), (Value.int 0 0), (.ref 76 : Value)])) (List.toArray ([] : List (Option Value))))
noncomputable def ob51 : Params → Obj := fun _ => (Obj.mk (Value.type "type") none (Data.cls (ClassData.mk (Str.ofString "AdaError") [(Value.type "Exception")] [(.ref 31 : Value), (Value.type "Exception"), (Value.type "BaseException"), (Value.type "object")] 30 (Str.ofString "AdaError") true ([] : List Str) [(.ref 51 : Value), (.ref 70 : Value)] false (none : Option @Bool) false)) (List.toArray [(some (.ref 15 : Value)), (none : Option Value), (some (Value.str (Str.ofString "AdaError") 189)), (some (Value.str (Str.ofString "AdaError") 197)), (some (Value.builtin "Exception.__new__")), (some (Value.bool true))]))
noncomputable def ob52 : Params → Obj := fun _ => (Obj.mk (Value.type "tuple") none (Data.seq (List.toArray [(.ref 31 : Value)]) 0) (List.toArray ([] : List (Option Value))))
noncomputable def ob53 : Params → Obj := fun _ => (Obj.mk (Value.type "builtin_function_or_method") none (Data.fields (List.toArray [(Value.builtin "type.__prepare__"), (Value.type "type")])) (List.toArray ([] : List (Option Value))))
noncomputable def ob54 : Params → Obj := fun P => (Obj.mk (Value.type "dict") none (Data.dict (List.toArray [(DictEntry.mk (PyData.keyHash P (Str.ofString "__module__")) (Value.str (Str.ofString "__module__") 251) (Value.str (Str.ofString "adacore.errors") 187)), (DictEntry.mk (PyData.keyHash P (Str.ofString "__qualname__")) (Value.str (Str.ofString "__qualname__") 253) (Value.str (Str.ofString "AdaRaise") 252)), (DictEntry.mk (PyData.keyHash P (Str.ofString "__firstlineno__")) (Value.str (Str.ofString "__firstlineno__") 255) (Value.int 12 254)), (DictEntry.mk (PyData.keyHash P (Str.ofString "__init__")) (Value.str (Str.ofString "__init__") 265) (.ref 67 : Value)), (DictEntry.mk (PyData.keyHash P (Str.ofString "__static_attributes__")) (Value.str (Str.ofString "__static_attributes__") 269) (.ref 68 : Value))]) 5) (List.toArray ([] : List (Option Value))))
noncomputable def ob55 : Params → Obj := fun _ => (Obj.mk (Value.type "tuple") none (Data.seq (List.toArray ([] : List Value)) 0) (List.toArray ([] : List (Option Value))))
noncomputable def ob56 : Params → Obj := fun _ => (Obj.mk Value.none none (Data.fields (List.toArray [(Value.int 14 0), (Value.int 4 0), (.ref 66 : Value)])) (List.toArray ([] : List (Option Value))))
noncomputable def ob57 : Params → Obj := fun _ => (Obj.mk (Value.type "code") none (Data.fields (List.toArray [(Value.str (Str.ofString "AdaRaise") 246), (Value.str (Str.ofString "AdaRaise") 247), (Value.str (Str.ofString "/claim/cut.py") 248), (Value.int 12 0), (Value.int 0 0), (Value.int 0 0), (Value.int 0 0), (Value.int 0 0), (.ref 57 : Value), (Value.bool false), (Value.int 181 0), (.ref 58 : Value), Value.none, Value.none, Value.none, Value.none, (Value.int 249 0), (Value.int 12 0), (Value.str (Str.ofString "/claim/cut.py") 250)])) (List.toArray ([] : List (Option Value))))
noncomputable def ob58 : Params → Obj := fun _ => (Obj.mk (Value.type "frame") none Data.plain (List.toArray [(some (.ref 59 : Value)), (some (.ref 3 : Value)), (some (.ref 56 : Value)), (none : Option Value), (some (Value.str (Str.ofString "adacore.errors") 187)), (none : Option Value), (some (.ref 0 : Value))]))
noncomputable def ob59 : Params → Obj := fun _ => (Obj.mk (Value.type "tuple") none (Data.seq (List.toArray ([] : List Value)) 0) (List.toArray ([] : List (Option Value))))
noncomputable def ob60 : Params → Obj := fun _ => (Obj.mk Value.none none (Data.fields (List.toArray ([] : List Value))) (List.toArray ([] : List (Option Value))))
noncomputable def ob61 : Params → Obj := fun _ => (Obj.mk (Value.type "tuple") none (Data.seq (List.toArray [(Value.str (Str.ofString "self") 259), (Value.str (Str.ofString "name") 260), (Value.str (Str.ofString "line") 261), (Value.str (Str.ofString "text") 262)]) 0) (List.toArray ([] : List (Option Value))))
noncomputable def ob62 : Params → Obj := fun _ => (Obj.mk (Value.type "tuple") none (Data.seq (List.toArray ([] : List Value)) 0) (List.toArray ([] : List (Option Value))))
noncomputable def ob63 : Params → Obj := fun _ => (Obj.mk Value.none none (Data.func (FuncData.mk (Str.ofString "__init__") (Str.ofString "AdaRaise.__init__") (fPar (sub 3 0)) (FuncBody.stmts (fBody (sub 3 0))) (fScope (sub 3 0)) 0 ([] : List (@Prod Str @Nat)) Value.none Value.none Value.none Value.none none Value.none Value.none 0)) (List.toArray ([] : List (Option Value))))
noncomputable def ob64 : Params → Obj := fun _ => (Obj.mk (Value.type "code") none (Data.fields (List.toArray [(Value.str (Str.ofString "__init__") 256), (Value.str (Str.ofString "AdaRaise.__init__") 257), (Value.str (Str.ofString "/claim/cut.py") 258), (Value.int 14 0), (Value.int 4 0), (Value.int 0 0), (Value.int 0 0), (Value.int 3 0), (.ref 61 : Value), (Value.bool true), (Value.int 181 0), (.ref 62 : Value), Value.none, (.ref 63 : Value), (.ref 64 : Value), (.ref 65 : Value), (Value.int 263 0), (Value.int 14 0), (Value.str (Str.ofString "/claim/cut.py") 264)])) (List.toArray ([] : List (Option Value))))
noncomputable def ob65 : Params → Obj := fun _ => (Obj.mk (Value.type "function") none (Data.func (FuncData.mk (Str.ofString "__init__") (Str.ofString "AdaRaise.__init__") (fPar (sub 3 0)) (FuncBody.stmts (fBody (sub 3 0))) (fScope (sub 3 0)) 3 ([] : List (@Prod Str @Nat)) Value.none Value.none Value.none (Value.str (Str.ofString "adacore.errors") 187) none (.ref 66 : Value) Value.none 0)) (List.toArray ([] : List (Option Value))))
noncomputable def ob66 : Params → Obj := fun _ => (Obj.mk (Value.type "tuple") none (Data.seq (List.toArray [(Value.str (Str.ofString "line") 266), (Value.str (Str.ofString "name") 267), (Value.str (Str.ofString "word") 268)]) 0) (List.toArray ([] : List (Option Value))))
noncomputable def ob67 : Params → Obj := fun P => (Obj.mk (Value.type "dict") none (Data.dict (List.toArray [(DictEntry.mk (PyData.keyHash P (Str.ofString "__module__")) (Value.str (Str.ofString "__module__") 251) (Value.str (Str.ofString "adacore.errors") 187)), (DictEntry.mk (PyData.keyHash P (Str.ofString "__firstlineno__")) (Value.str (Str.ofString "__firstlineno__") 255) (Value.int 12 254)), (DictEntry.mk (PyData.keyHash P (Str.ofString "__init__")) (Value.str (Str.ofString "__init__") 265) (.ref 67 : Value)), (DictEntry.mk (PyData.keyHash P (Str.ofString "__static_attributes__")) (Value.str (Str.ofString "__static_attributes__") 269) (.ref 68 : Value)), (DictEntry.mk (PyData.keyHash P (Str.ofString "__doc__")) (Value.str (Str.ofString "__doc__") 270) Value.none)]) 2) (List.toArray ([] : List (Option Value))))
noncomputable def ob68 : Params → Obj := fun _ => (Obj.mk (Value.type "type") none (Data.cls (ClassData.mk (Str.ofString "AdaRaise") [(.ref 31 : Value)] [(.ref 70 : Value), (.ref 31 : Value), (Value.type "Exception"), (Value.type "BaseException"), (Value.type "object")] 69 (Str.ofString "AdaRaise") true ([] : List Str) ([] : List Value) false (none : Option @Bool) false)) (List.toArray [(some (.ref 54 : Value)), (none : Option Value), (some (Value.str (Str.ofString "AdaRaise") 244)), (some (Value.str (Str.ofString "AdaRaise") 252)), (some (Value.builtin "Exception.__new__")), (some (Value.bool true))]))
noncomputable def ob69 : Params → Obj := fun _ => (Obj.mk (Value.type "super") none (Data.fields (List.toArray [(.ref 70 : Value), (.ref 70 : Value), (.ref 70 : Value)])) (List.toArray ([] : List (Option Value))))
noncomputable def ob70 : Params → Obj := fun _ => (Obj.mk (Value.type "builtin_function_or_method") none (Data.fields (List.toArray [(Value.builtin "object.__init_subclass__"), (.ref 70 : Value)])) (List.toArray ([] : List (Option Value))))
noncomputable def ob71 : Params → Obj := fun _ => (Obj.mk (Value.type "tuple") none (Data.seq (List.toArray ([] : List Value)) 0) (List.toArray ([] : List (Option Value))))
noncomputable def ob72 : Params → Obj := fun _ => (Obj.mk Value.none none (Data.fields (List.toArray ([] : List Value))) (List.toArray ([] : List (Option Value))))
noncomputable def ob73 : Params → Obj := fun _ => (Obj.mk Value.none none (Data.func (FuncData.mk (Str.ofString "variant_names") (Str.ofString "variant_names") (fPar (st 5)) (FuncBody.stmts (fBody (st 5))) (fScope (st 5)) 0 ([] : List (@Prod Str @Nat)) Value.none Value.none Value.none Value.none none Value.none Value.none 0)) (List.toArray ([] : List (Option Value))))
noncomputable def ob74 : Params → Obj := fun _ => (Obj.mk (Value.type "code") none (Data.fields (List.toArray [(Value.str (Str.ofString "variant_names") 275), (Value.str (Str.ofString "variant_names") 276), (Value.str (Str.ofString "/claim/cut.py") 277), (Value.int 20 0), (Value.int 1 0), (Value.int 0 0), (Value.int 0 0), (Value.int 3 0), (.ref 73 : Value), (Value.bool true), (Value.int 181 0), (.ref 74 : Value), Value.none, Value.none, Value.none, (.ref 75 : Value), (Value.int 278 0), (Value.int 20 0), (Value.str (Str.ofString "/claim/cut.py") 279)])) (List.toArray ([] : List (Option Value))))
noncomputable def ob75 : Params → Obj := fun _ => (Obj.mk (Value.type "function") none (Data.func (FuncData.mk (Str.ofString "variant_names") (Str.ofString "variant_names") (fPar (st 5)) (FuncBody.stmts (fBody (st 5))) (fScope (st 5)) 3 ([] : List (@Prod Str @Nat)) Value.none Value.none Value.none (Value.str (Str.ofString "adacore.records") 273) none (.ref 76 : Value) Value.none 0)) (List.toArray ([] : List (Option Value))))
noncomputable def hp4 : Params → Heap := fun P => ⟨⟨[boot_o_0 P, boot_o_1 P, ob4 P, ob49 P, boot_o_4 P, boot_o_5 P, boot_o_6 P, boot_o_7 P, boot_o_8 P, boot_o_9 P, boot_o_10 P, ob0 P, ob50 P, ob2 P, ob3 P, ob7 P, ob8 P, ob9 P, ob10 P, ob11 P, ob12 P, ob13 P, ob14 P, ob15 P, ob16 P, ob17 P, ob18 P, ob19 P, ob20 P, ob21 P, ob22 P, ob51 P, ob24 P, ob25 P, ob26 P, ob30 P, ob31 P, ob32 P, ob33 P, ob34 P, ob35 P, ob36 P, ob37 P, ob38 P, ob39 P, ob40 P, ob41 P, ob42 P, ob43 P, ob44 P, ob45 P, ob46 P, ob47 P, ob48 P, ob52 P, ob53 P, ob54 P, ob55 P, ob56 P, ob57 P, ob58 P, ob59 P, ob60 P, ob61 P, ob62 P, ob63 P, ob64 P, ob65 P, ob66 P, ob67 P, ob68 P, ob69 P, ob70 P, ob71 P, ob72 P, ob73 P, ob74 P, ob75 P]⟩, (Life.mk ([] : List @Nat) ([] : List @Nat) ([] : List @Nat) 0 ([] : List (@Prod @Nat @Nat)) ([] : List @Nat) false (List.toArray ([] : List @Nat)) ([] : List @Nat) 0 false false false 0 [2000, 10, 10] false 0 true ([] : List @Nat) ([] : List @Nat) 0 false)⟩
noncomputable def S4 (w : World) (os : OsState) : Shared := ⟨hp4 w.params, Array.mk [], (Drawn.mk 0 0 0 0), 283, os⟩
noncomputable def ob76 : Params → Obj := fun P => (Obj.mk (Value.type "dict") none (Data.dict (List.toArray [(DictEntry.mk (PyData.keyHash P (Str.ofString "__name__")) (Value.str (Str.ofString "__name__") 165) (Value.str (Str.ofString "adacore.types") 281)), (DictEntry.mk (PyData.keyHash P (Str.ofString "__doc__")) (Value.str (Str.ofString "__doc__") 166) Value.none), (DictEntry.mk (PyData.keyHash P (Str.ofString "__package__")) (Value.str (Str.ofString "__package__") 167) Value.none), (DictEntry.mk (PyData.keyHash P (Str.ofString "__loader__")) (Value.str (Str.ofString "__loader__") 168) (Value.builtin "__main__.__loader__#opaque")), (DictEntry.mk (PyData.keyHash P (Str.ofString "__spec__")) (Value.str (Str.ofString "__spec__") 169) Value.none), (DictEntry.mk (PyData.keyHash P (Str.ofString "__annotations__")) (Value.str (Str.ofString "__annotations__") 170) (.ref 6 : Value)), (DictEntry.mk (PyData.keyHash P (Str.ofString "__builtins__")) (Value.str (Str.ofString "__builtins__") 171) (.ref 4 : Value)), (DictEntry.mk (PyData.keyHash P (Str.ofString "__file__")) (Value.str (Str.ofString "__file__") 173) (Value.str (Str.ofString "/claim/cut.py") 172)), (DictEntry.mk (PyData.keyHash P (Str.ofString "__cached__")) (Value.str (Str.ofString "__cached__") 174) Value.none), (DictEntry.mk (PyData.keyHash P (Str.ofString "AdaError")) (Value.str (Str.ofString "AdaError") 217) (.ref 31 : Value)), (DictEntry.mk (PyData.keyHash P (Str.ofString "CheckFault")) (Value.str (Str.ofString "CheckFault") 243) (.ref 51 : Value)), (DictEntry.mk (PyData.keyHash P (Str.ofString "AdaRaise")) (Value.str (Str.ofString "AdaRaise") 272) (.ref 70 : Value)), (DictEntry.mk (PyData.keyHash P (Str.ofString "variant_names")) (Value.str (Str.ofString "variant_names") 280) (.ref 77 : Value)), (DictEntry.mk (PyData.keyHash P (Str.ofString "Type")) (Value.str (Str.ofString "Type") 332) (.ref 94 : Value))]) 14) (List.toArray ([] : List (Option Value))))
noncomputable def ob77 : Params → Obj := fun _ => (Obj.mk Value.none none (Data.fields (List.toArray [(Value.int 2 0), (Value.int 0 0), (.ref 20 : Value), (Value.int 7 0), (Value.int 0 0), (.ref 40 : Value), (Value.int 12 0), (Value.int 0 0), (.ref 59 : Value), (Value.int 20 0), (Value.int 0 0), (.ref 76 : Value), (Value.int 32 0), (Value.int 0 0), (.ref 83 : Value)])) (List.toArray ([] : List (Option Value))))
noncomputable def ob78 : Params → Obj := fun _ => (Obj.mk (Value.type "tuple") none (Data.seq (List.toArray ([] : List Value)) 0) (List.toArray ([] : List (Option Value))))
noncomputable def ob79 : Params → Obj := fun _ => (Obj.mk (Value.type "builtin_function_or_method") none (Data.fields (List.toArray [(Value.builtin "type.__prepare__"), (Value.type "type")])) (List.toArray ([] : List (Option Value))))
noncomputable def ob80 : Params → Obj := fun P => (Obj.mk (Value.type "dict") none (Data.dict (List.toArray [(DictEntry.mk (PyData.keyHash P (Str.ofString "__module__")) (Value.str (Str.ofString "__module__") 290) (Value.str (Str.ofString "adacore.types") 281)), (DictEntry.mk (PyData.keyHash P (Str.ofString "__qualname__")) (Value.str (Str.ofString "__qualname__") 292) (Value.str (Str.ofString "Type") 291)), (DictEntry.mk (PyData.keyHash P (Str.ofString "__firstlineno__")) (Value.str (Str.ofString "__firstlineno__") 294) (Value.int 32 293)), (DictEntry.mk (PyData.keyHash P (Str.ofString "__init__")) (Value.str (Str.ofString "__init__") 303) (.ref 91 : Value)), (DictEntry.mk (PyData.keyHash P (Str.ofString "__static_attributes__")) (Value.str (Str.ofString "__static_attributes__") 325) (.ref 92 : Value))]) 5) (List.toArray ([] : List (Option Value))))
noncomputable def ob81 : Params → Obj := fun _ => (Obj.mk (Value.type "tuple") none (Data.seq (List.toArray ([] : List Value)) 0) (List.toArray ([] : List (Option Value))))
noncomputable def ob82 : Params → Obj := fun _ => (Obj.mk Value.none none (Data.fields (List.toArray [(Value.int 34 0), (Value.int 4 0), (.ref 90 : Value)])) (List.toArray ([] : List (Option Value))))
noncomputable def ob83 : Params → Obj := fun _ => (Obj.mk (Value.type "code") none (Data.fields (List.toArray [(Value.str (Str.ofString "Type") 285), (Value.str (Str.ofString "Type") 286), (Value.str (Str.ofString "/claim/cut.py") 287), (Value.int 32 0), (Value.int 0 0), (Value.int 0 0), (Value.int 0 0), (Value.int 0 0), (.ref 81 : Value), (Value.bool false), (Value.int 181 0), (.ref 82 : Value), Value.none, Value.none, Value.none, Value.none, (Value.int 288 0), (Value.int 32 0), (Value.str (Str.ofString "/claim/cut.py") 289)])) (List.toArray ([] : List (Option Value))))
noncomputable def ob84 : Params → Obj := fun _ => (Obj.mk (Value.type "frame") none Data.plain (List.toArray [(some (.ref 83 : Value)), (some (.ref 3 : Value)), (some (.ref 80 : Value)), (none : Option Value), (some (Value.str (Str.ofString "adacore.types") 281)), (none : Option Value), (some (.ref 0 : Value))]))
noncomputable def ob85 : Params → Obj := fun _ => (Obj.mk (Value.type "tuple") none (Data.seq (List.toArray ([] : List Value)) 0) (List.toArray ([] : List (Option Value))))
noncomputable def ob86 : Params → Obj := fun _ => (Obj.mk Value.none none (Data.fields (List.toArray ([] : List Value))) (List.toArray ([] : List (Option Value))))
noncomputable def ob87 : Params → Obj := fun _ => (Obj.mk (Value.type "tuple") none (Data.seq (List.toArray [(Value.str (Str.ofString "self") 298), (Value.str (Str.ofString "kind") 299), (Value.str (Str.ofString "name") 300)]) 0) (List.toArray ([] : List (Option Value))))
noncomputable def ob88 : Params → Obj := fun _ => (Obj.mk (Value.type "tuple") none (Data.seq (List.toArray ([] : List Value)) 0) (List.toArray ([] : List (Option Value))))
noncomputable def ob89 : Params → Obj := fun _ => (Obj.mk Value.none none (Data.func (FuncData.mk (Str.ofString "__init__") (Str.ofString "Type.__init__") (fPar (sub 7 0)) (FuncBody.stmts (fBody (sub 7 0))) (fScope (sub 7 0)) 0 ([] : List (@Prod Str @Nat)) Value.none Value.none Value.none Value.none none Value.none Value.none 0)) (List.toArray ([] : List (Option Value))))
noncomputable def ob90 : Params → Obj := fun _ => (Obj.mk (Value.type "code") none (Data.fields (List.toArray [(Value.str (Str.ofString "__init__") 295), (Value.str (Str.ofString "Type.__init__") 296), (Value.str (Str.ofString "/claim/cut.py") 297), (Value.int 34 0), (Value.int 3 0), (Value.int 0 0), (Value.int 0 0), (Value.int 3 0), (.ref 85 : Value), (Value.bool true), (Value.int 181 0), (.ref 86 : Value), Value.none, (.ref 87 : Value), (.ref 88 : Value), (.ref 89 : Value), (Value.int 301 0), (Value.int 34 0), (Value.str (Str.ofString "/claim/cut.py") 302)])) (List.toArray ([] : List (Option Value))))
noncomputable def ob91 : Params → Obj := fun _ => (Obj.mk (Value.type "function") none (Data.func (FuncData.mk (Str.ofString "__init__") (Str.ofString "Type.__init__") (fPar (sub 7 0)) (FuncBody.stmts (fBody (sub 7 0))) (fScope (sub 7 0)) 3 ([] : List (@Prod Str @Nat)) Value.none Value.none Value.none (Value.str (Str.ofString "adacore.types") 281) none (.ref 90 : Value) Value.none 0)) (List.toArray ([] : List (Option Value))))
noncomputable def ob92 : Params → Obj := fun _ => (Obj.mk (Value.type "tuple") none (Data.seq (List.toArray [(Value.str (Str.ofString "component") 304), (Value.str (Str.ofString "components") 305), (Value.str (Str.ofString "designated") 306), (Value.str (Str.ofString "discriminants") 307), (Value.str (Str.ofString "high") 308), (Value.str (Str.ofString "index") 309), (Value.str (Str.ofString "is_constrained") 310), (Value.str (Str.ofString "is_limited") 311), (Value.str (Str.ofString "is_private") 312), (Value.str (Str.ofString "is_tagged") 313), (Value.str (Str.ofString "kind") 314), (Value.str (Str.ofString "literals") 315), (Value.str (Str.ofString "low") 316), (Value.str (Str.ofString "modulus") 317), (Value.str (Str.ofString "name") 318), (Value.str (Str.ofString "number") 319), (Value.str (Str.ofString "operations") 320), (Value.str (Str.ofString "parent") 321), (Value.str (Str.ofString "small") 322), (Value.str (Str.ofString "variant") 323), (Value.str (Str.ofString "wide") 324)]) 0) (List.toArray ([] : List (Option Value))))
noncomputable def ob93 : Params → Obj := fun P => (Obj.mk (Value.type "dict") none (Data.dict (List.toArray [(DictEntry.mk (PyData.keyHash P (Str.ofString "__module__")) (Value.str (Str.ofString "__module__") 290) (Value.str (Str.ofString "adacore.types") 281)), (DictEntry.mk (PyData.keyHash P (Str.ofString "__firstlineno__")) (Value.str (Str.ofString "__firstlineno__") 294) (Value.int 32 293)), (DictEntry.mk (PyData.keyHash P (Str.ofString "__init__")) (Value.str (Str.ofString "__init__") 303) (.ref 91 : Value)), (DictEntry.mk (PyData.keyHash P (Str.ofString "__static_attributes__")) (Value.str (Str.ofString "__static_attributes__") 325) (.ref 92 : Value)), (DictEntry.mk (PyData.keyHash P (Str.ofString "__dict__")) (Value.str (Str.ofString "__dict__") 327) (.ref 95 : Value)), (DictEntry.mk (PyData.keyHash P (Str.ofString "__weakref__")) (Value.str (Str.ofString "__weakref__") 329) (.ref 96 : Value)), (DictEntry.mk (PyData.keyHash P (Str.ofString "__doc__")) (Value.str (Str.ofString "__doc__") 330) Value.none)]) 4) (List.toArray ([] : List (Option Value))))
noncomputable def ob94 : Params → Obj := fun _ => (Obj.mk (Value.type "type") none (Data.cls (ClassData.mk (Str.ofString "Type") [(Value.type "object")] [(.ref 94 : Value), (Value.type "object")] 93 (Str.ofString "Type") true ([] : List Str) ([] : List Value) false (none : Option @Bool) false)) (List.toArray [(none : Option Value), (none : Option Value), (some (Value.str (Str.ofString "Type") 283)), (some (Value.str (Str.ofString "Type") 291)), (some (Value.builtin "object.__new__")), (some (Value.bool true))]))
noncomputable def ob95 : Params → Obj := fun _ => (Obj.mk (Value.type "getset_descriptor") none (Data.fields (List.toArray [(Value.str (Str.ofString "__dict__") 326), (.ref 94 : Value), (Value.builtin "function.__dict__"), (Value.builtin "function.__dict__#set")])) (List.toArray ([] : List (Option Value))))
noncomputable def ob96 : Params → Obj := fun _ => (Obj.mk (Value.type "getset_descriptor") none (Data.fields (List.toArray [(Value.str (Str.ofString "__weakref__") 328), (.ref 94 : Value), (Value.builtin "ExceptionGroup.__weakref__"), Value.none])) (List.toArray ([] : List (Option Value))))
noncomputable def ob97 : Params → Obj := fun _ => (Obj.mk (Value.type "super") none (Data.fields (List.toArray [(.ref 94 : Value), (.ref 94 : Value), (.ref 94 : Value)])) (List.toArray ([] : List (Option Value))))
noncomputable def ob98 : Params → Obj := fun _ => (Obj.mk (Value.type "builtin_function_or_method") none (Data.fields (List.toArray [(Value.builtin "object.__init_subclass__"), (.ref 94 : Value)])) (List.toArray ([] : List (Option Value))))
noncomputable def hp5 : Params → Heap := fun P => ⟨⟨[boot_o_0 P, boot_o_1 P, ob4 P, ob76 P, boot_o_4 P, boot_o_5 P, boot_o_6 P, boot_o_7 P, boot_o_8 P, boot_o_9 P, boot_o_10 P, ob0 P, ob77 P, ob2 P, ob3 P, ob7 P, ob8 P, ob9 P, ob10 P, ob11 P, ob12 P, ob13 P, ob14 P, ob15 P, ob16 P, ob17 P, ob18 P, ob19 P, ob20 P, ob21 P, ob22 P, ob51 P, ob24 P, ob25 P, ob26 P, ob30 P, ob31 P, ob32 P, ob33 P, ob34 P, ob35 P, ob36 P, ob37 P, ob38 P, ob39 P, ob40 P, ob41 P, ob42 P, ob43 P, ob44 P, ob45 P, ob46 P, ob47 P, ob48 P, ob52 P, ob53 P, ob54 P, ob55 P, ob56 P, ob57 P, ob58 P, ob59 P, ob60 P, ob61 P, ob62 P, ob63 P, ob64 P, ob65 P, ob66 P, ob67 P, ob68 P, ob69 P, ob70 P, ob71 P, ob72 P, ob73 P, ob74 P, ob75 P, ob78 P, ob79 P, ob80 P, ob81 P, ob82 P, ob83 P, ob84 P, ob85 P, ob86 P, ob87 P, ob88 P, ob89 P, ob90 P, ob91 P, ob92 P, ob93 P, ob94 P, ob95 P, ob96 P, ob97 P, ob98 P]⟩, (Life.mk ([] : List @Nat) ([] : List @Nat) ([] : List @Nat) 0 ([] : List (@Prod @Nat @Nat)) ([] : List @Nat) false (List.toArray ([] : List @Nat)) ([] : List @Nat) 0 false false false 0 [2000, 10, 10] false 0 true ([] : List @Nat) ([] : List @Nat) 0 false)⟩
noncomputable def S5 (w : World) (os : OsState) : Shared := ⟨hp5 w.params, Array.mk [], (Drawn.mk 0 0 0 0), 333, os⟩
noncomputable def ob99 : Params → Obj := fun P => (Obj.mk (Value.type "dict") none (Data.dict (List.toArray [(DictEntry.mk (PyData.keyHash P (Str.ofString "__name__")) (Value.str (Str.ofString "__name__") 165) (Value.str (Str.ofString "adacore.tagged") 353)), (DictEntry.mk (PyData.keyHash P (Str.ofString "__doc__")) (Value.str (Str.ofString "__doc__") 166) Value.none), (DictEntry.mk (PyData.keyHash P (Str.ofString "__package__")) (Value.str (Str.ofString "__package__") 167) Value.none), (DictEntry.mk (PyData.keyHash P (Str.ofString "__loader__")) (Value.str (Str.ofString "__loader__") 168) (Value.builtin "__main__.__loader__#opaque")), (DictEntry.mk (PyData.keyHash P (Str.ofString "__spec__")) (Value.str (Str.ofString "__spec__") 169) Value.none), (DictEntry.mk (PyData.keyHash P (Str.ofString "__annotations__")) (Value.str (Str.ofString "__annotations__") 170) (.ref 6 : Value)), (DictEntry.mk (PyData.keyHash P (Str.ofString "__builtins__")) (Value.str (Str.ofString "__builtins__") 171) (.ref 4 : Value)), (DictEntry.mk (PyData.keyHash P (Str.ofString "__file__")) (Value.str (Str.ofString "__file__") 173) (Value.str (Str.ofString "/claim/cut.py") 172)), (DictEntry.mk (PyData.keyHash P (Str.ofString "__cached__")) (Value.str (Str.ofString "__cached__") 174) Value.none), (DictEntry.mk (PyData.keyHash P (Str.ofString "AdaError")) (Value.str (Str.ofString "AdaError") 217) (.ref 31 : Value)), (DictEntry.mk (PyData.keyHash P (Str.ofString "CheckFault")) (Value.str (Str.ofString "CheckFault") 243) (.ref 51 : Value)), (DictEntry.mk (PyData.keyHash P (Str.ofString "AdaRaise")) (Value.str (Str.ofString "AdaRaise") 272) (.ref 70 : Value)), (DictEntry.mk (PyData.keyHash P (Str.ofString "variant_names")) (Value.str (Str.ofString "variant_names") 280) (.ref 77 : Value)), (DictEntry.mk (PyData.keyHash P (Str.ofString "Type")) (Value.str (Str.ofString "Type") 332) (.ref 94 : Value)), (DictEntry.mk (PyData.keyHash P (Str.ofString "record_type")) (Value.str (Str.ofString "record_type") 343) (.ref 105 : Value)), (DictEntry.mk (PyData.keyHash P (Str.ofString "derived_type")) (Value.str (Str.ofString "derived_type") 352) (.ref 112 : Value)), (DictEntry.mk (PyData.keyHash P (Str.ofString "check_new_names")) (Value.str (Str.ofString "check_new_names") 360) (.ref 117 : Value)), (DictEntry.mk (PyData.keyHash P (Str.ofString "extend_type")) (Value.str (Str.ofString "extend_type") 372) (.ref 124 : Value)), (DictEntry.mk (PyData.keyHash P (Str.ofString "lay_operation")) (Value.str (Str.ofString "lay_operation") 382) (.ref 131 : Value)), (DictEntry.mk (PyData.keyHash P (Str.ofString "abstract_keys")) (Value.str (Str.ofString "abstract_keys") 388) (.ref 136 : Value)), (DictEntry.mk (PyData.keyHash P (Str.ofString "check_concrete")) (Value.str (Str.ofString "check_concrete") 396) (.ref 143 : Value)), (DictEntry.mk (PyData.keyHash P (Str.ofString "home_of")) (Value.str (Str.ofString "home_of") 405) (.ref 150 : Value))]) 22) (List.toArray ([] : List (Option Value))))
noncomputable def ob100 : Params → Obj := fun _ => (Obj.mk Value.none none (Data.fields (List.toArray [(Value.int 2 0), (Value.int 0 0), (.ref 20 : Value), (Value.int 7 0), (Value.int 0 0), (.ref 40 : Value), (Value.int 12 0), (Value.int 0 0), (.ref 59 : Value), (Value.int 20 0), (Value.int 0 0), (.ref 76 : Value), (Value.int 32 0), (Value.int 0 0), (.ref 83 : Value), (Value.int 56 0), (Value.int 0 0), (.ref 104 : Value), (Value.int 63 0), (Value.int 0 0), (.ref 111 : Value), (Value.int 83 0), (Value.int 0 0), (.ref 116 : Value), (Value.int 90 0), (Value.int 0 0), (.ref 123 : Value), (Value.int 98 0), (Value.int 0 0), (.ref 130 : Value), (Value.int 102 0), (Value.int 0 0), (.ref 135 : Value), (Value.int 104 0), (Value.int 0 0), (.ref 142 : Value), (Value.int 107 0), (Value.int 0 0), (.ref 149 : Value)])) (List.toArray ([] : List (Option Value))))
noncomputable def ob101 : Params → Obj := fun _ => (Obj.mk (Value.type "tuple") none (Data.seq (List.toArray ([] : List Value)) 0) (List.toArray ([] : List (Option Value))))
noncomputable def ob102 : Params → Obj := fun _ => (Obj.mk Value.none none (Data.fields (List.toArray ([] : List Value))) (List.toArray ([] : List (Option Value))))
noncomputable def ob103 : Params → Obj := fun _ => (Obj.mk (Value.type "tuple") none (Data.seq (List.toArray [(Value.str (Str.ofString "name") 336), (Value.str (Str.ofString "discriminants") 337), (Value.str (Str.ofString "components") 338), (Value.str (Str.ofString "variant") 339), (Value.str (Str.ofString "made") 340)]) 0) (List.toArray ([] : List (Option Value))))
noncomputable def ob104 : Params → Obj := fun _ => (Obj.mk (Value.type "tuple") none (Data.seq (List.toArray ([] : List Value)) 0) (List.toArray ([] : List (Option Value))))
noncomputable def ob105 : Params → Obj := fun _ => (Obj.mk Value.none none (Data.func (FuncData.mk (Str.ofString "record_type") (Str.ofString "record_type") (fPar (st 8)) (FuncBody.stmts (fBody (st 8))) (fScope (st 8)) 0 ([] : List (@Prod Str @Nat)) Value.none Value.none Value.none Value.none none Value.none Value.none 0)) (List.toArray ([] : List (Option Value))))
noncomputable def ob106 : Params → Obj := fun _ => (Obj.mk (Value.type "code") none (Data.fields (List.toArray [(Value.str (Str.ofString "record_type") 333), (Value.str (Str.ofString "record_type") 334), (Value.str (Str.ofString "/claim/cut.py") 335), (Value.int 56 0), (Value.int 4 0), (Value.int 0 0), (Value.int 0 0), (Value.int 3 0), (.ref 99 : Value), (Value.bool true), (Value.int 181 0), (.ref 100 : Value), Value.none, (.ref 101 : Value), (.ref 102 : Value), (.ref 103 : Value), (Value.int 341 0), (Value.int 56 0), (Value.str (Str.ofString "/claim/cut.py") 342)])) (List.toArray ([] : List (Option Value))))
noncomputable def ob107 : Params → Obj := fun _ => (Obj.mk (Value.type "function") none (Data.func (FuncData.mk (Str.ofString "record_type") (Str.ofString "record_type") (fPar (st 8)) (FuncBody.stmts (fBody (st 8))) (fScope (st 8)) 3 ([] : List (@Prod Str @Nat)) Value.none Value.none Value.none (Value.str (Str.ofString "adacore.types") 281) none (.ref 104 : Value) Value.none 0)) (List.toArray ([] : List (Option Value))))
noncomputable def ob108 : Params → Obj := fun _ => (Obj.mk (Value.type "tuple") none (Data.seq (List.toArray ([] : List Value)) 0) (List.toArray ([] : List (Option Value))))
noncomputable def ob109 : Params → Obj := fun _ => (Obj.mk Value.none none (Data.fields (List.toArray ([] : List Value))) (List.toArray ([] : List (Option Value))))
noncomputable def ob110 : Params → Obj := fun _ => (Obj.mk (Value.type "tuple") none (Data.seq (List.toArray [(Value.str (Str.ofString "parent") 347), (Value.str (Str.ofString "name") 348), (Value.str (Str.ofString "made") 349)]) 0) (List.toArray ([] : List (Option Value))))
noncomputable def ob111 : Params → Obj := fun _ => (Obj.mk (Value.type "tuple") none (Data.seq (List.toArray ([] : List Value)) 0) (List.toArray ([] : List (Option Value))))
noncomputable def ob112 : Params → Obj := fun _ => (Obj.mk Value.none none (Data.func (FuncData.mk (Str.ofString "derived_type") (Str.ofString "derived_type") (fPar (st 9)) (FuncBody.stmts (fBody (st 9))) (fScope (st 9)) 0 ([] : List (@Prod Str @Nat)) Value.none Value.none Value.none Value.none none Value.none Value.none 0)) (List.toArray ([] : List (Option Value))))
noncomputable def ob113 : Params → Obj := fun _ => (Obj.mk (Value.type "code") none (Data.fields (List.toArray [(Value.str (Str.ofString "derived_type") 344), (Value.str (Str.ofString "derived_type") 345), (Value.str (Str.ofString "/claim/cut.py") 346), (Value.int 63 0), (Value.int 2 0), (Value.int 0 0), (Value.int 0 0), (Value.int 3 0), (.ref 106 : Value), (Value.bool true), (Value.int 181 0), (.ref 107 : Value), Value.none, (.ref 108 : Value), (.ref 109 : Value), (.ref 110 : Value), (Value.int 350 0), (Value.int 63 0), (Value.str (Str.ofString "/claim/cut.py") 351)])) (List.toArray ([] : List (Option Value))))
noncomputable def ob114 : Params → Obj := fun _ => (Obj.mk (Value.type "function") none (Data.func (FuncData.mk (Str.ofString "derived_type") (Str.ofString "derived_type") (fPar (st 9)) (FuncBody.stmts (fBody (st 9))) (fScope (st 9)) 3 ([] : List (@Prod Str @Nat)) Value.none Value.none Value.none (Value.str (Str.ofString "adacore.types") 281) none (.ref 111 : Value) Value.none 0)) (List.toArray ([] : List (Option Value))))
noncomputable def ob115 : Params → Obj := fun _ => (Obj.mk (Value.type "tuple") none (Data.seq (List.toArray ([] : List Value)) 0) (List.toArray ([] : List (Option Value))))
noncomputable def ob116 : Params → Obj := fun _ => (Obj.mk Value.none none (Data.fields (List.toArray ([] : List Value))) (List.toArray ([] : List (Option Value))))
noncomputable def ob117 : Params → Obj := fun _ => (Obj.mk Value.none none (Data.func (FuncData.mk (Str.ofString "check_new_names") (Str.ofString "check_new_names") (fPar (st 11)) (FuncBody.stmts (fBody (st 11))) (fScope (st 11)) 0 ([] : List (@Prod Str @Nat)) Value.none Value.none Value.none Value.none none Value.none Value.none 0)) (List.toArray ([] : List (Option Value))))
noncomputable def ob118 : Params → Obj := fun _ => (Obj.mk (Value.type "code") none (Data.fields (List.toArray [(Value.str (Str.ofString "check_new_names") 355), (Value.str (Str.ofString "check_new_names") 356), (Value.str (Str.ofString "/claim/cut.py") 357), (Value.int 83 0), (Value.int 3 0), (Value.int 0 0), (Value.int 0 0), (Value.int 3 0), (.ref 113 : Value), (Value.bool true), (Value.int 181 0), (.ref 114 : Value), Value.none, Value.none, Value.none, (.ref 115 : Value), (Value.int 358 0), (Value.int 83 0), (Value.str (Str.ofString "/claim/cut.py") 359)])) (List.toArray ([] : List (Option Value))))
noncomputable def ob119 : Params → Obj := fun _ => (Obj.mk (Value.type "function") none (Data.func (FuncData.mk (Str.ofString "check_new_names") (Str.ofString "check_new_names") (fPar (st 11)) (FuncBody.stmts (fBody (st 11))) (fScope (st 11)) 3 ([] : List (@Prod Str @Nat)) Value.none Value.none Value.none (Value.str (Str.ofString "adacore.tagged") 353) none (.ref 116 : Value) Value.none 0)) (List.toArray ([] : List (Option Value))))
noncomputable def ob120 : Params → Obj := fun _ => (Obj.mk (Value.type "tuple") none (Data.seq (List.toArray ([] : List Value)) 0) (List.toArray ([] : List (Option Value))))
noncomputable def ob121 : Params → Obj := fun _ => (Obj.mk Value.none none (Data.fields (List.toArray ([] : List Value))) (List.toArray ([] : List (Option Value))))
noncomputable def ob122 : Params → Obj := fun _ => (Obj.mk (Value.type "tuple") none (Data.seq (List.toArray [(Value.str (Str.ofString "parent") 364), (Value.str (Str.ofString "name") 365), (Value.str (Str.ofString "number") 366), (Value.str (Str.ofString "components") 367), (Value.str (Str.ofString "line") 368), (Value.str (Str.ofString "made") 369)]) 0) (List.toArray ([] : List (Option Value))))
noncomputable def ob123 : Params → Obj := fun _ => (Obj.mk (Value.type "tuple") none (Data.seq (List.toArray ([] : List Value)) 0) (List.toArray ([] : List (Option Value))))
noncomputable def ob124 : Params → Obj := fun _ => (Obj.mk Value.none none (Data.func (FuncData.mk (Str.ofString "extend_type") (Str.ofString "extend_type") (fPar (st 12)) (FuncBody.stmts (fBody (st 12))) (fScope (st 12)) 0 ([] : List (@Prod Str @Nat)) Value.none Value.none Value.none Value.none none Value.none Value.none 0)) (List.toArray ([] : List (Option Value))))
noncomputable def ob125 : Params → Obj := fun _ => (Obj.mk (Value.type "code") none (Data.fields (List.toArray [(Value.str (Str.ofString "extend_type") 361), (Value.str (Str.ofString "extend_type") 362), (Value.str (Str.ofString "/claim/cut.py") 363), (Value.int 90 0), (Value.int 5 0), (Value.int 0 0), (Value.int 0 0), (Value.int 3 0), (.ref 118 : Value), (Value.bool true), (Value.int 181 0), (.ref 119 : Value), Value.none, (.ref 120 : Value), (.ref 121 : Value), (.ref 122 : Value), (Value.int 370 0), (Value.int 90 0), (Value.str (Str.ofString "/claim/cut.py") 371)])) (List.toArray ([] : List (Option Value))))
noncomputable def ob126 : Params → Obj := fun _ => (Obj.mk (Value.type "function") none (Data.func (FuncData.mk (Str.ofString "extend_type") (Str.ofString "extend_type") (fPar (st 12)) (FuncBody.stmts (fBody (st 12))) (fScope (st 12)) 3 ([] : List (@Prod Str @Nat)) Value.none Value.none Value.none (Value.str (Str.ofString "adacore.tagged") 353) none (.ref 123 : Value) Value.none 0)) (List.toArray ([] : List (Option Value))))
noncomputable def ob127 : Params → Obj := fun _ => (Obj.mk (Value.type "tuple") none (Data.seq (List.toArray ([] : List Value)) 0) (List.toArray ([] : List (Option Value))))
noncomputable def ob128 : Params → Obj := fun _ => (Obj.mk Value.none none (Data.fields (List.toArray ([] : List Value))) (List.toArray ([] : List (Option Value))))
noncomputable def ob129 : Params → Obj := fun _ => (Obj.mk (Value.type "tuple") none (Data.seq (List.toArray [(Value.str (Str.ofString "kind") 376), (Value.str (Str.ofString "key") 377), (Value.str (Str.ofString "subprogram") 378), (Value.str (Str.ofString "overrides") 379)]) 0) (List.toArray ([] : List (Option Value))))
noncomputable def ob130 : Params → Obj := fun _ => (Obj.mk (Value.type "tuple") none (Data.seq (List.toArray ([] : List Value)) 0) (List.toArray ([] : List (Option Value))))
noncomputable def ob131 : Params → Obj := fun _ => (Obj.mk Value.none none (Data.func (FuncData.mk (Str.ofString "lay_operation") (Str.ofString "lay_operation") (fPar (st 13)) (FuncBody.stmts (fBody (st 13))) (fScope (st 13)) 0 ([] : List (@Prod Str @Nat)) Value.none Value.none Value.none Value.none none Value.none Value.none 0)) (List.toArray ([] : List (Option Value))))
noncomputable def ob132 : Params → Obj := fun _ => (Obj.mk (Value.type "code") none (Data.fields (List.toArray [(Value.str (Str.ofString "lay_operation") 373), (Value.str (Str.ofString "lay_operation") 374), (Value.str (Str.ofString "/claim/cut.py") 375), (Value.int 98 0), (Value.int 3 0), (Value.int 0 0), (Value.int 0 0), (Value.int 3 0), (.ref 125 : Value), (Value.bool true), (Value.int 181 0), (.ref 126 : Value), Value.none, (.ref 127 : Value), (.ref 128 : Value), (.ref 129 : Value), (Value.int 380 0), (Value.int 98 0), (Value.str (Str.ofString "/claim/cut.py") 381)])) (List.toArray ([] : List (Option Value))))
noncomputable def ob133 : Params → Obj := fun _ => (Obj.mk (Value.type "function") none (Data.func (FuncData.mk (Str.ofString "lay_operation") (Str.ofString "lay_operation") (fPar (st 13)) (FuncBody.stmts (fBody (st 13))) (fScope (st 13)) 3 ([] : List (@Prod Str @Nat)) Value.none Value.none Value.none (Value.str (Str.ofString "adacore.tagged") 353) none (.ref 130 : Value) Value.none 0)) (List.toArray ([] : List (Option Value))))
noncomputable def ob134 : Params → Obj := fun _ => (Obj.mk (Value.type "tuple") none (Data.seq (List.toArray ([] : List Value)) 0) (List.toArray ([] : List (Option Value))))
noncomputable def ob135 : Params → Obj := fun _ => (Obj.mk Value.none none (Data.fields (List.toArray ([] : List Value))) (List.toArray ([] : List (Option Value))))
noncomputable def ob136 : Params → Obj := fun _ => (Obj.mk Value.none none (Data.func (FuncData.mk (Str.ofString "abstract_keys") (Str.ofString "abstract_keys") (fPar (st 14)) (FuncBody.stmts (fBody (st 14))) (fScope (st 14)) 0 ([] : List (@Prod Str @Nat)) Value.none Value.none Value.none Value.none none Value.none Value.none 0)) (List.toArray ([] : List (Option Value))))
noncomputable def ob137 : Params → Obj := fun _ => (Obj.mk (Value.type "code") none (Data.fields (List.toArray [(Value.str (Str.ofString "abstract_keys") 383), (Value.str (Str.ofString "abstract_keys") 384), (Value.str (Str.ofString "/claim/cut.py") 385), (Value.int 102 0), (Value.int 1 0), (Value.int 0 0), (Value.int 0 0), (Value.int 3 0), (.ref 132 : Value), (Value.bool true), (Value.int 181 0), (.ref 133 : Value), Value.none, Value.none, Value.none, (.ref 134 : Value), (Value.int 386 0), (Value.int 102 0), (Value.str (Str.ofString "/claim/cut.py") 387)])) (List.toArray ([] : List (Option Value))))
noncomputable def ob138 : Params → Obj := fun _ => (Obj.mk (Value.type "function") none (Data.func (FuncData.mk (Str.ofString "abstract_keys") (Str.ofString "abstract_keys") (fPar (st 14)) (FuncBody.stmts (fBody (st 14))) (fScope (st 14)) 3 ([] : List (@Prod Str @Nat)) Value.none Value.none Value.none (Value.str (Str.ofString "adacore.tagged") 353) none (.ref 135 : Value) Value.none 0)) (List.toArray ([] : List (Option Value))))
noncomputable def ob139 : Params → Obj := fun _ => (Obj.mk (Value.type "tuple") none (Data.seq (List.toArray ([] : List Value)) 0) (List.toArray ([] : List (Option Value))))
noncomputable def ob140 : Params → Obj := fun _ => (Obj.mk Value.none none (Data.fields (List.toArray ([] : List Value))) (List.toArray ([] : List (Option Value))))
noncomputable def ob141 : Params → Obj := fun _ => (Obj.mk (Value.type "tuple") none (Data.seq (List.toArray [(Value.str (Str.ofString "kind") 392), (Value.str (Str.ofString "line") 393)]) 0) (List.toArray ([] : List (Option Value))))
noncomputable def ob142 : Params → Obj := fun _ => (Obj.mk (Value.type "tuple") none (Data.seq (List.toArray ([] : List Value)) 0) (List.toArray ([] : List (Option Value))))
noncomputable def ob143 : Params → Obj := fun _ => (Obj.mk Value.none none (Data.func (FuncData.mk (Str.ofString "check_concrete") (Str.ofString "check_concrete") (fPar (st 15)) (FuncBody.stmts (fBody (st 15))) (fScope (st 15)) 0 ([] : List (@Prod Str @Nat)) Value.none Value.none Value.none Value.none none Value.none Value.none 0)) (List.toArray ([] : List (Option Value))))
noncomputable def ob144 : Params → Obj := fun _ => (Obj.mk (Value.type "code") none (Data.fields (List.toArray [(Value.str (Str.ofString "check_concrete") 389), (Value.str (Str.ofString "check_concrete") 390), (Value.str (Str.ofString "/claim/cut.py") 391), (Value.int 104 0), (Value.int 2 0), (Value.int 0 0), (Value.int 0 0), (Value.int 3 0), (.ref 137 : Value), (Value.bool true), (Value.int 181 0), (.ref 138 : Value), Value.none, (.ref 139 : Value), (.ref 140 : Value), (.ref 141 : Value), (Value.int 394 0), (Value.int 104 0), (Value.str (Str.ofString "/claim/cut.py") 395)])) (List.toArray ([] : List (Option Value))))
noncomputable def ob145 : Params → Obj := fun _ => (Obj.mk (Value.type "function") none (Data.func (FuncData.mk (Str.ofString "check_concrete") (Str.ofString "check_concrete") (fPar (st 15)) (FuncBody.stmts (fBody (st 15))) (fScope (st 15)) 3 ([] : List (@Prod Str @Nat)) Value.none Value.none Value.none (Value.str (Str.ofString "adacore.tagged") 353) none (.ref 142 : Value) Value.none 0)) (List.toArray ([] : List (Option Value))))
noncomputable def ob146 : Params → Obj := fun _ => (Obj.mk (Value.type "tuple") none (Data.seq (List.toArray ([] : List Value)) 0) (List.toArray ([] : List (Option Value))))
noncomputable def ob147 : Params → Obj := fun _ => (Obj.mk Value.none none (Data.fields (List.toArray ([] : List Value))) (List.toArray ([] : List (Option Value))))
noncomputable def ob148 : Params → Obj := fun _ => (Obj.mk (Value.type "tuple") none (Data.seq (List.toArray [(Value.str (Str.ofString "kind") 400), (Value.str (Str.ofString "key") 401), (Value.str (Str.ofString "here") 402)]) 0) (List.toArray ([] : List (Option Value))))
noncomputable def ob149 : Params → Obj := fun _ => (Obj.mk (Value.type "tuple") none (Data.seq (List.toArray ([] : List Value)) 0) (List.toArray ([] : List (Option Value))))
noncomputable def ob150 : Params → Obj := fun _ => (Obj.mk Value.none none (Data.func (FuncData.mk (Str.ofString "home_of") (Str.ofString "home_of") (fPar (st 16)) (FuncBody.stmts (fBody (st 16))) (fScope (st 16)) 0 ([] : List (@Prod Str @Nat)) Value.none Value.none Value.none Value.none none Value.none Value.none 0)) (List.toArray ([] : List (Option Value))))
noncomputable def ob151 : Params → Obj := fun _ => (Obj.mk (Value.type "code") none (Data.fields (List.toArray [(Value.str (Str.ofString "home_of") 397), (Value.str (Str.ofString "home_of") 398), (Value.str (Str.ofString "/claim/cut.py") 399), (Value.int 107 0), (Value.int 2 0), (Value.int 0 0), (Value.int 0 0), (Value.int 3 0), (.ref 144 : Value), (Value.bool true), (Value.int 181 0), (.ref 145 : Value), Value.none, (.ref 146 : Value), (.ref 147 : Value), (.ref 148 : Value), (Value.int 403 0), (Value.int 107 0), (Value.str (Str.ofString "/claim/cut.py") 404)])) (List.toArray ([] : List (Option Value))))
noncomputable def ob152 : Params → Obj := fun _ => (Obj.mk (Value.type "function") none (Data.func (FuncData.mk (Str.ofString "home_of") (Str.ofString "home_of") (fPar (st 16)) (FuncBody.stmts (fBody (st 16))) (fScope (st 16)) 3 ([] : List (@Prod Str @Nat)) Value.none Value.none Value.none (Value.str (Str.ofString "adacore.tagged") 353) none (.ref 149 : Value) Value.none 0)) (List.toArray ([] : List (Option Value))))
noncomputable def hp6 : Params → Heap := fun P => ⟨⟨[boot_o_0 P, boot_o_1 P, ob4 P, ob99 P, boot_o_4 P, boot_o_5 P, boot_o_6 P, boot_o_7 P, boot_o_8 P, boot_o_9 P, boot_o_10 P, ob0 P, ob100 P, ob2 P, ob3 P, ob7 P, ob8 P, ob9 P, ob10 P, ob11 P, ob12 P, ob13 P, ob14 P, ob15 P, ob16 P, ob17 P, ob18 P, ob19 P, ob20 P, ob21 P, ob22 P, ob51 P, ob24 P, ob25 P, ob26 P, ob30 P, ob31 P, ob32 P, ob33 P, ob34 P, ob35 P, ob36 P, ob37 P, ob38 P, ob39 P, ob40 P, ob41 P, ob42 P, ob43 P, ob44 P, ob45 P, ob46 P, ob47 P, ob48 P, ob52 P, ob53 P, ob54 P, ob55 P, ob56 P, ob57 P, ob58 P, ob59 P, ob60 P, ob61 P, ob62 P, ob63 P, ob64 P, ob65 P, ob66 P, ob67 P, ob68 P, ob69 P, ob70 P, ob71 P, ob72 P, ob73 P, ob74 P, ob75 P, ob78 P, ob79 P, ob80 P, ob81 P, ob82 P, ob83 P, ob84 P, ob85 P, ob86 P, ob87 P, ob88 P, ob89 P, ob90 P, ob91 P, ob92 P, ob93 P, ob94 P, ob95 P, ob96 P, ob97 P, ob98 P, ob101 P, ob102 P, ob103 P, ob104 P, ob105 P, ob106 P, ob107 P, ob108 P, ob109 P, ob110 P, ob111 P, ob112 P, ob113 P, ob114 P, ob115 P, ob116 P, ob117 P, ob118 P, ob119 P, ob120 P, ob121 P, ob122 P, ob123 P, ob124 P, ob125 P, ob126 P, ob127 P, ob128 P, ob129 P, ob130 P, ob131 P, ob132 P, ob133 P, ob134 P, ob135 P, ob136 P, ob137 P, ob138 P, ob139 P, ob140 P, ob141 P, ob142 P, ob143 P, ob144 P, ob145 P, ob146 P, ob147 P, ob148 P, ob149 P, ob150 P, ob151 P, ob152 P]⟩, (Life.mk ([] : List @Nat) ([] : List @Nat) ([] : List @Nat) 0 ([] : List (@Prod @Nat @Nat)) ([] : List @Nat) false (List.toArray ([] : List @Nat)) ([] : List @Nat) 0 false false false 0 [2000, 10, 10] false 0 true ([] : List @Nat) ([] : List @Nat) 0 false)⟩
noncomputable def S6 (w : World) (os : OsState) : Shared := ⟨hp6 w.params, Array.mk [], (Drawn.mk 0 0 0 0), 406, os⟩
noncomputable def ob153 : Params → Obj := fun P => (Obj.mk (Value.type "dict") none (Data.dict (List.toArray [(DictEntry.mk (PyData.keyHash P (Str.ofString "__name__")) (Value.str (Str.ofString "__name__") 165) (Value.str (Str.ofString "law_pb0007_01") 425)), (DictEntry.mk (PyData.keyHash P (Str.ofString "__doc__")) (Value.str (Str.ofString "__doc__") 166) Value.none), (DictEntry.mk (PyData.keyHash P (Str.ofString "__package__")) (Value.str (Str.ofString "__package__") 167) Value.none), (DictEntry.mk (PyData.keyHash P (Str.ofString "__loader__")) (Value.str (Str.ofString "__loader__") 168) (Value.builtin "__main__.__loader__#opaque")), (DictEntry.mk (PyData.keyHash P (Str.ofString "__spec__")) (Value.str (Str.ofString "__spec__") 169) Value.none), (DictEntry.mk (PyData.keyHash P (Str.ofString "__annotations__")) (Value.str (Str.ofString "__annotations__") 170) (.ref 6 : Value)), (DictEntry.mk (PyData.keyHash P (Str.ofString "__builtins__")) (Value.str (Str.ofString "__builtins__") 171) (.ref 4 : Value)), (DictEntry.mk (PyData.keyHash P (Str.ofString "__file__")) (Value.str (Str.ofString "__file__") 173) (Value.str (Str.ofString "/claim/cut.py") 172)), (DictEntry.mk (PyData.keyHash P (Str.ofString "__cached__")) (Value.str (Str.ofString "__cached__") 174) Value.none), (DictEntry.mk (PyData.keyHash P (Str.ofString "AdaError")) (Value.str (Str.ofString "AdaError") 217) (.ref 31 : Value)), (DictEntry.mk (PyData.keyHash P (Str.ofString "CheckFault")) (Value.str (Str.ofString "CheckFault") 243) (.ref 51 : Value)), (DictEntry.mk (PyData.keyHash P (Str.ofString "AdaRaise")) (Value.str (Str.ofString "AdaRaise") 272) (.ref 70 : Value)), (DictEntry.mk (PyData.keyHash P (Str.ofString "variant_names")) (Value.str (Str.ofString "variant_names") 280) (.ref 77 : Value)), (DictEntry.mk (PyData.keyHash P (Str.ofString "Type")) (Value.str (Str.ofString "Type") 332) (.ref 94 : Value)), (DictEntry.mk (PyData.keyHash P (Str.ofString "record_type")) (Value.str (Str.ofString "record_type") 343) (.ref 105 : Value)), (DictEntry.mk (PyData.keyHash P (Str.ofString "derived_type")) (Value.str (Str.ofString "derived_type") 352) (.ref 112 : Value)), (DictEntry.mk (PyData.keyHash P (Str.ofString "check_new_names")) (Value.str (Str.ofString "check_new_names") 360) (.ref 117 : Value)), (DictEntry.mk (PyData.keyHash P (Str.ofString "extend_type")) (Value.str (Str.ofString "extend_type") 372) (.ref 124 : Value)), (DictEntry.mk (PyData.keyHash P (Str.ofString "lay_operation")) (Value.str (Str.ofString "lay_operation") 382) (.ref 131 : Value)), (DictEntry.mk (PyData.keyHash P (Str.ofString "abstract_keys")) (Value.str (Str.ofString "abstract_keys") 388) (.ref 136 : Value)), (DictEntry.mk (PyData.keyHash P (Str.ofString "check_concrete")) (Value.str (Str.ofString "check_concrete") 396) (.ref 143 : Value)), (DictEntry.mk (PyData.keyHash P (Str.ofString "home_of")) (Value.str (Str.ofString "home_of") 405) (.ref 150 : Value)), (DictEntry.mk (PyData.keyHash P (Str.ofString "dispatch_target")) (Value.str (Str.ofString "dispatch_target") 415) (.ref 157 : Value)), (DictEntry.mk (PyData.keyHash P (Str.ofString "common_tag")) (Value.str (Str.ofString "common_tag") 424) (.ref 164 : Value)), (DictEntry.mk (PyData.keyHash P (Str.ofString "_law_keys")) (Value.str (Str.ofString "_law_keys") 432) (.ref 165 : Value)), (DictEntry.mk (PyData.keyHash P (Str.ofString "_law_next")) (Value.str (Str.ofString "_law_next") 440) (.ref 172 : Value)), (DictEntry.mk (PyData.keyHash P (Str.ofString "_law_found")) (Value.str (Str.ofString "_law_found") 446) (.ref 177 : Value)), (DictEntry.mk (PyData.keyHash P (Str.ofString "_law_fell")) (Value.str (Str.ofString "_law_fell") 455) (.ref 184 : Value)), (DictEntry.mk (PyData.keyHash P (Str.ofString "_law_deed")) (Value.str (Str.ofString "_law_deed") 461) (.ref 189 : Value)), (DictEntry.mk (PyData.keyHash P (Str.ofString "_law_types_right")) (Value.str (Str.ofString "_law_types_right") 477) (.ref 196 : Value)), (DictEntry.mk (PyData.keyHash P (Str.ofString "law")) (Value.str (Str.ofString "law") 483) (.ref 201 : Value))]) 31) (List.toArray ([] : List (Option Value))))
noncomputable def ob154 : Params → Obj := fun _ => (Obj.mk Value.none none (Data.fields (List.toArray [(Value.int 2 0), (Value.int 0 0), (.ref 20 : Value), (Value.int 7 0), (Value.int 0 0), (.ref 40 : Value), (Value.int 12 0), (Value.int 0 0), (.ref 59 : Value), (Value.int 20 0), (Value.int 0 0), (.ref 76 : Value), (Value.int 32 0), (Value.int 0 0), (.ref 83 : Value), (Value.int 56 0), (Value.int 0 0), (.ref 104 : Value), (Value.int 63 0), (Value.int 0 0), (.ref 111 : Value), (Value.int 83 0), (Value.int 0 0), (.ref 116 : Value), (Value.int 90 0), (Value.int 0 0), (.ref 123 : Value), (Value.int 98 0), (Value.int 0 0), (.ref 130 : Value), (Value.int 102 0), (Value.int 0 0), (.ref 135 : Value), (Value.int 104 0), (Value.int 0 0), (.ref 142 : Value), (Value.int 107 0), (Value.int 0 0), (.ref 149 : Value), (Value.int 114 0), (Value.int 0 0), (.ref 156 : Value), (Value.int 119 0), (Value.int 0 0), (.ref 163 : Value), (Value.int 126 0), (Value.int 0 0), (.ref 171 : Value), (Value.int 131 0), (Value.int 0 0), (.ref 176 : Value), (Value.int 139 0), (Value.int 0 0), (.ref 183 : Value), (Value.int 146 0), (Value.int 0 0), (.ref 188 : Value), (Value.int 161 0), (Value.int 0 0), (.ref 195 : Value), (Value.int 182 0), (Value.int 0 0), (.ref 200 : Value)])) (List.toArray ([] : List (Option Value))))
noncomputable def ob155 : Params → Obj := fun _ => (Obj.mk (Value.type "tuple") none (Data.seq (List.toArray ([] : List Value)) 0) (List.toArray ([] : List (Option Value))))
noncomputable def ob156 : Params → Obj := fun _ => (Obj.mk Value.none none (Data.fields (List.toArray ([] : List Value))) (List.toArray ([] : List (Option Value))))
noncomputable def ob157 : Params → Obj := fun _ => (Obj.mk (Value.type "tuple") none (Data.seq (List.toArray [(Value.str (Str.ofString "tag") 409), (Value.str (Str.ofString "key") 410), (Value.str (Str.ofString "line") 411), (Value.str (Str.ofString "target") 412)]) 0) (List.toArray ([] : List (Option Value))))
noncomputable def ob158 : Params → Obj := fun _ => (Obj.mk (Value.type "tuple") none (Data.seq (List.toArray ([] : List Value)) 0) (List.toArray ([] : List (Option Value))))
noncomputable def ob159 : Params → Obj := fun _ => (Obj.mk Value.none none (Data.func (FuncData.mk (Str.ofString "dispatch_target") (Str.ofString "dispatch_target") (fPar (st 17)) (FuncBody.stmts (fBody (st 17))) (fScope (st 17)) 0 ([] : List (@Prod Str @Nat)) Value.none Value.none Value.none Value.none none Value.none Value.none 0)) (List.toArray ([] : List (Option Value))))
noncomputable def ob160 : Params → Obj := fun _ => (Obj.mk (Value.type "code") none (Data.fields (List.toArray [(Value.str (Str.ofString "dispatch_target") 406), (Value.str (Str.ofString "dispatch_target") 407), (Value.str (Str.ofString "/claim/cut.py") 408), (Value.int 114 0), (Value.int 3 0), (Value.int 0 0), (Value.int 0 0), (Value.int 3 0), (.ref 151 : Value), (Value.bool true), (Value.int 181 0), (.ref 152 : Value), Value.none, (.ref 153 : Value), (.ref 154 : Value), (.ref 155 : Value), (Value.int 413 0), (Value.int 114 0), (Value.str (Str.ofString "/claim/cut.py") 414)])) (List.toArray ([] : List (Option Value))))
noncomputable def ob161 : Params → Obj := fun _ => (Obj.mk (Value.type "function") none (Data.func (FuncData.mk (Str.ofString "dispatch_target") (Str.ofString "dispatch_target") (fPar (st 17)) (FuncBody.stmts (fBody (st 17))) (fScope (st 17)) 3 ([] : List (@Prod Str @Nat)) Value.none Value.none Value.none (Value.str (Str.ofString "adacore.tagged") 353) none (.ref 156 : Value) Value.none 0)) (List.toArray ([] : List (Option Value))))
noncomputable def ob162 : Params → Obj := fun _ => (Obj.mk (Value.type "tuple") none (Data.seq (List.toArray ([] : List Value)) 0) (List.toArray ([] : List (Option Value))))
noncomputable def ob163 : Params → Obj := fun _ => (Obj.mk Value.none none (Data.fields (List.toArray ([] : List Value))) (List.toArray ([] : List (Option Value))))
noncomputable def ob164 : Params → Obj := fun _ => (Obj.mk (Value.type "tuple") none (Data.seq (List.toArray [(Value.str (Str.ofString "tags") 419), (Value.str (Str.ofString "line") 420), (Value.str (Str.ofString "one") 421)]) 0) (List.toArray ([] : List (Option Value))))
noncomputable def ob165 : Params → Obj := fun _ => (Obj.mk (Value.type "tuple") none (Data.seq (List.toArray ([] : List Value)) 0) (List.toArray ([] : List (Option Value))))
noncomputable def ob166 : Params → Obj := fun _ => (Obj.mk Value.none none (Data.func (FuncData.mk (Str.ofString "common_tag") (Str.ofString "common_tag") (fPar (st 18)) (FuncBody.stmts (fBody (st 18))) (fScope (st 18)) 0 ([] : List (@Prod Str @Nat)) Value.none Value.none Value.none Value.none none Value.none Value.none 0)) (List.toArray ([] : List (Option Value))))
noncomputable def ob167 : Params → Obj := fun _ => (Obj.mk (Value.type "code") none (Data.fields (List.toArray [(Value.str (Str.ofString "common_tag") 416), (Value.str (Str.ofString "common_tag") 417), (Value.str (Str.ofString "/claim/cut.py") 418), (Value.int 119 0), (Value.int 2 0), (Value.int 0 0), (Value.int 0 0), (Value.int 3 0), (.ref 158 : Value), (Value.bool true), (Value.int 181 0), (.ref 159 : Value), Value.none, (.ref 160 : Value), (.ref 161 : Value), (.ref 162 : Value), (Value.int 422 0), (Value.int 119 0), (Value.str (Str.ofString "/claim/cut.py") 423)])) (List.toArray ([] : List (Option Value))))
noncomputable def ob168 : Params → Obj := fun _ => (Obj.mk (Value.type "function") none (Data.func (FuncData.mk (Str.ofString "common_tag") (Str.ofString "common_tag") (fPar (st 18)) (FuncBody.stmts (fBody (st 18))) (fScope (st 18)) 3 ([] : List (@Prod Str @Nat)) Value.none Value.none Value.none (Value.str (Str.ofString "adacore.tagged") 353) none (.ref 163 : Value) Value.none 0)) (List.toArray ([] : List (Option Value))))
noncomputable def ob169 : Params → Obj := fun _ => (Obj.mk (Value.type "tuple") none (Data.seq (List.toArray [(Value.str (Str.ofString "draw") 427), (Value.str (Str.ofString "area") 428), (Value.str (Str.ofString "=") 429), (Value.str (Str.ofString "clone") 430), (Value.str (Str.ofString "move") 431)]) 0) (List.toArray ([] : List (Option Value))))
noncomputable def ob170 : Params → Obj := fun _ => (Obj.mk (Value.type "tuple") none (Data.seq (List.toArray ([] : List Value)) 0) (List.toArray ([] : List (Option Value))))
noncomputable def ob171 : Params → Obj := fun _ => (Obj.mk Value.none none (Data.fields (List.toArray ([] : List Value))) (List.toArray ([] : List (Option Value))))
noncomputable def ob172 : Params → Obj := fun _ => (Obj.mk (Value.type "tuple") none (Data.seq (List.toArray [(Value.str (Str.ofString "hand") 436), (Value.str (Str.ofString "limit") 437)]) 0) (List.toArray ([] : List (Option Value))))
noncomputable def ob173 : Params → Obj := fun _ => (Obj.mk (Value.type "tuple") none (Data.seq (List.toArray ([] : List Value)) 0) (List.toArray ([] : List (Option Value))))
noncomputable def ob174 : Params → Obj := fun _ => (Obj.mk Value.none none (Data.func (FuncData.mk (Str.ofString "_law_next") (Str.ofString "_law_next") (fPar (st 21)) (FuncBody.stmts (fBody (st 21))) (fScope (st 21)) 0 ([] : List (@Prod Str @Nat)) Value.none Value.none Value.none Value.none none Value.none Value.none 0)) (List.toArray ([] : List (Option Value))))
noncomputable def ob175 : Params → Obj := fun _ => (Obj.mk (Value.type "code") none (Data.fields (List.toArray [(Value.str (Str.ofString "_law_next") 433), (Value.str (Str.ofString "_law_next") 434), (Value.str (Str.ofString "/claim/cut.py") 435), (Value.int 126 0), (Value.int 2 0), (Value.int 0 0), (Value.int 0 0), (Value.int 3 0), (.ref 166 : Value), (Value.bool true), (Value.int 181 0), (.ref 167 : Value), Value.none, (.ref 168 : Value), (.ref 169 : Value), (.ref 170 : Value), (Value.int 438 0), (Value.int 126 0), (Value.str (Str.ofString "/claim/cut.py") 439)])) (List.toArray ([] : List (Option Value))))
noncomputable def ob176 : Params → Obj := fun _ => (Obj.mk (Value.type "function") none (Data.func (FuncData.mk (Str.ofString "_law_next") (Str.ofString "_law_next") (fPar (st 21)) (FuncBody.stmts (fBody (st 21))) (fScope (st 21)) 3 ([] : List (@Prod Str @Nat)) Value.none Value.none Value.none (Value.str (Str.ofString "law_pb0007_01") 425) none (.ref 171 : Value) Value.none 0)) (List.toArray ([] : List (Option Value))))
noncomputable def ob177 : Params → Obj := fun _ => (Obj.mk (Value.type "tuple") none (Data.seq (List.toArray ([] : List Value)) 0) (List.toArray ([] : List (Option Value))))
noncomputable def ob178 : Params → Obj := fun _ => (Obj.mk Value.none none (Data.fields (List.toArray ([] : List Value))) (List.toArray ([] : List (Option Value))))
noncomputable def ob179 : Params → Obj := fun _ => (Obj.mk Value.none none (Data.func (FuncData.mk (Str.ofString "_law_found") (Str.ofString "_law_found") (fPar (st 22)) (FuncBody.stmts (fBody (st 22))) (fScope (st 22)) 0 ([] : List (@Prod Str @Nat)) Value.none Value.none Value.none Value.none none Value.none Value.none 0)) (List.toArray ([] : List (Option Value))))
noncomputable def ob180 : Params → Obj := fun _ => (Obj.mk (Value.type "code") none (Data.fields (List.toArray [(Value.str (Str.ofString "_law_found") 441), (Value.str (Str.ofString "_law_found") 442), (Value.str (Str.ofString "/claim/cut.py") 443), (Value.int 131 0), (Value.int 4 0), (Value.int 0 0), (Value.int 0 0), (Value.int 3 0), (.ref 173 : Value), (Value.bool true), (Value.int 181 0), (.ref 174 : Value), Value.none, Value.none, Value.none, (.ref 175 : Value), (Value.int 444 0), (Value.int 131 0), (Value.str (Str.ofString "/claim/cut.py") 445)])) (List.toArray ([] : List (Option Value))))
noncomputable def ob181 : Params → Obj := fun _ => (Obj.mk (Value.type "function") none (Data.func (FuncData.mk (Str.ofString "_law_found") (Str.ofString "_law_found") (fPar (st 22)) (FuncBody.stmts (fBody (st 22))) (fScope (st 22)) 3 ([] : List (@Prod Str @Nat)) Value.none Value.none Value.none (Value.str (Str.ofString "law_pb0007_01") 425) none (.ref 176 : Value) Value.none 0)) (List.toArray ([] : List (Option Value))))
noncomputable def ob182 : Params → Obj := fun _ => (Obj.mk (Value.type "tuple") none (Data.seq (List.toArray ([] : List Value)) 0) (List.toArray ([] : List (Option Value))))
noncomputable def ob183 : Params → Obj := fun _ => (Obj.mk Value.none none (Data.fields (List.toArray ([] : List Value))) (List.toArray ([] : List (Option Value))))
noncomputable def ob184 : Params → Obj := fun _ => (Obj.mk (Value.type "tuple") none (Data.seq (List.toArray [(Value.str (Str.ofString "ask") 450), (Value.str (Str.ofString "kinds") 451), (Value.str (Str.ofString "fault") 452)]) 0) (List.toArray ([] : List (Option Value))))
noncomputable def ob185 : Params → Obj := fun _ => (Obj.mk (Value.type "tuple") none (Data.seq (List.toArray ([] : List Value)) 0) (List.toArray ([] : List (Option Value))))
noncomputable def ob186 : Params → Obj := fun _ => (Obj.mk Value.none none (Data.func (FuncData.mk (Str.ofString "_law_fell") (Str.ofString "_law_fell") (fPar (st 23)) (FuncBody.stmts (fBody (st 23))) (fScope (st 23)) 0 ([] : List (@Prod Str @Nat)) Value.none Value.none Value.none Value.none none Value.none Value.none 0)) (List.toArray ([] : List (Option Value))))
noncomputable def ob187 : Params → Obj := fun _ => (Obj.mk (Value.type "code") none (Data.fields (List.toArray [(Value.str (Str.ofString "_law_fell") 447), (Value.str (Str.ofString "_law_fell") 448), (Value.str (Str.ofString "/claim/cut.py") 449), (Value.int 139 0), (Value.int 2 0), (Value.int 0 0), (Value.int 0 0), (Value.int 3 0), (.ref 178 : Value), (Value.bool true), (Value.int 181 0), (.ref 179 : Value), Value.none, (.ref 180 : Value), (.ref 181 : Value), (.ref 182 : Value), (Value.int 453 0), (Value.int 139 0), (Value.str (Str.ofString "/claim/cut.py") 454)])) (List.toArray ([] : List (Option Value))))
noncomputable def ob188 : Params → Obj := fun _ => (Obj.mk (Value.type "function") none (Data.func (FuncData.mk (Str.ofString "_law_fell") (Str.ofString "_law_fell") (fPar (st 23)) (FuncBody.stmts (fBody (st 23))) (fScope (st 23)) 3 ([] : List (@Prod Str @Nat)) Value.none Value.none Value.none (Value.str (Str.ofString "law_pb0007_01") 425) none (.ref 183 : Value) Value.none 0)) (List.toArray ([] : List (Option Value))))
noncomputable def ob189 : Params → Obj := fun _ => (Obj.mk (Value.type "tuple") none (Data.seq (List.toArray ([] : List Value)) 0) (List.toArray ([] : List (Option Value))))
noncomputable def ob190 : Params → Obj := fun _ => (Obj.mk Value.none none (Data.fields (List.toArray ([] : List Value))) (List.toArray ([] : List (Option Value))))
noncomputable def ob191 : Params → Obj := fun _ => (Obj.mk Value.none none (Data.func (FuncData.mk (Str.ofString "_law_deed") (Str.ofString "_law_deed") (fPar (st 24)) (FuncBody.stmts (fBody (st 24))) (fScope (st 24)) 0 ([] : List (@Prod Str @Nat)) Value.none Value.none Value.none Value.none none Value.none Value.none 0)) (List.toArray ([] : List (Option Value))))
noncomputable def ob192 : Params → Obj := fun _ => (Obj.mk (Value.type "code") none (Data.fields (List.toArray [(Value.str (Str.ofString "_law_deed") 456), (Value.str (Str.ofString "_law_deed") 457), (Value.str (Str.ofString "/claim/cut.py") 458), (Value.int 146 0), (Value.int 4 0), (Value.int 0 0), (Value.int 0 0), (Value.int 3 0), (.ref 185 : Value), (Value.bool true), (Value.int 181 0), (.ref 186 : Value), Value.none, Value.none, Value.none, (.ref 187 : Value), (Value.int 459 0), (Value.int 146 0), (Value.str (Str.ofString "/claim/cut.py") 460)])) (List.toArray ([] : List (Option Value))))
noncomputable def ob193 : Params → Obj := fun _ => (Obj.mk (Value.type "function") none (Data.func (FuncData.mk (Str.ofString "_law_deed") (Str.ofString "_law_deed") (fPar (st 24)) (FuncBody.stmts (fBody (st 24))) (fScope (st 24)) 3 ([] : List (@Prod Str @Nat)) Value.none Value.none Value.none (Value.str (Str.ofString "law_pb0007_01") 425) none (.ref 188 : Value) Value.none 0)) (List.toArray ([] : List (Option Value))))
noncomputable def ob194 : Params → Obj := fun _ => (Obj.mk (Value.type "tuple") none (Data.seq (List.toArray ([] : List Value)) 0) (List.toArray ([] : List (Option Value))))
noncomputable def ob195 : Params → Obj := fun _ => (Obj.mk Value.none none (Data.fields (List.toArray ([] : List Value))) (List.toArray ([] : List (Option Value))))
noncomputable def ob196 : Params → Obj := fun _ => (Obj.mk (Value.type "tuple") none (Data.seq (List.toArray [(Value.str (Str.ofString "book") 465), (Value.str (Str.ofString "types") 466), (Value.str (Str.ofString "line") 467), (Value.str (Str.ofString "bare") 468), (Value.str (Str.ofString "due") 469), (Value.str (Str.ofString "heard") 470)]) 0) (List.toArray ([] : List (Option Value))))
noncomputable def ob197 : Params → Obj := fun _ => (Obj.mk (Value.type "tuple") none (Data.seq (List.toArray [(Value.str (Str.ofString "types") 471), (Value.str (Str.ofString "line") 472), (Value.str (Str.ofString "key") 473), (Value.str (Str.ofString "which") 474)]) 0) (List.toArray ([] : List (Option Value))))
noncomputable def ob198 : Params → Obj := fun _ => (Obj.mk Value.none none (Data.func (FuncData.mk (Str.ofString "_law_types_right") (Str.ofString "_law_types_right") (fPar (st 25)) (FuncBody.stmts (fBody (st 25))) (fScope (st 25)) 0 ([] : List (@Prod Str @Nat)) Value.none Value.none Value.none Value.none none Value.none Value.none 0)) (List.toArray ([] : List (Option Value))))
noncomputable def ob199 : Params → Obj := fun _ => (Obj.mk (Value.type "code") none (Data.fields (List.toArray [(Value.str (Str.ofString "_law_types_right") 462), (Value.str (Str.ofString "_law_types_right") 463), (Value.str (Str.ofString "/claim/cut.py") 464), (Value.int 161 0), (Value.int 3 0), (Value.int 0 0), (Value.int 0 0), (Value.int 3 0), (.ref 190 : Value), (Value.bool true), (Value.int 181 0), (.ref 191 : Value), Value.none, (.ref 192 : Value), (.ref 193 : Value), (.ref 194 : Value), (Value.int 475 0), (Value.int 161 0), (Value.str (Str.ofString "/claim/cut.py") 476)])) (List.toArray ([] : List (Option Value))))
noncomputable def ob200 : Params → Obj := fun _ => (Obj.mk (Value.type "function") none (Data.func (FuncData.mk (Str.ofString "_law_types_right") (Str.ofString "_law_types_right") (fPar (st 25)) (FuncBody.stmts (fBody (st 25))) (fScope (st 25)) 3 ([] : List (@Prod Str @Nat)) Value.none Value.none Value.none (Value.str (Str.ofString "law_pb0007_01") 425) none (.ref 195 : Value) Value.none 0)) (List.toArray ([] : List (Option Value))))
noncomputable def ob201 : Params → Obj := fun _ => (Obj.mk (Value.type "tuple") none (Data.seq (List.toArray ([] : List Value)) 0) (List.toArray ([] : List (Option Value))))
noncomputable def ob202 : Params → Obj := fun _ => (Obj.mk Value.none none (Data.fields (List.toArray ([] : List Value))) (List.toArray ([] : List (Option Value))))
noncomputable def ob203 : Params → Obj := fun _ => (Obj.mk Value.none none (Data.func (FuncData.mk (Str.ofString "law") (Str.ofString "law") (fPar (st 26)) (FuncBody.stmts (fBody (st 26))) (fScope (st 26)) 0 ([] : List (@Prod Str @Nat)) Value.none Value.none Value.none Value.none none Value.none Value.none 0)) (List.toArray ([] : List (Option Value))))
noncomputable def ob204 : Params → Obj := fun _ => (Obj.mk (Value.type "code") none (Data.fields (List.toArray [(Value.str (Str.ofString "law") 478), (Value.str (Str.ofString "law") 479), (Value.str (Str.ofString "/claim/cut.py") 480), (Value.int 182 0), (Value.int 1 0), (Value.int 0 0), (Value.int 0 0), (Value.int 3 0), (.ref 197 : Value), (Value.bool true), (Value.int 181 0), (.ref 198 : Value), Value.none, Value.none, Value.none, (.ref 199 : Value), (Value.int 481 0), (Value.int 182 0), (Value.str (Str.ofString "/claim/cut.py") 482)])) (List.toArray ([] : List (Option Value))))
noncomputable def ob205 : Params → Obj := fun _ => (Obj.mk (Value.type "function") none (Data.func (FuncData.mk (Str.ofString "law") (Str.ofString "law") (fPar (st 26)) (FuncBody.stmts (fBody (st 26))) (fScope (st 26)) 3 ([] : List (@Prod Str @Nat)) Value.none Value.none Value.none (Value.str (Str.ofString "law_pb0007_01") 425) none (.ref 200 : Value) Value.none 0)) (List.toArray ([] : List (Option Value))))
noncomputable def hp7 : Params → Heap := fun P => ⟨⟨[boot_o_0 P, boot_o_1 P, ob4 P, ob153 P, boot_o_4 P, boot_o_5 P, boot_o_6 P, boot_o_7 P, boot_o_8 P, boot_o_9 P, boot_o_10 P, ob0 P, ob154 P, ob2 P, ob3 P, ob7 P, ob8 P, ob9 P, ob10 P, ob11 P, ob12 P, ob13 P, ob14 P, ob15 P, ob16 P, ob17 P, ob18 P, ob19 P, ob20 P, ob21 P, ob22 P, ob51 P, ob24 P, ob25 P, ob26 P, ob30 P, ob31 P, ob32 P, ob33 P, ob34 P, ob35 P, ob36 P, ob37 P, ob38 P, ob39 P, ob40 P, ob41 P, ob42 P, ob43 P, ob44 P, ob45 P, ob46 P, ob47 P, ob48 P, ob52 P, ob53 P, ob54 P, ob55 P, ob56 P, ob57 P, ob58 P, ob59 P, ob60 P, ob61 P, ob62 P, ob63 P, ob64 P, ob65 P, ob66 P, ob67 P, ob68 P, ob69 P, ob70 P, ob71 P, ob72 P, ob73 P, ob74 P, ob75 P, ob78 P, ob79 P, ob80 P, ob81 P, ob82 P, ob83 P, ob84 P, ob85 P, ob86 P, ob87 P, ob88 P, ob89 P, ob90 P, ob91 P, ob92 P, ob93 P, ob94 P, ob95 P, ob96 P, ob97 P, ob98 P, ob101 P, ob102 P, ob103 P, ob104 P, ob105 P, ob106 P, ob107 P, ob108 P, ob109 P, ob110 P, ob111 P, ob112 P, ob113 P, ob114 P, ob115 P, ob116 P, ob117 P, ob118 P, ob119 P, ob120 P, ob121 P, ob122 P, ob123 P, ob124 P, ob125 P, ob126 P, ob127 P, ob128 P, ob129 P, ob130 P, ob131 P, ob132 P, ob133 P, ob134 P, ob135 P, ob136 P, ob137 P, ob138 P, ob139 P, ob140 P, ob141 P, ob142 P, ob143 P, ob144 P, ob145 P, ob146 P, ob147 P, ob148 P, ob149 P, ob150 P, ob151 P, ob152 P, ob155 P, ob156 P, ob157 P, ob158 P, ob159 P, ob160 P, ob161 P, ob162 P, ob163 P, ob164 P, ob165 P, ob166 P, ob167 P, ob168 P, ob169 P, ob170 P, ob171 P, ob172 P, ob173 P, ob174 P, ob175 P, ob176 P, ob177 P, ob178 P, ob179 P, ob180 P, ob181 P, ob182 P, ob183 P, ob184 P, ob185 P, ob186 P, ob187 P, ob188 P, ob189 P, ob190 P, ob191 P, ob192 P, ob193 P, ob194 P, ob195 P, ob196 P, ob197 P, ob198 P, ob199 P, ob200 P, ob201 P, ob202 P, ob203 P, ob204 P, ob205 P]⟩, (Life.mk ([] : List @Nat) ([] : List @Nat) ([] : List @Nat) 0 ([] : List (@Prod @Nat @Nat)) ([] : List @Nat) false (List.toArray ([] : List @Nat)) ([] : List @Nat) 0 false false false 0 [2000, 10, 10] false 0 true ([] : List @Nat) ([] : List @Nat) 0 false)⟩
noncomputable def S7 (w : World) (os : OsState) : Shared := ⟨hp7 w.params, Array.mk [], (Drawn.mk 0 0 0 0), 484, os⟩
noncomputable def b0 : List Stmt := behindTheImports PySem.Challenge.pw_pb0007_01
noncomputable def env0 : Env := { scope := PySem.Challenge.pw_pb0007_01.main.scope, locals := mainNs, globals := mainNs, cells := [], code := .ref 13, frame := some 14 }
noncomputable def c0 : Code := .body b0 env0
noncomputable def pz : Pos := ⟨0, 0, 0, 0⟩
noncomputable def gk (a n : Nat) : List Stmt := (b0.drop a).take n
noncomputable def an0 : Option Value := some (.ref 6)
noncomputable def Sb (w : World) (os : OsState) : Shared := ⟨boot_heap w.params, Array.mk [], boot_drawn, boot_toks, os⟩
section
variable (w : World) (os : OsState)
theorem r_pre : topGo treeTable PySem.Challenge.pw_pb0007_01 w 11 an0 12 (Sb w os) (topStub PySem.Challenge.pw_pb0007_01) = some (S0 w os, ⟨denote treeTable c0, c0, pz, [topFrame pz]⟩) := by kernel_rfl!
theorem r_block : segRun treeTable PySem.Challenge.pw_pb0007_01 w 11 an0 1 1 (S0 w os) (blockOf b0 env0 c0 pz [topFrame pz]) = some (.next, S1 w os, c0, pz) := by kernel_rfl!
noncomputable def p0 : Pos := ⟨2, 0, 6, 24⟩
theorem r_0 : segRun treeTable PySem.Challenge.pw_pb0007_01 w 11 an0 1 238 (S1 w os) (piecesOf (gk 0 2) env0 c0 pz [topFrame pz]) = some (.next, S2 w os, c0, p0) := by kernel_rfl!
noncomputable def p1 : Pos := ⟨7, 0, 11, 24⟩
theorem r_1 : segRun treeTable PySem.Challenge.pw_pb0007_01 w 11 an0 1 247 (S2 w os) (piecesOf (gk 2 1) env0 c0 p0 [topFrame pz]) = some (.next, S3 w os, c0, p1) := by kernel_rfl!
noncomputable def p2 : Pos := ⟨31, 0, 31, 8⟩
theorem r_2 : segRun treeTable PySem.Challenge.pw_pb0007_01 w 11 an0 1 294 (S3 w os) (piecesOf (gk 3 4) env0 c0 p1 [topFrame pz]) = some (.next, S4 w os, c0, p2) := by kernel_rfl!
noncomputable def p3 : Pos := ⟨32, 0, 55, 28⟩
theorem r_3 : segRun treeTable PySem.Challenge.pw_pb0007_01 w 11 an0 1 244 (S4 w os) (piecesOf (gk 7 1) env0 c0 p2 [topFrame pz]) = some (.next, S5 w os, c0, p3) := by kernel_rfl!
noncomputable def p4 : Pos := ⟨107, 0, 113, 15⟩
theorem r_4 : segRun treeTable PySem.Challenge.pw_pb0007_01 w 11 an0 1 253 (S5 w os) (piecesOf (gk 8 9) env0 c0 p3 [topFrame pz]) = some (.next, S6 w os, c0, p4) := by kernel_rfl!
noncomputable def p5 : Pos := ⟨182, 0, 200, 89⟩
theorem r_5 : segRun treeTable PySem.Challenge.pw_pb0007_01 w 11 an0 1 265 (S6 w os) (piecesOf (gk 17 10) env0 c0 p4 [topFrame pz]) = some (.next, S7 w os, c0, p5) := by kernel_rfl!
theorem r_fin : topRun treeTable PySem.Challenge.pw_pb0007_01 w 11 an0 2 (S7 w os) ⟨doneF .next, c0, p5, [topFrame pz]⟩ = some (S7 w os) := by kernel_rfl!
theorem parts : b0 = gk 0 2 ++ ( gk 2 1 ++ ( gk 3 4 ++ ( gk 7 1 ++ ( gk 8 9 ++ ( gk 17 10 ++ ([])))))) := by kernel_rfl!
theorem r_all : topRun treeTable PySem.Challenge.pw_pb0007_01 w 11 an0 (12 + (1 + (238 + (247 + (294 + (244 + (253 + (265 + 2)))))))) (Sb w os) (topStub PySem.Challenge.pw_pb0007_01) = some (S7 w os) :=
  go_top (r_pre w os) (piece_block (r_block w os) (Eq.mpr (congrArg (fun z => topRun treeTable PySem.Challenge.pw_pb0007_01 w 11 an0 (238 + (247 + (294 + (244 + (253 + (265 + 2)))))) (S1 w os) (restOf z env0 c0 pz [topFrame pz]) = some (S7 w os)) parts) (piece_app (r_0 w os) (piece_app (r_1 w os) (piece_app (r_2 w os) (piece_app (r_3 w os) (piece_app (r_4 w os) (piece_app (r_5 w os) (piece_nil (r_fin w os))))))))))
noncomputable def xt (s : Shared) : Bool := xlAt q [] s && recOk (RowW.records PySem.Challenge.rw_pb0007_01.row.toRowW) s
theorem look1 : (staticsOk (importedModules PySem.Challenge.pw_pb0007_01.main.body) (boot_heap w.params) (hp7 w.params) && namesBound PySem.Challenge.pw_pb0007_01 (hp7 w.params) && gensDone (S7 w os) && laidKept (boot_heap w.params) (hp7 w.params)) = true := by kernel_rfl!
theorem look2 : openSeen q [] (importedModules PySem.Challenge.pw_pb0007_01.main.body) xt true (S7 w os) = openGood q [] := by kernel_rfl!
end
end
theorem boot1 : ∀ w : World, (fencedOpening treeTable PySem.Challenge.pw_pb0007_01 w 3196).map (fun s => (s.heap, s.gens, s.drawn, s.toks)) = some (boot_heap w.params, Array.mk [], boot_drawn, boot_toks) :=
  boot_open (by kernel_rfl!) (by rfl) (fun s => by kernel_rfl!)
/-- the head of the law: what is left is a look at the written objects -/
theorem my_head {H : Hook} {d : DefRec} {kwd : List (Str × Expr)} (hl : ∀ w os, H.obs (S7 w os) = H.val w)
    (hdef : defOf q PySem.Challenge.rw_pb0007_01.row.name = some (d, kwd)) (hp : PySem.Challenge.rw_pb0007_01.row.prog.theDef PySem.Challenge.rw_pb0007_01.row.name = some (d.params, d.body, d.scope)) (hk : kwWritten? d.params.kwonlyargs d.params.kw_defaults = some kwd)
    (k1 : PySem.Challenge.rw_pb0007_01.row.wellSaid = true) (hw : PySem.Challenge.rw_pb0007_01.row.toRowW.promised) (hc : WalkO q [] (XL q []) H.says PySem.Challenge.rw_pb0007_01.row.toRowW d kwd fun f vs => PySem.call f vs) : PySem.Challenge.rw_pb0007_01.row.Holds :=
  holds_open (q := q) (loose := []) (Xt := xt) (XP := XL q []) (Yf := H.obs) (Ya := H.val) (YP := H.says) (N := 3196)
    (LeftO.of_pieces boot1 (fun w => by kernel_rfl!) (fun w os => r_all w os) (by decide) (fun w => funext fun os => looks_pair (look1 w os) (looks_pair (look2 w os) (hl w os)))) H.of H.keeps
    (fun s e => xl_of s (Bool.and_eq_true_iff.mp e).1) XL.keeps hdef hp hk (fun s e => recFacts_of (Bool.and_eq_true_iff.mp e).2) rfl k1 fine1 ⟨rfl, rfl, rfl, rfl, rfl, by decide +kernel⟩ hw hc
local macro_rules | `(tactic| o_law) => `(tactic| refine holds_law said1 fun said => ?_)
local macro_rules | `(tactic| o_head $H) => `(tactic| (refine my_head (H := $H) ?hl (by rfl) (by rfl) (by rfl) (by assumption) ?hw ?hc; case hl => (intro w os; kernel_rfl!)))
open_top hd for PySem.Challenge.rw_pb0007_01
end
section
set_option maxHeartbeats 8000000
theorem codeAny_le {M : Model} {A A' : Around} {c : Code} {R : Result → Shared → Prop} {s : Shared} (h : codeAny M A c R s) (hh : A'.handled = A.handled) (hd : A'.depth ≤ A.depth)
    (hf : A'.frames = A.frames) (hg : A'.guards = A.guards) (hu : A'.units ≤ A.units) : codeAny M A' c R s := fun Γ p hc hB =>
  h Γ p hc ⟨hB.1.trans hh, Nat.le_trans hB.2.1 hd, fun l hl => hB.2.2.1 l (hf.trans hl), fun g hl => hB.2.2.2.1 g (hg.trans hl), Nat.le_trans hB.2.2.2.2 hu⟩

/-- the surroundings in which a contract is stated -/
abbrev at_ (D U : Nat) (fr : List Env) : Around := { handled := none, depth := D, frames := some fr, guards := some [], units := U }

section
variable {w : World} {A₀ A : Around} {s : Shared} {base h₀ : Heap} {outer : List Env} {env : Env} {L : Addr} {m : Str → Option Value} {news fp : List (Addr × Obj)} {K : Frag}
  {p : Program} {loose : List Str} {mean : ExcName → Option Value} {mg mb : Str → Option Value}
  {R : Result → Shared → Prop} {name qual : Str} {params : Arguments} {body : List Stmt} {scope : Scope} {dV kV doc pm cdv ct oc : Value} {an od : Option Addr} {osl : Array (Option Value)} {f : Addr} {args : Args} {binds : List (Str × Value)}

/-- entering a def with a footprint: all that is not of the footprint stands in the callee's base -/
theorem enter_foot (B : Below A₀ base outer h₀) (F : Fr h₀ L s.heap m) (X₀ : K.In h₀) (N : News h₀ L s.heap news) (T : Top p loose mean mg mb h₀) (hA : A.frames = some (env :: outer)) (hf : env.frame = some L) (hke : env.scope.kind = .function)
    (hfp : ∀ q ∈ fp, q ∈ news)
    (ho : K.lookup f = some ⟨oc, od, .func (fnOf name qual params body scope dV kV doc pm an cdv ct), osl⟩) (hcd : codeIn K cdv qual = true) (hroom : A.depth < recursionLimit)
    (hbind : BindsTo s (fnOf name qual params body scope dV kV doc pm an cdv ct) args binds) (hloc : ∀ y ∈ binds, scope.names.lookup y.1 = some .local)
    (h : ∀ g L' h₁, Fr h₀ L g m → Fr g L' h₁ (fun y => binds.reverse.lookup y) → News g L' h₁ fp → Below A base (env :: outer) g → K.In g → Top p loose mean mg mb g →
      (∀ b o, s.heap.get? b = some o → b ∉ fp.map (·.1) → g.get? b = some o) → (∀ q ∈ fp, q.1 < L') → (∀ q ∈ news, q.1 < L') →
      wpAny (model Challenge.rw_pb0007_01.row.prog w) (A.deeper (envOf qual scope L' f cdv)) (execs body (envOf qual scope L' f cdv))
        (fun fl s' => LeaveK h₀ L m g R (match fl with | .ret v => v | _ => .none) s')
        (fun e s' => wpAny (model Challenge.rw_pb0007_01.row.prog w) (A.deeper (envOf qual scope L' f cdv)) (leaving (envOf qual scope L' f cdv) e) (fun _ s'' => R (.error e) s'') (fun e' s'' => R (.error e') s'') s')
        { s with heap := h₁, toks := s.toks + binds.length })
    (hco : scope.isCoroutine = false) (hgen : scope.isGenerator = false) (hk : scope.kind = .function)
    (hcell : ∀ x ∈ scope.names, x.2 ≠ .cell) : codeAny (model Challenge.rw_pb0007_01.row.prog w) A (.call (.ref f) args) R s := by
  have N' : News h₀ L s.heap fp := fun q hq => N q (hfp q hq)
  obtain ⟨FG, BG, st, lv⟩ := groundX (R := R) B F N' hA hf hke
  refine codeAny_call_def (fd := fnOf name qual params body scope dV kV doc pm an cdv ct) (body := body) (binds := binds) hroom ((X₀.keeps F.keep) _ _ ho) rfl (T.nolimit.keeps F.keep) (codeRec_of (X₀.keeps F.keep) hcd) rfl hbind hcell hloc (fun h₁ hns hk₁ => ?_) hco hgen hk
  refine wpAny_mono (h _ s.heap.objs.size h₁ FG ⟨hns, fun b o e => hk₁ b o (of_hideAll _ e), Nat.le_of_eq (hideAll_size _ _)⟩
    (fun q hq => ⟨hk₁ _ _ (N' q hq).1, Nat.ne_of_lt (Heap.lt_size (N' q hq).1), hideAll_none _ (List.mem_map_of_mem hq)⟩) BG (X₀.keeps st) (T.keeps st)
    (fun b o e n => hideAll_get _ e n) (fun q hq => Heap.lt_size (N' q hq).1) (fun q hq => Heap.lt_size (N q hq).1)) (fun fl s' hl => lv _ _ hl) fun _ _ y => y

/-- the same for a def whose locals are captured -/
theorem enter_footC (B : Below A₀ base outer h₀) (F : Fr h₀ L s.heap m) (X₀ : K.In h₀) (N : News h₀ L s.heap news) (T : Top p loose mean mg mb h₀) (hA : A.frames = some (env :: outer)) (hf : env.frame = some L) (hke : env.scope.kind = .function)
    (hfp : ∀ q ∈ fp, q ∈ news)
    (ho : K.lookup f = some ⟨oc, od, .func (fnOf name qual params body scope dV kV doc pm an cdv ct), osl⟩) (hcd : codeIn K cdv qual = true) (hroom : A.depth < recursionLimit)
    (hbind : BindsTo s (fnOf name qual params body scope dV kV doc pm an cdv ct) args binds) (hkind : (binds.all fun y => scope.names.lookup y.1 == some .local || scope.names.lookup y.1 == some .cell) = true)
    (hnd : ((cellsFrom 0 scope.names []).map (·.1)).Nodup)
    (h : ∀ g L' h₁ tk cells, Fr h₀ L g m → Fr g L' h₁ (bindL (envOfC qual scope L' f cdv).kindOf binds fun _ => none) → News g L' h₁ (cells ++ fp) →
      CellsAre (bindC (envOfC qual scope L' f cdv).kindOf binds fun _ => none) (cellsFrom (L' + 1) scope.names []) cells → Below A base (env :: outer) g → K.In g → Top p loose mean mg mb g →
      (∀ b o, s.heap.get? b = some o → b ∉ fp.map (·.1) → g.get? b = some o) → (∀ q ∈ fp, q.1 < L') → (∀ q ∈ news, q.1 < L') →
      wpAny (model Challenge.rw_pb0007_01.row.prog w) (A.deeper (envOfC qual scope L' f cdv)) (execs body (envOfC qual scope L' f cdv))
        (fun fl s' => LeaveK h₀ L m g R (match fl with | .ret v => v | _ => .none) s')
        (fun e s' => wpAny (model Challenge.rw_pb0007_01.row.prog w) (A.deeper (envOfC qual scope L' f cdv)) (leaving (envOfC qual scope L' f cdv) e) (fun _ s'' => R (.error e) s'') (fun e' s'' => R (.error e') s'') s')
        { s with heap := h₁, toks := tk })
    (hco : scope.isCoroutine = false) (hgen : scope.isGenerator = false) (hk : scope.kind = .function) : codeAny (model Challenge.rw_pb0007_01.row.prog w) A (.call (.ref f) args) R s := by
  have N' : News h₀ L s.heap fp := fun q hq => N q (hfp q hq)
  obtain ⟨FG, BG, st, lv⟩ := groundX (R := R) B F N' hA hf hke
  refine codeAny_call_function hroom ((X₀.keeps F.keep) _ _ ho) rfl hco hgen rfl (codeRec_of (X₀.keeps F.keep) hcd) (hbind _ _ _ _ ?_)
  refine wpAny_newFunctionEnv_cells hk (kindsX hkind _) fun env' he s' x => ?_
  subst he
  refine ⟨(T.nolimit.keeps F.keep).keeps x.toInCall.keep, codeAny_func ?_⟩
  obtain ⟨h₁, tk, rfl, _⟩ := x.done
  have hk₁ := x.toInCall.keep
  obtain ⟨cells, NC, Y⟩ := Cl.news (h₀ := s.heap) (Nat.le_refl _) fun n c hm => ⟨x.cell n c (lookup_of_mem_nodup (cellsFrom_names scope.names 0 (s.heap.objs.size + 1) [] [] rfl ▸ hnd) hm), x.above n c hm⟩
  refine wpAny_mono (h _ s.heap.objs.size h₁ tk cells FG ⟨x.toInCall.ns, fun b o e => hk₁ b o (of_hideAll _ e), Nat.le_of_eq (hideAll_size _ _)⟩ (fun q hq => ?_) Y BG (X₀.keeps st) (T.keeps st)
    (fun b o e n => hideAll_get _ e n) (fun q hq => Heap.lt_size (N' q hq).1) (fun q hq => Heap.lt_size (N q hq).1)) (fun fl s' hl => lv _ _ hl) fun _ _ y => y
  rcases List.mem_append.mp hq with hq | hq
  · refine ⟨(NC q hq).1, (NC q hq).2.1, ?_⟩
    cases z : (hideAll s.heap (fp.map (·.1))).get? q.1 with
    | none => rfl
    | some o => have := of_hideAll _ z; rw [(NC q hq).2.2] at this; cases this
  · exact ⟨hk₁ _ _ (N' q hq).1, Nat.ne_of_lt (Heap.lt_size (N' q hq).1), hideAll_none _ (List.mem_map_of_mem hq)⟩
end
end
local macro_rules | `(tactic| walk_at "S") => `(tactic| repeat' (first | (k_unfold; (try dsimp only)) | (k_end; kc_close) | (walk1; all_goals (try dsimp only)) | (dsimp only; walk1) | (leave1; walk_say "STEP leave1"; (try dsimp only)) | fail "no step"))
section
set_option maxHeartbeats 8000000
theorem mem_after {h₀ h h' : Heap} {L : Addr} {news : List (Addr × Obj)} {ds : List Addr} (N : News h₀ L h news) (k : ∀ b o, h.get? b = some o → b ∉ ds → h'.get? b = some o) {q : Addr × Obj} (hq : q ∈ news) (hn : q.1 ∉ ds) :
    h'.get? q.1 = some q.2 ∧ q.1 ≠ L ∧ h₀.get? q.1 = none := ⟨k _ _ (N q hq).1 hn, (N q hq).2⟩

/-- the ledger behind a call that changes two objects -/
theorem news2 {h₀ h h' : Heap} {L a b : Addr} {oa ob oa' ob' : Obj} {news : List (Addr × Obj)} {g1 : Obj → List (Addr × Obj)} {g2 : Obj → Obj → List (Addr × Obj)}
    (N : News h₀ L h news) (U1 : UpdF a oa news g1) (U2 : ∀ o, UpdF b ob (g1 o) (g2 o)) (k : ∀ c o, h.get? c = some o → c ≠ a → c ≠ b → h'.get? c = some o)
    (ha : h'.get? a = some oa') (hb : h'.get? b = some ob') : News h₀ L h' (g2 oa' ob') := by
  obtain ⟨pre, post, rfl, e1, n1, n2⟩ := U1.split
  obtain ⟨pre2, post2, e2, e3, n3, n4⟩ := (U2 oa').split
  intro q hq
  rw [e3] at hq
  have base : ∀ q ∈ g1 oa', q.1 ≠ b → h'.get? q.1 = some q.2 ∧ q.1 ≠ L ∧ h₀.get? q.1 = none := by
    intro q hq hn
    rw [e1] at hq
    rcases List.mem_append.mp hq with hq | hq
    · exact ⟨k _ _ (N q (List.mem_append_left _ hq)).1 (n1 q hq) hn, (N q (List.mem_append_left _ hq)).2⟩
    · rcases List.mem_cons.mp hq with rfl | hq
      · exact ⟨ha, (N (a, oa) (List.mem_append_right _ (.head _))).2⟩
      · exact ⟨k _ _ (N q (List.mem_append_right _ (.tail _ hq))).1 (n2 q hq) hn, (N q (List.mem_append_right _ (.tail _ hq))).2⟩
  have hbm : (b, ob) ∈ g1 oa' := by rw [e2]; exact List.mem_append_right _ (.head _)
  have bnew : b ≠ L ∧ h₀.get? b = none := by
    rw [e1] at hbm
    rcases List.mem_append.mp hbm with hq | hq
    · exact (N _ (List.mem_append_left _ hq)).2
    · rcases List.mem_cons.mp hq with hq | hq
      · have this : b = a := congrArg Prod.fst hq
        have z := (N (a, oa) (List.mem_append_right _ (.head _))).2
        rw [this]; exact z
      · exact (N _ (List.mem_append_right _ (.tail _ hq))).2
  rcases List.mem_append.mp hq with hq | hq
  · exact base q (by rw [e2]; exact List.mem_append_left _ hq) (n3 q hq)
  · rcases List.mem_cons.mp hq with rfl | hq
    · exact ⟨hb, bnew⟩
    · exact base q (by rw [e2]; exact List.mem_append_right _ (.tail _ hq)) (n4 q hq)

/-- the ledger behind a call that changes one object -/
theorem news1 {h₀ h h' : Heap} {L a : Addr} {oa oa' : Obj} {news : List (Addr × Obj)} {g1 : Obj → List (Addr × Obj)}
    (N : News h₀ L h news) (U1 : UpdF a oa news g1) (k : ∀ c o, h.get? c = some o → c ≠ a → h'.get? c = some o) (ha : h'.get? a = some oa') : News h₀ L h' (g1 oa') := by
  obtain ⟨pre, post, rfl, e1, n1, n2⟩ := U1.split
  intro q hq
  rw [e1] at hq
  rcases List.mem_append.mp hq with hq | hq
  · exact ⟨k _ _ (N q (List.mem_append_left _ hq)).1 (n1 q hq), (N q (List.mem_append_left _ hq)).2⟩
  · rcases List.mem_cons.mp hq with rfl | hq
    · exact ⟨ha, (N (a, oa) (List.mem_append_right _ (.head _))).2⟩
    · exact ⟨k _ _ (N q (List.mem_append_right _ (.tail _ hq))).1 (n2 q hq), (N q (List.mem_append_right _ (.tail _ hq))).2⟩

theorem news0 {h₀ h h' : Heap} {L : Addr} {news : List (Addr × Obj)}
    (N : News h₀ L h news) (k : ∀ c o, h.get? c = some o → h'.get? c = some o) : News h₀ L h' news := fun q hq => ⟨k _ _ (N q hq).1, (N q hq).2⟩

theorem updF_mem {a : Addr} {o : Obj} {news : List (Addr × Obj)} {g : Obj → List (Addr × Obj)} (U : UpdF a o news g) : (a, o) ∈ news := by
  obtain ⟨pre, post, rfl, _⟩ := U.split
  exact List.mem_append_right _ (.head _)
theorem updF_mem' {a : Addr} {o : Obj} {news : List (Addr × Obj)} {g : Obj → List (Addr × Obj)} (U : UpdF a o news g) (o' : Obj) {q : Addr × Obj} (hq : q ∈ g o') : q = (a, o') ∨ (q ∈ news ∧ q.1 ≠ a) := by
  obtain ⟨pre, post, rfl, e, n1, n2⟩ := U.split
  rw [e] at hq
  rcases List.mem_append.mp hq with hq | hq
  · exact .inr ⟨List.mem_append_left _ hq, n1 q hq⟩
  · rcases List.mem_cons.mp hq with rfl | hq
    · exact .inl rfl
    · exact .inr ⟨List.mem_append_right _ (.tail _ hq), n2 q hq⟩

section
variable {w : World} {A : Around} {E : Value → Shared → Prop} {s : Shared} {h₀ : Heap} {L : Addr} {m : Str → Option Value} {news news' : List (Addr × Obj)} {prog : Program}

theorem pop0 {D : Addr} {v : Value} {vs : List Value} {n : Nat} {u : Tok} {Q : Value → Shared → Prop} (F : Fr h₀ L s.heap m) (N : News h₀ L s.heap news) (U : Upd D (listOf (v :: vs).toArray n) (listOf vs.toArray (n + 1)) news news')
    (hz : vs.length ≤ 1000) (h : ∀ h', Fr h₀ L h' m → News h₀ L h' news' → Q v { s with heap := h' }) : wpAny (model prog w) A (call (.builtin "list.pop") [.ref D, .int 0 u]) Q E s := by
  refine kl_popAt (p := []) (q := vs) (y := v) (k := 0) F N (by decide) ?_ rfl U ?_ h
  · unfold seqIndex?
    simp
  · rw [sizeLine_eq]; simp; omega
end
end
section
theorem walk_off_N1 : True := by
  w_top off
  trivial
set_option maxHeartbeats 8000000
/-- the law's hand: a dict of the list that is left and the count of what was made up -/
structure HandIs (w : World) (l : Addr) (oh ol : Obj) (n : Nat) : Prop where
  is : ∃ t k vs ns e, oh.IsDictOf (PySem.strKind Challenge.rw_pb0007_01.row.prog w) [(Str.ofString "left", .ref l), (Str.ofString "spent", .int k t)] ∧ ol = listOf (vs : List Value).toArray e ∧ IntsAre vs ns ∧ vs.length ≤ 64 ∧ 0 ≤ k ∧ k ≤ (n : Int)

local macro_rules | `(tactic| walk_at "call builtin:list.pop") => `(tactic| (k_here; (with_reducible show wpAny _ _ (call (Value.builtin _) [Value.ref _, Value.int _ _]) _ _ _); k_dflt (refine' pop0 ?F ?N ?U ?z ?_; (case F => k_asm); (case N => k_asm); (case U => k_upd); (case z => omega)); intro h' F' N'))

local macro_rules | `(tactic| k_steps) => `(tactic| walk_at "S")
theorem next_spec {w : World} {A₀ : Around} {s : Shared} {base h₀ : Heap} {outer : List Env} {env : Env} {L : Addr} {m : Str → Option Value} {news : List (Addr × Obj)}
  {p : Program} {loose : List Str} {mean : ExcName → Option Value} {mg mb : Str → Option Value} {R : Result → Shared → Prop}
  {hand l : Addr} {oh ol : Obj} {n : Nat} {lim : Int} {t' : Tok} {g1 : Obj → List (Addr × Obj)} {g2 : Obj → Obj → List (Addr × Obj)} :
  (hd.heap_1 w.params).In h₀ → Below A₀ base outer h₀ → Fr h₀ L s.heap m → News h₀ L s.heap news → Top p loose mean mg mb h₀ → env.frame = some L → env.scope.kind = .function →
  UpdF hand oh news g1 → (∀ o, UpdF l ol (g1 o) (g2 o)) → (l, ol) ∈ news → @Ne Nat hand l → HandIs w l oh ol n → n ≤ 1000000 → 0 < lim →
  (∀ h' tk r t oh' ol', 0 ≤ r → r < lim → Fr h₀ L h' m → News h₀ L h' (g2 oh' ol') → HandIs w l oh' ol' (n + 1) → (∀ b o, s.heap.get? b = some o → b ≠ hand → b ≠ l → h'.get? b = some o) → R (.ok (.ret (.int r t))) { s with heap := h', toks := tk }) →
  codeAny (model Challenge.rw_pb0007_01.row.prog w) (at_ 600 4000 (env :: outer)) (.call (.ref 172) ⟨[.ref hand, .int lim t'], []⟩) R s := by
  k_fill
  intro X B F N T hf hke U1 U2 hm2 hne hH hn hlim post
  have hm1 := updF_mem U1
  obtain ⟨t, k, vs, ns, e, hoh, rfl, hI, hlen, hk0, hk1⟩ := hH
  have fin : ∀ h' tk r t oh' ol', 0 ≤ r → r < lim → Fr h₀ L h' m → h'.get? hand = some oh' → h'.get? l = some ol' → HandIs w l oh' ol' (n + 1) → (∀ b o, s.heap.get? b = some o → b ≠ hand → b ≠ l → h'.get? b = some o) → R (.ok (.ret (.int r t))) { s with heap := h', toks := tk } :=
    fun h' tk r t oh' ol' h0 h1 F' a b hh k => post h' tk r t oh' ol' h0 h1 F' (news2 N U1 U2 k a b) hh k
  clear post
  refine' enter_foot (fp := [(hand, oh), (l, listOf vs.toArray e)]) (binds := [(Str.ofString "hand", .ref hand), (Str.ofString "limit", .int lim t')]) B F X N T rfl hf hke ?fp ?k6 ?k7 ?k8 ?k9 ?kB ?_ ?c2 ?c3 ?c4 ?c5
  case fp => intro q hq; rcases List.mem_cons.mp hq with rfl | hq; exact hm1; rcases List.mem_singleton.mp hq with rfl; exact hm2
  case k6 => k_is
  case k7 => k_is
  case k8 => k_room
  case k9 => exact BindsTo.of_eq rfl
  case c5 => decide
  case kB => exact locs rfl
  case c2 => exact rfl
  case c3 => exact rfl
  case c4 => exact rfl
  intro g L' h' FG' F' N' B' X' T' hrest hl1 hl2
  k_lt hl1
  (try dsimp only)
  change wpAny _ _ _ _ _ _
  k_fold
  have keep : ∀ {h' : Heap} {L' : Addr} {m' : Str → Option Value}, Fr g L' h' m' → ∀ b o, s.heap.get? b = some o → b ≠ hand → b ≠ l → h'.get? b = some o := fun F' b o e n1 n2 => F'.keep b o (hrest b o e (by
    intro hm
    simp only [List.map_cons, List.map_nil, List.mem_cons, List.not_mem_nil, or_false] at hm
    rcases hm with hm | hm
    · exact n1 hm
    · exact n2 hm))
  have lo : ∀ a : Int, 0 ≤ a.fmod lim := fun a => fmod_lo a hlim
  have hi : ∀ a : Int, a.fmod lim < lim := fun a => fmod_hi a hlim
  cases hI with
  | nil =>
    have hI := IntsAre.nil
    k_steps
    rename Fr h₀ L _ m => kF
    rename News g L' _ _ => N9
    rename Fr g L' _ _ => F9
    exact fin _ _ _ _ _ _ (lo _) (hi _) kF (News.get (a := hand) N9 (by k_mem)) (News.get (a := l) N9 (by k_mem)) ⟨_, _, _, _, _, by k_asm, rfl, .nil, by simp, by omega, by omega⟩ (keep F9)
  | cons n t hI' =>
    have hI := IntsAre.cons n t hI'
    simp only [List.length_cons] at hlen
    k_steps
    · rename decide _ = true => hq
      simp at hq
    · rename Fr h₀ L _ m => kF
      rename News g L' _ _ => N9
      rename Fr g L' _ _ => F9
      exact fin _ _ _ _ _ _ (lo _) (hi _) kF (News.get (a := hand) N9 (by k_mem)) (News.get (a := l) N9 (by k_mem)) ⟨_, _, _, _, _, by k_asm, rfl, hI', by omega, by omega, by omega⟩ (keep F9)
end
section
set_option maxHeartbeats 8000000
open LCg LCt
theorem IsList.keep {h h' : Heap} {a : Addr} {its : Array Value} (x : h.IsList a its) (k : ∀ b o, h.get? b = some o → h'.get? b = some o) : h'.IsList a its := let ⟨o, e, r⟩ := x; ⟨o, k _ _ e, r⟩
theorem DictOf.keep {prog : Program} {w : World} {K : Type} [DecidableEq K] {knd : KeyKind prog w K} {h h' : Heap} {a : Addr} {kvs : List (K × Value)} (x : h.DictOf knd a kvs) (k : ∀ b o, h.get? b = some o → h'.get? b = some o) : h'.DictOf knd a kvs := let ⟨o, es, ep, e, r⟩ := x; ⟨o, es, ep, k _ _ e, r⟩

def keepIf (bs : Nat → Bool) : Nat → List Value → List Value
  | _, [] => []
  | i, v :: vs => if bs i then v :: keepIf bs (i + 1) vs else keepIf bs (i + 1) vs

section
variable {prog : Program} {w : World} {A : Around} {E : Value → Shared → Prop} {s : Shared} {h₀ g : Heap} {L : Addr} {m : Str → Option Value} {news : List (Addr × Obj)} {env : Env}

def TurnEnd (h₀ : Heap) (L : Addr) (m : Str → Option Value) (s : Shared) (led : List (Addr × Obj)) (b : Bool) (ok : Bool) (s' : Shared) : Prop :=
  ok = b ∧ ∃ h' tk', s' = { s with heap := h', toks := tk' } ∧ Fr h₀ L h' m ∧ News h₀ L h' led

/-- a comprehension that keeps the items its test passes -/
theorem rest_filter {ct : Expr} {x : Str} {px : Pos} {scope : Scope} {cl : List (Str × Addr)} {S : List (Addr × Obj) → Prop} {Fin : List Value → List (Addr × Obj) → Prop} (bs : Nat → Bool) {vs : List Value}
    (hloc : ∀ C, (compEnvC scope cl C env).kindOf x = some .local) (hk : ∀ C, (compEnvC scope cl C env).scope.kind = .function) (hd : (x == ("__debug__" : Str)) = false) (hS : S news)
    (turn : ∀ i v I oI C oC D ys m₂ h tk E', vs[i]? = some v → NsObj oC m₂ → m₂ x = some v → Fr h₀ L h m → News h₀ L h ((I, oI) :: (C, oC) :: (D, lst ys) :: news) → Off3 I C D news → ((@Ne Nat I C) ∧ (@Ne Nat I D) ∧ (@Ne Nat C D)) →
      wpAny (model prog w) A (isTrue ct (compEnvC scope cl C env) (eval ct (compEnvC scope cl C env))) (TurnEnd h₀ L m s ((I, oI) :: (C, oC) :: (D, lst ys) :: news) (bs i)) E' { s with heap := h, toks := tk }) :
    ∀ (k i : Nat) (ys : List Value), i + k = vs.length → Fin (ys ++ keepIf bs i (vs.drop i)) news →
      CompRestT prog w A h₀ L m env ct (.Name x px) x scope cl s S (fun i v => vs.toArray[i]? = some v) Fin k i ys news
  | 0, i, ys, hik, fin => by
    have : vs.drop i = [] := List.drop_eq_nil_of_le (by omega)
    rw [this] at fin
    exact CompRestT.zero (by simpa [keepIf] using fin)
  | k + 1, i, ys, hik, fin => by
    refine CompRestT.succ fun v I oI C oC D m₂ h tk E' hv hC hx F N off ne => ?_
    have hv' : vs[i]? = some v := by simpa using hv
    have hdrop : vs.drop i = v :: vs.drop (i + 1) := by
      obtain ⟨hl, he⟩ := List.getElem?_eq_some_iff.mp hv'
      rw [List.drop_eq_getElem_cons hl, he]
    rw [hdrop] at fin
    refine wpAny_mono (turn i v I oI C oC D ys m₂ h tk E' hv' hC hx F N off ne) (fun ok s' z => ?_) fun _ _ e => e
    obtain ⟨rfl, h', tk', rfl, F', N'⟩ := z
    by_cases hb : bs i = true
    · rw [if_pos hb]
      refine ldVarK (hC.ns (N' (C, oC) (.tail _ (.head _))).1) hx ?_ (hk C) (hloc C) hd
      refine CompEnd.intro F' N' news (fun q hq => hq) off hS ?_
      refine rest_filter bs hloc hk hd hS turn k (i + 1) (ys ++ [v]) (by omega) ?_
      simp only [keepIf, hb, if_true] at fin
      simpa using fin
    · rw [if_neg hb]
      refine CompEnd.intro F' N' news (fun q hq => hq) off hS ?_
      refine rest_filter bs hloc hk hd hS turn k (i + 1) ys (by omega) ?_
      simp only [keepIf, hb, if_false] at fin
      simpa using fin

/-- an item of a dict of the base, by a written key -/
theorem item_dictB {K : Type} [DecidableEq K] {knd : KeyKind prog w K} {d : Addr} {kvs : List (K × Value)} {k : K} {key v : Value} {value slice : PySem.Expr} {Q : Value → Shared → Prop} (F : Fr h₀ L s.heap m) (hD : h₀.DictOf knd d kvs) (hkey : knd.is k key = true) (hl : valueAt kvs k = some v) (h : Q v { s with toks := s.toks + 1 })
    (hs : subscripted slice false (.ref d) key = operate [.ref d, key] (getItem (.ref d) key) := by with_unfolding_all rfl) (hg : ∀ r, letTemporaryGo value (.ref d) r = pure () := by intro _; with_unfolding_all rfl) :
    wpAny (model prog w) A (subscriptTail value slice (.ref d) key) Q E s :=
  have hD := DictOf.keep hD F.keep
  subscriptTail_builtin hD.typeIs slot_dict_getitem.lookup (wpAny_getItem_of hkey hD.mapOf hl h) hs hg

/-- an item of a list that stands, at an index in its bounds -/
theorem item_listB {value slice : PySem.Expr} {l : Addr} {vs : List Value} {k : Int} {u : Tok} {v : Value} {Q : Value → Shared → Prop} (F : Fr h₀ L s.heap m) (hl : h₀.IsList l vs.toArray) (h0 : 0 ≤ k) (hhi : k < 1000000) (hx : vs[k.toNat]? = some v) (h : Q v s)
    (hs : subscripted slice false (.ref l) (.int k u) = operate [.ref l, .int k u] (getItem (.ref l) (.int k u)) := by with_unfolding_all rfl) :
    wpAny (model prog w) A (subscriptTail value slice (.ref l) (.int k u)) Q E s :=
  have hl := IsList.keep hl F.keep
  tail_any hl.typeIs slot_list_getitem.lookup (wpAny_getItem_list hl h0 (by omega) (by simpa using hx) h) hs

theorem item_listL {value slice : PySem.Expr} {l : Addr} {vs : List Value} {k : Int} {u : Tok} {v : Value} {Q : Value → Shared → Prop} (hl : s.heap.IsList l vs.toArray) (h0 : 0 ≤ k) (hhi : k < 1000000) (hx : vs[k.toNat]? = some v) (h : Q v s)
    (hs : subscripted slice false (.ref l) (.int k u) = operate [.ref l, .int k u] (getItem (.ref l) (.int k u)) := by with_unfolding_all rfl) :
    wpAny (model prog w) A (subscriptTail value slice (.ref l) (.int k u)) Q E s :=
  tail_any hl.typeIs slot_list_getitem.lookup (wpAny_getItem_list hl h0 (by omega) (by simpa using hx) h) hs

theorem ne_nil_tt {a b : Addr} {vs : List Value} {Q : Value → Shared → Prop} (ha : s.heap.IsList a vs.toArray) (hb : s.heap.IsList b #[]) (hu : A.units < cLine) (hv : vs ≠ []) (h : Q (.bool true) s) : wpAny (model prog w) A (compareOp .NotEq (.ref a) (.ref b)) Q E s :=
  cmp_ofNotEq (SeqAt.RcNeAt.lists_lengths ha hb (by cases vs with | nil => exact absurd rfl hv | cons _ _ => simp) hu prog w E Q h)
theorem ne_nil_ff {a b : Addr} {vs : List Value} {Q : Value → Shared → Prop} (ha : s.heap.IsList a vs.toArray) (hb : s.heap.IsList b #[]) (hu : A.units < cLine) (hv : vs = []) (h : Q (.bool false) s) : wpAny (model prog w) A (compareOp .NotEq (.ref a) (.ref b)) Q E s := by
  subst hv
  exact cmp_ofNotEq (SeqAt.RcNeAt.lists (e := fun _ => true) ha hb rfl hu (fun j h1 => absurd h1 (by simp)) prog w E Q (by simpa using h))

/-- the last item of a list -/
theorem item_last {value slice : PySem.Expr} {l : Addr} {vs : List Value} {k : Int} {u : Tok} {v : Value} {Q : Value → Shared → Prop} (hk : k = -1) (hl : s.heap.IsList l (vs ++ [v]).toArray) (h : Q v s)
    (hs : subscripted slice false (.ref l) (.int k u) = operate [.ref l, .int k u] (getItem (.ref l) (.int k u))) :
    wpAny (model prog w) A (subscriptTail value slice (.ref l) (.int k u)) Q E s := by
  subst hk
  exact tail_any hl.typeIs slot_list_getitem.lookup (wpAny_getItem_list_neg hl (by decide) (by simp; omega) (by decide) (by
    have : ((-1 : Int) + (vs ++ [v]).toArray.size).toNat = vs.length := by simp; omega
    rw [this]; simp) h) hs
end

/-- where the walk is to stop -/
structure Stop (P : Prop) : Prop where go ::
  out : P
theorem Stop.mk {P : Prop} (h : Stop P) : P := h.out
end
local macro_rules | `(tactic| walk_at "subscriptTail") => `(tactic| (k_here; (with_reducible show wpAny _ _ (subscriptTail _ _ (Value.ref _) (Value.str _ _)) _ _ _); k_dflt (refine' Mine.item_dictB (knd := PySem.strKind _ _) ?F ?D (strKind_is _ _ _ _) ?l ?_; (case F => k_asm); (case D => with_reducible assumption); (case l => rfl); k_whole); (try dsimp only)))
local macro_rules | `(tactic| walk_at "subscriptTail") => `(tactic| (k_here; (with_reducible show wpAny _ _ (subscriptTail _ _ (Value.ref _) (Value.int _ _)) _ _ _); k_dflt (refine' item_tupleT ?t ?a ?b ?c ?d ?_; (case t => exact IsTup.keeps (by with_reducible assumption) (Fr.keep (by k_asm))); (case a => decide); (case b => decide); (case c => rfl); (case d => rfl); k_whole)))
local macro_rules | `(tactic| walk_at "compareOp NotEq ref ref") => `(tactic| (k_here; k_dflt (first
  | (refine' Mine.ne_nil_tt ?a ?b ?u ?v ?_; (case a => exact News.isList (by k_asm) (by k_mem)); (case b => exact News.isList (by k_asm) (by k_mem)); (case u => first | exact Nat.le_of_ble_eq_true rfl | (show _ < 9900; dsimp only [Around.deeper]; omega)); (case v => first | assumption | (simp; done)); k_whole)
  | (refine' Mine.ne_nil_ff ?a ?b ?u ?v ?_; (case a => exact News.isList (by k_asm) (by k_mem)); (case b => exact News.isList (by k_asm) (by k_mem)); (case u => first | exact Nat.le_of_ble_eq_true rfl | (show _ < 9900; dsimp only [Around.deeper]; omega)); (case v => first | rfl | assumption); k_whole))))
local macro_rules | `(tactic| walk_at "subscriptTail") => `(tactic| (k_here; (with_reducible show wpAny _ _ (subscriptTail _ _ (Value.ref _) (Value.int _ _)) _ _ _); k_dflt ((with_reducible show wpAny _ _ (subscriptTail _ (Expr.UnaryOp _ _ _) (Value.ref _) (Value.int _ _)) _ _ _); refine' Mine.item_last ?k ?l ?_ ?z; (case k => exact rfl); (case l => exact News.isList (by k_asm) (by k_mem)); (case z => with_unfolding_all rfl); k_whole)))
local macro_rules | `(tactic| walk_at "subscriptTail") => `(tactic| (k_here; (with_reducible show wpAny _ _ (subscriptTail _ _ (Value.ref _) (Value.int _ _)) _ _ _); k_dflt (refine' Mine.item_listB ?F ?l ?a ?b ?x ?_; (case F => k_asm); (case l => with_reducible assumption); (case a => first | assumption | omega); (case b => omega); (case x => with_reducible assumption); k_whole)))
local macro_rules | `(tactic| walk_at "exec For Name BinOp") => `(tactic| (k_here; (rename Fr _ _ _ _ => lF'); (with_unfolding_all refine' For_invVF lF' ?k1 ?k2 ?_; (case k1 => exact rfl); (case k2 => exact rfl); k_whole)))
section
local macro_rules | `(tactic| walk_at "none of mine") => `(tactic| fail)
theorem walk_off_F1 : True := by
  w_top off
  trivial
set_option maxHeartbeats 400000
/-- a row of what was laid: the moment, the type, the key, the subprogram -/
abbrev Row := Int × Int × Str × Str
inductive RowsAt (h : Heap) : List Value → List Row → Prop
  | nil : RowsAt h [] []
  | cons {a : Addr} {mo wh : Int} {k nm : Str} {t1 t2 t3 t4 : Tok} {vs : List Value} {rs : List Row} :
      IsTup h a #[.int mo t1, .int wh t2, .str k t3, .str nm t4] → RowsAt h vs rs → RowsAt h (.ref a :: vs) ((mo, wh, k, nm) :: rs)
inductive MadeAt (h : Heap) : List Value → List (Int × Int) → Prop
  | nil : MadeAt h [] []
  | cons {a : Addr} {p mo : Int} {t1 t2 : Tok} {vs : List Value} {rs : List (Int × Int)} :
      IsTup h a #[.int p t1, .int mo t2] → MadeAt h vs rs → MadeAt h (.ref a :: vs) ((p, mo) :: rs)
structure BookAt (w : World) (h : Heap) (book lm ll : Addr) (vm vl : List Value) (made : List (Int × Int)) (laid : List Row) : Prop where
  dict : h.DictOf (PySem.strKind Challenge.rw_pb0007_01.row.prog w) book [(Str.ofString "made", .ref lm), (Str.ofString "laid", .ref ll)]
  lm : h.IsList lm vm.toArray
  ll : h.IsList ll vl.toArray
  made : MadeAt h vm made
  laid : RowsAt h vl laid

theorem RowsAt.keep {h h' : Heap} (k : ∀ b o, h.get? b = some o → h'.get? b = some o) : ∀ {vs : List Value} {rs : List Row}, RowsAt h vs rs → RowsAt h' vs rs
  | _, _, .nil => .nil
  | _, _, .cons t r => .cons (IsTup.keeps t k) (r.keep k)
theorem MadeAt.keep {h h' : Heap} (k : ∀ b o, h.get? b = some o → h'.get? b = some o) : ∀ {vs : List Value} {rs : List (Int × Int)}, MadeAt h vs rs → MadeAt h' vs rs
  | _, _, .nil => .nil
  | _, _, .cons t r => .cons (IsTup.keeps t k) (r.keep k)
theorem BookAt.keep {w : World} {h h' : Heap} {book lm ll : Addr} {vm vl : List Value} {made : List (Int × Int)} {laid : List Row} (x : BookAt w h book lm ll vm vl made laid) (k : ∀ b o, h.get? b = some o → h'.get? b = some o) : BookAt w h' book lm ll vm vl made laid :=
  ⟨DictOf.keep x.dict k, IsList.keep x.lm k, IsList.keep x.ll k, x.made.keep k, x.laid.keep k⟩

theorem RowsAt.length {h : Heap} : ∀ {vs : List Value} {rs : List Row}, RowsAt h vs rs → vs.length = rs.length
  | _, _, .nil => rfl
  | _, _, .cons _ r => by rw [List.length_cons, List.length_cons, r.length]
theorem MadeAt.length {h : Heap} : ∀ {vs : List Value} {rs : List (Int × Int)}, MadeAt h vs rs → vs.length = rs.length
  | _, _, .nil => rfl
  | _, _, .cons _ r => by rw [List.length_cons, List.length_cons, r.length]
theorem RowsAt.get {h : Heap} : ∀ {vs : List Value} {rs : List Row}, RowsAt h vs rs → ∀ {i : Nat} {v : Value}, vs[i]? = some v → ∃ a mo wh k nm t1 t2 t3 t4, v = .ref a ∧ rs[i]? = some (mo, wh, k, nm) ∧ IsTup h a #[.int mo t1, .int wh t2, .str k t3, .str nm t4]
  | _, _, .nil, i, v, e => by simp at e
  | _, _, .cons t r, 0, v, e => by
    simp at e; subst e
    exact ⟨_, _, _, _, _, _, _, _, _, rfl, rfl, t⟩
  | _, _, .cons t r, i + 1, v, e => by
    simp at e
    simpa using r.get e
theorem MadeAt.get {h : Heap} : ∀ {vs : List Value} {rs : List (Int × Int)}, MadeAt h vs rs → ∀ {i : Nat} {v : Value}, vs[i]? = some v → ∃ a p mo t1 t2, v = .ref a ∧ rs[i]? = some (p, mo) ∧ IsTup h a #[.int p t1, .int mo t2]
  | _, _, .nil, i, v, e => by simp at e
  | _, _, .cons t r, 0, v, e => by
    simp at e; subst e
    exact ⟨_, _, _, _, _, rfl, rfl, t⟩
  | _, _, .cons t r, i + 1, v, e => by
    simp at e
    simpa using r.get e

def rowTest (laid : List Row) (i : Int) (key : Str) (b : Int) (j : Nat) : Bool := match laid[j]? with
  | some r => decide (r.2.1 = i) && decide (r.2.2.1 = key) && decide (r.1 < b)
  | none => false
def ownRows (laid : List Row) (i : Int) (key : Str) (b : Int) : List Row := laid.filter fun r => decide (r.2.1 = i) && decide (r.2.2.1 = key) && decide (r.1 < b)
def found (made : List (Int × Int)) (laid : List Row) : Nat → Int → Str → Int → Option (Str × Int)
  | 0, _, _, _ => none
  | n + 1, i, key, b => match (ownRows laid i key b).getLast? with
    | some r => some (r.2.2.2, i)
    | none => match made[i.toNat]? with
      | none => none
      | some (p, mo) => if p < 0 then none else found made laid n p key mo

/-- what the search hands back, on the heap -/
def FoundAt (h : Heap) (v : Value) : Option (Str × Int) → Prop
  | none => v = .none
  | some (nm, i) => ∃ a t1 t2, v = .ref a ∧ IsTup h a #[.str nm t1, .int i t2]

local macro_rules | `(tactic| walk_at "CompSrcT") => `(tactic| (k_here; k_dflt (refine LCt.CompSrcT.base (by rfl) (by k_asm) (by k_asm) (by assumption) (by rw [sizeLine_eq, List.size_toArray]; omega) ?_; intro g')))

theorem RowsAt.filter {h : Heap} {laid : List Row} {i b : Int} {key : Str} : ∀ {vs : List Value} {rs : List Row} (j : Nat), RowsAt h vs rs → laid.drop j = rs → RowsAt h (keepIf (rowTest laid i key b) j vs) (ownRows rs i key b)
  | _, _, _, .nil, _ => .nil
  | _, _, j, .cons (mo := mo) (wh := wh) (k := k) (nm := nm) (vs := vs) (rs := rs) t r, e => by
    have hj : laid[j]? = some (mo, wh, k, nm) := by
      have := congrArg (fun l => l[0]?) e
      simpa using this
    have hr : laid.drop (j + 1) = rs := by
      have := congrArg (List.drop 1) e
      simpa [Nat.add_comm] using this
    have ih := r.filter (i := i) (b := b) (key := key) (j + 1) hr
    unfold keepIf ownRows rowTest
    rw [List.filter_cons, hj]
    simp only []
    split
    · exact .cons t ih
    · exact ih
theorem RowsAt.last {h : Heap} {vs : List Value} {rs : List Row} (x : RowsAt h vs rs) : (vs = [] ∧ rs = []) ∨ ∃ vs' v r, vs = vs' ++ [v] ∧ rs.getLast? = some r ∧ ∃ a t1 t2 t3 t4, v = .ref a ∧ IsTup h a #[.int r.1 t1, .int r.2.1 t2, .str r.2.2.1 t3, .str r.2.2.2 t4] := by
  induction x with
  | nil => exact .inl ⟨rfl, rfl⟩
  | cons t r ih =>
    refine .inr ?_
    rcases ih with ⟨rfl, rfl⟩ | ⟨vs', v, rr, rfl, e, z⟩
    · exact ⟨[], _, _, rfl, rfl, _, _, _, _, _, rfl, t⟩
    · refine ⟨_ :: vs', v, rr, rfl, ?_, z⟩
      rw [List.getLast?_cons]
      rw [e]; rfl

def FoundSpec (w : World) (n : Nat) : Prop := ∀ {A₀ : Around} {s : Shared} {base h₀ : Heap} {outer : List Env} {env : Env} {L : Addr} {m : Str → Option Value} {news : List (Addr × Obj)}
  {p : Program} {loose : List Str} {mean : ExcName → Option Value} {mg mb : Str → Option Value} {R : Result → Shared → Prop} {D U : Nat}
  {book lm ll : Addr} {vm vl : List Value} {made : List (Int × Int)} {laid : List Row} {i b : Int} {key : Str} {t1 t2 t3 : Tok},
  (hd.heap_1 w.params).In h₀ → Below A₀ base outer h₀ → Fr h₀ L s.heap m → News h₀ L s.heap news → Top p loose mean mg mb h₀ → env.frame = some L → env.scope.kind = .function → D + n ≤ 680 → U + 20 * n ≤ 6000 →
  BookAt w s.heap book lm ll vm vl made laid → made.length ≤ 7 → laid.length ≤ 16 → (∀ (j : Nat) p mo, made[j]? = some (p, mo) → p < (j : Int)) → 0 ≤ i → i < n → i < made.length →
  (∀ h' tk v, (∀ b o, s.heap.get? b = some o → h'.get? b = some o) → Fr h₀ L h' m → News h₀ L h' news → FoundAt h' v (found made laid n i key b) → (∀ a, v = .ref a → s.heap.get? a = none) → R (.ok (.ret v)) { s with heap := h', toks := tk }) →
  codeAny (model Challenge.rw_pb0007_01.row.prog w) (at_ D U (env :: outer)) (.call (.ref 177) ⟨[.ref book, .int i t1, .str key t2, .int b t3], []⟩) R s

local macro_rules | `(tactic| k_steps) => `(tactic| walk_at "S")
theorem found_step (w : World) (n : Nat) (ih : FoundSpec w n) : FoundSpec w (n + 1) := by
  unfold FoundSpec
  k_fill
  intro A₀ s base h₀ outer env L m news p loose mean mg mb R D U book lm ll vm vl made laid i b key t1 t2 t3
  intro X B F N T hf hke hD hU hB hml hll hpar hi0 hin him post
  refine' enter_footC (fp := []) (binds := [(Str.ofString "book", .ref book), (Str.ofString "which", .int i t1), (Str.ofString "key", .str key t2), (Str.ofString "before", .int b t3)]) B F X N T rfl hf hke ?fp ?k6 ?k7 ?k8 ?k9 ?kB ?kD ?_ ?c2 ?c3 ?c4
  case fp => intro q hq; cases hq
  case k6 => k_is
  case k7 => k_is
  case k8 => show D < 1000; omega
  case k9 => exact BindsTo.of_eq rfl
  case kB => exact rfl
  case kD => decide +kernel
  case c2 => exact rfl
  case c3 => exact rfl
  case c4 => exact rfl
  intro g L' h' tk' cells' FG' F' N' Y' B' X' T' hrest hl1 hl2
  k_cells Y'
  (try simp only [List.cons_append, List.nil_append, List.append_nil] at N')
  (try dsimp only)
  have hk : ∀ b o, s.heap.get? b = some o → g.get? b = some o := fun b o e => hrest b o e (by simp)
  have hB' := hB.keep hk
  obtain ⟨hbook, hlm, hlll, hmade, hlaid⟩ := hB'
  have hvl : vl.length ≤ 16 := by rw [hlaid.length]; exact hll
  change wpAny _ _ _ _ _ _
  k_fold
  k_steps
  refine Mine.rest_filter (rowTest laid i key b) (vs := vl) (fun _ => rfl) (fun _ => rfl) (by decide) (Or.inl hlll) ?turn _ 0 [] (by simp) ?fin
  case turn =>
    intro j v I oI C oC D' ys m₂ hh tk E' hv hC hx F2 N2 off ne
    obtain ⟨a, mo, wh, k, nm, u1, u2, u3, u4, rfl, hrow, htup⟩ := hlaid.get hv
    k_steps
    all_goals refine ⟨?_, _, _, rfl, by k_asm, by k_asm⟩
    all_goals (simp only [rowTest, hrow]; simp_all)
  case fin =>
    simp only [List.nil_append, List.drop_zero]
    have hown := RowsAt.filter (i := i) (b := b) (key := key) 0 hlaid (List.drop_zero)
    generalize keepIf (rowTest laid i key b) 0 vl = ws at hown
    rcases hown.last with ⟨rfl, ho⟩ | ⟨vs', v, r, rfl, ho, a, u1, u2, u3, u4, rfl, htup⟩
    · obtain ⟨vi, hvi⟩ : ∃ v, vm[i.toNat]? = some v := by
        have hl : i.toNat < vm.length := by rw [hmade.length]; omega
        exact ⟨_, List.getElem?_eq_getElem hl⟩
      obtain ⟨am, pp, pmo, u1, u2, rfl, hmr, hmt⟩ := hmade.get hvi
      have hpp := hpar _ _ _ hmr
      k_steps
      · rename Fr h₀ L _ m => kF
        rename Fr g L' _ _ => F9
        have kp : ∀ b o, s.heap.get? b = some o → _ := fun b o e => F9.keep b o (hk b o e)
        refine post _ _ _ kp kF (news0 N kp) ?_ (fun a e => by cases e)
        have hz : pp < 0 := by omega
        unfold found
        rw [ho, hmr]
        simp only [List.getLast?_nil, hz, if_true]
        rfl
      · rename Fr g L' _ _ => F9
        rename News g L' _ _ => N9
        have hz : ¬ pp < 0 := by omega
        have k9 : ∀ b o, g.get? b = some o → _ := fun b o e => F9.keep b o e
        refine wpAny_call (codeAny_le (ih X' B' F9 N9 T' rfl rfl (D := D + 1) (U := U + 3) (by omega) (by omega) (BookAt.keep ⟨hbook, hlm, hlll, hmade, hlaid⟩ k9) hml hll hpar (by omega) (by omega) (by omega) ?_) rfl (Nat.le_refl _) rfl rfl (Nat.le_refl _))
        intro h2 tk2 v2 k2 F2 N2 hv2 hfr2
        (try dsimp only)
        k_steps
        rename Fr h₀ L _ m => kF
        have kp : ∀ b o, s.heap.get? b = some o → _ := fun b o e => k2 b o (k9 b o (hk b o e))
        refine post _ _ _ kp kF (news0 N kp) ?_ (fun a e => kts_none hk (kts_none k9 (hfr2 a e)))
        unfold found
        rw [ho, hmr]
        simp only [List.getLast?_nil, hz, if_false]
        exact hv2
    · k_steps
      rename Fr h₀ L _ m => kF
      rename Fr g L' _ _ => F9
      rename News g L' _ _ => N9
      have kp : ∀ b o, s.heap.get? b = some o → _ := fun b o e => F9.keep b o (hk b o e)
      refine post _ _ _ kp kF (news0 N kp) ?_ (fun a e => by cases e; exact kts_none hk (N9 _ (.head _)).2.2)
      unfold found
      rw [ho]
      exact ⟨_, _, _, rfl, News.isTup N9 (by k_mem)⟩

theorem found_spec (w : World) : ∀ n, FoundSpec w n
  | 0 => fun X B F N T hf hke hD hU hB hml hll hpar hi0 hin him post => absurd hin (by omega)
  | n + 1 => found_step w n (found_spec w n)
end
section
theorem walk_off_T0 : True := by
  w_top off
  trivial
set_option maxHeartbeats 1000000
/-- the entries of an object's dict, by its attributes -/
def esOf (P : Params) : List (Str × Value) → List Tok → List DictEntry
  | q :: l, t :: ts => ⟨PyData.keyHash P q.1, .str q.1 t, q.2⟩ :: esOf P l ts
  | _, _ => []
def putKV (k : Str) (v : Value) : List (Str × Value) → List (Str × Value)
  | [] => [(k, v)]
  | q :: l => if q.1 == k then (q.1, v) :: l else q :: putKV k v l
/-- an object's dict that holds just these attributes -/
structure PartOf (P : Params) (n : Nat) (l : List (Str × Value)) (o : Obj) : Prop where
  le : l.length ≤ n
  is : ∃ ts, ts.length = l.length ∧ o = dictOf (esOf P l ts) l.length

theorem esOf_any (P : Params) : ∀ (l : List (Str × Value)) (ts : List Tok), (esOf P l ts).any (·.refKey) = false
  | [], _ => by simp [esOf]
  | _ :: _, [] => by simp [esOf]
  | q :: l, t :: ts => by
    show (false || (esOf P l ts).any (·.refKey)) = false
    rw [esOf_any P l ts]; rfl
theorem esOf_len (P : Params) : ∀ (l : List (Str × Value)) (ts : List Tok), (esOf P l ts).length ≤ l.length
  | [], _ => by simp [esOf]
  | _ :: _, [] => by simp [esOf]
  | q :: l, t :: ts => by simp [esOf, esOf_len P l ts]
theorem putKV_len (k : Str) (v : Value) : ∀ l : List (Str × Value), (putKV k v l).length ≤ l.length + 1
  | [] => by simp [putKV]
  | q :: l => by
    unfold putKV
    split
    · simp
    · have := putKV_len k v l
      simp only [List.length_cons]; omega
theorem put_es (P : Params) (k : Str) (v : Value) (t : Tok) : ∀ (l : List (Str × Value)) (ts : List Tok), ts.length = l.length →
    ∃ ts', ts'.length = (putKV k v l).length ∧ putL k (PyData.keyHash P k) (.str k t) v (esOf P l ts) = esOf P (putKV k v l) ts' ∧
      (if (esOf P l ts).any (·.key.isStr k) then l.length else l.length + 1) = (putKV k v l).length
  | [], [], _ => ⟨[t], rfl, rfl, rfl⟩
  | q :: l, a :: ts, h => by
    unfold putKV
    cases e : q.1 == k with
    | true =>
      refine ⟨a :: ts, by simpa using h, ?_, ?_⟩
      · show (if (Value.str q.1 a).isStr k then _ else _) = _
        rw [show (Value.str q.1 a).isStr k = true from e]; rfl
      · have : (esOf P (q :: l) (a :: ts)).any (·.key.isStr k) = true := by
          simp only [esOf, List.any_cons]
          rw [show (Value.str q.1 a).isStr k = true from e]; rfl
        rw [this]; simp
    | false =>
      obtain ⟨ts', h1, h2, h3⟩ := put_es P k v t l ts (by simpa using h)
      refine ⟨a :: ts', by simp [h1], ?_, ?_⟩
      · show (if (Value.str q.1 a).isStr k then _ else _) = _
        rw [show (Value.str q.1 a).isStr k = false from e, h2]; rfl
      · have : (esOf P (q :: l) (a :: ts)).any (·.key.isStr k) = (esOf P l ts).any (·.key.isStr k) := by
          simp only [esOf, List.any_cons]
          rw [show (Value.str q.1 a).isStr k = false from e]; rfl
        rw [this]
        simp only [List.length_cons, Bool.false_eq_true, if_false]
        rw [← h3]; split <;> rfl
theorem updF_upd {d : Addr} {o o' : Obj} : ∀ {l : List (Addr × Obj)} {g : Obj → List (Addr × Obj)}, UpdF d o l g → Upd d o o' l (g o')
  | _, _, .head h => .head h
  | _, _, .tail h r => .tail h (updF_upd r)

section
variable {prog : Program} {w : World} {A : Around} {E : Value → Shared → Prop} {s : Shared} {K : Frag} {x C dx L : Addr} {h₀ : Heap} {m : Str → Option Value} {news : List (Addr × Obj)} {name : Str} {v : Value}
/-- storing an attribute of an object of the ledger -/
theorem set_part {Q : Unit → Shared → Prop} {o : Obj} {l : List (Str × Value)} {n : Nat} {g1 : Obj → List (Addr × Obj)} (F : Fr h₀ L s.heap m) (X₀ : K.In h₀) (N : News h₀ L s.heap news) (hx : (x, instObj C dx) ∈ news) (hp : PartOf w.params n l o)
    (U : UpdF dx o news g1) (hz : n < 900) (hs : findIn K (.ref C) "__setattr__" = some (some (.builtin "object.__setattr__"))) (hpl : plainOver K C = true) (ht : takerIn K C name = some none) (hh : hasDictIn K C = true)
    (h : ∀ h' o' tk, Fr h₀ L h' m → News h₀ L h' (g1 o') → PartOf w.params (Nat.succ n) (putKV name v l) o' → Q () { s with heap := h', toks := tk }) :
    wpAny (model prog w) A (setAttr (.ref x) name v) Q E s := by
  obtain ⟨hle, ts, hts, rfl⟩ := hp
  obtain ⟨ts', e1, e2, e3⟩ := put_es w.params name v (s.toks + 1) l ts hts
  refine set_dict (C := C) (dx := dx) (n' := (putKV name v l).length) F X₀ N (InstAt.of_news N hx (updF_mem U)) rfl hs hpl ht hh ?_ ?_ (updF_upd U) ?_ fun h' F' N' => h h' _ _ F' N' ⟨?_, ts', e1, rfl⟩
  · unfold getL
    rw [esOf_any]
    split <;> rfl
  · rw [e2]; exact congrArg _ e3
  · have := esOf_len w.params (putKV name v l) ts'
    have := putKV_len name v l
    omega
  · have := putKV_len name v l
    show _ ≤ n + 1
    omega
theorem newsOf3 {h₀ h : Heap} {L : Addr} {l : List (Addr × Obj)} (N : News h₀ L h l) {a b c : Addr × Obj} (ha : a ∈ l) (hb : b ∈ l) (hc : c ∈ l) : News h₀ L h [a, b, c] := fun q hq => by
  simp only [List.mem_cons, List.not_mem_nil, or_false] at hq
  rcases hq with rfl | rfl | rfl
  · exact N _ ha
  · exact N _ hb
  · exact N _ hc
theorem PartOf.cast {P : Params} {n : Nat} {l l' : List (Str × Value)} {o : Obj} (p : PartOf P n l o) (e : l = l') : PartOf P n l' o := e ▸ p
theorem part_init {P : Params} {n : Nat} {o : Obj} {v0 v1 v2 v3 v4 v5 v6 v7 v8 v9 v10 v11 v12 v13 v14 v15 v16 v17 v18 v19 v20 : Value} (p : PartOf P n (putKV (Str.ofString "operations") v20 (putKV (Str.ofString "is_private") v19 (putKV (Str.ofString "is_limited") v18 (putKV (Str.ofString "wide") v17 (putKV (Str.ofString "is_tagged") v16 (putKV (Str.ofString "designated") v15 (putKV (Str.ofString "variant") v14 (putKV (Str.ofString "components") v13 (putKV (Str.ofString "discriminants") v12 (putKV (Str.ofString "is_constrained") v11 (putKV (Str.ofString "component") v10 (putKV (Str.ofString "index") v9 (putKV (Str.ofString "small") v8 (putKV (Str.ofString "modulus") v7 (putKV (Str.ofString "literals") v6 (putKV (Str.ofString "high") v5 (putKV (Str.ofString "low") v4 (putKV (Str.ofString "parent") v3 (putKV (Str.ofString "number") v2 (putKV (Str.ofString "name") v1 (putKV (Str.ofString "kind") v0 []))))))))))))))))))))) o) :
    PartOf P 21 [(Str.ofString "kind", v0), (Str.ofString "name", v1), (Str.ofString "number", v2), (Str.ofString "parent", v3), (Str.ofString "low", v4), (Str.ofString "high", v5), (Str.ofString "literals", v6), (Str.ofString "modulus", v7), (Str.ofString "small", v8), (Str.ofString "index", v9), (Str.ofString "component", v10), (Str.ofString "is_constrained", v11), (Str.ofString "discriminants", v12), (Str.ofString "components", v13), (Str.ofString "variant", v14), (Str.ofString "designated", v15), (Str.ofString "is_tagged", v16), (Str.ofString "wide", v17), (Str.ofString "is_limited", v18), (Str.ofString "is_private", v19), (Str.ofString "operations", v20)] o := ⟨Nat.le_refl 21, (p.cast (by kernel_rfl : _ = [(Str.ofString "kind", v0), (Str.ofString "name", v1), (Str.ofString "number", v2), (Str.ofString "parent", v3), (Str.ofString "low", v4), (Str.ofString "high", v5), (Str.ofString "literals", v6), (Str.ofString "modulus", v7), (Str.ofString "small", v8), (Str.ofString "index", v9), (Str.ofString "component", v10), (Str.ofString "is_constrained", v11), (Str.ofString "discriminants", v12), (Str.ofString "components", v13), (Str.ofString "variant", v14), (Str.ofString "designated", v15), (Str.ofString "is_tagged", v16), (Str.ofString "wide", v17), (Str.ofString "is_limited", v18), (Str.ofString "is_private", v19), (Str.ofString "operations", v20)])).is⟩
theorem part_nil {P : Params} : PartOf P 0 [] (dictOf [] 0) := ⟨Nat.le_refl _, [], rfl, rfl⟩
end
local macro_rules | `(tactic| k_steps) => `(tactic| walk_at "S")
local macro_rules | `(tactic| walk_at "setAttr ref") => `(tactic| (k_here; (with_reducible rename PartOf _ _ _ _ => pO); k_dflt (refine' Mine.set_part ?F ?X ?N ?x pO ?U ?z ?a ?b ?c ?d ?_; (case F => k_asm); (case X => k_asm); (case N => k_asm); (case x => k_mem); (case U => k_updF); (case z => decide); (case a => k_is); (case b => k_is); (case c => k_is); (case d => k_is)); clear pO; intro h' o' k' F' N' p'; (try dsimp only at N'); k_sweep))

/-- a type behind its __init__ -/
theorem init_spec {w : World} {A₀ : Around} {s : Shared} {base h₀ : Heap} {outer : List Env} {env : Env} {L : Addr} {m : Str → Option Value} {news : List (Addr × Obj)}
  {p : Program} {loose : List Str} {mean : ExcName → Option Value} {mg mb : Str → Option Value} {R : Result → Shared → Prop}
  {x d : Addr} {nm : Str} {v0 v1 : Tok} :
  (hd.heap_1 w.params).In h₀ → Below A₀ base outer h₀ → Fr h₀ L s.heap m → News h₀ L s.heap news → Top p loose mean mg mb h₀ → env.frame = some L → env.scope.kind = .function →
  (x, instObj 94 d) ∈ news → (d, dictOf [] 0) ∈ news → (@Ne Nat x d) →
  (∀ h' tk o' od oo v2 v7 a6 a8 a9 a12 a13, (∀ b o, s.heap.get? b = some o → b ≠ d → h'.get? b = some o) → Fr h₀ L h' m → News h₀ L h' [(x, instObj 94 d), (d, o'), (od, oo)] →
     PartOf w.params 21 [(Str.ofString "kind", .str (Str.ofString "record") v0), (Str.ofString "name", .str nm v1), (Str.ofString "number", .int 0 v2), (Str.ofString "parent", .none), (Str.ofString "low", .none), (Str.ofString "high", .none),
       (Str.ofString "literals", .ref a6), (Str.ofString "modulus", .int 0 v7), (Str.ofString "small", .ref a8), (Str.ofString "index", .ref a9), (Str.ofString "component", .none), (Str.ofString "is_constrained", .bool true),
       (Str.ofString "discriminants", .ref a12), (Str.ofString "components", .ref a13), (Str.ofString "variant", .none), (Str.ofString "designated", .none), (Str.ofString "is_tagged", .bool false), (Str.ofString "wide", .none),
       (Str.ofString "is_limited", .bool false), (Str.ofString "is_private", .bool false), (Str.ofString "operations", .ref od)] o' →
     s.heap.get? od = none → oo.IsDictOf (PySem.strKind Challenge.rw_pb0007_01.row.prog w) [] → (od == sysModules) = false →
     R (.ok (.ret .none)) { s with heap := h', toks := tk }) →
  codeAny (model Challenge.rw_pb0007_01.row.prog w) (at_ 580 3800 (env :: outer)) (.call (.ref 91) ⟨[.ref x, .str (Str.ofString "record") v0, .str nm v1], []⟩) R s := by
  k_fill
  intro X B F N T hf hke hx hd hxd post
  refine' enter_foot (fp := [(x, instObj 94 d), (d, dictOf [] 0)]) (binds := [(Str.ofString "self", .ref x), (Str.ofString "kind", .str (Str.ofString "record") v0), (Str.ofString "name", .str nm v1)]) B F X N T rfl hf hke ?fp ?k6 ?k7 ?k8 ?k9 ?kB ?_ ?c2 ?c3 ?c4 ?c5
  case fp => intro q hq; rcases List.mem_cons.mp hq with rfl | hq; exact hx; rcases List.mem_singleton.mp hq with rfl; exact hd
  case k6 => k_is
  case k7 => k_is
  case k8 => k_room
  case k9 => exact BindsTo.of_eq rfl
  case c5 => decide
  case kB => exact locs rfl
  case c2 => exact rfl
  case c3 => exact rfl
  case c4 => exact rfl
  intro g L' h' FG' F' N' B' X' T' hrest hl1 hl2
  k_lt hl1
  have hp := part_nil (P := w.params)
  generalize dictOf [] 0 = o0 at hp N'
  (try dsimp only)
  change wpAny _ _ _ _ _ _
  k_fold
  k_steps
  rename Fr h₀ L _ m => kF
  rename News h₀ L _ _ => kN
  rename Fr g L' _ _ => F9
  rename News g L' _ _ => N9
  rename PartOf _ _ _ _ => p9
  rename (_ ∧ _ ∧ _ ∧ _ ∧ _ ∧ _ ∧ _) => l9
  obtain ⟨_, _, _, _, _, n1, n2⟩ := l9
  have fr : ∀ z, g.get? z = none → x < z → d < z → s.heap.get? z = none := fun z e1 e2 e3 => by
    cases q : s.heap.get? z with
    | none => rfl
    | some o =>
      rw [hrest z o q (by
        simp only [List.map_cons, List.map_nil, List.mem_cons, List.not_mem_nil, or_false, not_or]
        exact ⟨Nat.ne_of_gt e2, Nat.ne_of_gt e3⟩)] at e1
      cases e1
  refine' post _ _ _ _ _ _ _ _ _ _ _ _ ?kp kF ?news (part_init p9) (fr _ (N9.fresh ?m1) n1 n2) ?oo ?lo
  case news => refine' newsOf3 kN ?_ ?_ ?_ <;> k_mem
  case m1 => k_mem
  case oo => assumption
  case lo => assumption
  case kp =>
    intro b o e n
    by_cases q : b = x
    · subst q
      have hm := News.get (a := b) kN (by k_mem)
      rw [(N _ hx).1] at e
      exact hm.trans e
    · exact F9.keep b o (hrest b o e (by
        simp only [List.map_cons, List.map_nil, List.mem_cons, List.not_mem_nil, or_false, not_or]
        exact ⟨q, n⟩))
end
section
local macro_rules | `(tactic| walk_at "none of mine") => `(tactic| fail)
theorem walk_off_T1 : True := by
  w_top off
  trivial
set_option maxHeartbeats 1000000
abbrev en (P : Params) (k : String) (t : Tok) (v : Value) : DictEntry := ⟨PyData.keyHash P (Str.ofString k), .str (Str.ofString k) t, v⟩
structure TK where
  (k0 k1 k2 k3 k4 k5 k6 k7 k8 k9 k10 k11 k12 k13 k14 k15 k16 k17 k18 k19 k20 v0 v1 v2 v7 : Tok)
structure AD where
  (a6 a8 a9 a12 a13 : Addr)
/-- the attributes of a type -/
def typeEs (P : Params) (tk : TK) (a : AD) (nm : Str) (num : Int) (par : Value) (tg : Bool) (od : Addr) : List DictEntry :=
  [en P "kind" tk.k0 (.str (Str.ofString "record") tk.v0), en P "name" tk.k1 (.str nm tk.v1), en P "number" tk.k2 (.int num tk.v2), en P "parent" tk.k3 par, en P "low" tk.k4 .none, en P "high" tk.k5 .none,
   en P "literals" tk.k6 (.ref a.a6), en P "modulus" tk.k7 (.int 0 tk.v7), en P "small" tk.k8 (.ref a.a8), en P "index" tk.k9 (.ref a.a9), en P "component" tk.k10 .none, en P "is_constrained" tk.k11 (.bool true),
   en P "discriminants" tk.k12 (.ref a.a12), en P "components" tk.k13 (.ref a.a13), en P "variant" tk.k14 .none, en P "designated" tk.k15 .none, en P "is_tagged" tk.k16 (.bool tg), en P "wide" tk.k17 .none,
   en P "is_limited" tk.k18 (.bool false), en P "is_private" tk.k19 (.bool false), en P "operations" tk.k20 (.ref od)]

theorem part_derived {P : Params} {n : Nat} {o : Obj} {v0 v1 v2 v3 v4 v5 v6 v7 v8 v9 v10 v11 v12 v13 v14 v15 v16 v17 v18 v19 v20 u0 u1 u2 u3 u4 u5 u6 u7 u8 u9 u10 u11 u12 u13 u14 u15 : Value} (p : PartOf P n (putKV (Str.ofString "operations") u15 (putKV (Str.ofString "is_limited") u14 (putKV (Str.ofString "is_tagged") u13 (putKV (Str.ofString "designated") u12 (putKV (Str.ofString "variant") u11 (putKV (Str.ofString "components") u10 (putKV (Str.ofString "discriminants") u9 (putKV (Str.ofString "is_constrained") u8 (putKV (Str.ofString "component") u7 (putKV (Str.ofString "index") u6 (putKV (Str.ofString "small") u5 (putKV (Str.ofString "modulus") u4 (putKV (Str.ofString "literals") u3 (putKV (Str.ofString "high") u2 (putKV (Str.ofString "low") u1 (putKV (Str.ofString "parent") u0 [(Str.ofString "kind", v0), (Str.ofString "name", v1), (Str.ofString "number", v2), (Str.ofString "parent", v3), (Str.ofString "low", v4), (Str.ofString "high", v5), (Str.ofString "literals", v6), (Str.ofString "modulus", v7), (Str.ofString "small", v8), (Str.ofString "index", v9), (Str.ofString "component", v10), (Str.ofString "is_constrained", v11), (Str.ofString "discriminants", v12), (Str.ofString "components", v13), (Str.ofString "variant", v14), (Str.ofString "designated", v15), (Str.ofString "is_tagged", v16), (Str.ofString "wide", v17), (Str.ofString "is_limited", v18), (Str.ofString "is_private", v19), (Str.ofString "operations", v20)])))))))))))))))) o) :
    PartOf P 21 [(Str.ofString "kind", v0), (Str.ofString "name", v1), (Str.ofString "number", v2), (Str.ofString "parent", u0), (Str.ofString "low", u1), (Str.ofString "high", u2), (Str.ofString "literals", u3), (Str.ofString "modulus", u4), (Str.ofString "small", u5), (Str.ofString "index", u6), (Str.ofString "component", u7), (Str.ofString "is_constrained", u8), (Str.ofString "discriminants", u9), (Str.ofString "components", u10), (Str.ofString "variant", u11), (Str.ofString "designated", u12), (Str.ofString "is_tagged", u13), (Str.ofString "wide", v17), (Str.ofString "is_limited", u14), (Str.ofString "is_private", v19), (Str.ofString "operations", u15)] o := ⟨Nat.le_refl 21, (p.cast (by kernel_rfl : _ = [(Str.ofString "kind", v0), (Str.ofString "name", v1), (Str.ofString "number", v2), (Str.ofString "parent", u0), (Str.ofString "low", u1), (Str.ofString "high", u2), (Str.ofString "literals", u3), (Str.ofString "modulus", u4), (Str.ofString "small", u5), (Str.ofString "index", u6), (Str.ofString "component", u7), (Str.ofString "is_constrained", u8), (Str.ofString "discriminants", u9), (Str.ofString "components", u10), (Str.ofString "variant", u11), (Str.ofString "designated", u12), (Str.ofString "is_tagged", u13), (Str.ofString "wide", v17), (Str.ofString "is_limited", u14), (Str.ofString "is_private", v19), (Str.ofString "operations", u15)])).is⟩
theorem part_record {P : Params} {n : Nat} {o : Obj} {v0 v1 v2 v3 v4 v5 v6 v7 v8 v9 v10 v11 v12 v13 v14 v15 v16 v17 v18 v19 v20 u0 u1 u2 u3 : Value} (p : PartOf P n (putKV (Str.ofString "is_constrained") u3 (putKV (Str.ofString "variant") u2 (putKV (Str.ofString "components") u1 (putKV (Str.ofString "discriminants") u0 [(Str.ofString "kind", v0), (Str.ofString "name", v1), (Str.ofString "number", v2), (Str.ofString "parent", v3), (Str.ofString "low", v4), (Str.ofString "high", v5), (Str.ofString "literals", v6), (Str.ofString "modulus", v7), (Str.ofString "small", v8), (Str.ofString "index", v9), (Str.ofString "component", v10), (Str.ofString "is_constrained", v11), (Str.ofString "discriminants", v12), (Str.ofString "components", v13), (Str.ofString "variant", v14), (Str.ofString "designated", v15), (Str.ofString "is_tagged", v16), (Str.ofString "wide", v17), (Str.ofString "is_limited", v18), (Str.ofString "is_private", v19), (Str.ofString "operations", v20)])))) o) :
    PartOf P 21 [(Str.ofString "kind", v0), (Str.ofString "name", v1), (Str.ofString "number", v2), (Str.ofString "parent", v3), (Str.ofString "low", v4), (Str.ofString "high", v5), (Str.ofString "literals", v6), (Str.ofString "modulus", v7), (Str.ofString "small", v8), (Str.ofString "index", v9), (Str.ofString "component", v10), (Str.ofString "is_constrained", u3), (Str.ofString "discriminants", u0), (Str.ofString "components", u1), (Str.ofString "variant", u2), (Str.ofString "designated", v15), (Str.ofString "is_tagged", v16), (Str.ofString "wide", v17), (Str.ofString "is_limited", v18), (Str.ofString "is_private", v19), (Str.ofString "operations", v20)] o := ⟨Nat.le_refl 21, (p.cast (by kernel_rfl : _ = [(Str.ofString "kind", v0), (Str.ofString "name", v1), (Str.ofString "number", v2), (Str.ofString "parent", v3), (Str.ofString "low", v4), (Str.ofString "high", v5), (Str.ofString "literals", v6), (Str.ofString "modulus", v7), (Str.ofString "small", v8), (Str.ofString "index", v9), (Str.ofString "component", v10), (Str.ofString "is_constrained", u3), (Str.ofString "discriminants", u0), (Str.ofString "components", u1), (Str.ofString "variant", u2), (Str.ofString "designated", v15), (Str.ofString "is_tagged", v16), (Str.ofString "wide", v17), (Str.ofString "is_limited", v18), (Str.ofString "is_private", v19), (Str.ofString "operations", v20)])).is⟩
theorem part_type {P : Params} {o : Obj} {nm : Str} {num : Int} {par : Value} {tg : Bool} {od a6 a8 a9 a12 a13 : Addr} {v0 v1 v2 v7 : Tok}
    (p : PartOf P 21 [(Str.ofString "kind", .str (Str.ofString "record") v0), (Str.ofString "name", .str nm v1), (Str.ofString "number", .int num v2), (Str.ofString "parent", par), (Str.ofString "low", .none), (Str.ofString "high", .none), (Str.ofString "literals", .ref a6), (Str.ofString "modulus", .int 0 v7), (Str.ofString "small", .ref a8), (Str.ofString "index", .ref a9), (Str.ofString "component", .none), (Str.ofString "is_constrained", .bool true), (Str.ofString "discriminants", .ref a12), (Str.ofString "components", .ref a13), (Str.ofString "variant", .none), (Str.ofString "designated", .none), (Str.ofString "is_tagged", .bool tg), (Str.ofString "wide", .none), (Str.ofString "is_limited", .bool false), (Str.ofString "is_private", .bool false), (Str.ofString "operations", .ref od)] o) : ∃ tt, o = dictOf (typeEs P tt ⟨a6, a8, a9, a12, a13⟩ nm num par tg od) 21 := by
  obtain ⟨ts, h, rfl⟩ := p.is
  obtain ⟨f, rfl⟩ : ∃ f : Nat → Tok, ts = (List.range 21).map f := ⟨fun i => ts.getD i 0, List.ext_getElem? fun i => by
    rw [List.getElem?_map]
    by_cases q : i < 21
    · rw [List.getElem?_range q, List.getElem?_eq_getElem (by rw [h]; exact q)]
      simp [List.getD, List.getElem?_eq_getElem (show i < ts.length by rw [h]; exact q)]
    · rw [List.getElem?_eq_none (by rw [h]; exact Nat.le_of_not_lt q), List.getElem?_eq_none (by simpa using q)]; rfl⟩
  exact ⟨⟨f 0, f 1, f 2, f 3, f 4, f 5, f 6, f 7, f 8, f 9, f 10, f 11, f 12, f 13, f 14, f 15, f 16, f 17, f 18, f 19, f 20, v0, v1, v2, v7⟩, rfl⟩

/-- a type on the heap, but for its operations -/
structure TypeAt (w : World) (h : Heap) (x d : Addr) (num : Int) (par : Value) (tg : Bool) (od : Addr) : Prop where
  is : ∃ tk a nm n, h.get? x = some (instObj 94 d) ∧ h.get? d = some (dictOf (typeEs w.params tk a nm num par tg od) n) ∧ h.IsList a.a12 (List.toArray []) ∧ h.IsList a.a13 (List.toArray [])
theorem TypeAt.keep {w : World} {h h' : Heap} {x d od : Addr} {num : Int} {par : Value} {tg : Bool} (t : TypeAt w h x d num par tg od) (k : ∀ b o, h.get? b = some o → h'.get? b = some o) : TypeAt w h' x d num par tg od :=
  let ⟨tk, a, nm, n, e1, e2, e3, e4⟩ := t.is; ⟨tk, a, nm, n, k _ _ e1, k _ _ e2, IsList.keep e3 k, IsList.keep e4 k⟩

theorem instB {h₀ h : Heap} {L x C : Addr} {m : Str → Option Value} {ox : Obj} {od : Option Obj} (F : Fr h₀ L h m) (I : InstAt h₀ x ox C od) : InstAt h x ox C od := by
  obtain ⟨a, b, c, d⟩ := I
  obtain ⟨cl, dd, dt, sl⟩ := ox
  refine ⟨F.keep _ _ a, b, c, ?_⟩
  cases dd <;> cases od <;> first | exact d | exact F.keep _ _ d

section
variable {w : World} {A : Around} {E : Value → Shared → Prop} {s : Shared} {h₀ : Heap} {L : Addr} {m : Str → Option Value} {news : List (Addr × Obj)} {prog : Program}
/-- dict(d) of a dict that stands -/
theorem dict_copyB {K : Type} [DecidableEq K] {knd : KeyKind prog w K} {o : Addr} {kvs : List (K × Value)} {Q : Value → Shared → Prop} (F : Fr h₀ L s.heap m) (N : News h₀ L s.heap news) (hbig : sysModules < h₀.objs.size) (hD : h₀.DictOf knd o kvs) (lo : (o == sysModules) = false) (hsz : kvs.length ≤ sizeLine)
    (h : ∀ d h' o', Fr h₀ L h' m → News h₀ L h' ((d, o') :: news) → o'.IsDictOf knd kvs → (∀ p ∈ news, p.1 < d) → (d == sysModules) = false → Q (.ref d) { s with heap := h' }) : wpAny (model prog w) A (call (.type "dict") [.ref o]) Q E s := by
  refine kt_call_dict lo (DictOf.keep hD F.keep) hsz fun h' hm hs => ?_
  obtain ⟨o', ho', hd'⟩ := Heap.dictOf_iff.mp hm
  have N1 := News.push F N { cls := .type "dict", data := .dict #[] }
  exact h _ h' o' ((F.push _).change hs (N1 _ (.head _)).2.1 (N1.fresh (.head _))) (N1.setHead N.apart hs ho') hd' (fun p hp => Heap.lt_size (N p hp).1) (F.notModules hbig)
end

local macro_rules | `(tactic| k_inst) => `(tactic| exact Mine.instB (by k_asm) (by with_reducible assumption))
local macro_rules | `(tactic| walk_at "call type:dict") => `(tactic| (refine Mine.Stop.mk ?_))


theorem take2 {h₀ h : Heap} {L : Addr} {l : List (Addr × Obj)} {a b : Addr × Obj} (N : News h₀ L h (a :: b :: l)) : News h₀ L h [a, b] := fun q hq => by
  rcases List.mem_cons.mp hq with rfl | hq
  · exact N _ (.head _)
  · rcases List.mem_singleton.mp hq with rfl; exact N _ (.tail _ (.head _))
theorem newsOf4 {h₀ h : Heap} {L : Addr} {l : List (Addr × Obj)} (N : News h₀ L h l) {a b c d : Addr × Obj} (ha : a ∈ l) (hb : b ∈ l) (hc : c ∈ l) (hd : d ∈ l) : News h₀ L h [a, b, c, d] := fun q hq => by
  simp only [List.mem_cons, List.not_mem_nil, or_false] at hq
  rcases hq with rfl | rfl | rfl | rfl
  · exact N _ ha
  · exact N _ hb
  · exact N _ hc
  · exact N _ hd
theorem none_of {h h' : Heap} (k : ∀ b o, h.get? b = some o → h'.get? b = some o) {a : Addr} (e : h'.get? a = none) : h.get? a = none := by
  cases q : h.get? a with
  | none => rfl
  | some o => rw [k a o q] at e; cases e

local macro_rules | `(tactic| k_steps) => `(tactic| walk_at "S")
/-- no component is new: the check passes -/
theorem checknew_spec {w : World} {A₀ : Around} {s : Shared} {base h₀ : Heap} {outer : List Env} {env : Env} {L : Addr} {m : Str → Option Value} {news : List (Addr × Obj)}
  {p : Program} {loose : List Str} {mean : ExcName → Option Value} {mg mb : Str → Option Value} {R : Result → Shared → Prop}
  {x d od lc : Addr} {num0 line : Int} {par : Value} {t3 : Tok} :
  (hd.heap_1 w.params).In h₀ → Below A₀ base outer h₀ → Fr h₀ L s.heap m → News h₀ L s.heap news → Top p loose mean mg mb h₀ → env.frame = some L → env.scope.kind = .function →
  TypeAt w s.heap x d num0 par true od → s.heap.IsList lc (List.toArray []) →
  (∀ h' tk, (∀ b o, s.heap.get? b = some o → h'.get? b = some o) → Fr h₀ L h' m → News h₀ L h' news → R (.ok (.ret .none)) { s with heap := h', toks := tk }) →
  codeAny (model Challenge.rw_pb0007_01.row.prog w) (at_ 570 3700 (env :: outer)) (.call (.ref 117) ⟨[.ref x, .ref lc, .int line t3], []⟩) R s := by
  k_fill
  intro X B F N T hf hke hT hlc post
  refine' enter_foot (fp := []) (binds := [(Str.ofString "parent", .ref x), (Str.ofString "components", .ref lc), (Str.ofString "line", .int line t3)]) B F X N T rfl hf hke ?fp ?k6 ?k7 ?k8 ?k9 ?kB ?_ ?c2 ?c3 ?c4 ?c5
  case fp => intro q hq; cases hq
  case k6 => k_is
  case k7 => k_is
  case k8 => k_room
  case k9 => exact BindsTo.of_eq rfl
  case c5 => decide
  case kB => exact locs rfl
  case c2 => exact rfl
  case c3 => exact rfl
  case c4 => exact rfl
  intro g L' h' FG' F' N' B' X' T' hrest hl1 hl2
  have hk : ∀ b o, s.heap.get? b = some o → g.get? b = some o := fun b o e => hrest b o e (by simp)
  obtain ⟨tk, a, nm0, n, e1, e2, e3, e4⟩ := (hT.keep hk).is
  have hI : InstAt g x (instObj 94 d) 94 (some (dictOf (typeEs w.params tk a nm0 num0 par true od) n)) := ⟨e1, rfl, rfl, e2⟩
  have hlc' := IsList.keep hlc hk
  (try dsimp only)
  change wpAny _ _ _ _ _ _
  k_fold
  k_steps
  rename Fr h₀ L _ m => kF
  rename Fr g L' _ _ => F9
  have kp : ∀ b o, s.heap.get? b = some o → _ := fun b o e => F9.keep b o (hk b o e)
  exact post _ _ kp kF (news0 N kp)

local macro_rules | `(tactic| k_steps) => `(tactic| walk_at "S")
local macro_rules | `(tactic| walk_at "setAttr ref") => `(tactic| (k_here; (with_reducible rename PartOf _ _ _ _ => pO); k_dflt (refine' Mine.set_part ?F ?X ?N ?x pO ?U ?z ?a ?b ?c ?d ?_; (case F => k_asm); (case X => k_asm); (case N => k_asm); (case x => k_mem); (case U => k_updF); (case z => decide); (case a => k_is); (case b => k_is); (case c => k_is); (case d => k_is)); clear pO; intro h' o' k' F' N' p'; (try dsimp only at N'); k_sweep))
local macro_rules | `(tactic| walk_at "call ref") => `(tactic| ((first | (with_reducible show wpAny _ _ (call (Value.ref 117) _ _) _ _ _) | (with_reducible show wpAny _ _ (call (Value.ref 112) _ _) _ _ _) | (with_reducible show wpAny _ _ (call (Value.ref 94) _ _) _ _ _)); refine Mine.Stop.mk ?_))
/-- the derived type, as yet without a number -/
theorem derived_spec {w : World} {A₀ : Around} {s : Shared} {base h₀ : Heap} {outer : List Env} {env : Env} {L : Addr} {m : Str → Option Value} {news : List (Addr × Obj)}
  {p : Program} {loose : List Str} {mean : ExcName → Option Value} {mg mb : Str → Option Value} {R : Result → Shared → Prop}
  {x d od : Addr} {nm nm0 : Str} {num0 : Int} {par : Value} {t1 : Tok} {kvs : List (Str × Value)} {tk : TK} {a : AD} {n : Nat} :
  (hd.heap_1 w.params).In h₀ → Below A₀ base outer h₀ → Fr h₀ L s.heap m → News h₀ L s.heap news → Top p loose mean mg mb h₀ → env.frame = some L → env.scope.kind = .function →
  s.heap.get? x = some (instObj 94 d) → s.heap.get? d = some (dictOf (typeEs w.params tk a nm0 num0 par true od) n) → s.heap.DictOf (PySem.strKind Challenge.rw_pb0007_01.row.prog w) od kvs → (od == sysModules) = false → kvs.length ≤ 5 →
  (∀ h' tk x' d' od' oo tt a', (∀ b o, s.heap.get? b = some o → h'.get? b = some o) → Fr h₀ L h' m → News h₀ L h' [(x', instObj 94 d'), (d', dictOf (typeEs w.params tt a' nm 0 (.ref x) true od') 21), (od', oo)] →
     (@Ne Nat x' d') → (@Ne Nat od' d') → (@Ne Nat od' x') → oo.IsDictOf (PySem.strKind Challenge.rw_pb0007_01.row.prog w) kvs → (od' == sysModules) = false → s.heap.get? x' = none → s.heap.get? od' = none → s.heap.get? d' = none → a'.a12 = a.a12 →
     R (.ok (.ret (.ref x'))) { s with heap := h', toks := tk }) →
  codeAny (model Challenge.rw_pb0007_01.row.prog w) (at_ 570 3700 (env :: outer)) (.call (.ref 112) ⟨[.ref x, .str nm t1], []⟩) R s := by
  k_fill
  intro X B F N T hf hke q1 q2 hod hodm hkl post
  refine' enter_foot (fp := []) (binds := [(Str.ofString "parent", .ref x), (Str.ofString "name", .str nm t1)]) B F X N T rfl hf hke ?fp ?k6 ?k7 ?k8 ?k9 ?kB ?_ ?c2 ?c3 ?c4 ?c5
  case fp => intro q hq; cases hq
  case k6 => k_is
  case k7 => k_is
  case k8 => k_room
  case k9 => exact BindsTo.of_eq rfl
  case c5 => decide
  case kB => exact locs rfl
  case c2 => exact rfl
  case c3 => exact rfl
  case c4 => exact rfl
  intro g L' h' FG' F' N' B' X' T' hrest hl1 hl2
  have hk : ∀ b o, s.heap.get? b = some o → g.get? b = some o := fun b o e => hrest b o e (by simp)
  have e1 := hk _ _ q1
  have e2 := hk _ _ q2
  have hI : InstAt g x (instObj 94 d) 94 (some (dictOf (typeEs w.params tk a nm0 num0 par true od) n)) := ⟨e1, rfl, rfl, e2⟩
  have hod' := DictOf.keep hod hk
  (try dsimp only)
  change wpAny _ _ _ _ _ _
  k_fold
  k_steps
  refine Stop.go ?_
  refine' call_cls (fI := 91) ?k1 ?k2 ?k3 ?k4 ?k5 ?k6 ?_
  case k1 => k_asm
  case k2 => k_asm
  case k3 => k_asm
  case k4 => k_is
  case k5 => k_is
  case k6 => k_is
  intro x1 d1 h1 F1 N1 l1 l2
  refine codeAny_le (init_spec X' B' F1 N1 T' rfl rfl (.head _) (.tail _ (.head _)) (Nat.ne_of_gt l2) ?_) rfl (Nat.le_of_ble_eq_true rfl) rfl rfl (Nat.le_of_ble_eq_true rfl)
  clear F1 N1 l1
  intro h2 tk2 o2 od2 oo2 v2 v7 a6 a8 a9 a12 a13 k2 F2 N2' p2 fr2 _ _
  have N2 := take2 N2'
  clear k2 N2' fr2
  have hne : @Ne Nat x1 d1 := Nat.ne_of_gt l2
  refine ⟨rfl, ?_⟩
  (try dsimp only)
  k_steps
  refine Stop.go ?_
  rename Fr g L' _ _ => F9
  rename News g L' _ _ => N9
  refine' dict_copyB (knd := PySem.strKind _ _) F9 N9 (modules_low (Top.nolimit T')) hod' hodm ?zz ?_
  case zz => rw [sizeLine_eq]; omega
  clear F9 N9
  intro d9 h9 o9 F9 N9 hd9 l1 lo9
  k_lt l1
  (try dsimp only)
  k_steps
  rename PartOf _ _ _ _ => p9
  obtain ⟨tt, ho⟩ := part_type (part_derived p9)
  clear p9
  subst ho
  rename Fr h₀ L _ m => kF
  rename News h₀ L _ _ => kN
  rename Fr g L' _ _ => F9
  rename News g L' _ _ => N9
  have kp : ∀ b o, s.heap.get? b = some o → _ := fun b o e => F9.keep b o (hk b o e)
  rename (_ ∧ _) => l9
  obtain ⟨l8, l7⟩ := l9
  refine' post _ _ _ _ _ _ tt _ kp kF ?news hne (Nat.ne_of_gt l7) (Nat.ne_of_gt l8) ?oo ?lo ?f1 ?f2 ?f3 ?l
  case news => refine' newsOf3 kN ?_ ?_ ?_ <;> k_mem
  case oo => assumption
  case lo => assumption
  case f1 => exact none_of hk (N9.fresh (by k_mem))
  case f2 => exact none_of hk (N9.fresh (by k_mem))
  case f3 => exact none_of hk (N9.fresh (by k_mem))
  case l => rfl


theorem extend_spec {w : World} {A₀ : Around} {s : Shared} {base h₀ : Heap} {outer : List Env} {env : Env} {L : Addr} {m : Str → Option Value} {news : List (Addr × Obj)}
  {p : Program} {loose : List Str} {mean : ExcName → Option Value} {mg mb : Str → Option Value} {R : Result → Shared → Prop}
  {h1 : Heap} {x d od lc : Addr} {nm : Str} {num0 num line : Int} {par : Value} {t1 t2 t3 : Tok} {kvs : List (Str × Value)} :
  (hd.heap_1 w.params).In h₀ → Below A₀ base outer h₀ → Fr h₀ L s.heap m → News h₀ L s.heap news → Top p loose mean mg mb h₀ → env.frame = some L → env.scope.kind = .function →
  TypeAt w h1 x d num0 par true od → (∀ b o, h1.get? b = some o → s.heap.get? b = some o) → s.heap.DictOf (PySem.strKind Challenge.rw_pb0007_01.row.prog w) od kvs → (od == sysModules) = false → kvs.length ≤ 5 → s.heap.IsList lc (List.toArray []) →
  (∀ h' tk x' d' od' oo tt a n e, (∀ b o, s.heap.get? b = some o → h'.get? b = some o) → Fr h₀ L h' m →
     News h₀ L h' [(x', instObj 94 d'), (d', dictOf (typeEs w.params tt a nm num (.ref x) true od') n), (od', oo), (a.a13, listOf #[] e)] → s.heap.get? x' = none → s.heap.get? d' = none → s.heap.get? od' = none → s.heap.get? a.a13 = none →
     (@Ne Nat od' x') → (@Ne Nat od' d') → (@Ne Nat od' a.a13) → oo.IsDictOf (PySem.strKind Challenge.rw_pb0007_01.row.prog w) kvs → (od' == sysModules) = false → h1.IsList a.a12 (List.toArray []) → R (.ok (.ret (.ref x'))) { s with heap := h', toks := tk }) →
  codeAny (model Challenge.rw_pb0007_01.row.prog w) (at_ 550 3500 (env :: outer)) (.call (.ref 124) ⟨[.ref x, .str nm t1, .int num t2, .ref lc, .int line t3], []⟩) R s := by
  k_fill
  intro X B F N T hf hke hT hs1 hod hodm hkl hlc post
  refine' enter_foot (fp := []) (binds := [(Str.ofString "parent", .ref x), (Str.ofString "name", .str nm t1), (Str.ofString "number", .int num t2), (Str.ofString "components", .ref lc), (Str.ofString "line", .int line t3)]) B F X N T rfl hf hke ?fp ?k6 ?k7 ?k8 ?k9 ?kB ?_ ?c2 ?c3 ?c4 ?c5
  case fp => intro q hq; cases hq
  case k6 => k_is
  case k7 => k_is
  case k8 => k_room
  case k9 => exact BindsTo.of_eq rfl
  case c5 => decide
  case kB => exact locs rfl
  case c2 => exact rfl
  case c3 => exact rfl
  case c4 => exact rfl
  intro g L' h' FG' F' N' B' X' T' hrest hl1 hl2
  have hk : ∀ b o, s.heap.get? b = some o → g.get? b = some o := fun b o e => hrest b o e (by simp)
  obtain ⟨tk, a, nm0, n, q1, q2, q3, q4⟩ := hT.is
  have hk1 : ∀ b o, h1.get? b = some o → g.get? b = some o := fun b o e => hk b o (hs1 b o e)
  have e1 := hk1 _ _ q1
  have e2 := hk1 _ _ q2
  have e3 := IsList.keep q3 hk1
  have e4 := IsList.keep q4 hk1
  have hI : InstAt g x (instObj 94 d) 94 (some (dictOf (typeEs w.params tk a nm0 num0 par true od) n)) := ⟨e1, rfl, rfl, e2⟩
  have hod' := DictOf.keep hod hk
  have hlc' := IsList.keep hlc hk
  (try dsimp only)
  change wpAny _ _ _ _ _ _
  k_fold
  k_steps
  refine Stop.go ?_
  rename Fr g L' _ _ => F9
  rename News g L' _ _ => N9
  have k9 : ∀ b o, s.heap.get? b = some o → _ := fun b o e => F9.keep b o (hk b o e)
  refine wpAny_call (codeAny_le (checknew_spec X' B' F9 N9 T' rfl rfl (hT.keep fun b o e => k9 b o (hs1 b o e)) (IsList.keep hlc k9) ?_) rfl (Nat.le_of_ble_eq_true rfl) rfl rfl (Nat.le_of_ble_eq_true rfl))
  intro h2 tk2 k2 F2 N2
  (try dsimp only)
  k_steps
  refine Stop.go ?_
  rename Fr g L' _ _ => F9'
  rename News g L' _ _ => N9'
  have k9' : ∀ b o, s.heap.get? b = some o → _ := fun b o e => F9'.keep b o (hk b o e)
  refine wpAny_call (codeAny_le (derived_spec X' B' F9' N9' T' rfl rfl (F9'.keep _ _ e1) (F9'.keep _ _ e2) (DictOf.keep hod k9') hodm hkl ?_) rfl (Nat.le_of_ble_eq_true rfl) rfl rfl (Nat.le_of_ble_eq_true rfl))
  intro h3 tk3 x' d' od' oo tt a' k3 F3 N3 n1 n2 n3 hoo lo' f1 f2 f3 hl3
  (try dsimp only)
  k_steps
  rename Fr h₀ L _ m => kF
  rename News h₀ L _ _ => kN
  rename Fr g L' _ _ => F9'
  rename News g L' _ _ => N9'
  have kp : ∀ b o, s.heap.get? b = some o → _ := fun b o e => F9'.keep b o (hk b o e)
  refine' post _ _ _ _ _ _ { tt with v2 := t2 } ⟨a'.a6, a'.a8, a'.a9, a'.a12, _⟩ _ _ kp kF ?news ?f1 ?f2 ?f3 ?f4 ?n1 ?n2 ?n3 ?oo lo' ?l12
  case news => refine' newsOf4 kN ?_ ?_ ?_ ?l13; (case l13 => k_mem); all_goals k_mem
  case f1 => exact none_of hk (N9'.fresh (by k_mem))
  case f2 => exact none_of hk (N9'.fresh (a := d') (by k_mem))
  case f3 => exact none_of hk (N9'.fresh (a := od') (by k_mem))
  case f4 => exact none_of hk (N9'.fresh (by k_mem))
  case n1 => k_ne
  case n2 => k_ne
  case n3 => k_ne
  case oo => exact hoo
  case l12 => show Heap.IsList _ a'.a12 _; rw [hl3]; exact q3
end
section
theorem walk_off_L1 : True := by
  w_top off
  trivial
set_option maxHeartbeats 1000000
section
variable {w : World} {A : Around} {E : Value → Shared → Prop} {s : Shared} {h₀ : Heap} {L : Addr} {m : Str → Option Value} {news : List (Addr × Obj)} {prog : Program} {K : Type} [DecidableEq K] {knd : KeyKind prog w K} {d : Addr} {kvs : List (K × Value)} {k : K} {key v : Value} 
theorem in_dictB {Q : Value → Shared → Prop} (F : Fr h₀ L s.heap m) (hD : h₀.DictOf knd d kvs) (lo : (d == sysModules) = false) (hkey : knd.is k key = true) (h : Q (.bool (valueAt kvs k).isSome) { s with toks := s.toks + 1 }) :
    wpAny (model prog w) A (compareOp .In key (.ref d)) Q E s := wpAny_in_of hkey lo (DictOf.keep hD F.keep).mapOf h
end

local macro_rules | `(tactic| k_inst) => `(tactic| exact Mine.instB (by k_asm) (by with_reducible assumption))
local macro_rules | `(tactic| walk_at "compareOp In str ref") => `(tactic| (k_here; k_dflt (refine' Mine.in_dictB (knd := PySem.strKind _ _) ?F ?D ?l (strKind_is _ _ _ _) ?_; (case F => k_asm); (case D => with_reducible assumption); (case l => with_reducible assumption); k_whole)))
local macro_rules | `(tactic| walk_at "setItem ref str") => `(tactic| (refine Mine.Stop.mk ?_))

/-- the parent of a type, on the heap -/
def ParAt (w : World) (h : Heap) (par : Value) : Option (List (Str × Value)) → Prop
  | none => par = .none
  | some kp => ∃ xp dp odp num pp tg, par = .ref xp ∧ TypeAt w h xp dp num pp tg odp ∧ h.DictOf (PySem.strKind Challenge.rw_pb0007_01.row.prog w) odp kp ∧ (odp == sysModules) = false
theorem ParAt.keep {w : World} {h h' : Heap} (k : ∀ b o, h.get? b = some o → h'.get? b = some o) {par : Value} : ∀ {kp : Option (List (Str × Value))}, ParAt w h par kp → ParAt w h' par kp
  | none, e => e
  | some _, ⟨xp, dp, odp, num, pp, tg, e, t, d, l⟩ => ⟨xp, dp, odp, num, pp, tg, e, t.keep k, DictOf.keep d k, l⟩

def overBy (kp : Option (List (Str × Value))) (key : Str) : Bool := match kp with
  | none => false
  | some k => (valueAt k key).isSome

theorem lay_spec {w : World} {A₀ : Around} {s : Shared} {base h₀ : Heap} {outer : List Env} {env : Env} {L : Addr} {m : Str → Option Value} {news : List (Addr × Obj)}
  {p : Program} {loose : List Str} {mean : ExcName → Option Value} {mg mb : Str → Option Value} {R : Result → Shared → Prop}
  {x d od : Addr} {oo : Obj} {key nm : Str} {num : Int} {par : Value} {t1 t2 : Tok} {tg : Bool} {kvs : List (Str × Value)} {kp : Option (List (Str × Value))} {h1 : Heap} :
  (hd.heap_1 w.params).In h₀ → Below A₀ base outer h₀ → Fr h₀ L s.heap m → News h₀ L s.heap news → Top p loose mean mg mb h₀ → env.frame = some L → env.scope.kind = .function →
  (od, oo) ∈ news → oo.IsDictOf (PySem.strKind Challenge.rw_pb0007_01.row.prog w) kvs → kvs.length ≤ 5 →
  TypeAt w h1 x d num par tg od → ParAt w h1 par kp → (∀ b o, h1.get? b = some o → s.heap.get? b = some o ∧ b ≠ od) →
  (∀ h' tk oo', (∀ b o, s.heap.get? b = some o → b ≠ od → h'.get? b = some o) → Fr h₀ L h' m → h'.get? od = some oo' → oo'.IsDictOf (PySem.strKind Challenge.rw_pb0007_01.row.prog w) (stored kvs key (.str nm t2)) →
     R (.ok (.ret (.bool (overBy kp key)))) { s with heap := h', toks := tk }) →
  codeAny (model Challenge.rw_pb0007_01.row.prog w) (at_ 600 4000 (env :: outer)) (.call (.ref 131) ⟨[.ref x, .str key t1, .str nm t2], []⟩) R s := by
  k_fill
  intro X B F N T hf hke hmem hoo hkl hT hP hsub post
  refine' enter_foot (fp := [(od, oo)]) (binds := [(Str.ofString "kind", .ref x), (Str.ofString "key", .str key t1), (Str.ofString "subprogram", .str nm t2)]) B F X N T rfl hf hke ?fp ?k6 ?k7 ?k8 ?k9 ?kB ?_ ?c2 ?c3 ?c4 ?c5
  case fp => intro q hq; rcases List.mem_singleton.mp hq with rfl; exact hmem
  case k6 => k_is
  case k7 => k_is
  case k8 => k_room
  case k9 => exact BindsTo.of_eq rfl
  case c5 => decide
  case kB => exact locs rfl
  case c2 => exact rfl
  case c3 => exact rfl
  case c4 => exact rfl
  intro g L' h' FG' F' N' B' X' T' hrest hl1 hl2
  have hk : ∀ b o, h1.get? b = some o → g.get? b = some o := fun b o e => hrest b o (hsub b o e).1 (by
    simp only [List.map_cons, List.map_nil, List.mem_cons, List.not_mem_nil, or_false]; exact (hsub b o e).2)
  obtain ⟨tk, a, nm0, n, q1, q2, q3, q4⟩ := (hT.keep hk).is
  have hP' := hP.keep hk
  have hI : InstAt g x (instObj 94 d) 94 (some (dictOf (typeEs w.params tk a nm0 num par tg od) n)) := ⟨q1, rfl, rfl, q2⟩
  (try dsimp only)
  change wpAny _ _ _ _ _ _
  k_fold
  cases kp with
  | none =>
    cases hP'
    k_steps
    refine Stop.go ?_
    rename Fr g L' _ _ => F9
    rename News g L' _ _ => N9
    refine' kda_set (knd := PySem.strKind _ _) F9 N9 ?U1 hoo (strKind_is _ _ _ _) ?z1 ?_
    case U1 => k_updF
    case z1 => rw [sizeLine_eq]; omega
    clear F9 N9
    intro h9 o9 F9 N9 hd9
    (try dsimp only at N9)
    k_steps
    rename Fr h₀ L _ m => kF
    rename Fr g L' _ _ => F9
    rename News g L' _ _ => N9
    refine post _ _ _ (fun b o e n => F9.keep b o (hrest b o e (by
      simp only [List.map_cons, List.map_nil, List.mem_cons, List.not_mem_nil, or_false]; exact n))) kF (News.get N9 (by k_mem)) (by assumption)
  | some kp =>
    obtain ⟨xp, dp, odp, nump, pp, tgp, rfl, hTp, hDp, hlp⟩ := hP'
    obtain ⟨tkp, ap, nmp, np, r1, r2, r3, r4⟩ := hTp.is
    have hIp : InstAt g xp (instObj 94 dp) 94 (some (dictOf (typeEs w.params tkp ap nmp nump pp tgp odp) np)) := ⟨r1, rfl, rfl, r2⟩
    k_steps
    refine Stop.go ?_
    rename Fr g L' _ _ => F9
    rename News g L' _ _ => N9
    refine' kda_set (knd := PySem.strKind _ _) F9 N9 ?U2 hoo (strKind_is _ _ _ _) ?z2 ?_
    case U2 => k_updF
    case z2 => rw [sizeLine_eq]; omega
    clear F9 N9
    intro h9 o9 F9 N9 hd9
    (try dsimp only at N9)
    k_steps
    rename Fr h₀ L _ m => kF
    rename Fr g L' _ _ => F9
    rename News g L' _ _ => N9
    refine post _ _ _ (fun b o e n => F9.keep b o (hrest b o e (by
      simp only [List.map_cons, List.map_nil, List.mem_cons, List.not_mem_nil, or_false]; exact n))) kF (News.get N9 (by k_mem)) (by assumption)
end
section
set_option maxHeartbeats 1000000
def lawKeys : List Str := [Str.ofString "draw", Str.ofString "area", Str.ofString "=", Str.ofString "clone", Str.ofString "move"]
def look (kv : List (Str × Str)) (k : Str) : Option Str := (kv.find? fun q => decide (q.1 = k)).map (·.2)
def putS (kv : List (Str × Str)) (k nm : Str) : List (Str × Str) := if kv.any (fun q => decide (q.1 = k)) then kv.map (fun q => if q.1 = k then (q.1, nm) else q) else kv ++ [(k, nm)]
def pname (mo : Int) : Str := ⟨#[112, (97 + mo).toNat]⟩

structure Good (made : List (Int × Int)) (laid : List Row) (ops : List (List (Str × Str))) (b : Int) : Prop where
  len : made.length = ops.length
  pos : 1 ≤ made.length
  le7 : made.length ≤ 7
  root : made[0]? = some (-1, 0)
  par : ∀ (j : Nat) p mo, made[j]? = some (p, mo) → p < (j : Int) ∧ -1 ≤ p ∧ mo ≤ b
  parpos : ∀ (j : Nat) p mo, made[j]? = some (p, mo) → 1 ≤ j → 0 ≤ p
  rows : ∀ r ∈ laid, 0 ≤ r.1 ∧ r.1 < b ∧ 0 ≤ r.2.1 ∧ r.2.1 < made.length ∧ r.2.2.1 ∈ lawKeys ∧ (r.2.2.2 = Str.empty ∨ r.2.2.2 = pname r.1)
  sorted : laid.Pairwise (fun x y => x.1 < y.1)
  nlaid : (laid.length : Int) ≤ b
  froz : ∀ (j : Nat) p mo, made[j]? = some (p, mo) → 0 ≤ p → ∀ r ∈ laid, r.2.1 = p → r.1 < mo
  fnd : ∀ (i : Nat) kv k, ops[i]? = some kv → look kv k = (found made laid 8 i k 99).map (·.1)
  keys : ∀ (i : Nat) kv, ops[i]? = some kv → (∀ q ∈ kv, q.1 ∈ lawKeys) ∧ (kv.map (·.1)).Nodup
  bb : 0 ≤ b ∧ b ≤ 16

theorem ownRows_congr {l l' : List Row} {i b b' : Int} {k : Str} (h : l.filter (fun r => decide (r.2.1 = i) && decide (r.2.2.1 = k) && decide (r.1 < b)) = l'.filter (fun r => decide (r.2.1 = i) && decide (r.2.2.1 = k) && decide (r.1 < b'))) : ownRows l i k b = ownRows l' i k b' := h

theorem ownRows_bound {l : List Row} {i b b' : Int} {k : Str} (h : ∀ r ∈ l, r.2.1 = i → (r.1 < b ↔ r.1 < b')) : ownRows l i k b = ownRows l i k b' := by
  unfold ownRows
  refine List.filter_congr fun r hr => ?_
  by_cases hi : r.2.1 = i
  · have := h r hr hi
    simp only [hi, this]
  · simp [hi]

/-- fuel does not matter where it suffices -/
theorem found_fuel {made : List (Int × Int)} {laid : List Row} (hpar : ∀ (j : Nat) p mo, made[j]? = some (p, mo) → p < (j : Int)) {k : Str} :
    ∀ (n n' : Nat) (i : Nat) (b : Int), i < n → i < n' → found made laid n i k b = found made laid n' i k b
  | 0, _, _, _, h, _ => absurd h (Nat.not_lt_zero _)
  | _ + 1, 0, _, _, _, h => absurd h (Nat.not_lt_zero _)
  | n + 1, n' + 1, i, b, h, h' => by
    unfold found
    cases (ownRows laid i k b).getLast? with
    | some r => rfl
    | none =>
      simp only [Int.toNat_natCast]
      cases hm : made[i]? with
      | none => rfl
      | some q =>
        obtain ⟨p, mo⟩ := q
        have hp := hpar i p mo hm
        simp only
        by_cases hz : p < 0
        · simp only [hz, if_true]
        · simp only [hz, if_false]
          have e : p = ((p.toNat : Nat) : Int) := by omega
          rw [e]
          exact found_fuel hpar n n' p.toNat mo (by omega) (by omega)

/-- more made types, the same search -/
theorem found_made {made : List (Int × Int)} {laid : List Row} (q : Int × Int) (hpar : ∀ (j : Nat) p mo, made[j]? = some (p, mo) → p < (j : Int)) {k : Str} :
    ∀ (n : Nat) (i : Nat) (b : Int), i < made.length → found (made ++ [q]) laid n i k b = found made laid n i k b
  | 0, _, _, _ => rfl
  | n + 1, i, b, h => by
    unfold found
    cases (ownRows laid i k b).getLast? with
    | some r => rfl
    | none =>
      simp only [Int.toNat_natCast]
      rw [List.getElem?_append_left h]
      cases hm : made[i]? with
      | none => rfl
      | some q' =>
        obtain ⟨p, mo⟩ := q'
        have hp := hpar i p mo hm
        simp only
        by_cases hz : p < 0
        · simp only [hz, if_true]
        · simp only [hz, if_false]
          have e : p = ((p.toNat : Nat) : Int) := by omega
          rw [e]
          exact found_made q hpar n p.toNat mo (by omega)

/-- a row laid on a type that has no children is not seen from elsewhere -/
theorem found_laid {made : List (Int × Int)} {laid : List Row} {r : Row} (hno : ∀ (j : Nat) p mo, made[j]? = some (p, mo) → p ≠ r.2.1) {k : Str} :
    ∀ (n : Nat) (i : Int) (b : Int), i ≠ r.2.1 → found made (laid ++ [r]) n i k b = found made laid n i k b
  | 0, _, _, _ => rfl
  | n + 1, i, b, h => by
    unfold found
    have e : ownRows (laid ++ [r]) i k b = ownRows laid i k b := by
      unfold ownRows
      rw [List.filter_append]
      have : decide (r.2.1 = i) = false := decide_eq_false fun z => h z.symm
      simp [this]
    rw [e]
    cases (ownRows laid i k b).getLast? with
    | some r => rfl
    | none =>
      simp only
      cases hm : made[i.toNat]? with
      | none => rfl
      | some q =>
        obtain ⟨p, mo⟩ := q
        simp only
        by_cases hz : p < 0
        · simp only [hz, if_true]
        · simp only [hz, if_false]
          exact found_laid hno n p mo (hno _ p mo hm)

theorem found_frozen {made : List (Int × Int)} {laid : List Row} {p b b' : Int} {k : Str} (n : Nat) (h : ∀ r ∈ laid, r.2.1 = p → r.1 < b ∧ r.1 < b') : found made laid n p k b = found made laid n p k b' := by
  cases n with
  | zero => rfl
  | succ n =>
    unfold found
    rw [ownRows_bound (b := b) (b' := b') fun r hr hi => ⟨fun _ => (h r hr hi).2, fun _ => (h r hr hi).1⟩]

theorem Good.hpar {made laid ops b} (G : Good made laid ops b) : ∀ (j : Nat) p mo, made[j]? = some (p, mo) → p < (j : Int) := fun j p mo h => (G.par j p mo h).1

theorem look_put_self (kv : List (Str × Str)) (k nm : Str) : look (putS kv k nm) k = some nm := by
  unfold look putS
  split
  · rename_i h
    obtain ⟨q, hq, hk⟩ := List.any_eq_true.mp h
    induction kv with
    | nil => cases hq
    | cons a r ih =>
      rw [List.map_cons, List.find?_cons]
      by_cases ha : a.1 = k
      · simp [ha]
      · simp only [ha, if_false, decide_false]
        rcases List.mem_cons.mp hq with rfl | hq
        · exact absurd (of_decide_eq_true hk) ha
        · exact ih (List.any_eq_true.mpr ⟨q, hq, hk⟩) hq
  · rename_i h
    rw [List.find?_append]
    have : kv.find? (fun q => decide (q.1 = k)) = none := by
      rw [List.find?_eq_none]
      intro q hq hk
      exact h (List.any_eq_true.mpr ⟨q, hq, hk⟩)
    rw [this]
    simp
theorem look_put_ne (kv : List (Str × Str)) {k k' : Str} (nm : Str) (hk : k' ≠ k) : look (putS kv k nm) k' = look kv k' := by
  unfold look putS
  split
  · rename_i h
    clear h
    induction kv with
    | nil => rfl
    | cons a r ih =>
      rw [List.map_cons, List.find?_cons, List.find?_cons]
      by_cases ha : a.1 = k
      · simp only [ha, if_true]
        have : ¬ k = k' := fun e => hk e.symm
        simp only [this, decide_false]
        exact ih
      · simp only [ha, if_false]
        cases decide (a.1 = k') with
        | true => rfl
        | false => exact ih
  · rw [List.find?_append]
    have : ¬ k = k' := fun e => hk e.symm
    cases kv.find? (fun q => decide (q.1 = k')) <;> simp [this]
theorem put_keys (kv : List (Str × Str)) (k nm : Str) (P : Str → Prop) (h : ∀ q ∈ kv, P q.1) (hk : P k) : ∀ q ∈ putS kv k nm, P q.1 := by
  unfold putS
  split
  · intro q hq
    obtain ⟨z, hz, rfl⟩ := List.mem_map.mp hq
    have := h z hz
    split <;> exact this
  · intro q hq
    rcases List.mem_append.mp hq with hq | hq
    · exact h q hq
    · rw [List.mem_singleton.mp hq]; exact hk
theorem put_nodup (kv : List (Str × Str)) (k nm : Str) (h : (kv.map (·.1)).Nodup) : ((putS kv k nm).map (·.1)).Nodup := by
  unfold putS
  split
  · have : (kv.map fun q => if q.1 = k then (q.1, nm) else q).map (·.1) = kv.map (·.1) := by
      rw [List.map_map]
      refine List.map_congr_left fun q _ => ?_
      simp only [Function.comp]
      split <;> rfl
    rw [this]; exact h
  · rename_i hn
    rw [List.map_append, List.nodup_append]
    refine ⟨h, by simp, ?_⟩
    intro x hx y hy
    simp only [List.map_cons, List.map_nil, List.mem_singleton] at hy
    subst hy
    intro e
    subst e
    obtain ⟨q, hq, e⟩ := List.mem_map.mp hx
    exact hn (List.any_eq_true.mpr ⟨q, hq, decide_eq_true e⟩)

theorem Good.skip {made laid ops b} (G : Good made laid ops b) (hb : b ≤ 15) : Good made laid ops (b + 1) :=
  ⟨G.len, G.pos, G.le7, G.root, fun j p mo h => let ⟨a, c, d⟩ := G.par j p mo h; ⟨a, c, by omega⟩, G.parpos, fun r hr => let ⟨a, c, d⟩ := G.rows r hr; ⟨a, by omega, d⟩, G.sorted, by have := G.nlaid; omega, G.froz, G.fnd, G.keys, by have := G.bb; omega⟩

theorem Good.extend {made laid ops b} (G : Good made laid ops b) (hb : b ≤ 15) {p : Nat} {kv : List (Str × Str)} (hp : ops[p]? = some kv) (h7 : made.length < 7) : Good (made ++ [((p : Int), b)]) laid (ops ++ [kv]) (b + 1) := by
  have hpl : p < ops.length := (List.getElem?_eq_some_iff.mp hp).1
  have hlen := G.len
  have hpm : p < made.length := by omega
  have hnew : ∀ (j : Nat) q mo, (made ++ [((p : Int), b)])[j]? = some (q, mo) → (made[j]? = some (q, mo) ∧ j < made.length) ∨ (j = made.length ∧ q = p ∧ mo = b) := by
    intro j q mo h
    rcases Nat.lt_or_ge j made.length with hj | hj
    · rw [List.getElem?_append_left hj] at h; exact .inl ⟨h, hj⟩
    · rw [List.getElem?_append_right hj] at h
      have : j - made.length = 0 := by
        rcases Nat.eq_zero_or_pos (j - made.length) with z | z
        · exact z
        · rw [List.getElem?_eq_none (by simp; omega)] at h; cases h
      rw [this] at h
      simp at h
      exact .inr ⟨by omega, h.1.symm, h.2.symm⟩
  refine ⟨by simp [G.len], by simp, by simp; omega, ?_, ?_, ?_, ?_, G.sorted, by have := G.nlaid; omega, ?_, ?_, ?_, by have := G.bb; omega⟩
  · rw [List.getElem?_append_left (by have := G.pos; omega)]; exact G.root
  · intro j q mo h
    rcases hnew j q mo h with ⟨h, _⟩ | ⟨rfl, rfl, rfl⟩
    · obtain ⟨a, c, d⟩ := G.par j q mo h; exact ⟨a, c, by omega⟩
    · exact ⟨by omega, by omega, by omega⟩
  · intro j q mo h h1
    rcases hnew j q mo h with ⟨h, _⟩ | ⟨rfl, rfl, rfl⟩
    · exact G.parpos j q mo h h1
    · omega
  · intro r hr
    obtain ⟨a, c, d, e, f⟩ := G.rows r hr
    exact ⟨a, by omega, d, by simp; omega, f⟩
  · intro j q mo h h0 r hr hi
    rcases hnew j q mo h with ⟨h, _⟩ | ⟨rfl, rfl, rfl⟩
    · exact G.froz j q mo h h0 r hr hi
    · exact (G.rows r hr).2.1
  · intro i kv' k h
    rcases Nat.lt_or_ge i ops.length with hj | hj
    · rw [List.getElem?_append_left hj] at h
      rw [found_made _ G.hpar 8 i 99 (by omega)]
      exact G.fnd i kv' k h
    · rw [List.getElem?_append_right hj] at h
      have hz : i - ops.length = 0 := by
        rcases Nat.eq_zero_or_pos (i - ops.length) with z | z
        · exact z
        · rw [List.getElem?_eq_none (by simp; omega)] at h; cases h
      rw [hz] at h
      simp at h
      subst h
      have hi : i = made.length := by omega
      rw [G.fnd p kv k hp]
      have e : found (made ++ [((p : Int), b)]) laid 8 i k 99 = found (made ++ [((p : Int), b)]) laid 7 p k b := by
        rw [show (8 : Nat) = 7 + 1 from rfl]
        conv => lhs; unfold found
        have ho : ownRows laid i k 99 = [] := by
          unfold ownRows
          rw [List.filter_eq_nil_iff]
          intro r hr
          have := G.rows r hr
          have : ¬ r.2.1 = (i : Int) := by omega
          simp [this]
        rw [ho]
        simp only [List.getLast?_nil, Int.toNat_natCast]
        rw [hi, List.getElem?_append_right (Nat.le_refl _)]
        simp only [Nat.sub_self, List.getElem?_cons_zero]
        have : ¬ ((p : Int) < 0) := by omega
        simp only [this, if_false]
      rw [e, found_made _ G.hpar 7 p b hpm, found_fuel G.hpar 7 8 p b (by have := G.le7; omega) (by have := G.le7; omega)]
      rw [found_frozen 8 (b := b) (b' := 99)]
      intro r hr _
      have := G.rows r hr
      exact ⟨this.2.1, by omega⟩
  · intro i kv' h
    rcases Nat.lt_or_ge i ops.length with hj | hj
    · rw [List.getElem?_append_left hj] at h; exact G.keys i kv' h
    · rw [List.getElem?_append_right hj] at h
      have hz : i - ops.length = 0 := by
        rcases Nat.eq_zero_or_pos (i - ops.length) with z | z
        · exact z
        · rw [List.getElem?_eq_none (by simp; omega)] at h; cases h
      rw [hz] at h
      simp at h
      subst h
      exact G.keys p kv hp

theorem Good.lay {made laid ops b} (G : Good made laid ops b) (hb : b ≤ 15) {i : Nat} {kv : List (Str × Str)} (hi : ops[i]? = some kv) (hno : ∀ (j : Nat) p mo, made[j]? = some (p, mo) → p ≠ (i : Int)) {key nm : Str} (hk : key ∈ lawKeys)
    (hnm : nm = Str.empty ∨ nm = pname b) : Good made (laid ++ [(b, (i : Int), key, nm)]) (ops.set i (putS kv key nm)) (b + 1) := by
  have hil : i < ops.length := (List.getElem?_eq_some_iff.mp hi).1
  have hlen := G.len
  have hset : ∀ (j : Nat) kv', (ops.set i (putS kv key nm))[j]? = some kv' → (j = i ∧ kv' = putS kv key nm) ∨ (j ≠ i ∧ ops[j]? = some kv') := by
    intro j kv' h
    by_cases e : i = j
    · subst e
      rw [List.getElem?_set_self hil] at h
      exact .inl ⟨rfl, (Option.some.inj h).symm⟩
    · rw [List.getElem?_set_ne e] at h
      exact .inr ⟨Ne.symm e, h⟩
  refine ⟨by simp [G.len], G.pos, G.le7, G.root, fun j p mo h => let ⟨a, c, d⟩ := G.par j p mo h; ⟨a, c, by omega⟩, G.parpos, ?_, ?_, by have := G.nlaid; simp; omega, ?_, ?_, ?_, by have := G.bb; omega⟩
  · intro r hr
    rcases List.mem_append.mp hr with hr | hr
    · obtain ⟨a, c, d⟩ := G.rows r hr; exact ⟨a, by omega, d⟩
    · rw [List.mem_singleton.mp hr]
      exact ⟨G.bb.1, by simp only; omega, by simp only; omega, by simp only; omega, hk, hnm⟩
  · rw [List.pairwise_append]
    refine ⟨G.sorted, by simp, ?_⟩
    intro x hx y hy
    rw [List.mem_singleton.mp hy]
    exact (G.rows x hx).2.1
  · intro j p mo h h0 r hr hp
    rcases List.mem_append.mp hr with hr | hr
    · exact G.froz j p mo h h0 r hr hp
    · rw [List.mem_singleton.mp hr] at hp
      exact absurd hp.symm (hno j p mo h)
  · intro j kv' k h
    rcases hset j kv' h with ⟨rfl, rfl⟩ | ⟨hne, h⟩
    · by_cases hkk : k = key
      · subst hkk
        rw [look_put_self]
        rw [show (8 : Nat) = 7 + 1 from rfl]
        unfold found
        have : ownRows (laid ++ [(b, (j : Int), k, nm)]) j k 99 = ownRows laid j k 99 ++ [(b, (j : Int), k, nm)] := by
          unfold ownRows
          rw [List.filter_append]
          have : b < 99 := by omega
          simp [this]
        rw [this, List.getLast?_append]
        simp
      · rw [look_put_ne _ _ hkk, G.fnd j kv k hi]
        rw [show (8 : Nat) = 7 + 1 from rfl]
        have e : ownRows (laid ++ [(b, (j : Int), key, nm)]) j k 99 = ownRows laid j k 99 := by
          unfold ownRows
          rw [List.filter_append]
          have : ¬ key = k := fun e => hkk e.symm
          simp [this]
        unfold found
        rw [e]
        cases (ownRows laid j k 99).getLast? with
        | some r => rfl
        | none =>
          simp only [Int.toNat_natCast]
          cases hm : made[j]? with
          | none => rfl
          | some q =>
            obtain ⟨p, mo⟩ := q
            simp only
            by_cases hz : p < 0
            · simp only [hz, if_true]
            · simp only [hz, if_false]
              rw [found_laid (r := (b, (j : Int), key, nm)) hno 7 p mo (hno j p mo hm)]
    · rw [G.fnd j kv' k h, found_laid (r := (b, (i : Int), key, nm)) hno 8 j 99 (by simp only; omega)]
  · intro j kv' h
    rcases hset j kv' h with ⟨rfl, rfl⟩ | ⟨hne, h⟩
    · obtain ⟨a, c⟩ := G.keys j kv hi
      exact ⟨put_keys kv key nm _ a hk, put_nodup kv key nm c⟩
    · exact G.keys j kv' h

/-- what lay_operation says is what the search says -/
theorem Good.over {made laid ops b} (G : Good made laid ops b) {i : Nat} {p mo : Int} (hm : made[i]? = some (p, mo)) (hp : 0 ≤ p) {kvp : List (Str × Str)} (hk : ops[p.toNat]? = some kvp) (key : Str) : (look kvp key).isSome = (found made laid 8 p key mo).isSome := by
  have hpi := G.hpar _ _ _ hm
  rw [G.fnd p.toNat kvp key hk]
  rw [show ((p.toNat : Nat) : Int) = p by omega]
  rw [found_frozen 8 (b := mo) (b' := 99)]
  · simp
  · intro r hr h
    have h1 := G.froz i p mo hm hp r hr h
    have h2 := G.rows r hr
    have h3 := G.bb
    exact ⟨h1, by omega⟩

theorem nodup_le {α : Type} [DecidableEq α] : ∀ (l r : List α), l.Nodup → (∀ x ∈ l, x ∈ r) → l.length ≤ r.length
  | [], _, _, _ => Nat.zero_le _
  | a :: l, r, hn, hs => by
    rw [List.nodup_cons] at hn
    have ih := nodup_le l (r.erase a) hn.2 fun x hx => (List.mem_erase_of_ne (by intro e; rw [e] at hx; exact hn.1 hx)).mpr (hs x (.tail _ hx))
    have := List.length_erase_of_mem (hs a (.head _))
    have hpos : 0 < r.length := List.length_pos_of_mem (hs a (.head _))
    simp only [List.length_cons]
    omega
theorem Good.five {made laid ops b} (G : Good made laid ops b) {i : Nat} {kv : List (Str × Str)} (h : ops[i]? = some kv) : kv.length ≤ 5 := by
  obtain ⟨a, c⟩ := G.keys i kv h
  have := nodup_le (kv.map (·.1)) lawKeys c fun x hx => by
    obtain ⟨q, hq, rfl⟩ := List.mem_map.mp hx
    exact a q hq
  rw [List.length_map] at this
  exact this
end
section
set_option maxHeartbeats 1000000
abbrev TX := Addr × Addr × Addr
def parVal (xs : List TX) (p : Int) : Value := if p < 0 then .none else ((xs[p.toNat]?).map fun t => Value.ref t.1).getD .none
inductive Named : List (Str × Value) → List (Str × Str) → Prop
  | nil : Named [] []
  | cons {k nm : Str} {t : Tok} {vs : List (Str × Value)} {ks : List (Str × Str)} : Named vs ks → Named ((k, .str nm t) :: vs) ((k, nm) :: ks)
structure TypesAt (w : World) (hi : Heap) (xs : List TX) (made : List (Int × Int)) : Prop where
  len : xs.length = made.length
  ty : ∀ (i : Nat) x d od p mo, xs[i]? = some (x, d, od) → made[i]? = some (p, mo) → TypeAt w hi x d (100 + (i : Int)) (parVal xs p) true od
structure OpsAt (w : World) (rest : List (Addr × Obj)) (xs : List TX) (ops : List (List (Str × Str))) : Prop where
  adr : rest.map (·.1) = xs.map (·.2.2)
  len : xs.length = ops.length
  op : ∀ (i : Nat) od oo, rest[i]? = some (od, oo) → (od == sysModules) = false ∧ ∃ kv kvs, ops[i]? = some kv ∧ oo.IsDictOf (PySem.strKind Challenge.rw_pb0007_01.row.prog w) kvs ∧ Named kvs kv
structure Adr where
  (hand l book lm ll types : Addr)
abbrev ledOf (ad : Adr) (oh ol ot om oL : Obj) (rest : List (Addr × Obj)) : List (Addr × Obj) := (ad.hand, oh) :: (ad.l, ol) :: (ad.types, ot) :: (ad.lm, om) :: (ad.ll, oL) :: rest
/-- the state of the law's run on the heap: hi holds what stands for good -/
structure StAt (w : World) (hi h : Heap) (ad : Adr) (oh ol ot om oL : Obj) (rest : List (Addr × Obj)) (xs : List TX) (n : Nat) (made : List (Int × Int)) (laid : List Row) (ops : List (List (Str × Str))) (vm vl : List Value) : Prop where
  sub : ∀ b o, hi.get? b = some o → h.get? b = some o
  led : ∀ q ∈ ledOf ad oh ol ot om oL rest, h.get? q.1 = some q.2 ∧ hi.get? q.1 = none
  nod : ((ledOf ad oh ol ot om oL rest).map (·.1)).Nodup
  hand : HandIs w ad.l oh ol n
  ot : ∃ e, ot = listOf (xs.map fun t => Value.ref t.1).toArray e
  om : ∃ e, om = listOf vm.toArray e
  oL : ∃ e, oL = listOf vl.toArray e
  book : hi.DictOf (PySem.strKind Challenge.rw_pb0007_01.row.prog w) ad.book [(Str.ofString "made", .ref ad.lm), (Str.ofString "laid", .ref ad.ll)]
  madeAt : MadeAt hi vm made
  laidAt : RowsAt hi vl laid
  typesAt : TypesAt w hi xs made
  opsAt : OpsAt w rest xs ops

theorem nodup5 {a b c d e : Addr} {rest : List (Addr × Obj)} {oa ob oc od oe : Obj} (h : (((a, oa) :: (b, ob) :: (c, oc) :: (d, od) :: (e, oe) :: rest).map (·.1)).Nodup) :
    ((@Ne Nat a b) ∧ (@Ne Nat a c) ∧ (@Ne Nat a d) ∧ (@Ne Nat a e) ∧ (@Ne Nat b c) ∧ (@Ne Nat b d) ∧ (@Ne Nat b e) ∧ (@Ne Nat c d) ∧ (@Ne Nat c e) ∧ (@Ne Nat d e)) ∧
    (∀ q ∈ rest, q.1 ≠ a) ∧ (∀ q ∈ rest, q.1 ≠ b) ∧ (∀ q ∈ rest, q.1 ≠ c) ∧ (∀ q ∈ rest, q.1 ≠ d) ∧ (∀ q ∈ rest, q.1 ≠ e) ∧ (rest.map (·.1)).Nodup := by
  simp only [List.map_cons, List.nodup_cons, List.mem_cons, not_or] at h
  obtain ⟨⟨h1, h2, h3, h4, h5⟩, ⟨h6, h7, h8, h9⟩, ⟨h10, h11, h12⟩, ⟨h13, h14⟩, h15, h16⟩ := h
  have nm : ∀ z, z ∉ rest.map (·.1) → ∀ q ∈ rest, q.1 ≠ z := fun z hz q hq e => hz (e ▸ List.mem_map_of_mem hq)
  exact ⟨⟨h1, h2, h3, h4, h6, h7, h8, h10, h11, h13⟩, nm _ h5, nm _ h9, nm _ h12, nm _ h14, nm _ h15, h16⟩

theorem restrict (h : Heap) (P : Addr → Prop) : ∃ hi : Heap, ∀ b o, hi.get? b = some o ↔ h.get? b = some o ∧ P b := by
  classical
  refine ⟨hideAll h ((List.range h.objs.size).filter fun b => !decide (P b)), fun b o => ⟨fun e => ⟨of_hideAll _ e, ?_⟩, fun ⟨e, hp⟩ => hideAll_get _ e ?_⟩⟩
  · by_cases hp : P b
    · exact hp
    · have hb : b < h.objs.size := Heap.lt_size (of_hideAll _ e)
      have : b ∈ (List.range h.objs.size).filter fun b => !decide (P b) := by simp [hb, hp]
      rw [hideAll_none _ this] at e; cases e
  · simp [hp]

theorem HandIs.mono {w : World} {l : Addr} {oh ol : Obj} {n n' : Nat} (x : HandIs w l oh ol n) (hn : n ≤ n') : HandIs w l oh ol n' := by
  obtain ⟨t, k, vs, ns, e, a, b, c, d, f, g⟩ := x.is
  exact ⟨t, k, vs, ns, e, a, b, c, d, f, by omega⟩

theorem Named.at {kvs : List (Str × Value)} {kv : List (Str × Str)} (h : Named kvs kv) (k : Str) : (valueAt kvs k = none ∧ look kv k = none) ∨ ∃ nm t, valueAt kvs k = some (.str nm t) ∧ look kv k = some nm := by
  induction h with
  | nil => exact .inl ⟨rfl, rfl⟩
  | cons r ih =>
    rename_i k' nm t vs ks
    unfold valueAt look at *
    rw [List.find?_cons, List.find?_cons]
    by_cases e : k' = k
    · simp only [e, decide_true]
      exact .inr ⟨nm, t, rfl, rfl⟩
    · simp only [e, decide_false]
      exact ih
theorem Named.some {kvs : List (Str × Value)} {kv : List (Str × Str)} (h : Named kvs kv) (k : Str) : (valueAt kvs k).isSome = (look kv k).isSome := by
  rcases h.at k with ⟨a, b⟩ | ⟨nm, t, a, b⟩ <;> rw [a, b] <;> rfl
theorem Named.length {kvs : List (Str × Value)} {kv : List (Str × Str)} (h : Named kvs kv) : kvs.length = kv.length := by
  induction h with
  | nil => rfl
  | cons r ih => simp [ih]
theorem Named.anyK {kvs : List (Str × Value)} {kv : List (Str × Str)} (h : Named kvs kv) (k : Str) : kvs.any (fun q => decide (q.1 = k)) = kv.any (fun q => decide (q.1 = k)) := by
  induction h with
  | nil => rfl
  | cons r ih => simp [ih]
theorem Named.snoc {kvs : List (Str × Value)} {kv : List (Str × Str)} (h : Named kvs kv) (k nm : Str) (t : Tok) : Named (kvs ++ [(k, .str nm t)]) (kv ++ [(k, nm)]) := by
  induction h with
  | nil => exact .cons .nil
  | cons r ih => exact .cons ih
theorem Named.mapK {kvs : List (Str × Value)} {kv : List (Str × Str)} (h : Named kvs kv) (k nm : Str) (t : Tok) : Named (kvs.map fun q => if q.1 = k then (q.1, .str nm t) else q) (kv.map fun q => if q.1 = k then (q.1, nm) else q) := by
  induction h with
  | nil => exact .nil
  | cons r ih =>
    rename_i k' nm' t' vs ks
    simp only [List.map_cons]
    by_cases e : k' = k
    · simp only [e, if_true]; exact .cons ih
    · simp only [e, if_false]; exact .cons ih
theorem Named.put {kvs : List (Str × Value)} {kv : List (Str × Str)} (h : Named kvs kv) (k nm : Str) (t : Tok) : Named (stored kvs k (.str nm t)) (putS kv k nm) := by
  unfold stored putS
  rw [h.anyK]
  split
  · exact h.mapK k nm t
  · exact h.snoc k nm t

theorem StAt.next {w : World} {hi h h' : Heap} {ad : Adr} {oh ol ot om oL oh' ol' ot' om' oL' : Obj} {new rest rest' : List (Addr × Obj)} {xs xs' : List TX} {n n' : Nat} {made made' : List (Int × Int)} {laid laid' : List Row} {ops ops' : List (List (Str × Str))} {vm vl vm' vl' : List Value}
    (S : StAt w hi h ad oh ol ot om oL rest xs n made laid ops vm vl) (keep : ∀ b o, hi.get? b = some o → h'.get? b = some o) (hnew : ∀ q ∈ new, h'.get? q.1 = some q.2)
    (hled : ∀ q ∈ ledOf ad oh' ol' ot' om' oL' rest', h'.get? q.1 = some q.2) (hoff : ∀ q ∈ ledOf ad oh' ol' ot' om' oL' rest', hi.get? q.1 = none ∧ ∀ z ∈ new, q.1 ≠ z.1)
    (nod : ((ledOf ad oh' ol' ot' om' oL' rest').map (·.1)).Nodup) (hand : HandIs w ad.l oh' ol' n') (hot : ∃ e, ot' = listOf (xs'.map fun t => Value.ref t.1).toArray e) (hom : ∃ e, om' = listOf vm'.toArray e) (hoL : ∃ e, oL' = listOf vl'.toArray e)
    (facts : ∀ hi' : Heap, (∀ b o, hi.get? b = some o → hi'.get? b = some o) → (∀ q ∈ new, hi'.get? q.1 = some q.2) → MadeAt hi' vm' made' ∧ RowsAt hi' vl' laid' ∧ TypesAt w hi' xs' made') (hops : OpsAt w rest' xs' ops') :
    ∃ hi', StAt w hi' h' ad oh' ol' ot' om' oL' rest' xs' n' made' laid' ops' vm' vl' ∧ (∀ b o, hi.get? b = some o → hi'.get? b = some o) ∧ (∀ b o, hi'.get? b = some o → hi.get? b = some o ∨ (b, o) ∈ new) := by
  obtain ⟨hi', hr⟩ := restrict h' fun b => (∃ o, hi.get? b = some o) ∨ ∃ z ∈ new, z.1 = b
  have k1 : ∀ b o, hi.get? b = some o → hi'.get? b = some o := fun b o e => (hr b o).mpr ⟨keep b o e, .inl ⟨o, e⟩⟩
  have k2 : ∀ q ∈ new, hi'.get? q.1 = some q.2 := fun q hq => (hr _ _).mpr ⟨hnew q hq, .inr ⟨q, hq, rfl⟩⟩
  obtain ⟨f1, f2, f3⟩ := facts hi' k1 k2
  refine ⟨hi', ⟨fun b o e => ((hr b o).mp e).1, fun q hq => ⟨hled q hq, ?_⟩, nod, hand, hot, hom, hoL, DictOf.keep S.book k1, f1, f2, f3, hops⟩, k1, fun b o e => ?_⟩
  · cases e : hi'.get? q.1 with
    | none => rfl
    | some o =>
      obtain ⟨_, ⟨o', e'⟩ | ⟨z, hz, e'⟩⟩ := (hr _ _).mp e
      · rw [(hoff q hq).1] at e'; cases e'
      · exact absurd e'.symm ((hoff q hq).2 z hz)
  · obtain ⟨e1, ⟨o', e'⟩ | ⟨z, hz, e'⟩⟩ := (hr _ _).mp e
    · have := keep b o' e'
      rw [e1] at this
      cases this
      exact .inl e'
    · subst e'
      have := hnew z hz
      rw [e1] at this
      cases this
      exact .inr hz

theorem get_snoc {α : Type} {l : List α} {a : α} {i : Nat} {x : α} (h : (l ++ [a])[i]? = some x) : (i < l.length ∧ l[i]? = some x) ∨ (i = l.length ∧ x = a) := by
  rcases Nat.lt_or_ge i l.length with hj | hj
  · rw [List.getElem?_append_left hj] at h; exact .inl ⟨hj, h⟩
  · rw [List.getElem?_append_right hj] at h
    have hz : i - l.length = 0 := by
      rcases Nat.eq_zero_or_pos (i - l.length) with z | z
      · exact z
      · rw [List.getElem?_eq_none (by simp; omega)] at h; cases h
    rw [hz] at h
    simp at h
    exact .inr ⟨by omega, h.symm⟩
theorem parVal_snoc {xs : List TX} {t : TX} {p : Int} (h : p < xs.length) : parVal (xs ++ [t]) p = parVal xs p := by
  unfold parVal
  by_cases hz : p < 0
  · simp [hz]
  · simp only [hz, if_false]
    rw [List.getElem?_append_left (by omega)]
theorem TypesAt.snoc {w : World} {hi hi' : Heap} {xs : List TX} {made : List (Int × Int)} {x d od : Addr} {p mo : Int} (T : TypesAt w hi xs made) (k : ∀ b o, hi.get? b = some o → hi'.get? b = some o)
    (hpar : ∀ (j : Nat) p mo, made[j]? = some (p, mo) → p < (j : Int)) (hp : p < xs.length) (t : TypeAt w hi' x d (100 + (xs.length : Int)) (parVal xs p) true od) : TypesAt w hi' (xs ++ [(x, d, od)]) (made ++ [(p, mo)]) := by
  have hl := T.len
  refine ⟨by simp [T.len], fun i x' d' od' p' mo' h1 h2 => ?_⟩
  rcases get_snoc h1 with ⟨a, h1⟩ | ⟨a, h1⟩ <;> rcases get_snoc h2 with ⟨b, h2⟩ | ⟨b, h2⟩
  · have := hpar i p' mo' h2
    rw [parVal_snoc (by omega)]
    exact (T.ty i x' d' od' p' mo' h1 h2).keep k
  · omega
  · omega
  · cases h1; cases h2
    rw [parVal_snoc hp, a]
    exact t
theorem TypesAt.keep {w : World} {hi hi' : Heap} {xs : List TX} {made : List (Int × Int)} (T : TypesAt w hi xs made) (k : ∀ b o, hi.get? b = some o → hi'.get? b = some o) : TypesAt w hi' xs made := ⟨T.len, fun i x d od p mo h1 h2 => (T.ty i x d od p mo h1 h2).keep k⟩
theorem OpsAt.snoc {w : World} {rest : List (Addr × Obj)} {xs : List TX} {ops : List (List (Str × Str))} {x d od : Addr} {oo : Obj} {kv : List (Str × Str)} {kvs : List (Str × Value)} (O : OpsAt w rest xs ops) (lo : (od == sysModules) = false)
    (hoo : oo.IsDictOf (PySem.strKind Challenge.rw_pb0007_01.row.prog w) kvs) (hn : Named kvs kv) : OpsAt w (rest ++ [(od, oo)]) (xs ++ [(x, d, od)]) (ops ++ [kv]) := by
  have hl : rest.length = xs.length := by have := congrArg List.length O.adr; simpa using this
  have hl2 := O.len
  refine ⟨by simp [O.adr], by simp [O.len], fun i od' oo' h => ?_⟩
  rcases get_snoc h with ⟨a, h⟩ | ⟨a, h⟩
  · obtain ⟨l, kv', kvs', e, r⟩ := O.op i od' oo' h
    exact ⟨l, kv', kvs', by rw [List.getElem?_append_left (by omega)]; exact e, r⟩
  · cases h
    exact ⟨lo, kv, kvs, by rw [List.getElem?_append_right (by omega)]; simp [a, hl, ← hl2], hoo, hn⟩
theorem OpsAt.set {w : World} {rest : List (Addr × Obj)} {xs : List TX} {ops : List (List (Str × Str))} {i : Nat} {od : Addr} {oo oo' : Obj} {kv : List (Str × Str)} {kvs : List (Str × Value)} (O : OpsAt w rest xs ops) (hi : rest[i]? = some (od, oo))
    (hoo : oo'.IsDictOf (PySem.strKind Challenge.rw_pb0007_01.row.prog w) kvs) (hn : Named kvs kv) : OpsAt w (rest.set i (od, oo')) xs (ops.set i kv) := by
  have hl : rest.length = xs.length := by have := congrArg List.length O.adr; simpa using this
  have hl2 := O.len
  have hil : i < rest.length := (List.getElem?_eq_some_iff.mp hi).1
  refine ⟨?_, by simp [O.len], fun j od' ob h => ?_⟩
  · rw [List.map_set, ← O.adr]
    refine List.ext_getElem? fun j => ?_
    by_cases e : i = j
    · subst e
      rw [List.getElem?_set_self (by simpa using hil), List.getElem?_map, hi]; rfl
    · rw [List.getElem?_set_ne e]
  · by_cases e : i = j
    · subst e
      rw [List.getElem?_set_self hil] at h
      cases h
      exact ⟨(O.op i od oo hi).1, kv, kvs, List.getElem?_set_self (by omega), hoo, hn⟩
    · rw [List.getElem?_set_ne e] at h
      obtain ⟨l, kv', kvs', e', r⟩ := O.op j od' ob h
      exact ⟨l, kv', kvs', by rw [List.getElem?_set_ne e]; exact e', r⟩
theorem MadeAt.snoc {h : Heap} {a : Addr} {p mo : Int} {t1 t2 : Tok} (ht : IsTup h a #[.int p t1, .int mo t2]) : ∀ {vs : List Value} {rs : List (Int × Int)}, MadeAt h vs rs → MadeAt h (vs ++ [.ref a]) (rs ++ [(p, mo)])
  | _, _, .nil => .cons ht .nil
  | _, _, .cons t r => .cons t (MadeAt.snoc ht r)
theorem RowsAt.snoc {h : Heap} {a : Addr} {mo wh : Int} {k nm : Str} {t1 t2 t3 t4 : Tok} (ht : IsTup h a #[.int mo t1, .int wh t2, .str k t3, .str nm t4]) : ∀ {vs : List Value} {rs : List Row}, RowsAt h vs rs → RowsAt h (vs ++ [.ref a]) (rs ++ [(mo, wh, k, nm)])
  | _, _, .nil => .cons ht .nil
  | _, _, .cons t r => .cons t (RowsAt.snoc ht r)
end
section
set_option maxHeartbeats 1000000
theorem ltNe {a b : Nat} (h : a < b) : a ≠ b := Nat.ne_of_lt h
theorem allLt_mem {d : Addr} {l : List (Addr × Obj)} (h : AllLt d l) : ∀ q ∈ l, @LT.lt Nat _ q.1 d := by
  induction l with
  | nil => intro q hq; cases hq
  | cons p r ih =>
    intro q hq
    rcases List.mem_cons.mp hq with rfl | hq
    · exact h.1
    · exact ih h.2 q hq

theorem mem_ext {α : Type} {q D c h l t m L x d o a : α} {rest : List α} (hq : q ∈ [x, d, a, D] ++ (h :: l :: t :: m :: L :: (rest ++ [o]))) : q ∈ D :: c :: h :: l :: t :: m :: L :: (rest ++ [x, d, o, a]) := by
  refine (?_ : ∀ {ys : List α}, (q ∈ [h, l, t, m, L] → q ∈ ys) → (q ∈ rest → q ∈ ys) → (q = x → q ∈ ys) → (q = d → q ∈ ys) → (q = a → q ∈ ys) → (q = D → q ∈ ys) → (q = o → q ∈ ys) → q ∈ ys)
    (fun H => .tail _ (.tail _ (List.mem_append_left (rest ++ [x, d, o, a]) H))) (fun H => List.mem_append_right [D, c, h, l, t, m, L] (List.mem_append_left _ H))
    (fun e => List.mem_append_right [D, c, h, l, t, m, L] (List.mem_append_right _ (List.mem_cons.mpr (.inl e))))
    (fun e => List.mem_append_right [D, c, h, l, t, m, L] (List.mem_append_right _ (.tail _ (List.mem_cons.mpr (.inl e)))))
    (fun e => List.mem_append_right [D, c, h, l, t, m, L] (List.mem_append_right _ (.tail _ (.tail _ (.tail _ (List.mem_cons.mpr (.inl e)))))))
    (fun e => List.mem_cons.mpr (.inl e))
    (fun e => List.mem_append_right [D, c, h, l, t, m, L] (List.mem_append_right _ (.tail _ (.tail _ (List.mem_cons.mpr (.inl e))))))
  intro ys H1 H2 H3 H4 H5 H6 H7
  exact (List.mem_append.mp hq).elim (fun H => (List.mem_cons.mp H).elim H3 fun H => (List.mem_cons.mp H).elim H4 fun H => (List.mem_cons.mp H).elim H5 fun H => H6 (List.mem_singleton.mp H))
    fun H => (List.mem_append.mp (show q ∈ [h, l, t, m, L] ++ (rest ++ [o]) from H)).elim H1 fun H => (List.mem_append.mp H).elim H2 fun H => H7 (List.mem_singleton.mp H)
theorem st_extend {w : World} {hi h g h' : Heap} {ad : Adr} {oh ol oh2 ol2 oc oo' : Obj} {e1 e2 e3 e4 e5 n' e' : Nat} {rest : List (Addr × Obj)} {xs : List TX} {n n2 : Nat} {made : List (Int × Int)} {laid : List Row} {ops : List (List (Str × Str))} {vm vl : List Value}
    {L' D c x' d' od' x d od : Addr} {m8 : Str → Option Value} {tt : TK} {a' : AD} {nm : Str} {r mo : Int} {tr t4 : Tok} {kv : List (Str × Str)} {kvs : List (Str × Value)}
    (S : StAt w hi h ad oh ol (listOf (xs.map fun t => Value.ref t.1).toArray e1) (listOf vm.toArray e2) (listOf vl.toArray e3) rest xs n made laid ops vm vl)
    (hk : ∀ b o, hi.get? b = some o → g.get? b = some o) (F8 : Fr g L' h' m8)
    (N8 : News g L' h' ((D, { cls := .type "tuple", data := .seq #[.int r tr, .int mo t4] }) :: (c, oc) :: (ad.hand, oh2) :: (ad.l, ol2) :: (ad.types, listOf ((xs.map fun t : TX => Value.ref t.1) ++ [Value.ref x']).toArray e4) :: (ad.lm, listOf (vm ++ [Value.ref D]).toArray e5) :: (ad.ll, listOf vl.toArray e3) ::
      (rest ++ [(x', instObj 94 d'), (d', dictOf (typeEs w.params tt a' nm (100 + (xs.length : Int)) (.ref x) true od') n'), (od', oo'), (a'.a13, listOf #[] e')])))
    (H2 : HandIs w ad.l oh2 ol2 n2) (hn2 : n2 ≤ n + 4)
    (four : ∀ q ∈ [(x', instObj 94 d'), (d', dictOf (typeEs w.params tt a' nm (100 + (xs.length : Int)) (.ref x) true od') n'), (od', oo'), (a'.a13, listOf #[] e')], q.1 ≠ ad.hand ∧ q.1 ≠ ad.l ∧ q.1 ≠ ad.types ∧ q.1 ≠ ad.lm ∧ q.1 ≠ ad.ll ∧ (∀ z ∈ rest, q.1 ≠ z.1) ∧ q.1 ≠ D)
    (n1 : @Ne Nat od' x') (n2' : @Ne Nat od' d') (n3 : @Ne Nat od' a'.a13) (hD : ∀ q ∈ ledOf ad oh ol oh ol oh rest, q.1 ≠ D)
    (hoo : oo'.IsDictOf (PySem.strKind Challenge.rw_pb0007_01.row.prog w) kvs) (hnm : Named kvs kv) (lo : (od' == sysModules) = false) (h12 : hi.IsList a'.a12 (List.toArray []))
    (hr0 : 0 ≤ r) (hxr : xs[r.toNat]? = some (x, d, od)) (hkv : ops[r.toNat]? = some kv) (hpar : ∀ (j : Nat) p mo, made[j]? = some (p, mo) → p < (j : Int)) :
    ∃ hi', StAt w hi' h' ad oh2 ol2 (listOf ((xs ++ [(x', d', od')]).map fun t : TX => Value.ref t.1).toArray e4) (listOf (vm ++ [Value.ref D]).toArray e5) (listOf vl.toArray e3) (rest ++ [(od', oo')]) (xs ++ [(x', d', od')]) (n + 4) (made ++ [(r, mo)]) laid (ops ++ [kv]) (vm ++ [.ref D]) vl ∧
      (∀ b o, hi.get? b = some o → hi'.get? b = some o) ∧ (∀ b o, hi'.get? b = some o → hi.get? b = some o ∨ (b, o) ∈ [(x', instObj 94 d'), (d', dictOf (typeEs w.params tt a' nm (100 + (xs.length : Int)) (.ref x) true od') n'), (a'.a13, listOf #[] e'), (D, { cls := .type "tuple", data := .seq #[.int r tr, .int mo t4] })]) := by
  have hnone : ∀ {z : Addr}, g.get? z = none → hi.get? z = none := fun {z} e => by
    cases q : hi.get? z with
    | none => rfl
    | some o => rw [hk z o q] at e; cases e
  have inN : ∀ q ∈ ledOf ad oh2 ol2 (listOf ((xs.map fun t : TX => Value.ref t.1) ++ [Value.ref x']).toArray e4) (listOf (vm ++ [Value.ref D]).toArray e5) (listOf vl.toArray e3) (rest ++ [(od', oo')]), q ∈ ((D, ({ cls := .type "tuple", data := .seq #[.int r tr, .int mo t4] } : Obj)) :: (c, oc) :: (ad.hand, oh2) :: (ad.l, ol2) :: (ad.types, listOf ((xs.map fun t : TX => Value.ref t.1) ++ [Value.ref x']).toArray e4) :: (ad.lm, listOf (vm ++ [Value.ref D]).toArray e5) :: (ad.ll, listOf vl.toArray e3) ::
      (rest ++ [(x', instObj 94 d'), (d', dictOf (typeEs w.params tt a' nm (100 + (xs.length : Int)) (.ref x) true od') n'), (od', oo'), (a'.a13, listOf #[] e')])) := by
    exact fun q hq => mem_ext (List.mem_append_right _ hq)
  have f1 := four _ (.head _)
  have f2 := four _ (.tail _ (.head _))
  have f3 := four _ (.tail _ (.tail _ (.head _)))
  have f4 := four _ (.tail _ (.tail _ (.tail _ (.head _))))
  simp only at f1 f2 f3 f4
  have hmapx : (List.map (fun t : TX => Value.ref t.1) (xs ++ [(x', d', od')])) = (xs.map fun t : TX => Value.ref t.1) ++ [Value.ref x'] := by simp
  rw [hmapx]
  have hDr : ∀ q ∈ rest, q.1 ≠ D := fun q hq => hD q (.tail _ (.tail _ (.tail _ (.tail _ (.tail _ hq)))))
  have hD1 : ad.hand ≠ D := hD _ (.head _)
  have hD2 : ad.l ≠ D := hD _ (.tail _ (.head _))
  have hD3 : ad.types ≠ D := hD _ (.tail _ (.tail _ (.head _)))
  have hD4 : ad.lm ≠ D := hD _ (.tail _ (.tail _ (.tail _ (.head _))))
  have hD5 : ad.ll ≠ D := hD _ (.tail _ (.tail _ (.tail _ (.tail _ (.head _)))))
  refine S.next (fun b o e => F8.keep b o (hk b o e)) ?_ (fun q hq => (N8 q (inN q hq)).1) ?_ ?_ (H2.mono hn2) ⟨_, by rw [hmapx]⟩ ⟨_, rfl⟩ ⟨_, rfl⟩ ?_ (S.opsAt.snoc lo hoo hnm)
  · intro q hq
    exact (N8 q (mem_ext (List.mem_append_left _ hq))).1
  · intro q hq
    refine ⟨hnone (N8 q (inN q hq)).2.2, ?_⟩
    intro z hz
    simp only [List.mem_cons, List.not_mem_nil, or_false] at hz
    simp only [ledOf, List.mem_cons, List.mem_append, List.not_mem_nil, or_false] at hq
    rcases hq with rfl | rfl | rfl | rfl | rfl | hq | rfl <;> rcases hz with rfl | rfl | rfl | rfl <;> simp only
    · exact Ne.symm f1.1
    · exact Ne.symm f2.1
    · exact Ne.symm f4.1
    · exact hD1
    · exact Ne.symm f1.2.1
    · exact Ne.symm f2.2.1
    · exact Ne.symm f4.2.1
    · exact hD2
    · exact Ne.symm f1.2.2.1
    · exact Ne.symm f2.2.2.1
    · exact Ne.symm f4.2.2.1
    · exact hD3
    · exact Ne.symm f1.2.2.2.1
    · exact Ne.symm f2.2.2.2.1
    · exact Ne.symm f4.2.2.2.1
    · exact hD4
    · exact Ne.symm f1.2.2.2.2.1
    · exact Ne.symm f2.2.2.2.2.1
    · exact Ne.symm f4.2.2.2.2.1
    · exact hD5
    · exact Ne.symm (f1.2.2.2.2.2.1 q hq)
    · exact Ne.symm (f2.2.2.2.2.2.1 q hq)
    · exact Ne.symm (f4.2.2.2.2.2.1 q hq)
    · exact hDr q hq
    · exact n1
    · exact n2'
    · exact n3
    · exact f3.2.2.2.2.2.2
  · have hn := S.nod
    simp only [ledOf, List.map_cons, List.map_append, List.map_nil, List.nodup_cons, List.nodup_append, List.mem_cons, List.mem_append, List.not_mem_nil, or_false, not_or] at hn ⊢
    obtain ⟨⟨h1, h2, h3, h4, h5⟩, ⟨h6, h7, h8, h9⟩, ⟨h10, h11, h12⟩, ⟨h13, h14⟩, h15, h16⟩ := hn
    refine ⟨⟨h1, h2, h3, h4, h5, Ne.symm f3.1⟩, ⟨h6, h7, h8, h9, Ne.symm f3.2.1⟩, ⟨h10, h11, h12, Ne.symm f3.2.2.1⟩, ⟨h13, h14, Ne.symm f3.2.2.2.1⟩, ⟨h15, Ne.symm f3.2.2.2.2.1⟩, h16, by simp, ?_⟩
    intro a ha b hb e
    obtain ⟨q, hq, rfl⟩ := List.mem_map.mp ha
    exact f3.2.2.2.2.2.1 q hq (by rw [e, hb])
  · intro hi' k1 k2
    have g1 := k2 (x', instObj 94 d') (.head _)
    have g2 := k2 (d', _) (.tail _ (.head _))
    have g3 := k2 (a'.a13, _) (.tail _ (.tail _ (.head _)))
    have g4 := k2 (D, _) (.tail _ (.tail _ (.tail _ (.head _))))
    refine ⟨MadeAt.snoc (t1 := tr) (t2 := t4) ⟨_, g4, rfl, _, rfl⟩ (S.madeAt.keep k1), S.laidAt.keep k1, ?_⟩
    have hrl : r.toNat < xs.length := (List.getElem?_eq_some_iff.mp hxr).1
    refine S.typesAt.snoc k1 hpar (by omega) ⟨tt, a', nm, n', g1, ?_, IsList.keep h12 k1, ⟨_, g3, rfl, _, rfl⟩⟩
    have hz : ¬ r < 0 := by omega
    have : parVal xs r = .ref x := by unfold parVal; simp [hz, hxr]
    rw [this]
    exact g2
end
section
set_option maxHeartbeats 1000000
section
variable {prog : Program} {w : World} {A : Around} {E : Value → Shared → Prop} {s : Shared} {g : Heap} {L : Addr} {m : Str → Option Value}
theorem item_key {value slice : PySem.Expr} {a : Addr} {l : List Value} {k : Int} {u : Tok} {Q : Value → Shared → Prop} (F : Fr g L s.heap m) (ht : IsTup g a l.toArray)
    (hl : l.length = 5) (hk : ∀ v ∈ l, ∃ x t, v = .str x t ∧ x ∈ lawKeys) (h0 : 0 ≤ k) (h1 : k < 5) (h : ∀ x t, x ∈ lawKeys → Q (.str x t) s)
    (hs : subscripted slice false (.ref a) (.int k u) = operate [.ref a, .int k u] (getItem (.ref a) (.int k u)) := by with_unfolding_all rfl) :
    wpAny (model prog w) A (subscriptTail value slice (.ref a) (.int k u)) Q E s := by
  have hlt : k.toNat < l.length := by omega
  obtain ⟨x, t, e, hx⟩ := hk _ (List.getElem_mem hlt)
  refine item_tupleT (IsTup.keeps ht F.keep) (by omega) (by omega) (StrLaws.seqIndex_nonneg h0 (by omega)) (List.getElem?_eq_getElem hlt) ?_ hs
  rw [e]
  exact h x t hx
end

theorem keepIf_mem {bs : Nat → Bool} : ∀ {vs : List Value} {i j : Nat} {v : Value}, vs[j]? = some v → bs (i + j) = true → v ∈ keepIf bs i vs
  | [], _, j, v, h, _ => by simp at h
  | a :: vs, i, 0, v, h, hb => by
    simp at h; subst h
    unfold keepIf
    rw [if_pos (by simpa using hb)]
    exact .head _
  | a :: vs, i, j + 1, v, h, hb => by
    simp at h
    have := keepIf_mem (bs := bs) (i := i + 1) h (by rw [← hb]; congr 1; omega)
    unfold keepIf
    split
    · exact .tail _ this
    · exact this

def childTest (made : List (Int × Int)) (r : Int) (j : Nat) : Bool := match made[j]? with | some q => decide (q.1 = r) | none => false
theorem no_child {vs : List Value} {made : List (Int × Int)} {r : Int} (hl : vs.length = made.length) (h : keepIf (childTest made r) 0 vs = []) : ∀ (j : Nat) p mo, made[j]? = some (p, mo) → p ≠ r := by
  intro j p mo hj e
  have hlt : j < vs.length := by rw [hl]; exact (List.getElem?_eq_some_iff.mp hj).1
  have := keepIf_mem (bs := childTest made r) (i := 0) (List.getElem?_eq_getElem hlt) (by simp [childTest, hj, e])
  rw [h] at this
  cases this

theorem st_skip {w : World} {hi h g h' : Heap} {ad : Adr} {oh ol ot om oL oh2 ol2 : Obj} {led rest : List (Addr × Obj)} {xs : List TX} {n n2 : Nat} {made : List (Int × Int)} {laid : List Row} {ops : List (List (Str × Str))} {vm vl : List Value}
    {L' : Addr} {m8 : Str → Option Value}
    (S : StAt w hi h ad oh ol ot om oL rest xs n made laid ops vm vl) (hk : ∀ b o, hi.get? b = some o → g.get? b = some o) (F8 : Fr g L' h' m8) (N8 : News g L' h' led)
    (hled : ∀ q ∈ ledOf ad oh2 ol2 ot om oL rest, q ∈ led) (H2 : HandIs w ad.l oh2 ol2 n2) (hn2 : n2 ≤ n + 4) : StAt w hi h' ad oh2 ol2 ot om oL rest xs (n + 4) made laid ops vm vl := by
  refine ⟨fun b o e => F8.keep b o (hk b o e), fun q hq => ⟨(N8 q (hled q hq)).1, ?_⟩, ?_, H2.mono hn2, S.ot, S.om, S.oL, S.book, S.madeAt, S.laidAt, S.typesAt, S.opsAt⟩
  · cases e : hi.get? q.1 with
    | none => rfl
    | some o => have := (N8 q (hled q hq)).2.2; rw [hk _ o e] at this; cases this
  · exact S.nod

theorem pname_eq (mo : Int) : Str.ofString "p" ++ (⟨#[(97 + mo).toNat]⟩ : Str) = pname mo := by with_unfolding_all rfl

/-- the parent's operations beside what stands for good -/
theorem par_base {w : World} {hi h h' : Heap} {ad : Adr} {oh ol ot om oL oo : Obj} {rest : List (Addr × Obj)} {xs : List TX} {n i : Nat} {made : List (Int × Int)} {laid : List Row} {ops : List (List (Str × Str))} {vm vl : List Value} {pp pmo b : Int} {od : Addr}
    (S : StAt w hi h ad oh ol ot om oL rest xs n made laid ops vm vl) (G : Good made laid ops b) (hmr : made[i]? = some (pp, pmo)) (hrr : rest[i]? = some (od, oo))
    (sub : ∀ b o, hi.get? b = some o → h'.get? b = some o) (hr : ∀ q ∈ rest, h'.get? q.1 = some q.2) :
    ∃ h1 kp, (∀ b o, hi.get? b = some o → h1.get? b = some o) ∧ (∀ b o, h1.get? b = some o → h'.get? b = some o ∧ b ≠ od) ∧ ParAt w h1 (parVal xs pp) kp ∧
      (∀ key, overBy kp key = (decide (0 ≤ pp) && (found made laid 8 pp key pmo).isSome)) := by
  have hlow : hi.get? od = none := (S.led _ (.tail _ (.tail _ (.tail _ (.tail _ (.tail _ (List.mem_of_getElem? hrr))))))).2
  have hpar := G.hpar _ _ _ hmr
  by_cases hp : pp < 0
  · refine ⟨hi, none, fun _ _ e => e, fun b o e => ⟨sub b o e, fun z => ?_⟩, ?_, fun key => ?_⟩
    · rw [z, hlow] at e; cases e
    · show parVal xs pp = .none
      unfold parVal; rw [if_pos hp]
    · have : ¬ 0 ≤ pp := by omega
      simp [overBy, this]
  · have hi1 : i < rest.length := (List.getElem?_eq_some_iff.mp hrr).1
    have hl1 : rest.length = xs.length := by have := congrArg List.length S.opsAt.adr; simpa using this
    have hl2 := S.typesAt.len
    obtain ⟨⟨odp, oop⟩, hrp⟩ : ∃ t, rest[pp.toNat]? = some t := ⟨_, List.getElem?_eq_getElem (by omega)⟩
    obtain ⟨⟨xp, dp, odp'⟩, hxp⟩ : ∃ t, xs[pp.toNat]? = some t := ⟨_, List.getElem?_eq_getElem (by omega)⟩
    obtain ⟨⟨ppp, pmop⟩, hmp⟩ : ∃ t, made[pp.toNat]? = some t := ⟨_, List.getElem?_eq_getElem (by omega)⟩
    have ea : odp = odp' := by
      have e := congrArg (fun l => l[pp.toNat]?) S.opsAt.adr
      simp only [List.getElem?_map, hxp, hrp, Option.map_some] at e
      exact Option.some.inj e
    subst ea
    obtain ⟨lo, kvp, kvsp, hkvp, hoop, hnmp⟩ := S.opsAt.op _ _ _ hrp
    have hne : odp ≠ od := by
      intro e
      obtain ⟨_, _, _, _, _, _, hn⟩ := nodup5 S.nod
      have h1 : (rest.map (·.1))[pp.toNat]? = some odp := by rw [List.getElem?_map, hrp]; rfl
      have h2 : (rest.map (·.1))[i]? = some odp := by rw [List.getElem?_map, hrr, e]; rfl
      have := (List.getElem?_inj (by simp; omega) hn).mp (h1.trans h2.symm)
      omega
    obtain ⟨h1, hh⟩ := restrict h' fun b => (∃ o, hi.get? b = some o) ∨ b = odp
    have k1 : ∀ b o, hi.get? b = some o → h1.get? b = some o := fun b o e => (hh b o).mpr ⟨sub b o e, .inl ⟨o, e⟩⟩
    refine ⟨h1, some kvsp, k1, fun b o e => ?_, ⟨xp, dp, odp, _, _, _, ?_, (S.typesAt.ty _ _ _ _ _ _ hxp hmp).keep k1, Heap.dictOf_iff.mpr ⟨oop, (hh _ _).mpr ⟨hr _ (List.mem_of_getElem? hrp), .inr rfl⟩, hoop⟩, lo⟩, fun key => ?_⟩
    · obtain ⟨e1, ⟨o', e2⟩ | e2⟩ := (hh b o).mp e
      · exact ⟨e1, fun z => by rw [z, hlow] at e2; cases e2⟩
      · exact ⟨e1, fun z => hne (e2.symm.trans z)⟩
    · unfold parVal; rw [if_neg hp, hxp]; rfl
    · have h0 : 0 ≤ pp := by omega
      show (valueAt kvsp key).isSome = _
      rw [hnmp.some key, G.over hmr h0 hkvp key]
      simp [h0]

/-- the ledger behind a call that changes one of the rest -/
theorem news_set {g h h' : Heap} {L od : Addr} {oo oo' : Obj} {pre rest : List (Addr × Obj)} {i : Nat} (N : News g L h (pre ++ rest)) (k : ∀ b o, h.get? b = some o → b ≠ od → h'.get? b = some o) (ho : h'.get? od = some oo')
    (hp : ∀ q ∈ pre, q.1 ≠ od) (hn : (rest.map (·.1)).Nodup) (hrr : rest[i]? = some (od, oo)) : News g L h' (pre ++ rest.set i (od, oo')) := by
  intro q hq
  rcases List.mem_append.mp hq with hq | hq
  · exact ⟨k _ _ (N q (List.mem_append_left _ hq)).1 (hp q hq), (N q (List.mem_append_left _ hq)).2⟩
  · obtain ⟨j, hj⟩ := List.getElem?_of_mem hq
    by_cases e : i = j
    · subst e
      rw [List.getElem?_set_self (List.getElem?_eq_some_iff.mp hrr).1] at hj
      cases hj
      exact ⟨ho, (N (od, oo) (List.mem_append_right _ (List.mem_of_getElem? hrr))).2⟩
    · rw [List.getElem?_set_ne e] at hj
      have hm := N q (List.mem_append_right _ (List.mem_of_getElem? hj))
      refine ⟨k _ _ hm.1 fun z => ?_, hm.2⟩
      have h1 : (rest.map (·.1))[j]? = some od := by rw [List.getElem?_map, hj]; simp [z]
      have h2 : (rest.map (·.1))[i]? = some od := by rw [List.getElem?_map, hrr]; rfl
      exact e ((List.getElem?_inj (by have := (List.getElem?_eq_some_iff.mp hrr).1; simpa using this) hn).mp (h2.trans h1.symm))

theorem st_lay {w : World} {hi h g h' : Heap} {ad : Adr} {oh ol oh2 ol2 ot om oL oo oo' : Obj} {e4 : Nat} {rest : List (Addr × Obj)} {xs : List TX} {n n2 i : Nat} {made : List (Int × Int)} {laid : List Row} {ops : List (List (Str × Str))} {vm vl : List Value}
    {L' D od : Addr} {m8 : Str → Option Value} {r mo : Int} {key nm : Str} {t1 t2 t3 t4 t5 : Tok} {kv : List (Str × Str)} {kvs : List (Str × Value)}
    (S : StAt w hi h ad oh ol ot om oL rest xs n made laid ops vm vl)
    (hk : ∀ b o, hi.get? b = some o → g.get? b = some o) (F8 : Fr g L' h' m8)
    (N8 : News g L' h' ((D, ({ cls := .type "tuple", data := .seq #[.int mo t1, .int r t2, .str key t3, .str nm t4] } : Obj)) :: ledOf ad oh2 ol2 ot om (listOf (vl ++ [Value.ref D]).toArray e4) (rest.set i (od, oo'))))
    (H2 : HandIs w ad.l oh2 ol2 n2) (hn2 : n2 ≤ n + 4) (hD : ∀ q ∈ ledOf ad oh ol oh ol oh rest, q.1 ≠ D)
    (hrr : rest[i]? = some (od, oo)) (hoo : oo'.IsDictOf (PySem.strKind Challenge.rw_pb0007_01.row.prog w) (stored kvs key (.str nm t5))) (hnm : Named kvs kv) (hkv : ops[i]? = some kv) :
    ∃ hi', StAt w hi' h' ad oh2 ol2 ot om (listOf (vl ++ [Value.ref D]).toArray e4) (rest.set i (od, oo')) xs (n + 4) made (laid ++ [(mo, r, key, nm)]) (ops.set i (putS kv key nm)) vm (vl ++ [.ref D]) ∧
      (∀ b o, hi.get? b = some o → hi'.get? b = some o) ∧ (∀ b o, hi'.get? b = some o → hi.get? b = some o ∨ (b, o) ∈ [(D, ({ cls := .type "tuple", data := .seq #[.int mo t1, .int r t2, .str key t3, .str nm t4] } : Obj))]) := by
  have hnone : ∀ {z : Addr}, g.get? z = none → hi.get? z = none := fun {z} e => by
    cases q : hi.get? z with
    | none => rfl
    | some o => rw [hk z o q] at e; cases e
  have hmap : (rest.set i (od, oo')).map (·.1) = rest.map (·.1) := by
    rw [List.map_set]
    refine List.ext_getElem? fun j => ?_
    by_cases e : i = j
    · subst e
      have := (List.getElem?_eq_some_iff.mp hrr).1
      rw [List.getElem?_set_self (by simpa using this), List.getElem?_map, hrr]; rfl
    · rw [List.getElem?_set_ne e]
  have hDr : ∀ z ∈ rest.map (·.1), z ≠ D := fun z hz => by
    obtain ⟨q, hq, rfl⟩ := List.mem_map.mp hz
    exact hD q (.tail _ (.tail _ (.tail _ (.tail _ (.tail _ hq)))))
  refine S.next (fun b o e => F8.keep b o (hk b o e)) (fun q hq => (N8 q (by rw [List.mem_singleton.mp hq]; exact .head _)).1) (fun q hq => (N8 q (.tail _ hq)).1) (fun q hq => ⟨hnone (N8 q (.tail _ hq)).2.2, fun z hz => ?_⟩) ?_ (H2.mono hn2) S.ot S.om ⟨_, rfl⟩ ?_ ((S.opsAt.set hrr hoo (hnm.put key nm t5)))
  · rw [List.mem_singleton.mp hz]
    simp only [ledOf, List.mem_cons] at hq
    rcases hq with rfl | rfl | rfl | rfl | rfl | hq
    · exact hD (ad.hand, oh) (.head _)
    · exact hD (ad.l, ol) (.tail _ (.head _))
    · exact hD (ad.types, oh) (.tail _ (.tail _ (.head _)))
    · exact hD (ad.lm, ol) (.tail _ (.tail _ (.tail _ (.head _))))
    · exact hD (ad.ll, oh) (.tail _ (.tail _ (.tail _ (.tail _ (.head _)))))
    · refine hDr q.1 ?_
      rw [← hmap]
      exact List.mem_map_of_mem hq
  · have := S.nod
    simp only [ledOf, List.map_cons] at this ⊢
    rw [hmap]
    exact this
  · intro hi' k1 k2
    exact ⟨S.madeAt.keep k1, RowsAt.snoc ⟨_, k2 _ (.head _), rfl, _, rfl⟩ (S.laidAt.keep k1), S.typesAt.keep k1⟩
end
section
theorem walk_off_D1 : True := by
  w_top off
  trivial
set_option maxHeartbeats 2000000
local macro_rules | `(tactic| k_all) => `(tactic| with_reducible assumption)
local macro_rules | `(tactic| walk_at "call builtin:len") => `(tactic| (k_here; (with_reducible show wpAny _ _ (call (Value.builtin "len") [Value.ref _]) _ _ _); k_dflt (refine' kun_lenL ?l ?k ?z ?_; (case l => exact News.isList (by k_asm) (by k_mem)); (case k => (simp only [List.size_toArray, List.length_map]; exact rfl)); (case z => omega); k_whole)))
local macro_rules | `(tactic| walk_at "call ref") => `(tactic| ((first | (with_reducible show wpAny _ _ (call (Value.ref 172) _ _) _ _ _) | (with_reducible show wpAny _ _ (call (Value.ref 124) _ _) _ _ _) | (with_reducible show wpAny _ _ (call (Value.ref 177) _ _) _ _ _) | (with_reducible show wpAny _ _ (call (Value.ref 131) _ _) _ _ _)); refine Mine.Stop.mk ?_))

local macro_rules | `(tactic| walk_at "subscriptTail") => `(tactic| (k_here; (with_reducible show wpAny _ _ (subscriptTail _ (Expr.Name _ _) (Value.ref _) (Value.int _ _)) _ _ _); k_dflt (refine' Mine.item_listL ?l ?a ?b ?x ?_; (case l => exact News.isList (by k_asm) (by k_mem)); (case a => omega); (case b => omega); (case x => with_reducible assumption); k_whole)))
local macro_rules | `(tactic| walk_at "CompSrcT") => `(tactic| (k_here; k_dflt (refine' LCt.CompSrcT.ledger (by rfl) ?F ?N ?m ?z ?_; (case F => k_asm); (case N => k_asm); (case m => k_mem); (case z => (rw [sizeLine_eq, List.size_toArray]; omega)); intro g')))

local macro_rules | `(tactic| walk_at "subscriptTail") => `(tactic| ((with_reducible show wpAny _ _ (subscriptTail _ _ (Value.ref 165) _) _ _ _); refine Mine.Stop.mk ?_))

local macro_rules | `(tactic| k_ne) => `(tactic| first | with_reducible assumption | exact Ne.symm (by with_reducible assumption) | exact Nat.ne_of_lt (by with_reducible assumption) | exact Ne.symm (Nat.ne_of_lt (by with_reducible assumption)) | (refine neN ?_; (try dsimp only); omega))
local macro_rules | `(tactic| walk_at "isTrue BoolOp") => `(tactic| ((with_reducible show wpAny _ _ (isTrue (Expr.BoolOp _ [_, _] _) _ _) _ _ _); refine Mine.Stop.mk ?_))
local macro_rules | `(tactic| walk_at "eval IfExp") => `(tactic| (refine Mine.Stop.mk ?_))
local macro_rules | `(tactic| k_steps) => `(tactic| walk_at "S")
section
variable {α : Type} {M : Model} {A : Around} {E : Value → Shared → Prop} {s : Shared}
/-- both ways of a test end in one state -/
structure JoinT (s : Shared) (h : Heap) (V : α → Prop) (b : α) (s' : Shared) : Prop where
  v : V b
  is : ∃ tk, s' = { s with heap := h, toks := tk }
theorem join_toks {c : Sem α} {Q : α → Shared → Prop} {h : Heap} {tk : Nat} (V : α → Prop) (h1 : wpAny M A c (JoinT s h V) E { s with heap := h, toks := tk })
    (h2 : ∀ b tk', V b → Q b { s with heap := h, toks := tk' }) : wpAny M A c Q E { s with heap := h, toks := tk } :=
  wpAny_mono h1 (fun b s' j => by obtain ⟨v, tk', rfl⟩ := j; exact h2 b tk' v) fun _ _ x => x
structure JoinN (s : Shared) (g : Heap) (L : Addr) (m : Str → Option Value) (news : List (Addr × Obj)) (V : Value → Prop) (v : Value) (s' : Shared) : Prop where
  v : V v
  is : ∃ h tk, s' = { s with heap := h, toks := tk } ∧ Fr g L h m ∧ News g L h news
theorem join_news {c : Sem Value} {Q : Value → Shared → Prop} {g h : Heap} {L : Addr} {m : Str → Option Value} {news : List (Addr × Obj)} {tk : Nat} (F : Fr g L h m) (N : News g L h news) (V : Value → Prop)
    (h1 : wpAny M A c (JoinN s g L m news V) E { s with heap := h, toks := tk })
    (h2 : ∀ v h' tk', V v → Fr g L h' m → News g L h' news → Q v { s with heap := h', toks := tk' }) : wpAny M A c Q E { s with heap := h, toks := tk } :=
  wpAny_mono h1 (fun b s' j => by obtain ⟨v, h', tk', rfl, F', N'⟩ := j; exact h2 b h' tk' v F' N') fun _ _ x => x
structure JoinH (w : World) (s : Shared) (g : Heap) (L : Addr) (m : Str → Option Value) (g2 : Obj → Obj → List (Addr × Obj)) (l : Addr) (n : Nat) (V : Value → Prop) (v : Value) (s' : Shared) : Prop where
  v : V v
  is : ∃ h tk a b, s' = { s with heap := h, toks := tk } ∧ Fr g L h m ∧ News g L h (g2 a b) ∧ HandIs w l a b n
theorem join_hand {w : World} {c : Sem Value} {Q : Value → Shared → Prop} {g h : Heap} {L : Addr} {m : Str → Option Value} {news : List (Addr × Obj)} {tk : Nat} {hand l : Addr} {oh ol : Obj} {g1 : Obj → List (Addr × Obj)} {g2 : Obj → Obj → List (Addr × Obj)}
    (F : Fr g L h m) (_N : News g L h news) (_U1 : UpdF hand oh news g1) (_U2 : ∀ o, UpdF l ol (g1 o) (g2 o)) (n : Nat) (V : Value → Prop)
    (h1 : wpAny M A c (JoinH w s g L m g2 l n V) E { s with heap := h, toks := tk })
    (h2 : ∀ v h' tk' a b, V v → Fr g L h' m → News g L h' (g2 a b) → HandIs w l a b n → Q v { s with heap := h', toks := tk' }) : wpAny M A c Q E { s with heap := h, toks := tk } :=
  wpAny_mono h1 (fun b s' j => by obtain ⟨v, h', tk', a, b', rfl, F', N', H'⟩ := j; exact h2 b h' tk' a b' v F' N' H') fun _ _ x => x
theorem isnot_none {v : Value} {Q : Value → Shared → Prop} (b : Bool) (hv : (b = false ∧ v = .none) ∨ (b = true ∧ ∃ a, v = .ref a)) (h : Q (.bool b) s) : wpAny M A (compareOp .IsNot v .none) Q E s := by
  rcases hv with ⟨rfl, rfl⟩ | ⟨rfl, a, rfl⟩
  · exact wpAny_isNot_self (by rfl) h
  · exact wpAny_isNot_other (by rfl) (by intro x; cases x) h
theorem drop2 {g h : Heap} {L : Addr} {a b : Addr × Obj} {l : List (Addr × Obj)} (N : News g L h (a :: b :: l)) : News g L h l := fun q hq => N q (.tail _ (.tail _ hq))
end
theorem fresh_or {h g : Heap} {l : List Addr} {z : Addr} (k : ∀ b o, h.get? b = some o → b ∉ l → g.get? b = some o) (e : g.get? z = none) : h.get? z = none ∨ z ∈ l := by
  by_cases m : z ∈ l
  · exact .inr m
  · cases q : h.get? z with
    | none => exact .inl rfl
    | some o => rw [k z o q m] at e; cases e
theorem deed_spec {w : World} {A₀ : Around} {s : Shared} {base h₀ : Heap} {outer : List Env} {env : Env} {L : Addr} {m : Str → Option Value} {news : List (Addr × Obj)}
  {p : Program} {loose : List Str} {mean : ExcName → Option Value} {mg mb : Str → Option Value} {R : Result → Shared → Prop}
  {hi : Heap} {ad : Adr} {oh ol ot om oL : Obj} {rest : List (Addr × Obj)} {xs : List TX} {n : Nat} {made : List (Int × Int)} {laid : List Row} {ops : List (List (Str × Str))} {vm vl : List Value} {mo : Int} {t4 : Tok} :
  (hd.heap_1 w.params).In h₀ → Below A₀ base outer h₀ → Fr h₀ L s.heap m → News h₀ L s.heap news → Top p loose mean mg mb h₀ → env.frame = some L → env.scope.kind = .function →
  (∀ q ∈ ledOf ad oh ol ot om oL rest, q ∈ news) → StAt w hi s.heap ad oh ol ot om oL rest xs n made laid ops vm vl → n ≤ 1000 → 0 ≤ mo → mo ≤ 15 → 
  Good made laid ops mo →
  (∀ h' tk hi' new oh' ol' ot' om' oL' rest' xs' made' laid' ops' vm' vl', Fr h₀ L h' m → News h₀ L h' (new ++ ledOf ad oh' ol' ot' om' oL' rest') → StAt w hi' h' ad oh' ol' ot' om' oL' rest' xs' (n + 4) made' laid' ops' vm' vl' →
    (∀ b o, hi.get? b = some o → hi'.get? b = some o) → (∀ b o, hi'.get? b = some o → hi.get? b = some o ∨ (b, o) ∈ new) → (∀ b o, s.heap.get? b = some o → b ∉ (ledOf ad oh ol ot om oL rest).map (·.1) → h'.get? b = some o) → (∀ q ∈ new ++ ledOf ad oh' ol' ot' om' oL' rest', s.heap.get? q.1 = none ∨ q.1 ∈ (ledOf ad oh ol ot om oL rest).map (·.1)) →
    Good made' laid' ops' (mo + 1) → R (.ok (.ret (.bool true))) { s with heap := h', toks := tk }) →
  codeAny (model Challenge.rw_pb0007_01.row.prog w) (at_ 500 3000 (env :: outer)) (.call (.ref 189) ⟨[.ref ad.hand, .ref ad.book, .ref ad.types, .int mo t4], []⟩) R s := by
  k_fill
  intro X B F N T hf hke hfp S hn hmo0 hmo1 G post
  have hx1 : 1 ≤ xs.length := by rw [S.typesAt.len]; exact G.pos
  have hx7 : xs.length ≤ 7 := by rw [S.typesAt.len]; exact G.le7
  obtain ⟨⟨d1, d2, d3, d4, d5, d6, d7, d8, d9, d10⟩, r1, r2, r3, r4, r5, rn⟩ := nodup5 S.nod
  obtain ⟨e1, rfl⟩ := S.ot
  obtain ⟨e2, rfl⟩ := S.om
  obtain ⟨e3, rfl⟩ := S.oL
  refine' enter_footC (fp := ledOf ad oh ol _ _ _ rest) (binds := [(Str.ofString "hand", .ref ad.hand), (Str.ofString "book", .ref ad.book), (Str.ofString "types", .ref ad.types), (Str.ofString "moment", .int mo t4)]) B F X N T rfl hf hke hfp ?k6 ?k7 ?k8 ?k9 ?kB ?kD ?_ ?c2 ?c3 ?c4
  case k6 => k_is
  case k7 => k_is
  case k8 => k_room
  case k9 => exact BindsTo.of_eq rfl
  case kB => exact rfl
  case kD => decide +kernel
  case c2 => exact rfl
  case c3 => exact rfl
  case c4 => exact rfl
  intro g L' h' tk' cells' FG' F' N' Y' B' X' T' hrest hl1 hl2
  have hk : ∀ b o, hi.get? b = some o → g.get? b = some o := fun b o e => hrest b o (S.sub b o e) (fun hm => by
    obtain ⟨q, hq, rfl⟩ := List.mem_map.mp hm
    rw [(S.led q hq).2] at e; cases e)
  have hl3 : ∀ q ∈ rest, q.1 ≠ L' + 1 := fun q hq => by
    have h : @LT.lt Nat _ q.1 L' := hl1 q (.tail _ (.tail _ (.tail _ (.tail _ (.tail _ hq)))))
    exact neN (by omega)
  simp only [ledOf] at N' hl1
  k_lt hl1
  k_cells Y'
  (try simp only [List.cons_append, List.nil_append, List.append_nil] at N')
  (try dsimp only)
  change wpAny _ _ _ _ _ _
  k_fold
  have hH := S.hand
  k_steps
  refine Stop.go ?_
  rename Fr g L' _ _ => F9
  rename News g L' _ _ => N9
  refine' wpAny_call (codeAny_le (next_spec X' B' F9 N9 T' rfl rfl ?V1 ?V2 ?Vm ?Vne hH ?Vn ?Vlim ?Vpost) rfl (Nat.le_of_ble_eq_true rfl) rfl rfl (Nat.le_of_ble_eq_true rfl))
  case V1 => k_updF
  case V2 => intro o9; k_updF
  case Vm => k_mem
  case Vne => k_ne
  case Vn => omega
  case Vlim => decide
  clear F9 N9 hH
  intro h1 tk1 r1' t1' oh1 ol1 hr10 hr11 F1 N1 H1 kp1
  clear kp1
  (try dsimp only at N1)
  (try dsimp only)
  k_steps
  refine Stop.go ?_
  rename Fr g L' _ _ => F9
  rename News g L' _ _ => N9
  rename HandIs _ _ _ _ _ => H9
  refine' wpAny_call (codeAny_le (next_spec X' B' F9 N9 T' rfl rfl ?U1 ?U2 ?m ?ne H9 ?n ?lim ?post) rfl (Nat.le_of_ble_eq_true rfl) rfl rfl (Nat.le_of_ble_eq_true rfl))
  case U1 => k_updF
  case U2 => intro o9; k_updF
  case m => k_mem
  case ne => k_ne
  case n => omega
  case lim => omega
  clear F9 N9 H9
  intro h2 tk2 r tr oh2 ol2 hr0 hr1 F2 N2 H2 kp2
  clear kp2
  refine Classical.byContradiction fun hG => ?_
  obtain ⟨⟨x, d, od⟩, hxr⟩ : ∃ t, xs[r.toNat]? = some t := ⟨_, List.getElem?_eq_getElem (by omega)⟩
  obtain ⟨⟨pp, pmo⟩, hmr⟩ : ∃ t, made[r.toNat]? = some t := ⟨_, List.getElem?_eq_getElem (by have := S.typesAt.len; omega)⟩
  have hvx : (xs.map fun t => Value.ref t.1)[r.toNat]? = some (.ref x) := by rw [List.getElem?_map, hxr]; rfl
  have hT0 := S.typesAt.ty _ _ _ _ _ _ hxr hmr
  have hT := hT0.keep hk
  obtain ⟨oo, hrr⟩ : ∃ oo, rest[r.toNat]? = some (od, oo) := by
    have e := congrArg (fun l => l[r.toNat]?) S.opsAt.adr
    simp only [List.getElem?_map, hxr, Option.map_some] at e
    cases q : rest[r.toNat]? with
    | none => rw [q] at e; cases e
    | some z => rw [q] at e; exact ⟨z.2, by rw [show z = (z.1, z.2) from rfl]; simp at e; rw [e]⟩
  obtain ⟨lo, kv, kvs, hkv, hoo, hnm⟩ := S.opsAt.op _ _ _ hrr
  have hmem : (od, oo) ∈ rest := List.mem_of_getElem? hrr
  refine hG ?_
  clear hG
  (try dsimp only at N2)
  (try dsimp only)
  have hvm : vm.length = made.length := S.madeAt.length
  have hvl : vl.length = laid.length := S.laidAt.length
  have hml := S.typesAt.len
  have hbook := DictOf.keep S.book hk
  have hkl : kvs.length ≤ 5 := by rw [hnm.length]; exact G.five hkv
  have hll : laid.length ≤ 16 := by have := G.nlaid; have := G.bb; omega
  k_steps
  refine Stop.go ?_
  refine join_toks (fun b => b = true → xs.length < 7) ?_ ?_
  · refine isTrue_and ?_
    k_steps
    all_goals refine ⟨?_, _, rfl⟩
    all_goals (try dsimp only)
    all_goals intro hb
    all_goals first | (exact absurd hb (by decide)) | omega
  intro b tk3 hb
  (try dsimp only)
  rcases b with _ | _
  · have hmade := S.madeAt.keep hk
    refine Classical.byContradiction fun hG => ?_
    obtain ⟨vi, hvi⟩ : ∃ v, vm[r.toNat]? = some v := by
      have hl : r.toNat < vm.length := by omega
      exact ⟨_, List.getElem?_eq_getElem hl⟩
    obtain ⟨am, pp', pmo', u1, u2, rfl, hmr', hmt⟩ := hmade.get hvi
    rw [hmr] at hmr'
    cases hmr'
    refine hG ?_
    clear hG
    have hpp := G.hpar _ _ _ hmr
    k_steps
    refine Mine.rest_filter (childTest made r) (vs := vm) (fun _ => rfl) (fun _ => rfl) (by decide) (Or.inr ⟨_, (by k_mem), rfl, _, rfl⟩) ?turn _ 0 [] (by simp) ?fin
    case turn =>
      intro j v I oI C oC D' ys m₂ hh tk E' hv hC hx F2 N2 off ne
      obtain ⟨a, q1, q2, u1, u2, rfl, hrow, htup⟩ := hmade.get hv
      k_steps
      all_goals refine ⟨?_, _, _, rfl, by k_asm, by k_asm⟩
      all_goals (simp only [childTest, hrow]; (by_cases e : q1 = r <;> simp [e]))
    case fin =>
      simp only [List.nil_append, List.drop_zero]
      have hno := no_child (r := r) hvm
      generalize keepIf (childTest made r) 0 vm = ws at hno ⊢
      rcases ws with _ | ⟨wv, ws⟩
      · have hno' := hno rfl
        k_steps
        refine Stop.go ?_
        rename Fr g L' _ _ => F9
        rename News g L' _ _ => N9
        refine' wpAny_call (codeAny_le (Mine.next_spec X' B' F9 N9 T' rfl rfl ?yU1 ?yU2 ?ym ?yne H2 ?yn ?yl ?ypost) rfl ?yc1 rfl rfl ?yc2)
        case yU1 => k_updF
        case yU2 => intro o9; k_updF
        case ym => k_mem
        case yne => k_ne
        case yn => omega
        case yl => decide
        case yc1 => exact Nat.le_of_ble_eq_true rfl
        case yc2 => exact Nat.le_of_ble_eq_true rfl
        clear F9 N9 H2
        intro h3 tk3 ra tra oh3 ol3 hr30 hr31 F3 N3 H3 kp3
        clear kp3
        (try dsimp only at N3)
        (try dsimp only)
        k_steps
        refine Stop.go ?_
        refine' Mine.item_key F3 (tupK X' (by k_is)) ?kl ?kv hr30 hr31 ?_
        case kl => exact rfl
        case kv =>
          intro v hv
          simp only [List.mem_cons, List.not_mem_nil, or_false] at hv
          rcases hv with rfl | rfl | rfl | rfl | rfl <;> exact ⟨_, _, rfl, by decide +kernel⟩
        intro key kt hkey
        k_steps
        refine Stop.go ?_
        rename Fr g L' _ _ => F9
        rename News g L' _ _ => N9'
        have N9 := drop2 N9'
        clear N9'
        refine' join_hand (w := w) (hand := ad.hand) (l := ad.l) F9 N9 ?jU1 ?jU2 (n + 4) (fun v => ∃ nm t, v = .str nm t ∧ (nm = Str.ofString "" ∨ nm = pname mo)) ?jh1 ?jh2
        case jU1 => k_updF
        case jU2 => intro o9; k_updF
        case jh1 =>
          refine IfExp_ ?_
          k_steps
          refine Stop.go ?_
          rename Fr g L' _ _ => F8
          rename News g L' _ _ => N8
          refine' wpAny_call (codeAny_le (Mine.next_spec X' B' F8 N8 T' rfl rfl ?xU1 ?xU2 ?xm ?xne H3 ?xn ?xl ?xpost) rfl ?xc1 rfl rfl ?xc2)
          case xU1 => k_updF
          case xU2 => intro o9; k_updF
          case xm => k_mem
          case xne => k_ne
          case xn => omega
          case xl => decide
          case xc1 => exact Nat.le_of_ble_eq_true rfl
          case xc2 => exact Nat.le_of_ble_eq_true rfl
          clear F8 N8 H3
          intro h4 tk4 rb trb oh4 ol4 hr40 hr41 F4 N4 H4 kp4
          clear kp4
          (try dsimp only at N4)
          (try dsimp only)
          k_steps
          · exact ⟨⟨_, _, rfl, .inl rfl⟩, _, _, _, _, rfl, by k_asm, by k_asm, H4⟩
          · exact ⟨⟨_, _, rfl, .inr (pname_eq mo)⟩, _, _, _, _, rfl, by k_asm, by k_asm, H4⟩
        case jh2 =>
          clear F9 N9 H3
          intro v4 h4 tk4 oh4 ol4 hv F4 N4 H4
          obtain ⟨nm, tn, rfl, hnm4⟩ := hv
          (try dsimp only at N4)
          (try dsimp only)
          k_steps
          refine Stop.go ?_
          rename Fr g L' _ _ => F9
          rename News g L' _ _ => N9
          refine join_news F9 N9 (fun v => ∃ b : Bool, b = (decide (0 ≤ pp) && (found made laid 8 pp key pmo).isSome) ∧ ((b = false ∧ v = .none) ∨ (b = true ∧ ∃ a, v = .ref a))) ?jn1 ?jn2
          case jn1 =>
            refine IfExp_ ?_
            k_steps
            · exact ⟨⟨false, by simp [show ¬ (0 ≤ pp) by omega], .inl ⟨rfl, rfl⟩⟩, _, _, rfl, by k_asm, by k_asm⟩
            · refine Stop.go ?_
              rename Fr g L' _ _ => F8
              rename News g L' _ _ => N8
              refine wpAny_call (codeAny_le (found_spec w 8 X' B' F8 N8 T' rfl rfl (D := 600) (U := 5000) (by omega) (by omega) ⟨DictOf.keep hbook F8.keep, News.isList N8 (by k_mem), News.isList N8 (by k_mem), hmade.keep F8.keep, (S.laidAt.keep hk).keep F8.keep⟩ G.le7 hll G.hpar (by omega) (by omega) (by omega) ?_) rfl (Nat.le_of_ble_eq_true rfl) rfl rfl (Nat.le_of_ble_eq_true rfl))
              intro h5 tk5 v5 k5 F5 N5 hv5 _
              clear k5
              have h0 : 0 ≤ pp := by omega
              refine ⟨?_, _, _, rfl, F5, N5⟩
              generalize hfd : found made laid 8 pp _ pmo = fd at hv5
              rcases fd with _ | ⟨nm5, i5⟩
              · exact ⟨false, by simp, .inl ⟨rfl, hv5⟩⟩
              · obtain ⟨a5, _, _, hv5', _⟩ := hv5
                exact ⟨true, by simp [h0], .inr ⟨rfl, a5, hv5'⟩⟩
          case jn2 =>
            intro v5 h5 tk5 hv5 F5 N5
            obtain ⟨b5, hb5, hv5⟩ := hv5
            clear F9 N9
            (try dsimp only)
            k_steps
            refine Stop.go ?_
            rename Fr g L' _ _ => F9
            rename News g L' _ _ => N9
            rename (@LT.lt Nat _ _ _ ∧ _) => l8
            obtain ⟨h1, kp, hi1, hsub1, hpa, hov⟩ := par_base S G hmr hrr (fun b o e => F9.keep b o (hk b o e)) (fun q hq => (N9 q (.tail _ (.tail _ (.tail _ (.tail _ (.tail _ (.tail _ (.tail _ (hq))))))))).1)
            refine wpAny_call (codeAny_le (lay_spec (kvs := kvs) (kp := kp) (h1 := h1) X' B' F9 N9 T' rfl rfl (.tail _ (.tail _ (.tail _ (.tail _ (.tail _ (.tail _ (.tail _ (hmem)))))))) hoo hkl (hT0.keep hi1) hpa hsub1 ?_) rfl (Nat.le_of_ble_eq_true rfl) rfl rfl (Nat.le_of_ble_eq_true rfl))
            intro h6 tk6 oo6 k6 F6 go6 hoo6
            obtain ⟨_, z1, z2, z3, z4, z5, z6⟩ := l8
            have z7 := allLt_mem z6
            have N6 := news_set (pre := [_, _, _, _, _, _]) (rest := rest) (fun q hq => N9 q (by
              simp only [List.cons_append, List.nil_append, List.mem_cons] at hq ⊢
              rcases hq with hq | hq
              · exact .inl hq
              · exact .inr (.inr hq))) k6 go6 (by
                intro q hq
                simp only [List.mem_cons, List.not_mem_nil, or_false] at hq
                rcases hq with rfl | rfl | rfl | rfl | rfl | rfl
                · exact Ne.symm (ltNe (z7 _ hmem))
                · exact Ne.symm (r1 _ hmem)
                · exact Ne.symm (r2 _ hmem)
                · exact Ne.symm (r3 _ hmem)
                · exact Ne.symm (r4 _ hmem)
                · exact Ne.symm (r5 _ hmem)) rn hrr
            simp only [List.cons_append, List.nil_append, List.push_toArray] at N6
            clear F9 N9
            (try dsimp only)
            rw [hov, ← hb5]
            k_steps
            refine isnot_none b5 hv5 ?_
            k_steps
            rename Fr h₀ L _ m => kF
            rename News h₀ L _ _ => kN
            obtain ⟨hi', S', s1, s2⟩ := st_lay S hk F6 N6 H4 (by omega) (fun q hq => by
              simp only [ledOf, List.mem_cons] at hq
              rcases hq with rfl | rfl | rfl | rfl | rfl | hq
              · exact ltNe z1
              · exact ltNe z2
              · exact ltNe z3
              · exact ltNe z4
              · exact ltNe z5
              · exact ltNe (z7 q hq)) hrr hoo6 hnm hkv
            rw [show (b5 == b5) = true from beq_self_eq_true b5]
            refine post _ _ hi' _ _ _ _ _ _ _ _ _ _ _ _ _ kF (fun q hq => kN q hq) S' s1 s2 (fun b o e hb => F6.keep b o (hrest b o e hb)) (fun q hq => fresh_or hrest (N6 q hq).2.2) ?_
            have hrr0 : r = ((r.toNat : Nat) : Int) := by omega
            rw [hrr0]
            exact G.lay hmo1 hkv (fun j p mo h => by have := hno' j p mo h; omega) hkey hnm4
      · k_steps
        rename Fr h₀ L _ m => kF
        rename News h₀ L _ _ => kN
        rename Fr g L' _ _ => F8
        rename News g L' _ _ => N8
        have S' := st_skip S hk F8 N8 (fun q hq => .tail _ (.tail _ (.tail _ hq))) H2 (by omega)
        exact post _ _ hi [] _ _ _ _ _ _ _ _ _ _ _ _ kF (fun q hq => kN q (.tail _ (.tail _ (.tail _ hq)))) S' (fun b o e => e) (fun b o e => .inl e) (fun b o e hb => F8.keep b o (hrest b o e hb)) (fun q hq => fresh_or hrest (N8 q (.tail _ (.tail _ (.tail _ hq)))).2.2) (G.skip hmo1)
  · have hlt : xs.length < 7 := hb rfl
    k_steps
    refine Stop.go ?_
    rename Fr g L' _ _ => F9
    rename News g L' _ _ => N9
    have k9 : ∀ b o, g.get? b = some o → _ := fun b o e => F9.keep b o e
    refine' wpAny_call (codeAny_le (extend_spec X' B' F9 N9 T' rfl rfl hT0 (fun b o e => k9 b o (hk b o e)) (Heap.dictOf_iff.mpr ⟨oo, News.get N9 ?zm, hoo⟩) lo hkl (News.isList N9 ?zl) ?zp) rfl (Nat.le_of_ble_eq_true rfl) rfl rfl (Nat.le_of_ble_eq_true rfl))
    case zm => exact .tail _ (.tail _ (.tail _ (.tail _ (.tail _ (.tail _ (.tail _ hmem))))))
    case zl => k_mem
    intro h3 tk3 x' d' od' oo' tt a' n' e' k3 F3 N3 f1 f2 f3 f4 n1 n2 n3 hoo' lo' hl12
    have hf4 : ∀ z v, _ → ∀ q ∈ [(x', instObj 94 d'), (d', dictOf (typeEs w.params tt a' (Str.ofString "t") (100 + ↑xs.length) (Value.ref x) true od') n'), (od', oo'), (a'.a13, W.listOf #[] e')], q.1 ≠ z := fun z v hz q hq e => by
      have hz' := News.get (a := z) (o := v) N9 hz
      simp only [List.mem_cons, List.not_mem_nil, or_false] at hq
      rcases hq with rfl | rfl | rfl | rfl <;> simp only at e <;> subst e
      · rw [f1] at hz'; cases hz'
      · rw [f2] at hz'; cases hz'
      · rw [f3] at hz'; cases hz'
      · rw [f4] at hz'; cases hz'
    have c1 := hf4 (L' + 1) _ (by k_mem)
    have c2 := hf4 ad.hand _ (by k_mem)
    have c3 := hf4 ad.l _ (by k_mem)
    have c4 := hf4 ad.types _ (by k_mem)
    have c5 := hf4 ad.lm _ (by k_mem)
    have c6 := hf4 ad.ll _ (by k_mem)
    have c7 : ∀ q ∈ rest, ∀ p ∈ [(x', instObj 94 d'), (d', dictOf (typeEs w.params tt a' (Str.ofString "t") (100 + ↑xs.length) (Value.ref x) true od') n'), (od', oo'), (a'.a13, W.listOf #[] e')], p.1 ≠ q.1 := fun q hq => hf4 q.1 q.2 (.tail _ (.tail _ (.tail _ (.tail _ (.tail _ (.tail _ (.tail _ hq)))))))
    have N4 := News.append (fun q hq => news0 N9 k3 q (.tail _ hq)) N3
    generalize hfour : [(x', instObj 94 d'), (d', dictOf (typeEs w.params tt a' (Str.ofString "t") (100 + ↑xs.length) (Value.ref x) true od') n'), (od', oo'), (a'.a13, W.listOf #[] e')] = four at *
    simp only [List.cons_append] at N4
    have ap : ∀ z, (∀ q ∈ rest, q.1 ≠ z) → (∀ q ∈ four, q.1 ≠ z) → ∀ q ∈ rest ++ four, q.1 ≠ z := fun z a b q hq => (List.mem_append.mp hq).elim (a q) (b q)
    have b1 := ap _ hl3 c1
    have b2 := ap _ r1 c2
    have b3 := ap _ r2 c3
    have b4 := ap _ r3 c4
    have b5 := ap _ r4 c5
    have b6 := ap _ r5 c6
    generalize hrest2 : rest ++ four = rest2 at *
    clear N3 N9 F9
    have pre : ∀ z, g.get? z = none → z ∉ (ledOf ad oh ol (W.listOf (List.map (fun t => Value.ref t.fst) xs).toArray e1) (W.listOf vm.toArray e2) (W.listOf vl.toArray e3) rest).map (·.1) → s.heap.get? z = none := fun z hz hn => by
      cases e : s.heap.get? z with
      | none => rfl
      | some o => rw [hrest z o e hn] at hz; cases hz
    dsimp only
    k_steps
    rename Fr h₀ L _ m => kF
    rename News h₀ L _ _ => kN
    rename Fr g L' _ _ => F8
    rename News g L' _ _ => N8
    simp only [List.push_toArray] at N8 kN
    rename (@LT.lt Nat _ (L' + 1) _ ∧ _) => l9
    obtain ⟨z0, z1, z2, z3, z4, z5, z6⟩ := l9
    have z7 := allLt_mem z6
    subst hrest2
    have z8 : ∀ q ∈ rest, q.1 ≠ _ := fun q hq => ltNe (z7 q (List.mem_append_left _ hq))
    have z9 : ∀ q ∈ four, q.1 ≠ _ := fun q hq => ltNe (z7 q (List.mem_append_right _ hq))
    subst hfour
    obtain ⟨hi', S', s1, s2⟩ := st_extend S hk F8 N8 H2 (by omega) (fun q hq => ⟨c2 q hq, c3 q hq, c4 q hq, c5 q hq, c6 q hq, fun z hz => c7 z hz q hq, z9 q hq⟩) n1 n2 n3 (fun q hq => by
      simp only [ledOf, List.mem_cons] at hq
      rcases hq with rfl | rfl | rfl | rfl | rfl | hq
      · exact ltNe z1
      · exact ltNe z2
      · exact ltNe z3
      · exact ltNe z4
      · exact ltNe z5
      · exact z8 q hq) hoo' hnm lo' hl12 hr0 hxr hkv G.hpar
    refine post _ _ hi' _ _ _ _ _ _ _ _ _ _ _ _ _ kF (fun q hq => kN q ?_) S' s1 s2 (fun b o e hb => F8.keep b o (hrest b o e hb)) (fun q hq => fresh_or hrest (N8 q ?_).2.2) ?_
    · simp only [ledOf, List.map_append, List.map_cons, List.map_nil] at hq
      exact mem_ext hq
    · simp only [ledOf, List.map_append, List.map_cons, List.map_nil] at hq
      exact mem_ext hq
    · have hrr0 : r = ((r.toNat : Nat) : Int) := by omega
      rw [hrr0]
      exact G.extend hmo1 hkv (by omega)
end
section
set_option maxHeartbeats 1000000
/-- what of an exception outlives a step of its traceback -/
def Lasting (P : Obj → Prop) : Prop := ∀ o v, P o → P (o.mapFields (·.setIfInBounds 1 v))
/-- an exception whose last entry's flight mark is fl -/
def Marked (h base : Heap) (e : Addr) (P : Obj → Prop) (fl : Value) : Prop :=
  ∃ oe vs T oT ts, h.get? e = some oe ∧ P oe ∧ oe.data = .fields vs ∧ vs[1]? = some (.ref T) ∧ base.get? T = none ∧ T ≠ e ∧ h.get? T = some oT ∧ oT.data = .fields ts ∧ ts[3]? = some fl
/-- an exception that no frame has seen yet -/
def Unseen (h : Heap) (e : Addr) (P : Obj → Prop) : Prop := ∃ oe vs, h.get? e = some oe ∧ P oe ∧ oe.data = .fields vs ∧ vs[1]? = some .none
structure InAir (base : Heap) (l : List Env) (e : Addr) (X : Heap → Prop) (h : Heap) : Prop where
  stays : base.StaysIn h
  fresh : base.get? e = none
  frames : h.FunFrames base l
  exc : X h

section
variable {M : Model} {A : Around} {E : Value → Shared → Prop} {s : Shared} {base : Heap} {env : Env} {outer : List Env} {l : List Env} {L e : Addr} {P : Obj → Prop} {Q : Unit → Shared → Prop} {fl : Value}

theorem new_entry {oe : Obj} {vs : Array Value} {head : Value} {hadNext : Bool} (hP : Lasting P)
    (hfr : A.frames = some (env :: outer)) (hl : s.heap.FunFrames base (env :: outer)) (hf : env.frame = some L)
    (he : s.heap.get? e = some oe) (hp : P oe) (hkb : base.StaysIn s.heap) (hen : base.get? e = none) (hd : oe.data = .fields vs) (hsz : 1 < vs.size)
    (h : ∀ h', InAir base (env :: outer) e (Marked · base e P (rawInt L)) h' → s.heap.UpToSlots h' → Q () { s with heap := h' }) :
    wpAny M A (do let a ← frameOf env; let pl ← entryPlaceOf L hadNext; let b ← EntryCells.newEntry head a .none (rawInt L) .none pl; setField (.ref e) 1 b) Q E s := by
  have hene : e ∉ (env :: outer).filterMap (·.frame) := fun hm => by
    obtain ⟨_, o, ho, hnf⟩ := hl.mem hm
    rw [he] at ho
    cases ho
    exact hnf vs hd
  refine wpAny_bind (wpAny_frameOf_fun hfr hl hf fun h₁ hs₁ => ?_)
  refine wpAny_bind (wpAny_entryPlaceOf fun pl hpl => ?_)
  unfold EntryCells.newEntry newFields
  refine wpAny_bind (wpAny_newObj_type ?_ (hpl.sizeOk5 _ _ _ _ _))
  generalize hnT : ({ cls := .type "traceback", dict := none, data := .fields ([head, .ref L, .none, rawInt L, .none] ++ (if pl.isEmpty then List.replicate 6 Value.none else pl)).toArray } : Obj) = nT
  have he₁ : h₁.get? e = some oe := (hs₁.2.1 e hene).trans he
  have kb₁ : base.StaysIn h₁ := fun b o hbo => (hs₁.2.1 b fun hm => by rw [(hl.mem hm).1] at hbo; cases hbo).trans (hkb b o hbo)
  refine wpAny_setField (Heap.get?_push_of_some nT he₁) hd hsz (h _ ?_ ?_)
  all_goals
    have hTe : h₁.objs.size ≠ e := Nat.ne_of_gt (Heap.lt_size he₁)
    have keep : ∀ b o, b ≠ e → h₁.get? b = some o → ((h₁.push nT).update e (Obj.mapFields (·.setIfInBounds 1 (Value.ref h₁.objs.size)))).get? b = some o := fun b o hbe hb =>
      (Heap.get?_update_other _ _ (Ne.symm hbe)).trans (Heap.get?_push_of_some _ hb)
    have notE : ∀ b o, s.heap.get? b = some o → (∀ vs, o.data ≠ .fields vs) → b ≠ e := fun b o hb hnf q => by
      rw [q, he] at hb
      cases hb
      exact hnf vs hd
  · have hd₃ := Obj.data_mapFields hd (·.setIfInBounds 1 (Value.ref h₁.objs.size))
    refine ⟨fun b o hbo => keep b o (fun q => by rw [q, hen] at hbo; cases hbo) (kb₁ b o hbo), hen, hl.of_keeps fun b o hb hnf => ?_, ?_⟩
    · obtain ⟨sl, hs⟩ := hs₁.2.2 b o hb
      exact ⟨_, keep b _ (notE b o hb hnf) hs, rfl⟩
    · have hT₃ : ((h₁.push nT).update e (Obj.mapFields (·.setIfInBounds 1 (Value.ref h₁.objs.size)))).get? h₁.objs.size = some nT :=
        (Heap.get?_update_other _ _ (Ne.symm hTe)).trans (Heap.get?_push_size h₁ (by rw [← hnT]; rfl))
      have h3 : (([head, .ref L, .none, rawInt L, .none] ++ (if pl.isEmpty then List.replicate 6 Value.none else pl)).toArray)[3]? = some (rawInt L) := by simp
      exact ⟨_, _, h₁.objs.size, _, _, Heap.get?_update_self _ (Heap.get?_push_of_some nT he₁) (Obj.isFreed_of_fields hd₃), hP _ _ hp, hd₃, by simp [hsz], kb₁.fresh, hTe, hT₃, by rw [← hnT], h3⟩
  · intro b o hb hnf
    obtain ⟨sl, hs⟩ := hs₁.2.2 b o hb
    exact ⟨sl, keep b _ (notE b o hb hnf) hs⟩

/-- the first frame looks at it -/
theorem note_first (hP : Lasting P) (hfr : A.frames = some (env :: outer)) (hf : env.frame = some L) (hx : InAir base (env :: outer) e (Unseen · e P) s.heap)
    (h : ∀ h', InAir base (env :: outer) e (Marked · base e P (rawInt L)) h' → s.heap.UpToSlots h' → Q () { s with heap := h' }) : wpAny M A (noteFrame (.ref e) env) Q E s := by
  obtain ⟨k1, k2, k3, oe, vs, he, hp, hd, h1⟩ := hx
  unfold noteFrame
  simp only [hf]
  refine wpAny_bind (wpAny_field he hd h1 ?_)
  rw [if_neg (by decide)]
  exact new_entry hP hfr k3 hf he hp k1 k2 hd (Array.getElem?_eq_some_iff.mp h1).1 h

/-- the next one does -/
theorem note_next (hP : Lasting P) (hfr : A.frames = some (env :: outer)) (hf : env.frame = some L) (hx : InAir base (env :: outer) e (Marked · base e P .none) s.heap)
    (h : ∀ h', InAir base (env :: outer) e (Marked · base e P (rawInt L)) h' → s.heap.UpToSlots h' → Q () { s with heap := h' }) : wpAny M A (noteFrame (.ref e) env) Q E s := by
  obtain ⟨k1, k2, k3, oe, vs, T, oT, ts, he, hp, hd, h1, hnT, hTe, hT, hdT, h3⟩ := hx
  unfold noteFrame
  simp only [hf]
  refine wpAny_bind (wpAny_field he hd h1 ?_)
  rw [if_pos (show (Value.ref T != Value.none) = true from by simp)]
  refine wpAny_bind (wpAny_field hT hdT h3 ?_)
  rw [if_neg (show ¬ ((Value.none == rawInt L) = true) from by simp [rawInt])]
  refine wpAny_bind (wpAny_setField hT hdT (Array.getElem?_eq_some_iff.mp h3).1 ?_)
  have other : ∀ b, b ≠ T → (s.heap.update T (Obj.mapFields (·.setIfInBounds 3 Value.none))).get? b = s.heap.get? b := fun b hb => Heap.get?_update_other _ _ (Ne.symm hb)
  have notT : ∀ b o, s.heap.get? b = some o → (∀ vs, o.data ≠ .fields vs) → b ≠ T := fun b o hb hnf q => by
    rw [q, hT] at hb
    cases hb
    exact hnf ts hdT
  refine new_entry hP hfr (k3.of_keeps fun b o hb hnf => ⟨o, (other b (notT b o hb hnf)).trans hb, rfl⟩) hf ((other e (Ne.symm hTe)).trans he) hp
    (fun b o hbo => (other b fun q => by rw [q, hnT] at hbo; cases hbo).trans (k1 b o hbo)) k2 hd (Array.getElem?_eq_some_iff.mp h1).1 fun h' a u => h h' a fun b o hb hnf => u b o ((other b (notT b o hb hnf)).trans hb) hnf

/-- one that has looked already does nothing -/
theorem note_again (hf : env.frame = some L) (hx : Marked s.heap base e P (rawInt L)) (h : Q () s) : wpAny M A (noteFrame (.ref e) env) Q E s := by
  obtain ⟨oe, vs, T, oT, ts, he, hp, hd, h1, hnT, hTe, hT, hdT, h3⟩ := hx
  unfold noteFrame
  simp only [hf]
  refine wpAny_bind (wpAny_field he hd h1 ?_)
  rw [if_pos (show (Value.ref T != Value.none) = true from by simp)]
  refine wpAny_bind (wpAny_field hT hdT h3 ?_)
  rw [if_pos (show (rawInt L == rawInt L) = true from by simp)]
  exact wpAny_pure h

/-- its mark goes -/
theorem unmark (hx : InAir base l e (Marked · base e P fl) s.heap)
    (h : ∀ h', InAir base l e (Marked · base e P .none) h' → s.heap.UpToSlots h' → Q () { s with heap := h' }) : wpAny M A (setFlight (.ref e) none) Q E s := by
  obtain ⟨k1, k2, k3, oe, vs, T, oT, ts, he, hp, hd, h1, hnT, hTe, hT, hdT, h3⟩ := hx
  have other : ∀ b, b ≠ T → (s.heap.update T (Obj.mapFields (·.setIfInBounds 3 ((none : Option Addr).elim Value.none fun f => rawInt f)))).get? b = s.heap.get? b :=
    fun b hb => Heap.get?_update_other _ _ (Ne.symm hb)
  have notT : ∀ b o, s.heap.get? b = some o → (∀ vs, o.data ≠ .fields vs) → b ≠ T := fun b o hb hnf q => by
    rw [q, hT] at hb
    cases hb
    exact hnf ts hdT
  have hsz : 3 < ts.size := (Array.getElem?_eq_some_iff.mp h3).1
  unfold setFlight
  refine wpAny_bind (wpAny_field he hd h1 ?_)
  rw [if_pos (show (Value.ref T != Value.none) = true from by simp)]
  refine wpAny_setField hT hdT hsz (h _ ⟨fun b o hbo => (other b fun q => by rw [q, hnT] at hbo; cases hbo).trans (k1 b o hbo), k2, k3.of_keeps fun b o hb hnf => ⟨o, (other b (notT b o hb hnf)).trans hb, rfl⟩, ?_⟩
    fun b o hb hnf => ⟨o.slots, (other b (notT b o hb hnf)).trans hb⟩)
  exact ⟨oe, vs, T, _, _, (other e (Ne.symm hTe)).trans he, hp, hd, h1, hnT, hTe, Heap.get?_update_self _ hT (Obj.isFreed_of_fields (Obj.data_mapFields hdT _)), Obj.data_mapFields hdT _, by simp [hsz]⟩

theorem InAir.pop {X : Heap → Prop} {h : Heap} (x : InAir base (env :: outer) e X h) : InAir base outer e X h := ⟨x.stays, x.fresh, x.frames.2.2, x.exc⟩

theorem leave_first (hP : Lasting P) (hfr : A.frames = some (env :: outer)) (hf : env.frame = some L) (hx : InAir base (env :: outer) e (Unseen · e P) s.heap)
    (h : ∀ h', InAir base outer e (Marked · base e P .none) h' → s.heap.UpToSlots h' → Q () { s with heap := h' }) : wpAny M A (leaving env (.ref e)) Q E s := by
  unfold leaving
  exact wpAny_bind (note_first hP hfr hf hx fun h₁ x₁ u₁ => unmark x₁ fun h₂ x₂ u₂ => h h₂ x₂.pop (u₁.trans u₂))
theorem leave_next (hP : Lasting P) (hfr : A.frames = some (env :: outer)) (hf : env.frame = some L) (hx : InAir base (env :: outer) e (Marked · base e P .none) s.heap)
    (h : ∀ h', InAir base outer e (Marked · base e P .none) h' → s.heap.UpToSlots h' → Q () { s with heap := h' }) : wpAny M A (leaving env (.ref e)) Q E s := by
  unfold leaving
  exact wpAny_bind (note_next hP hfr hf hx fun h₁ x₁ u₁ => unmark x₁ fun h₂ x₂ u₂ => h h₂ x₂.pop (u₁.trans u₂))
end
end
section
set_option maxHeartbeats 1000000
section
variable {prog : Program} {w : World} {A : Around} {E : Value → Shared → Prop} {h : Heap} {g : Array GenState} {d : Drawn} {t : Nat} {os : OsState}
variable {nm q : Str} {C N : Addr} {bs bm : List Value} {hdct : Bool} {sn : List Str} {sub : List Value} {ab : Bool} {col : Option Bool} {dd : Option Addr} {k0 k1 k2 k3 k5 : Option Value}

abbrev bare (C : Value) (t : Addr) : Obj := { cls := C, data := .fields #[.ref t, .none, .none, .none, .bool false, .none] }
abbrev argsObj (rest : List Value) : Obj := { cls := .type "tuple", data := .seq rest.toArray }

/-- Exception.__new__ for a class of one's own, whatever stands between it and Exception -/
theorem exc_new {rest : List Value} {R : Result → Shared → Prop} (hC : h.get? C = some (excClassObj nm q C N bs bm hdct sn sub ab col dd k0 k1 k2 k3 k5 "Exception.__new__"))
    (hB : bm.contains (.type "Exception") = true) (hA : bm.contains (.type "AttributeError") = false) (hN : bm.contains (.type "NameError") = false)
    (hq : R (.ok (.ret (.ref (h.objs.size + 1)))) ⟨(h.push (argsObj rest)).push (bare (.ref C) h.objs.size), g, d, t, os⟩) (hrest : rest.length ≤ sizeLine) :
    codeAny (model prog w) A (.call (.builtin "Exception.__new__") ⟨.ref C :: rest, []⟩) R ⟨h, g, d, t, os⟩ := by
  have F := PySem.F.excBase_Exception
  have hcB : (Value.ref C :: bm).contains (.type "Exception") = true := by rw [List.contains_cons, hB, Bool.or_true]
  have hcA : (Value.ref C :: bm).contains (.type "AttributeError") = false := by rw [List.contains_cons, hA]; rfl
  have hcN : (Value.ref C :: bm).contains (.type "NameError") = false := by rw [List.contains_cons, hN]; rfl
  have hstar := F.noStar
  refine codeAny_call_builtin_code (Code.quiet_builtin _ F.quiet) ?_
  simp only [checkBuiltinCall, F.newKind, F.newSplit, F.newRow]
  repeat (first | refine wpAny_loadPart_at hC ?_ | (refine wpAny_isSubtype_exc hC ?_; rw [hcB]) | refine wpAny_staticBase_exc hC ?_ | refine wpAny_madeBy_exc hC ?_ | simp only [bne_self_eq_false, Bool.false_eq_true, if_false] | wp_step)
  have hends := F.ends
  refine PySem.codeAny_builtinAt F.entry ?_
  unfold Builtin.«BaseException.__new__»
  refine PySem.wpAt_bind ?_
  show PySem.wpAt _ _ _ (stack >>= _) _ _ _
  refine PySem.wpAt_bind (PySem.wpAt_stack fun p below => PySem.wpAt_of_wpAny ?_)
  wp_walk
  refine PySem.wpAt_of_wpAny ?_
  rw [F.owner]
  repeat (first | with_reducible refine wpAny_madeHere_exc F.canon hC ?_ | with_reducible refine wpAny_loadPart_at hC ?_ | (with_reducible refine wpAny_isSubtype_exc hC ?_; first | rw [hcB] | rw [hcA] | rw [hcN]) | wp_step)
  show R _ _
  rw [Heap.size_push]
  exact hq

/-- making an exception of a class with an __init__ of its own -/
theorem make_exc {rest : List Value} {fI : Addr} {oI : Obj} {Q : Value → Shared → Prop} (hC : h.get? C = some (excClassObj nm q C N bs bm hdct sn sub ab col dd k0 k1 k2 k3 k5 "Exception.__new__"))
    (hB : bm.contains (.type "Exception") = true) (hA : bm.contains (.type "AttributeError") = false) (hN : bm.contains (.type "NameError") = false)
    (hi : Looks (model prog w) h (typeLookup (.ref C) "__init__") (some (.ref fI))) (hfI : h.get? fI = some oI) (hfc : oI.cls = .type "function")
    (hq : wpAny (model prog w) (A.under (.builtin "type.__call__" ⟨.ref C :: rest, []⟩)) (call (.ref fI) (.ref (h.objs.size + 1) :: rest)) (fun r s' => r = .none ∧ Q (.ref (h.objs.size + 1)) s') E
      ⟨(h.push (argsObj rest)).push (bare (.ref C) h.objs.size), g, d, t, os⟩) (hrest : rest.length ≤ sizeLine) :
    wpAny (model prog w) A (call (.ref C) rest) Q E ⟨h, g, d, t, os⟩ := by
  have f1 := tc_lookup
  have f2 := tc_bind (.ref C)
  have hT : (⟨h, g, d, t, os⟩ : Shared).TypeIs (.ref C) "type" := ⟨_, hC, rfl⟩
  refine wpAny_call (codeAny_of_tree ?_)
  show wpAny _ _ (callAny (.ref C) _) _ _ _
  repeat (any_goals (first | assumption | with_reducible refine wpAny_loadPart_at hC ?_ | wp_step))
  refine ⟨rfl, ?_⟩
  refine codeAny_call_builtin_at (Code.quiet_builtin _ (by decide +kernel)) entry_typeCall (wpAny_check_type_call_sub hC ?_)
  repeat (first | with_reducible refine wpAny_loadPart_at hC ?_ | with_reducible refine wpAny_madeBy_exc hC ?_ | wp_step)
  refine exc_new (rest := rest) hC hB hA hN ?_ hrest
  show wpAny _ _ _ _ _ _
  have k : ∀ b o, h.get? b = some o → ((h.push (argsObj rest)).push (bare (.ref C) h.objs.size)).get? b = some o := fun b o e => Heap.get?_push_of_some _ (Heap.get?_push_of_some _ e)
  have hC₁ := k _ _ hC
  have hfI₁ := k _ _ hfI
  have hget : ((h.push (argsObj rest)).push (bare (.ref C) h.objs.size)).get? (h.objs.size + 1) = some (bare (.ref C) h.objs.size) := by heap_get
  have hcC : (Value.ref C :: bm).contains (.ref C) = true := by simp
  unfold isInstance
  repeat (first | with_reducible refine wpAny_loadPart_at hget ?_ | (with_reducible show wpAny _ _ (isSubtype _ _) _ _ _; refine wpAny_isSubtype_exc hC₁ ?_; rw [hcC]) | wp_step)
  show wpAny _ _ (typeLookup (.ref C) _) _ _ _
  refine (hi.keeps k).here ?_
  refine wpAny_holding (wpAny_bind ?_)
  unfold bindSpecial
  refine wpAny_bind (wpAny_typeOf (T := "function") ⟨_, hfI₁, hfc⟩ ?_)
  rw [if_pos (by decide)]
  refine wpAny_pure (wpAny_bind (wpAny_mono hq (fun r s' hr => ?_) fun _ _ x => x))
  obtain ⟨rfl, hQ⟩ := hr
  wp_walk
  exact hQ
end
end
section
set_option maxHeartbeats 1000000
open Builtin Builtin.ObjectAttr
theorem refuse_exc (self : Value) : refuseLoop self "__setattr__" [.type "Exception", .type "BaseException", .type "object"] = pure () := by kernel_rfl

def refV : Value → Bool
  | .ref _ => true
  | _ => false
def tyV : Value → Option String
  | .type a => some a
  | _ => none
theorem refV_is : ∀ {v : Value}, refV v = true → ∃ c, v = .ref c
  | .ref c, _ => ⟨c, rfl⟩
theorem tyV_is : ∀ {v : Value} {a : String}, tyV v = some a → v = .type a
  | .type _, _, e => by cases e; rfl
/-- the classes that stand between an own exception class and Exception -/
def ownExc : List Value → Bool
  | [] => false
  | v :: r => (refV v && ownExc r) || ((v :: r).map tyV == [some "Exception", some "BaseException", some "object"])
theorem ownExc_refuse (self : Value) : ∀ {l : List Value}, ownExc l = true → refuseLoop self "__setattr__" l = pure ()
  | [], e => by cases e
  | v :: r, e => by
    rcases Bool.or_eq_true_iff.mp e with e | e
    · obtain ⟨e1, e2⟩ := Bool.and_eq_true_iff.mp e
      obtain ⟨c, hc⟩ := refV_is e1
      rw [hc, refuseLoop_ref]
      exact ownExc_refuse self e2
    · obtain ⟨v1, r1, h1, e1, e⟩ := List.map_eq_cons_iff.mp (eq_of_beq e)
      obtain ⟨v2, r2, h2, e2, e⟩ := List.map_eq_cons_iff.mp e
      obtain ⟨v3, r3, h3, e3, e⟩ := List.map_eq_cons_iff.mp e
      rw [h1, h2, h3, List.map_eq_nil_iff.mp e, tyV_is e1, tyV_is e2, tyV_is e3]
      exact refuse_exc self
def isExcIn (K : Frag) (C : Addr) : Bool := match clsIn K C with
  | some cd => ownExc cd.mro && cd.hasDict && !cd.mro.isEmpty
  | none => false

section
variable {prog : Program} {w : World} {A : Around} {E : Value → Shared → Prop} {s : Shared} {K : Frag} {x C L : Addr} {ox : Obj} {od : Option Obj} {name : Str} {v : Value} {h₀ : Heap} {m : Str → Option Value} {news : List (Addr × Obj)}

theorem exc_open {tk : Tok} {R : Result → Shared → Prop} (X : K.In s.heap) (I : InstAt s.heap x ox C od) (hp : isExcIn K C = true) (hob : mroIn K C (.type "object") = some true) (ht : takerIn K C name = some none)
    (h : ∀ b, wpAny (model prog w) A.in1 (storeInOwnDict (.ref x) (.ref C) (.str name tk) name v b)
      (fun fin s' => match fin with | .done f => R (.ok f) s' | .again c' => c'.quiet = true ∧ codeAny (model prog w) A c' R s') (fun e s' => R (.error e) s') s) :
    codeAny (model prog w) A (.call (.builtin "object.__setattr__") ⟨[.ref x, .str name tk, v], []⟩) R s := by
  have SF := PySem.F.store_object
  unfold isExcIn at hp
  split at hp
  case h_2 => cases hp
  rename_i cd hc
  simp only [Bool.and_eq_true, Bool.not_eq_true'] at hp
  obtain ⟨⟨ho, hdict⟩, ne⟩ := hp
  have sub : Looks (model prog w) s.heap (isInstance (.ref x) (.type "object")) true := I.type.andThen (looks_mroIn X hob)
  refine codeAny_call_builtin SF.slot.plain SF.entry (@check_slot (model prog w) _ _ s "object.__setattr__" "object" "__setattr__" (.ref x) [.str name tk, v] [] _ SF.kind SF.split sub (SF.args (.ref x) (.str name tk) v) ?_)
  obtain ⟨attr, ha, hr⟩ := Option.bind_eq_some_iff.mp ht
  have hm : Looks (model prog w) s.heap (mroOf (.ref C)) cd.mro := (looks_clsIn X hc).andThen .now
  have L3 : Looks (model prog w) s.heap (storeTaker? attr) none := by
    cases attr with
    | none => exact .now
    | some a =>
      obtain ⟨b, hb, e⟩ := Option.map_eq_some_iff.mp hr
      refine (looks_takesIn X hb).andThen ?_
      cases b
      · exact .now
      · cases e
  rw [osa_eq, refuse_eq]
  refine wpAny_bind (wpAny_bind (I.type.here (wpAny_bind (hm.here ?_))))
  rw [ownExc_refuse _ ho]
  refine wpAny_pure (wpAny_bind (I.type.here (wpAny_bind ((looks_findIn X ha).here (wpAny_bind (L3.here ?_))))))
  exact h _

theorem store_dict {tk : Tok} {dx : Addr} {es : List DictEntry} {n : Nat} {pre post : List (Addr × Obj)} {Q : Fin → Shared → Prop} (F : Fr h₀ L s.heap m) (N : News h₀ L s.heap (pre ++ (dx, dictOf es n) :: post))
    (h1 : ∀ p ∈ pre, p.1 ≠ dx) (h2 : ∀ p ∈ post, p.1 ≠ dx) (hl : (getL name es).isSome = true) (hz : (putL name (PyData.keyHash w.params name) (.str name s.toks) v es).length ≤ 1000)
    (h : ∀ h', Fr h₀ L h' m → News h₀ L h' (pre ++ (dx, dictOf (putL name (PyData.keyHash w.params name) (.str name s.toks) v es) (putN name es n)) :: post) → Q (.done (.ret .none)) { s with heap := h', toks := s.toks + 1 }) :
    wpAny (model prog w) A (storeInDict dx (.str name tk) name v) Q E s := by
  obtain ⟨U1, U2⟩ := news_upd (f := Obj.putName name (PyData.keyHash w.params name) (.str name s.toks) v) F N h1 h2 (putName_dict ..) rfl
  have D := (N (dx, dictOf es n) (by simp)).1
  have D' := (U2 (dx, dictOf (putL name (PyData.keyHash w.params name) (.str name s.toks) v es) (putN name es n)) (by simp)).1
  refine wpAny_bind (wpAny_pure (wpAny_bind ?_))
  unfold nsSet
  refine wpAny_bind (wpAny_bind (wpAny_askSetting (wpAny_pure (wpAny_bind (wpAny_mkText (wpAny_bind (wpAny_loadPart D ?_)))))))
  have c : (!es.toArray.any (·.key.isStr name) && es.toArray.any (·.refKey)) = false := by
    unfold getL at hl
    rw [← Array.any_toList, ← Array.any_toList]
    split at hl
    · rename_i en he
      rw [List.any_eq_true.mpr ⟨en, List.mem_of_find?_eq_some he, List.find?_some he⟩]; rfl
    · split at hl
      · cases hl
      · rename_i z; rw [Bool.not_eq_true] at z; rw [z, Bool.and_false]
  unfold dictOf
  dsimp only
  rw [aRefKeyMayBeTheName_at, c]
  refine wpAny_updatePart D ?_
  refine wpAny_bind (wpAny_lookBehind D' (pastItsLine_dict (by rw [List.size_toArray, sizeLine_eq]; omega)) ?_)
  exact wpAny_pure (h _ U1 U2)

/-- an attribute of an exception that has none yet -/
theorem exc_set0 {o : Obj} {Q : Unit → Shared → Prop} (F : Fr h₀ L s.heap m) (X₀ : K.In h₀) (N : News h₀ L s.heap ((x, o) :: news)) (hox : ∀ p ∈ news, p.1 ≠ x)
    (hoc : o.cls = .ref C) (hod : o.dict = none) (hcl : notCls o = true)
    (hs : findIn K (.ref C) "__setattr__" = some (some (.builtin "object.__setattr__"))) (hp : isExcIn K C = true) (hob : mroIn K C (.type "object") = some true) (ht : takerIn K C name = some none)
    (h : ∀ dx h', Fr h₀ L h' m → News h₀ L h' ((dx, dictOf [⟨PyData.keyHash w.params name, .str name (s.toks + 1), v⟩] 1) :: (x, { o with dict := some dx }) :: news) → (∀ p ∈ news, p.1 < dx) → x < dx → Q () { s with heap := h', toks := s.toks + 2 }) :
    wpAny (model prog w) A (setAttr (.ref x) name v) Q E s := by
  have X := X₀.keeps F.keep
  obtain ⟨oc, od0, odt, osl⟩ := o
  dsimp only at hoc hod
  subst hoc hod
  have hx := (N _ (.head _)).1
  have I : InstAt s.heap x ⟨.ref C, none, odt, osl⟩ C none := ⟨hx, rfl, hcl, trivial⟩
  refine set_plain X I hs (exc_open (s := { s with toks := s.toks + 1 }) X I hp hob ht fun b => ?_)
  unfold isExcIn at hp
  split at hp
  case h_2 => cases hp
  rename_i cd hc
  simp only [Bool.and_eq_true, Bool.not_eq_true'] at hp
  obtain ⟨⟨ho, hdict⟩, ne⟩ := hp
  obtain ⟨hh, g, d, t, os⟩ := s
  have hxs : @Ne Nat x hh.objs.size := Nat.ne_of_lt (Heap.lt_size hx)
  have F1 := F.push emptyDict
  have N1 : News h₀ L (hh.push emptyDict) ([(hh.objs.size, emptyDict)] ++ (x, (⟨.ref C, none, odt, osl⟩ : Obj)) :: news) := News.push F N emptyDict
  have hx₁ := (N1 (x, ⟨.ref C, none, odt, osl⟩) (by simp)).1
  have hf0 : (⟨.ref C, some hh.objs.size, odt, osl⟩ : Obj).isFreed = false := by
    have hfr := (Heap.get?_some_iff.mp hx).2
    cases odt <;> first | rfl | exact hfr
  obtain ⟨F2, N2⟩ := news_upd (f := fun o => { o with dict := some hh.objs.size }) F1 N1 (fun p hp => by rw [List.mem_singleton.mp hp]; exact Ne.symm hxs) hox rfl hf0
  refine wpAny_bind (wpAny_pure (wpAny_bind (wpAny_bind (wpAny_loadPart hx (wpAny_bind (Looks.at (looks_clsIn X hc) ?_))))))
  rw [hdict]
  rw [if_neg (by simp), if_neg (by simp [typeHasDict])]
  have key : ∀ {Q' : Option Addr → Shared → Prop}, Q' (some hh.objs.size) ⟨(hh.push emptyDict).update x (fun o => { o with dict := some hh.objs.size }), g, d, t + 1, os⟩ →
      wpAny (model prog w) A.in1 (do
        let d ← alloc { cls := Value.type "dict", data := Data.dict #[] }
        update x fun o => { cls := o.cls, dict := some d, data := o.data, slots := o.slots }
        dictMade (Value.ref C) x d) Q' (fun e s' => E e s') ⟨hh, g, d, t + 1, os⟩ := by
    intro Q' q
    exact wpAny_bind (wpAny_alloc' (wpAny_bind (wpAny_update' hx₁ (wpAny_pure q))))
  have go : wpAny (model prog w) A.in1 (storeInDict hh.objs.size (Value.str name t) name v) (fun fin s' => match fin with
      | .done f => (match (Except.ok f : Except Value Flow) with | .ok (.ret _) => Q () s' | .ok _ => False | .error e => E e s')
      | .again c' => c'.quiet = true ∧ codeAny (model prog w) A c' (fun r s' => match r with | .ok (.ret _) => Q () s' | .ok _ => False | .error e => E e s') s') (fun e s' => E e s')
      ⟨(hh.push emptyDict).update x (fun o => { o with dict := some hh.objs.size }), g, d, t + 1, os⟩ := by
    refine store_dict (pre := []) (es := []) (n := 0) F2 N2 (fun p hp => by cases hp) (fun p hp => ?_) rfl (by simp [putL]) fun h' F' N' => ?_
    · rcases List.mem_cons.mp hp with rfl | hp
      · exact hxs
      · exact Nat.ne_of_lt (Heap.lt_size (N p (.tail _ hp)).1)
    · exact h _ h' F' N' (fun p hp => Heap.lt_size (N p (.tail _ hp)).1) (Heap.lt_size hx)
  cases odt <;> first | exact key go | cases hcl

/-- one more -/
theorem exc_set1 {o : Obj} {dx : Addr} {es : List DictEntry} {n : Nat} {Q : Unit → Shared → Prop} (F : Fr h₀ L s.heap m) (X₀ : K.In h₀) (N : News h₀ L s.heap ((dx, dictOf es n) :: (x, o) :: news)) (hdx : ∀ p ∈ (x, o) :: news, p.1 ≠ dx)
    (hoc : o.cls = .ref C) (hod : o.dict = some dx) (hcl : notCls o = true)
    (hs : findIn K (.ref C) "__setattr__" = some (some (.builtin "object.__setattr__"))) (hp : isExcIn K C = true) (hob : mroIn K C (.type "object") = some true) (ht : takerIn K C name = some none)
    (hl : (getL name es).isSome = true) (hz : (putL name (PyData.keyHash w.params name) (.str name (s.toks + 1)) v es).length ≤ 1000)
    (h : ∀ h', Fr h₀ L h' m → News h₀ L h' ((dx, dictOf (putL name (PyData.keyHash w.params name) (.str name (s.toks + 1)) v es) (putN name es n)) :: (x, o) :: news) → Q () { s with heap := h', toks := s.toks + 2 }) :
    wpAny (model prog w) A (setAttr (.ref x) name v) Q E s := by
  have X := X₀.keeps F.keep
  obtain ⟨oc, od0, odt, osl⟩ := o
  dsimp only at hoc hod
  subst hoc hod
  have hx := (N _ (.tail _ (.head _))).1
  have I : InstAt s.heap x ⟨.ref C, some dx, odt, osl⟩ C (some (dictOf es n)) := ⟨hx, rfl, hcl, (N _ (.head _)).1⟩
  refine set_plain X I hs (exc_open (s := { s with toks := s.toks + 1 }) X I hp hob ht fun b => ?_)
  unfold isExcIn at hp
  split at hp
  case h_2 => cases hp
  rename_i cd hc
  simp only [Bool.and_eq_true, Bool.not_eq_true'] at hp
  obtain ⟨⟨ho, hdict⟩, ne⟩ := hp
  obtain ⟨hh, g, d, t, os⟩ := s
  refine wpAny_bind (wpAny_pure (wpAny_bind (wpAny_bind (wpAny_loadPart hx (wpAny_bind (Looks.at (looks_clsIn X hc) ?_))))))
  rw [hdict]
  refine wpAny_pure (a := some dx) ?_
  exact store_dict (pre := []) F N (fun p hp => by cases hp) hdx hl hz fun h' F' N' => h h' F' N'
end
end
section
set_option maxHeartbeats 1000000
open Builtin Builtin.ObjectAttr
section
variable {prog : Program} {w : World} {A : Around} {E : Value → Shared → Prop} {s : Shared} {K : Frag} {x C L : Addr} {ox : Obj} {od : Option Obj} {name : Str} {v : Value}

theorem exc_get {expr : Bool} {Q : Value → Shared → Prop} (X : K.In s.heap) (I : InstAt s.heap x ox C od) (hga : findIn K (.ref C) "__getattribute__" = some (some (.builtin "BaseException.__getattribute__")))
    (hgh : findIn K (.ref C) "__getattr__" = some none) (hob : mroIn K C (.type "BaseException") = some true)
    (hf : findObj K C od name = some (.value v)) (hh : handedIn v = true) (h : Q v { s with toks := s.toks + 1 }) : wpAny (model prog w) A (getAttr (.ref x) name expr) Q E s := by
  obtain ⟨hh', g, d, t, os⟩ := s
  have L0 := I.type (M := model prog w)
  have L1 := looks_findIn (M := model prog w) X hga
  have L2 := looks_findIn (M := model prog w) X hgh
  have L3 := looks_find (M := model prog w) X I hf
  have L4 : Looks (model prog w) hh' (isInstance (.ref x) (.type "BaseException")) true := L0.andThen (looks_mroIn X hob)
  have f3 := PySem.F.attr_Exception.ga.bind (.ref x)
  have hx0 : (expr && onTheHeap (Value.builtin "BaseException.__getattribute__")) = false := by cases expr <;> rfl
  have hx1 : (onTheHeap (Value.ref C) && Value.builtin "BaseException.__getattribute__" == Value.builtin "object.__getattribute__") = false := by
    rw [show (Value.builtin "BaseException.__getattribute__" == Value.builtin "object.__getattribute__") = false from by decide +kernel]; rfl
  have call : ∀ {A' : Around} {R : Result → Shared → Prop}, R (.ok (.ret v)) ⟨hh', g, d, t + 1, os⟩ → codeAny (model prog w) A' (.call (.builtin "BaseException.__getattribute__") ⟨[.ref x, .str name t], []⟩) R ⟨hh', g, d, t + 1, os⟩ := by
    intro A' R q
    refine codeAny_call_builtin PySem.F.attr_Exception.ga.plain PySem.F.entry_bexc_ga (@check_slot (model prog w) _ _ ⟨hh', g, d, t + 1, os⟩ "BaseException.__getattribute__" "BaseException" "__getattribute__" (.ref x) [.str name t] [] _ (by decide +kernel) (by decide +kernel) L4 (PySem.F.args_bexc_ga _ _) ?_)
    unfold Builtin.«object.__getattribute__»
    repeat (any_goals (first | assumption | lk | wp_step))
  unfold getAttr getAttrBy
  repeat (any_goals (first | assumption | with_reducible refine wpAny_attempt ?_ | with_reducible refine wpAny_call ?_ | lk | wp_step))
  refine call ?_
  show wpAny _ _ (handedOut v) _ _ _
  rw [handedOut_of hh]
  exact wpAny_pure h
end
end
section
set_option maxHeartbeats 1000000
open Builtin Builtin.ObjectAttr
section
variable {prog : Program} {w : World} {A : Around} {E : Value → Shared → Prop} {s : Shared} {K : Frag} {x C L : Addr} {v : Value} {h₀ : Heap} {m : Str → Option Value} {news : List (Addr × Obj)}

/-- Exception.__init__(self, text) -/
theorem exc_init {o : Obj} {vs : Array Value} {Q : Value → Shared → Prop} (F : Fr h₀ L s.heap m) (X₀ : K.In h₀) (N : News h₀ L s.heap ((x, o) :: news)) (hox : ∀ p ∈ news, p.1 ≠ x)
    (hoc : o.cls = .ref C) (hod : o.data = .fields vs) (h0 : 0 < vs.size) (hob : mroIn K C (.type "Exception") = some true)
    (h : ∀ t h', Fr h₀ L h' m → News h₀ L h' ((t, argsObj [v]) :: (x, o.mapFields (·.setIfInBounds 0 (.ref t))) :: news) → (∀ p ∈ news, p.1 < t) → x < t → Q .none { s with heap := h' }) :
    wpAny (model prog w) A (call (.builtin "Exception.__init__") [.ref x, v]) Q E s := by
  have FF := PySem.F.excBase_Exception
  have X := X₀.keeps F.keep
  have hx : s.heap.get? x = some o := (N _ (.head _)).1
  have L0 : Looks (model prog w) s.heap (isInstance (.ref x) (.type "Exception")) true := (show Looks (model prog w) s.heap (typeOf (.ref x)) (.ref C) from hoc ▸ (Looks.ld hx).andThen .now).andThen (looks_mroIn X hob)
  have F1 := F.push (argsObj [v])
  have N1 : News h₀ L (s.heap.push (argsObj [v])) ([(s.heap.objs.size, argsObj [v])] ++ (x, o) :: news) := News.push F N (argsObj [v])
  have hxs : @Ne Nat x s.heap.objs.size := Nat.ne_of_lt (Heap.lt_size hx)
  obtain ⟨F2, N2⟩ := news_upd (f := fun o => o.mapFields (·.setIfInBounds 0 (.ref s.heap.objs.size))) F1 N1 (fun p hp => by rw [List.mem_singleton.mp hp]; exact Ne.symm hxs) hox rfl (Obj.isFreed_of_fields (Obj.data_mapFields hod _))
  have hx₁ : (s.heap.push { cls := .type "tuple", data := .seq #[v] }).get? x = some o := (N1 (x, o) (by simp)).1
  have fin := h _ _ F2 N2 (fun p hp => Heap.lt_size (N p (.tail _ hp)).1) (Heap.lt_size hx)
  refine wpAny_call (codeAny_call_builtin FF.init.plain FF.initEntry ?_)
  have hshort := FF.noStar
  simp only [checkBuiltinCall, FF.initKind, FF.initSplit, FF.initRow]
  refine wpAny_bind (L0.here ?_)
  rw [if_neg (by decide)]
  obtain ⟨z, hz⟩ : ∃ z, vs[0]? = some z := ⟨vs[0], Array.getElem?_eq_getElem h0⟩
  obtain ⟨cd, hcd, _⟩ := Option.bind_eq_some_iff.mp hob
  have LC := looks_clsIn (M := model prog w) X hcd
  repeat (first | with_reducible refine wpAny_field hx₁ hod hz ?_ | (with_reducible refine wpAny_loadPart_at hx ?_; rw [hoc]) | with_reducible refine LC.here ?_ | wp_step)
  rw [hod]
  dsimp only
  rw [if_pos h0]
  refine wpAny_update' hx₁ ?_
  have last : ∀ {Q' : Unit → Shared → Prop} {s' : Shared}, Q' () s' → wpAny (model prog w) A.in1 (match z with | Value.ref a => letGo [z] | x => pure ()) Q' (fun e s' => E e s') s' := by
    intro Q' s' q
    cases z <;> first | exact wpAny_pure q | (exact wpAny_letGo q)
  refine last ?_
  exact wpAny_pure fin
end
end
section
theorem walk_off_E6 : True := by
  w_top off
  trivial
set_option maxHeartbeats 1000000
theorem newsOf2 {h₀ h : Heap} {L : Addr} {l : List (Addr × Obj)} (N : News h₀ L h l) {a b : Addr × Obj} (ha : a ∈ l) (hb : b ∈ l) : News h₀ L h [a, b] := fun q hq => by
  simp only [List.mem_cons, List.not_mem_nil, or_false] at hq
  rcases hq with rfl | rfl
  · exact N _ ha
  · exact N _ hb
theorem ltNe' {a b : Nat} (h : a < b) : a ≠ b := Nat.ne_of_lt h
/-- what of an own exception class the walk asks -/
structure ExcC (K : Frag) (C : Addr) : Prop where
  set : findIn K (.ref C) "__setattr__" = some (some (.builtin "object.__setattr__"))
  own : isExcIn K C = true
  obj : mroIn K C (.type "object") = some true
  exc : mroIn K C (.type "Exception") = some true
  text : takerIn K C "text" = some none
  line : takerIn K C "line" = some none
  name : takerIn K C "name" = some none
  word : takerIn K C "word" = some none

theorem excC51 (w : World) : ExcC (hd.heap_1 w.params) 51 := ⟨rfl, rfl, rfl, rfl, rfl, rfl, rfl, rfl⟩
theorem excC70 (w : World) : ExcC (hd.heap_1 w.params) 70 := ⟨rfl, rfl, rfl, rfl, rfl, rfl, rfl, rfl⟩

local macro_rules | `(tactic| walk_at "getMethod type:Exception") => `(tactic| (refine Mine.Stop.mk ?_))
local macro_rules | `(tactic| walk_at "call builtin:Exception.__init__") => `(tactic| (refine Mine.Stop.mk ?_))
local macro_rules | `(tactic| walk_at "setAttr ref") => `(tactic| (refine Mine.Stop.mk ?_))
theorem init28 {w : World} {A₀ : Around} {s : Shared} {base h₀ : Heap} {outer : List Env} {env : Env} {L : Addr} {m : Str → Option Value} {news : List (Addr × Obj)}
  {p : Program} {loose : List Str} {mean : ExcName → Option Value} {mg mb : Str → Option Value} {R : Result → Shared → Prop} {x C t0 : Addr} {tx : Str} {tt : Tok} :
  (hd.heap_1 w.params).In h₀ → Below A₀ base outer h₀ → Fr h₀ L s.heap m → News h₀ L s.heap news → Top p loose mean mg mb h₀ → env.frame = some L → env.scope.kind = .function →
  (x, bare (.ref C) t0) ∈ news → ExcC (hd.heap_1 w.params) C →
  (∀ h' tk t dx u, (∀ b o, s.heap.get? b = some o → b ≠ x → h'.get? b = some o) → Fr h₀ L h' m →
    News h₀ L h' [(dx, dictOf [⟨PyData.keyHash w.params "text", .str "text" u, .str tx tt⟩] 1), (x, { cls := .ref C, dict := some dx, data := .fields #[.ref t, .none, .none, .none, .bool false, .none] })] → s.heap.get? dx = none → x < dx →
    R (.ok (.ret .none)) { s with heap := h', toks := tk }) →
  codeAny (model Challenge.rw_pb0007_01.row.prog w) (at_ 700 6500 (env :: outer)) (.call (.ref 28) ⟨[.ref x, .str tx tt], []⟩) R s := by
  k_fill
  intro X B F N T hf hke hmem hC post
  refine' enter_foot (fp := [(x, bare (.ref C) t0)]) (binds := [(Str.ofString "self", .ref x), (Str.ofString "text", .str tx tt)]) B F X N T rfl hf hke ?fp ?k6 ?k7 ?k8 ?k9 ?kB ?_ ?c2 ?c3 ?c4 ?c5
  case fp => intro q hq; rw [List.mem_singleton.mp hq]; exact hmem
  case k6 => k_is
  case k7 => k_is
  case k8 => k_room
  case k9 => exact BindsTo.of_eq rfl
  case c5 => decide
  case kB => exact locs rfl
  case c2 => exact rfl
  case c3 => exact rfl
  case c4 => exact rfl
  intro g L' h' FG' F' N' B' X' T' hrest hl1 hl2
  (try dsimp only)
  change wpAny _ _ _ _ _ _
  k_fold
  k_steps
  refine Stop.go ?_
  rename Fr g L' _ _ => F9
  refine' method_type F9 X' ?mm (by decide +kernel) ?me ?mh ?_
  case mm => kernel_rfl
  case me => k_dflt k_is
  case mh => k_handed
  k_steps
  refine Stop.go ?_
  rename Fr g L' _ _ => F9
  rename News g L' _ _ => N9
  refine exc_init F9 X' N9 (fun p hp => by cases hp) rfl rfl (Nat.zero_lt_succ _) hC.exc ?_
  intro t h2 F2 N2 lt1 lt2
  clear F9 N9
  (try dsimp only)
  k_steps
  refine Stop.go ?_
  rename Fr g L' _ _ => F9
  rename News g L' _ _ => N9
  refine exc_set0 (o := { cls := .ref C, data := .fields #[.ref t, .none, .none, .none, .bool false, .none] }) (news := [(t, argsObj [.str tx tt])]) F9 X' (fun q hq => N9 q (by
    simp only [List.mem_cons, List.not_mem_nil, or_false] at hq ⊢
    rcases hq with hq | hq
    · exact .inr hq
    · exact .inl hq)) (fun p hp => by rw [List.mem_singleton.mp hp]; exact Ne.symm (ltNe' lt2)) rfl rfl rfl hC.set hC.own hC.obj hC.text ?_
  intro dx h3 F3 N3 lt3 lt4
  clear F9 N9
  (try dsimp only at N3)
  (try dsimp only)
  k_steps
  rename Fr h₀ L _ m => kF
  rename News h₀ L _ _ => kN
  rename Fr g L' _ _ => F9
  rename News g L' _ _ => N9
  refine post _ _ t dx _ (fun b o e n => F9.keep b o (hrest b o e (by simpa using n))) kF (newsOf2 kN (.head _) (.tail _ (.head _))) ?_ lt4
  · cases e : s.heap.get? dx with
    | none => rfl
    | some o =>
      have hne : dx ≠ x := Ne.symm (ltNe' lt4)
      have := hrest dx o e (by simpa using hne)
      rw [(N9 _ (.head _)).2.2] at this
      cases this
end
section
theorem walk_off_E7 : True := by
  w_top off
  trivial
set_option maxHeartbeats 1000000
local macro_rules | `(tactic| walk_at "call ref") => `(tactic| (refine Mine.Stop.mk ?_))
local macro_rules | `(tactic| walk_at "setAttr ref") => `(tactic| (refine Mine.Stop.mk ?_))
theorem init48 {w : World} {A₀ : Around} {s : Shared} {base h₀ : Heap} {outer : List Env} {env : Env} {L : Addr} {m : Str → Option Value} {news : List (Addr × Obj)}
  {p : Program} {loose : List Str} {mean : ExcName → Option Value} {mg mb : Str → Option Value} {R : Result → Shared → Prop} {x C t0 : Addr} {tx : Str} {tt tl : Tok} {line : Int} :
  (hd.heap_1 w.params).In h₀ → Below A₀ base outer h₀ → Fr h₀ L s.heap m → News h₀ L s.heap news → Top p loose mean mg mb h₀ → env.frame = some L → env.scope.kind = .function →
  (x, bare (.ref C) t0) ∈ news → ExcC (hd.heap_1 w.params) C →
  (∀ h' tk t dx u1 u2, (∀ b o, s.heap.get? b = some o → b ≠ x → h'.get? b = some o) → Fr h₀ L h' m →
    News h₀ L h' [(dx, dictOf [⟨PyData.keyHash w.params "text", .str "text" u1, .str tx tt⟩, ⟨PyData.keyHash w.params "line", .str "line" u2, .int line tl⟩] 2), (x, { cls := .ref C, dict := some dx, data := .fields #[.ref t, .none, .none, .none, .bool false, .none] })] →
    s.heap.get? dx = none → x < dx → R (.ok (.ret .none)) { s with heap := h', toks := tk }) →
  codeAny (model Challenge.rw_pb0007_01.row.prog w) (at_ 650 6000 (env :: outer)) (.call (.ref 48) ⟨[.ref x, .int line tl, .str tx tt], []⟩) R s := by
  k_fill
  intro X B F N T hf hke hmem hC post
  refine' enter_foot (fp := [(x, bare (.ref C) t0)]) (binds := [(Str.ofString "self", .ref x), (Str.ofString "line", .int line tl), (Str.ofString "text", .str tx tt)]) B F X N T rfl hf hke ?fp ?k6 ?k7 ?k8 ?k9 ?kB ?_ ?c2 ?c3 ?c4 ?c5
  case fp => intro q hq; rw [List.mem_singleton.mp hq]; exact hmem
  case k6 => k_is
  case k7 => k_is
  case k8 => k_room
  case k9 => exact BindsTo.of_eq rfl
  case c5 => decide
  case kB => exact locs rfl
  case c2 => exact rfl
  case c3 => exact rfl
  case c4 => exact rfl
  intro g L' h' FG' F' N' B' X' T' hrest hl1 hl2
  (try dsimp only)
  change wpAny _ _ _ _ _ _
  k_fold
  k_steps
  refine Stop.go ?_
  rename Fr g L' _ _ => F9
  rename News g L' _ _ => N9
  refine wpAny_call (codeAny_le (init28 X' B' F9 N9 T' rfl rfl (.head _) hC ?_) rfl (Nat.le_of_ble_eq_true rfl) rfl rfl (Nat.le_of_ble_eq_true rfl))
  intro h2 tk2 t dx u k2 F2 N2 fd lt
  clear F9 N9
  (try dsimp only)
  k_steps
  refine Stop.go ?_
  rename Fr g L' _ _ => F9
  rename News g L' _ _ => N9
  refine exc_set1 F9 X' N9 (fun p hp => by rw [List.mem_singleton.mp hp]; exact ltNe' lt) rfl rfl rfl hC.set hC.own hC.obj hC.line (by rfl) (by show 2 ≤ 1000; decide) ?_
  intro h3 F3 N3
  clear F9 N9
  (try dsimp only)
  k_steps
  rename Fr h₀ L _ m => kF
  rename News h₀ L _ _ => kN
  rename Fr g L' _ _ => F9
  rename News g L' _ _ => N9
  refine post _ _ t dx _ _ (fun b o e n => F9.keep b o (hrest b o e (by simpa using n))) kF (newsOf2 kN (.head _) (.tail _ (.head _))) ?_ lt
  cases e : s.heap.get? dx with
    | none => rfl
    | some o =>
      have hne : dx ≠ x := Ne.symm (ltNe' lt)
      have := hrest dx o e (by simpa using hne)
      rw [(N9 _ (.head _)).2.2] at this
      cases this
theorem init67 {w : World} {A₀ : Around} {s : Shared} {base h₀ : Heap} {outer : List Env} {env : Env} {L : Addr} {m : Str → Option Value} {news : List (Addr × Obj)}
  {p : Program} {loose : List Str} {mean : ExcName → Option Value} {mg mb : Str → Option Value} {R : Result → Shared → Prop} {x C t0 : Addr} {tx : Str} {wd : Str} {tt tl tn : Tok} {line : Int} :
  (hd.heap_1 w.params).In h₀ → Below A₀ base outer h₀ → Fr h₀ L s.heap m → News h₀ L s.heap news → Top p loose mean mg mb h₀ → env.frame = some L → env.scope.kind = .function →
  (x, bare (.ref C) t0) ∈ news → ExcC (hd.heap_1 w.params) C →
  (∀ h' tk t dx u1 u2 u3 u4, (∀ b o, s.heap.get? b = some o → b ≠ x → h'.get? b = some o) → Fr h₀ L h' m →
    News h₀ L h' [(dx, dictOf [⟨PyData.keyHash w.params "text", .str "text" u1, .str tx tt⟩, ⟨PyData.keyHash w.params "name", .str "name" u2, .str wd tn⟩, ⟨PyData.keyHash w.params "word", .str "word" u3, .str wd tn⟩, ⟨PyData.keyHash w.params "line", .str "line" u4, .int line tl⟩] 4), (x, { cls := .ref C, dict := some dx, data := .fields #[.ref t, .none, .none, .none, .bool false, .none] })] →
    s.heap.get? dx = none → x < dx → R (.ok (.ret .none)) { s with heap := h', toks := tk }) →
  codeAny (model Challenge.rw_pb0007_01.row.prog w) (at_ 650 6000 (env :: outer)) (.call (.ref 67) ⟨[.ref x, .str wd tn, .int line tl, .str tx tt], []⟩) R s := by
  k_fill
  intro X B F N T hf hke hmem hC post
  refine' enter_foot (fp := [(x, bare (.ref C) t0)]) (binds := [(Str.ofString "self", .ref x), (Str.ofString "name", .str wd tn), (Str.ofString "line", .int line tl), (Str.ofString "text", .str tx tt)]) B F X N T rfl hf hke ?fp ?k6 ?k7 ?k8 ?k9 ?kB ?_ ?c2 ?c3 ?c4 ?c5
  case fp => intro q hq; rw [List.mem_singleton.mp hq]; exact hmem
  case k6 => k_is
  case k7 => k_is
  case k8 => k_room
  case k9 => exact BindsTo.of_eq rfl
  case c5 => decide
  case kB => exact locs rfl
  case c2 => exact rfl
  case c3 => exact rfl
  case c4 => exact rfl
  intro g L' h' FG' F' N' B' X' T' hrest hl1 hl2
  (try dsimp only)
  change wpAny _ _ _ _ _ _
  k_fold
  k_steps
  refine Stop.go ?_
  rename Fr g L' _ _ => F9
  rename News g L' _ _ => N9
  refine wpAny_call (codeAny_le (init28 X' B' F9 N9 T' rfl rfl (.head _) hC ?_) rfl (Nat.le_of_ble_eq_true rfl) rfl rfl (Nat.le_of_ble_eq_true rfl))
  intro h2 tk2 t dx u k2 F2 N2 fd lt
  clear F9 N9
  (try dsimp only)
  k_steps
  refine Stop.go ?_
  rename Fr g L' _ _ => F9
  rename News g L' _ _ => N9
  refine exc_set1 F9 X' N9 (fun p hp => by rw [List.mem_singleton.mp hp]; exact ltNe' lt) rfl rfl rfl hC.set hC.own hC.obj hC.name (by rfl) (by show 2 ≤ 1000; decide) ?_
  intro h3 F3 N3
  clear F9 N9
  (try dsimp only)
  k_steps
  refine Stop.go ?_
  rename Fr g L' _ _ => F9
  rename News g L' _ _ => N9
  refine exc_set1 F9 X' N9 (fun p hp => by rw [List.mem_singleton.mp hp]; exact ltNe' lt) rfl rfl rfl hC.set hC.own hC.obj hC.word (by rfl) (by show 3 ≤ 1000; decide) ?_
  intro h4 F4 N4
  clear F9 N9
  (try dsimp only)
  k_steps
  refine Stop.go ?_
  rename Fr g L' _ _ => F9
  rename News g L' _ _ => N9
  refine exc_set1 F9 X' N9 (fun p hp => by rw [List.mem_singleton.mp hp]; exact ltNe' lt) rfl rfl rfl hC.set hC.own hC.obj hC.line (by rfl) (by show 4 ≤ 1000; decide) ?_
  intro h5 F5 N5
  clear F9 N9
  (try dsimp only)
  k_steps
  rename Fr h₀ L _ m => kF
  rename News h₀ L _ _ => kN
  rename Fr g L' _ _ => F9
  rename News g L' _ _ => N9
  refine post _ _ t dx _ _ _ _ (fun b o e n => F9.keep b o (hrest b o e (by simpa using n))) kF (newsOf2 kN (.head _) (.tail _ (.head _))) ?_ lt
  cases e : s.heap.get? dx with
    | none => rfl
    | some o =>
      have hne : dx ≠ x := Ne.symm (ltNe' lt)
      have := hrest dx o e (by simpa using hne)
      rw [(N9 _ (.head _)).2.2] at this
      cases this
end
section
set_option maxHeartbeats 1000000
open Builtin Builtin.ObjectAttr
section
variable {M : Model} {A : Around} {E : Value → Shared → Prop} {s : Shared} {env : Env} {K : Frag}

/-- an own exception stands, made, and may be raised -/
def OwnRaisable (K : Frag) (E : Value → Shared → Prop) (v : Value) (s : Shared) : Prop :=
  ∃ a ob vs C, K.In s.heap ∧ v = .ref a ∧ s.heap.get? a = some ob ∧ ob.cls = .ref C ∧ ob.data = .fields vs ∧ vs[1]? = some .none ∧ mroIn K C (.type "BaseException") = some true ∧ typeIn K (.ref C) = some (.type "type") ∧ E (.ref a) s

theorem raise_own {e : PySem.Expr} {pos : Pos} {Q : Flow → Shared → Prop} (hh : A.handled = none) (h : wpAny M A (eval e env) (OwnRaisable K E) E s) : wpAny M A (exec (.Raise (some e) none pos) env) Q E s := by
  show wpAny M A (do standAt pos; raiseStmt env (some (do let v ← eval e env; standAt pos; pure v)) none) Q E s
  refine wpAny_bind (wpAny_standAt ?_)
  unfold raiseStmt
  dsimp only
  refine wpAny_bind (wpAny_bind (wpAny_mono h (fun v s₁ h₁ => wpAny_bind (wpAny_standAt (wpAny_pure ?_))) fun _ _ x => x))
  obtain ⟨a, ob, vs, C, X, rfl, ha, hcls, hd, h1, hbase, htype, hE⟩ := h₁
  have T0 : Looks M s₁.heap (typeOf (.ref a)) (.ref C) := hcls ▸ (Looks.ld ha).andThen .now
  have I0 : Looks M s₁.heap (isInstance (.ref a) (.type "BaseException")) true := T0.andThen (looks_mroIn X hbase)
  have T1 : Looks M s₁.heap (typeOf (.ref C)) (.type "type") := looks_typeIn X htype
  have hnt : ∀ {Q' : Bool → Shared → Prop}, Q' false s₁ → wpAny M A (isType (.ref a)) Q' E s₁ := by
    intro Q' hq
    simp only [isType, loadHead]
    refine wpAny_bind (wpAny_loadPart ha ?_)
    rw [hd]; exact wpAny_pure hq
  refine wpAny_bind (wpAny_pure ?_)
  dsimp only
  refine wpAny_bind (wpAny_holding ?_)
  unfold excFromValue isExcClass
  refine wpAny_bind (wpAny_bind (hnt ?_))
  simp only [Bool.false_eq_true, if_false]
  refine wpAny_pure ?_
  simp only [Bool.false_eq_true, if_false]
  refine wpAny_bind (I0.here ?_)
  simp only [if_true]
  refine wpAny_pure ?_
  refine wpAny_bind (hnt ?_)
  simp only [Bool.false_eq_true, if_false]
  unfold raisedInstance
  refine wpAny_bind (wpAny_bind (T0.here (wpAny_bind (T1.here ?_))))
  rw [if_pos (by decide)]
  refine wpAny_pure ?_
  unfold setFlight raiseNew
  refine wpAny_bind (wpAny_bind (wpAny_field ha hd h1 ?_))
  rw [if_neg (by decide)]
  refine wpAny_pure (wpAny_bind (wpAny_handled ?_))
  rw [hh]
  first
    | exact wpAny_throw hE
    | exact wpAny_bind (wpAny_pure (wpAny_throw hE))
end

section
variable {w : World} {A₀ : Around} {E : Value → Shared → Prop} {s : Shared} {base h₀ : Heap} {outer : List Env} {L : Addr} {m : Str → Option Value} {news : List (Addr × Obj)} {env : Env}
  {p : Program} {loose : List Str} {mean : ExcName → Option Value} {mg mb : Str → Option Value}

/-- a made exception: the words in its dict -/
structure MadeX (w : World) (h : Heap) (e dx t : Addr) (C : Addr) (es : List DictEntry) (n : Nat) : Prop where
  exc : h.get? e = some { cls := .ref C, dict := some dx, data := .fields #[.ref t, .none, .none, .none, .bool false, .none] }
  words : h.get? dx = some (dictOf es n)

theorem make51 {A : Around} {Q : Value → Shared → Prop} {line : Int} {tl tt : Tok} {tx : Str} (X : (hd.heap_1 w.params).In h₀) (B : Below A₀ base outer h₀) (F : Fr h₀ L s.heap m) (N : News h₀ L s.heap news) (T : Top p loose mean mg mb h₀)
    (hf : env.frame = some L) (hke : env.scope.kind = .function) (hh : A.handled = none) (hdp : A.depth ≤ 649) (hfr : A.frames = some (env :: outer)) (hg : A.guards = some []) (hu : A.units ≤ 5990)
    (h : ∀ h' tk e t dx u1 u2, Fr h₀ L h' m → News h₀ L h' ((e, { cls := .ref 51, dict := some dx, data := .fields #[.ref t, .none, .none, .none, .bool false, .none] }) ::
      (dx, dictOf [⟨PyData.keyHash w.params "text", .str "text" u1, .str tx tt⟩, ⟨PyData.keyHash w.params "line", .str "line" u2, .int line tl⟩] 2) :: news) → (∀ p ∈ news, p.1 < e) → e < dx → Q (.ref e) { s with heap := h', toks := tk }) :
    wpAny (model Challenge.rw_pb0007_01.row.prog w) A (call (.ref 51) [.int line tl, .str tx tt]) Q E s := by
  have X' := X.keeps F.keep
  obtain ⟨hp, g, d, tk, os⟩ := s
  have F2 := (F.push (argsObj [.int line tl, .str tx tt])).push (bare (.ref 51) hp.objs.size)
  have N2 := (N.push F (argsObj [.int line tl, .str tx tt])).push (F.push _) (bare (.ref 51) hp.objs.size)
  rw [Heap.size_push] at N2
  refine make_exc (rest := [.int line tl, .str tx tt]) (X' 51 _ rfl) (by decide +kernel) (by decide +kernel) (by decide +kernel) (looks_findIn X' (show findIn (hd.heap_1 w.params) (.ref 51) "__init__" = some (some (.ref 48)) from rfl)) (X' 48 _ rfl) rfl ?_ (by rw [sizeLine_eq]; show 2 ≤ _; decide)
  refine wpAny_call (codeAny_le (init48 X B F2 N2 T hf hke (.head _) (excC51 w) ?_) ?_ ?_ ?_ ?_ ?_)
  · intro h' tk' t dx u1 u2 k6 F6 N6 fd lt
    refine ⟨rfl, h h' tk' _ t dx u1 u2 F6 (fun q hq => ?_) (fun p hp => Nat.lt_succ_of_lt (Heap.lt_size (N p hp).1)) lt⟩
    rcases List.mem_cons.mp hq with rfl | hq
    · exact N6 _ (.tail _ (.head _))
    rcases List.mem_cons.mp hq with rfl | hq
    · exact N6 _ (.head _)
    have hne : q.1 ≠ hp.objs.size + 1 := ltNe' (Nat.lt_succ_of_lt (Heap.lt_size (N q hq).1))
    exact ⟨k6 _ _ (N2 q (.tail _ (.tail _ hq))).1 hne, (N2 q (.tail _ (.tail _ hq))).2⟩
  · exact hh
  · exact Nat.add_le_add hdp (Nat.le_refl 1)
  · exact hfr
  · exact hg
  · show A.units + (Code.builtin "type.__call__" _).cUnits ≤ 6000
    have hcu : ∀ a, (Code.builtin "type.__call__" a).cUnits ≤ 10 := fun a => Nat.le_of_ble_eq_true rfl
    exact Nat.le_trans (Nat.add_le_add hu (hcu _)) (by decide)
theorem make70 {A : Around} {Q : Value → Shared → Prop} {line : Int} {tl tt tn : Tok} {tx wd : Str} (X : (hd.heap_1 w.params).In h₀) (B : Below A₀ base outer h₀) (F : Fr h₀ L s.heap m) (N : News h₀ L s.heap news) (T : Top p loose mean mg mb h₀)
    (hf : env.frame = some L) (hke : env.scope.kind = .function) (hh : A.handled = none) (hdp : A.depth ≤ 649) (hfr : A.frames = some (env :: outer)) (hg : A.guards = some []) (hu : A.units ≤ 5990)
    (h : ∀ h' tk e t dx u1 u2 u3 u4, Fr h₀ L h' m → News h₀ L h' ((e, { cls := .ref 70, dict := some dx, data := .fields #[.ref t, .none, .none, .none, .bool false, .none] }) ::
      (dx, dictOf [⟨PyData.keyHash w.params "text", .str "text" u1, .str tx tt⟩, ⟨PyData.keyHash w.params "name", .str "name" u2, .str wd tn⟩, ⟨PyData.keyHash w.params "word", .str "word" u3, .str wd tn⟩, ⟨PyData.keyHash w.params "line", .str "line" u4, .int line tl⟩] 4) :: news) → (∀ p ∈ news, p.1 < e) → e < dx → Q (.ref e) { s with heap := h', toks := tk }) :
    wpAny (model Challenge.rw_pb0007_01.row.prog w) A (call (.ref 70) [.str wd tn, .int line tl, .str tx tt]) Q E s := by
  have X' := X.keeps F.keep
  obtain ⟨hp, g, d, tk, os⟩ := s
  have F2 := (F.push (argsObj [.str wd tn, .int line tl, .str tx tt])).push (bare (.ref 70) hp.objs.size)
  have N2 := (N.push F (argsObj [.str wd tn, .int line tl, .str tx tt])).push (F.push _) (bare (.ref 70) hp.objs.size)
  rw [Heap.size_push] at N2
  refine make_exc (rest := [.str wd tn, .int line tl, .str tx tt]) (X' 70 _ rfl) (by decide +kernel) (by decide +kernel) (by decide +kernel) (looks_findIn X' (show findIn (hd.heap_1 w.params) (.ref 70) "__init__" = some (some (.ref 67)) from rfl)) (X' 67 _ rfl) rfl ?_ (by rw [sizeLine_eq]; show 3 ≤ _; decide)
  refine wpAny_call (codeAny_le (init67 X B F2 N2 T hf hke (.head _) (excC70 w) ?_) ?_ ?_ ?_ ?_ ?_)
  · intro h' tk' t dx u1 u2 u3 u4 k6 F6 N6 fd lt
    refine ⟨rfl, h h' tk' _ t dx u1 u2 u3 u4 F6 (fun q hq => ?_) (fun p hp => Nat.lt_succ_of_lt (Heap.lt_size (N p hp).1)) lt⟩
    rcases List.mem_cons.mp hq with rfl | hq
    · exact N6 _ (.tail _ (.head _))
    rcases List.mem_cons.mp hq with rfl | hq
    · exact N6 _ (.head _)
    have hne : q.1 ≠ hp.objs.size + 1 := ltNe' (Nat.lt_succ_of_lt (Heap.lt_size (N q hq).1))
    exact ⟨k6 _ _ (N2 q (.tail _ (.tail _ hq))).1 hne, (N2 q (.tail _ (.tail _ hq))).2⟩
  · exact hh
  · exact Nat.add_le_add hdp (Nat.le_refl 1)
  · exact hfr
  · exact hg
  · show A.units + (Code.builtin "type.__call__" _).cUnits ≤ 6000
    have hcu : ∀ a, (Code.builtin "type.__call__" a).cUnits ≤ 10 := fun a => Nat.le_of_ble_eq_true rfl
    exact Nat.le_trans (Nat.add_le_add hu (hcu _)) (by decide)
end
end
section
set_option maxHeartbeats 1000000
/-- an exception of class C whose words lie in dx -/
def isExc (C dx : Addr) (o : Obj) : Prop := o.cls = .ref C ∧ o.dict = some dx
theorem isExc_lasting (C dx : Addr) : Lasting (isExc C dx) := by
  intro o v h
  obtain ⟨oc, od, odt, osl⟩ := o
  cases odt <;> exact h

/-- an exception that flies over the frames l; G is what stood when it was raised -/
structure Flies (base G : Heap) (l : List Env) (e dx C : Addr) (dobj : Obj) (h : Heap) : Prop where
  B : ∃ B, base.StaysIn B ∧ (∀ b o, G.get? b = some o → b ∉ l.filterMap (·.frame) → B.get? b = some o) ∧ B.get? dx = some dobj ∧ B.get? e = none ∧ InAir B l e (Marked · B e (isExc C dx) .none) h
  newD : G.get? dx = none
  newE : G.get? e = none
  slots : G.UpToSlots h

theorem Flies.mono {base G G' : Heap} {l : List Env} {e dx C : Addr} {dobj : Obj} {h : Heap} (x : Flies base G l e dx C dobj h) (k : ∀ b o, G'.get? b = some o → G.get? b = some o) : Flies base G' l e dx C dobj h := by
  obtain ⟨⟨B, b1, b2, b3, b4, b5⟩, n1, n2, u⟩ := x
  have hn : ∀ {b : Addr}, G.get? b = none → G'.get? b = none := fun {b} e => by
    cases q : G'.get? b with
    | none => rfl
    | some o => rw [k b o q] at e; cases e
  exact ⟨⟨B, b1, fun b o e => b2 b o (k b o e), b3, b4, b5⟩, hn n1, hn n2, (Heap.UpToSlots.of_keeps k).trans u⟩

section
variable {M : Model} {A : Around} {E : Value → Shared → Prop} {s' : Shared} {base g g₂ h : Heap} {outer : List Env} {env : Env} {L e dx C : Addr} {m : Str → Option Value} {Q : Unit → Shared → Prop} {news : List (Addr × Obj)} {eo dobj : Obj} {vs : Array Value}

theorem mem_frames {b : Addr} {env : Env} {L : Addr} {outer : List Env} (hf : env.frame = some L) (hm : b ∈ (env :: outer).filterMap (·.frame)) : b = L ∨ b ∈ outer.filterMap (·.frame) := by
  rw [List.filterMap_cons, hf] at hm
  exact List.mem_cons.mp hm

/-- the frame that raises it is left -/
theorem leave_raise (K : Below A base outer g) (F : Fr g L s'.heap m) (N : News g L s'.heap ((e, eo) :: (dx, dobj) :: news)) (hne : dx ≠ e) (hP : isExc C dx eo) (hd : eo.data = .fields vs) (h1 : vs[1]? = some .none) (hdd : ∀ vs, dobj.data ≠ .fields vs)
    (hf : env.frame = some L) (hke : env.scope.kind = .function)
    (hQ : ∀ h', Flies base g outer e dx C dobj h' → Q () { s' with heap := h' }) : wpAny M (A.deeper env) (leaving env (.ref e)) Q E s' := by
  have K' := pushX K F hf hke
  have hE := N _ (.head _)
  have hD := N _ (.tail _ (.head _))
  have hin : ∀ env' ∈ (env :: outer), ∀ a, env'.frame = some a → a ∈ e :: (env :: outer).filterMap (·.frame) := fun env' he a ha => .tail _ (List.mem_filterMap.mpr ⟨env', he, ha⟩)
  have notE : ∀ b o, g.get? b = some o → b ≠ e := fun b o q z => by rw [z, hE.2.2] at q; cases q
  have st : base.StaysIn (hideAll s'.heap (e :: (env :: outer).filterMap (·.frame))) := fun b o q => hideAll_get _ (K'.stays b o q) fun hm => by
    rcases List.mem_cons.mp hm with z | hm
    · exact notE b o (K.stays b o q) z
    · rw [(K'.frames.mem hm).1] at q; cases q
  have hgL : g.get? L = none := kts_self F
  have sg : ∀ b o, g.get? b = some o → b ∉ outer.filterMap (·.frame) → (hideAll s'.heap (e :: (env :: outer).filterMap (·.frame))).get? b = some o := fun b o q nm => hideAll_get _ (F.keep b o q) fun hm => by
    rcases List.mem_cons.mp hm with z | hm
    · exact notE b o q z
    · rcases mem_frames hf hm with z | z
      · rw [z, hgL] at q; cases q
      · exact nm z
  have hdx : (hideAll s'.heap (e :: (env :: outer).filterMap (·.frame))).get? dx = some dobj := hideAll_get _ hD.1 fun hm => by
    rcases List.mem_cons.mp hm with z | hm
    · exact hne z
    · rcases mem_frames hf hm with z | z
      · exact hD.2.1 z
      · obtain ⟨_, o, ho, _⟩ := K.frames.mem z
        rw [hD.2.2] at ho; cases ho
  have hen : (hideAll s'.heap (e :: (env :: outer).filterMap (·.frame))).get? e = none := hideAll_none _ (.head _)
  refine leave_first (base := hideAll s'.heap (e :: (env :: outer).filterMap (·.frame))) (isExc_lasting C dx) K'.stack hf ⟨fun b o q => of_hideAll _ q, hen, funFrames_hide K'.frames hin, eo, vs, hE.1, hP, hd, h1⟩ fun h' x u => ?_
  exact hQ h' ⟨⟨_, st, sg, hdx, hen, x⟩, hD.2.2, hE.2.2, (Heap.UpToSlots.of_keeps F.keep).trans u⟩

/-- it goes on over one more -/
theorem leave_on (K : Below A base outer g) (F : Fr g L g₂ m) (x : Flies base g₂ (env :: outer) e dx C dobj s'.heap) (hf : env.frame = some L)
    (hQ : ∀ h', Flies base g outer e dx C dobj h' → Q () { s' with heap := h' }) : wpAny M (A.deeper env) (leaving env (.ref e)) Q E s' := by
  obtain ⟨⟨B, b1, b2, b3, b4, b5⟩, n1, n2, u⟩ := x
  have hgL : g.get? L = none := kts_self F
  refine leave_next (base := B) (isExc_lasting C dx) (Around.frames_deeper K.stack) hf b5 fun h' x' u' => hQ h' ⟨⟨B, b1, fun b o q nm => b2 b o (F.keep b o q) fun hm => ?_, b3, b4, x'⟩, kts_none F.keep n1, kts_none F.keep n2, (Heap.UpToSlots.of_keeps F.keep).trans (u.trans u')⟩
  rcases mem_frames hf hm with z | z
  · rw [z, hgL] at q; cases q
  · exact nm z
end
end
section
set_option maxHeartbeats 1000000
open PySem.Spec
section
variable {M : Model} {A : Around} {E : Value → Shared → Prop} {s : Shared} {K : Frag} {e C C' : Addr} {oe : Obj}

theorem exc_matches {b : Bool} {Q : Bool → Shared → Prop} (X : K.In s.heap) (he : s.heap.get? e = some oe) (hc : oe.cls = .ref C) (hb : mroIn K C (.ref C') = some b) (hbase : mroIn K C' (.type "BaseException") = some true)
    (hty : typeIn K (.ref C') = some (.type "type")) (h : Q b s) : wpAny M A (excMatches (.ref e) (.ref C')) Q E s := by
  obtain ⟨hh, g, d, t, os⟩ := s
  have T0 : Looks M hh (typeOf (.ref e)) (.ref C) := hc ▸ (Looks.ld he).andThen .now
  have T1 : Looks M hh (typeOf (.ref C')) (.type "type") := looks_typeIn X hty
  have S0 := looks_mroIn (M := M) X hb
  have S1 := looks_mroIn (M := M) X hbase
  have f := tc_notTuple
  have I1 : Looks M hh (isInstance (.ref C') (.type "tuple")) false := T1.andThen (Looks.of_pure tc_notTuple)
  obtain ⟨cd, hcd, _⟩ := Option.bind_eq_some_iff.mp hbase
  have Y : Looks M hh (isType (.ref C')) true := by
    unfold clsIn at hcd
    split at hcd
    · rename_i ho
      cases hcd
      exact (show Looks M hh (loadHead C') _ from (Looks.ld (X _ _ ho)).andThen .now).andThen .now
    · cases hcd
  have XC : Looks M hh (isExcClass (.ref C')) true := Y.andThen S1
  unfold excMatches
  repeat (first | lk | wp_step)
  cases b
  · rw [if_neg (by decide)]
    refine wpAny_pure (wpAny_pure (wpAny_pure h))
  · rw [if_pos rfl]
    refine wpAny_pure (wpAny_pure (wpAny_pure h))
end

section
variable {prog : Program} {w : World} {A₀ : Around} {E : Value → Shared → Prop} {s' : Shared} {base g G : Heap} {outer : List Env} {L a e dx C C' : Addr} {m : Str → Option Value} {name : Str} {scope : Scope} {cd : Value}
  {n x : Str} {b₀ : Stmt} {suite : List Stmt} {pos np : Pos} {rest : List ExceptHandler} {Q : Flow → Shared → Prop} {KF : Frag} {dobj : Obj} {nm : Option Str} {body : List Stmt}
  {p : Program} {loose : List Str} {mean : ExcName → Option Value} {mg mb : Str → Option Value}

/-- the frame of the try looks at what flies -/
theorem land {Φ : Shared → Prop} (x : Flies base G (envOf name scope L a cd :: outer) e dx C dobj s'.heap) (K : Below A₀ base outer g)
    (h : ∀ h', Flies base G (envOf name scope L a cd :: outer) e dx C dobj h' → Φ { s' with heap := h' }) :
    wpAny (model prog w) (A₀.deeper (envOf name scope L a cd)) (noteFrame (.ref e) (envOf name scope L a cd)) (fun _ s₂ => wpAny (model prog w) (A₀.deeper (envOf name scope L a cd)) (setFlight (.ref e) none) (fun _ s₃ => Φ s₃) E s₂) E s' := by
  obtain ⟨⟨B, b1, b2, b3, b4, b5⟩, n1, n2, u⟩ := x
  refine note_next (base := B) (isExc_lasting C dx) (Around.frames_deeper K.stack) rfl b5 fun h₁ x₁ u₁ => ?_
  exact unmark x₁ fun h₂ x₂ u₂ => h h₂ ⟨⟨B, b1, b2, b3, b4, x₂⟩, n1, n2, u.trans (u₁.trans u₂)⟩

/-- the ground under a frame where something flies -/
theorem Flies.ground (x : Flies base G (envOf name scope L a cd :: outer) e dx C dobj s'.heap) (K : Below A₀ base outer g) (F : Fr g L G m) :
    ∃ g', KtsTurn (outer.filterMap (·.frame)) g g' ∧ Fr g' L s'.heap m ∧ Below A₀ base outer g' ∧ News g' L s'.heap [(dx, dobj)] ∧ (∃ oe vs, News g' L s'.heap [(e, oe)] ∧ isExc C dx oe ∧ oe.data = .fields vs) := by
  obtain ⟨⟨B, b1, b2, b3, b4, b5⟩, n1, n2, u⟩ := x
  obtain ⟨g', T', F', K'⟩ := kts_ground K F b2 b5.stays u
  have hL : B.get? L = none := by
    obtain ⟨_, ⟨L', _, hf, hn', _⟩, _⟩ := b5.frames
    obtain rfl : L = L' := Option.some.inj hf
    exact hn'
  obtain ⟨oe, vs, T, oT, ts, he, hp, hd, _⟩ := b5.exc
  have hLn : ∀ {b : Addr} {o : Obj}, B.get? b = some o → b ≠ L := fun {b o} q z => by rw [z, hL] at q; cases q
  refine ⟨g', T', F', K', fun q hq => ?_, oe, vs, fun q hq => ?_, hp, hd⟩
  · rw [List.mem_singleton.mp hq]
    exact ⟨b5.stays _ _ b3, hLn b3, T'.none_ _ (kts_none F.keep n1)⟩
  · rw [List.mem_singleton.mp hq]
    refine ⟨he, fun z => ?_, T'.none_ _ (kts_none F.keep n2)⟩
    obtain ⟨oL, es, ep, hoL, hdL, _⟩ := F'.ns
    have z' : e = L := z
    rw [z', hoL] at he
    cases he
    rw [hd] at hdL
    cases hdL

/-- a clause for another class -/
theorem clause_no (x₀ : Flies base G (envOf name scope L a cd :: outer) e dx C dobj s'.heap) (K : Below A₀ base outer g) (F : Fr g L G m) (XB : KF.In base) (TB : Top p loose mean mg mb base)
    (ex : nsIn KF mainGlobals x = some (some (.ref C'))) (hb : mroIn KF C (.ref C') = some false) (hbase : mroIn KF C' (.type "BaseException") = some true) (hty : typeIn KF (.ref C') = some (.type "type"))
    (h : wpAny (model prog w) (A₀.deeper (envOf name scope L a cd)) (handleBy (.ref e) (envOf name scope L a cd) rest) Q E s')
    (hk : scope.kind = .function := by rfl) (hx : (envOf name scope L a cd).kindOf x = some .globalImplicit := by rfl) (hd : (x == ("__debug__" : Str)) = false := by decide) :
    wpAny (model prog w) (A₀.deeper (envOf name scope L a cd)) (handleBy (.ref e) (envOf name scope L a cd) (.ExceptHandler (some (.Name x np)) nm body pos :: rest)) Q E s' := by
  obtain ⟨g', T', F', K', N', oe, vs, Ne, hp, hdt⟩ := x₀.ground K F
  have X' : KF.In g' := XB.keeps K'.stays
  refine wpAny_handleBy_cons (codeAny_handlers_test (name_K F' X' (topRead_of (TB.keeps K'.stays)) ex ?_ hk hx hd)) (by intro q; cases q)
  exact exc_matches (X'.keeps F'.keep) (Ne _ (.head _)).1 hp.1 hb hbase hty h

/-- the clause for its class -/
theorem clause_as (x₀ : Flies base G (envOf name scope L a cd :: outer) e dx C dobj s'.heap) (K : Below A₀ base outer g) (F : Fr g L G m) (XB : KF.In base) (TB : Top p loose mean mg mb base)
    (ex : nsIn KF mainGlobals x = some (some (.ref C'))) (hb : mroIn KF C (.ref C') = some true) (hbase : mroIn KF C' (.type "BaseException") = some true) (hty : typeIn KF (.ref C') = some (.type "type"))
    (k : ∀ h' g' oe vs tk, KtsTurn (outer.filterMap (·.frame)) g g' → Fr g' L h' (fun y => if y = n then some (.ref e) else m y) → News g' L h' [(e, oe), (dx, dobj)] → isExc C dx oe → oe.data = .fields vs → Below A₀ base outer g' → KF.In g' → Top p loose mean mg mb g' →
      wpAny (model prog w) ((A₀.deeper (envOf name scope L a cd)).mark (some (.ref e))) (execs (b₀ :: suite) (envOf name scope L a cd))
        (fun f s₄ => wpAny (model prog w) (A₀.deeper (envOf name scope L a cd)) (do bindName (envOf name scope L a cd) n .none; unbindBehindTheSuite (envOf name scope L a cd) n pos) (fun _ s₅ => Q f s₅) E s₄)
        (AsSuiteRaised (model prog w) ((A₀.deeper (envOf name scope L a cd)).mark (some (.ref e))) (envOf name scope L a cd) n pos (notedBy (model prog w) ((A₀.deeper (envOf name scope L a cd)).mark (some (.ref e))) (envOf name scope L a cd) (cameBackBy (model prog w) (A₀.deeper (envOf name scope L a cd)) (envOf name scope L a cd) E)))
        { s' with heap := h', toks := tk })
    (hk : scope.kind = .function := by rfl) (hlo : (envOf name scope L a cd).kindOf n = some .local := by rfl) (hx : (envOf name scope L a cd).kindOf x = some .globalImplicit := by rfl) (hd : (x == ("__debug__" : Str)) = false := by decide) :
    wpAny (model prog w) (A₀.deeper (envOf name scope L a cd)) (handleBy (.ref e) (envOf name scope L a cd) (.ExceptHandler (some (.Name x np)) (some n) (b₀ :: suite) pos :: rest)) Q E s' := by
  obtain ⟨g', T', F', K', N', oe, vs, Ne, hp, hdt⟩ := x₀.ground K F
  have X' : KF.In g' := XB.keeps K'.stays
  refine wpAny_handleBy_cons (codeAny_handlers_test (name_K F' X' (topRead_of (TB.keeps K'.stays)) ex ?_ hk hx hd)) (by intro q; cases q)
  refine exc_matches (X'.keeps F'.keep) (Ne _ (.head _)).1 hp.1 hb hbase hty (codeAny_handlers_suite_as ?_)
  obtain ⟨⟨B, b1, b2, b3, b4, b5⟩, n1, n2, u⟩ := x₀
  refine unmark b5 fun h₂ x₂ u₂ => ?_
  have x₃ : Flies base G (envOf name scope L a cd :: outer) e dx C dobj h₂ := ⟨⟨B, b1, b2, b3, b4, x₂⟩, n1, n2, u.trans u₂⟩
  obtain ⟨g₆, T₆, F₆, K₆, N₆, oe₆, vs₆, Ne₆, hp₆, hd₆⟩ := Flies.ground (s' := { s' with heap := h₂ }) x₃ K F
  refine stN F₆ (news := [(e, oe₆), (dx, dobj)]) (fun q hq => (List.mem_cons.mp hq).elim (fun z => Ne₆ q (by rw [z]; exact .head _)) (fun z => N₆ q z)) (fun h₇ F₇ N₇ => ?_) hk hlo
  exact k h₇ g₆ oe₆ vs₆ _ T₆ F₇ N₇ hp₆ hd₆ K₆ (XB.keeps K₆.stays) (TB.keeps K₆.stays)
end
end
section
local macro_rules | `(tactic| walk_at "none of mine") => `(tactic| fail)
theorem walk_off_E11 : True := by
  w_top off
  trivial
set_option maxHeartbeats 1000000
/-- the call of what is asked, from a frame of _law_fell -/
def AskSpec (w : World) (base : Heap) (fr : List Env) (h : Heap) (p : Program) (loose : List Str) (mean : ExcName → Option Value) (mg mb : Str → Option Value) (f : Addr)
    (Out : Heap → Addr → (Str → Option Value) → List Env → Shared → (Result → Shared → Prop) → Prop) : Prop :=
  ∀ {A : Around} {s : Shared} {g : Heap} {L : Addr} {m : Str → Option Value} {env : Env} {R : Result → Shared → Prop},
    (∀ b o, h.get? b = some o → g.get? b = some o) → (hd.heap_1 w.params).In g → Below A base fr g → Fr g L s.heap m → Top p loose mean mg mb g → env.frame = some L → env.scope.kind = .function →
    Out g L m (env :: fr) s R → codeAny (model Challenge.rw_pb0007_01.row.prog w) (at_ 610 5600 (env :: fr)) (.call (.ref f) ⟨[], []⟩) R s

/-- it tells a value -/
def Tells (v : Value) (g : Heap) (L : Addr) (m : Str → Option Value) (_ : List Env) (s : Shared) (R : Result → Shared → Prop) : Prop :=
  ∀ h' tk, Fr g L h' m → R (.ok (.ret v)) { s with heap := h', toks := tk }
/-- it raises -/
def Raises (base : Heap) (C : Addr) (words : Obj → Prop) (_ : Heap) (_ : Addr) (_ : Str → Option Value) (fr : List Env) (s : Shared) (R : Result → Shared → Prop) : Prop :=
  ∀ h' tk e dx dobj, words dobj → Flies base s.heap fr e dx C dobj h' → R (.error (.ref e)) { s with heap := h', toks := tk }

local macro_rules | `(tactic| walk_at "call ref") => `(tactic| (refine Mine.Stop.mk ?_))
local macro_rules | `(tactic| walk_at "callWith ref") => `(tactic| (refine Mine.Stop.mk ?_))
local macro_rules | `(tactic| k_steps) => `(tactic| walk_at "S")
theorem fell_told {w : World} {A₀ : Around} {s : Shared} {base h₀ : Heap} {outer : List Env} {env : Env} {L : Addr} {m : Str → Option Value} {news : List (Addr × Obj)}
  {p : Program} {loose : List Str} {mean : ExcName → Option Value} {mg mb : Str → Option Value} {R : Result → Shared → Prop} {f kd : Addr} {v : Value} :
  (hd.heap_1 w.params).In h₀ → Below A₀ base outer h₀ → Fr h₀ L s.heap m → News h₀ L s.heap news → Top p loose mean mg mb h₀ → env.frame = some L → env.scope.kind = .function → FnAt f s.heap →
  AskSpec w base (env :: outer) s.heap p loose mean mg mb f (Tells v) →
  (∀ h' tk a t, (∀ b o, s.heap.get? b = some o → h'.get? b = some o) → Fr h₀ L h' m → News h₀ L h' [(a, argsObj [.str "told" t, v])] → s.heap.get? a = none → R (.ok (.ret (.ref a))) { s with heap := h', toks := tk }) →
  codeAny (model Challenge.rw_pb0007_01.row.prog w) (at_ 600 5500 (env :: outer)) (.call (.ref 184) ⟨[.ref f, .ref kd], []⟩) R s := by
  k_fill
  intro X B F N T hf hke hfn ask post
  refine' enter_foot (fp := []) (binds := [(Str.ofString "ask", .ref f), (Str.ofString "kinds", .ref kd)]) B F X N T rfl hf hke ?fp ?k6 ?k7 ?k8 ?k9 ?kB ?_ ?c2 ?c3 ?c4 ?c5
  case fp => intro q hq; cases hq
  case k6 => k_is
  case k7 => k_is
  case k8 => k_room
  case k9 => exact BindsTo.of_eq rfl
  case c5 => decide
  case kB => exact locs rfl
  case c2 => exact rfl
  case c3 => exact rfl
  case c4 => exact rfl
  intro g L' h' FG' F' N' B' X' T' hrest hl1 hl2
  have hk : ∀ b o, s.heap.get? b = some o → g.get? b = some o := fun b o e => hrest b o e (by simp)
  (try dsimp only)
  change wpAny _ _ _ _ _ _
  k_fold
  k_steps
  refine Stop.go ?_
  rename Fr g L' _ _ => F9
  refine callWith_F0 (by obtain ⟨oc, od, fd, sl, e⟩ := hfn; exact ⟨oc, od, fd, sl, F9.keep _ _ (hk _ _ e)⟩) ?_
  dsimp only [List.nil_append]
  refine wpAny_call (codeAny_le (ask hk X' B' F9 T' rfl rfl ?_) rfl (Nat.le_of_ble_eq_true rfl) rfl rfl (Nat.le_of_ble_eq_true rfl))
  intro h2 tk2 F2
  have N2 : News g L' h2 [] := News.nil
  clear F9
  (try dsimp only)
  k_steps
  rename Fr h₀ L _ m => kF
  rename News h₀ L _ _ => kN
  rename Fr g L' _ _ => F9
  rename News g L' _ _ => N9
  refine post _ _ _ _ (fun b o e => F9.keep b o (hk b o e)) kF kN (kts_none hk (N9 _ (.head _)).2.2)

def Words51 (w : World) (line : Int) (dobj : Obj) : Prop := ∃ u1 u2 tx tt tl, dobj = dictOf [⟨PyData.keyHash w.params "text", .str "text" u1, .str tx tt⟩, ⟨PyData.keyHash w.params "line", .str "line" u2, .int line tl⟩] 2
def Words70 (w : World) (wd : Str) (line : Int) (dobj : Obj) : Prop := ∃ u1 u2 u3 u4 tx tt tn tl, dobj = dictOf [⟨PyData.keyHash w.params "text", .str "text" u1, .str tx tt⟩, ⟨PyData.keyHash w.params "name", .str "name" u2, .str wd tn⟩, ⟨PyData.keyHash w.params "word", .str "word" u3, .str wd tn⟩, ⟨PyData.keyHash w.params "line", .str "line" u4, .int line tl⟩] 4
end
section
set_option maxHeartbeats 1000000
def frs (l : List Env) : List Addr := l.filterMap (·.frame)

/-- a def is left whose ground has turned: an exception was caught in it -/
def LeaveT (A₀ : Around) (base : Heap) (outer : List Env) (env : Env) (h₀ : Heap) (L : Addr) (m : Str → Option Value) (news : List (Addr × Obj)) (g : Heap) (R : Result → Shared → Prop) (v : Value) (s' : Shared) : Prop :=
  ∃ g' L' m' news', KtsTurn (frs (env :: outer)) g g' ∧ Fr g' L' s'.heap m' ∧ News g' L' s'.heap news' ∧
    ∀ h₀', KtsTurn (frs outer) h₀ h₀' → Fr h₀' L s'.heap m → News h₀' L s'.heap (news' ++ news) → Below A₀ base outer h₀' → R (.ok (.ret v)) s'

section
variable {w : World} {A₀ A : Around} {s : Shared} {base h₀ : Heap} {outer : List Env} {env : Env} {L : Addr} {m : Str → Option Value} {news : List (Addr × Obj)} {K : Frag}
  {p : Program} {loose : List Str} {mean : ExcName → Option Value} {mg mb : Str → Option Value}
  {R : Result → Shared → Prop} {name qual : Str} {params : Arguments} {body : List Stmt} {scope : Scope} {dV kV doc pm cdv ct oc : Value} {an od : Option Addr} {osl : Array (Option Value)} {f : Addr} {args : Args} {binds : List (Str × Value)}

theorem leaveT_done {g : Heap} {v : Value} {s' : Shared} (B : Below A₀ base outer h₀) (F : Fr h₀ L s.heap m) (N : News h₀ L s.heap news) (hf : env.frame = some L) (hk : ∀ b o, s.heap.get? b = some o → g.get? b = some o)
    (hl : LeaveT A₀ base outer env h₀ L m news g R v s') : R (.ok (.ret v)) s' := by
  obtain ⟨g', L', m', news', T', F', N', k⟩ := hl
  have nL₀ : h₀.get? L = none := kts_self F
  have st : ∀ b o, h₀.get? b = some o → g.get? b = some o := fun b o e => hk b o (F.keep b o e)
  obtain ⟨oL, es, ep, hL, hLd, hLk, hLf⟩ := F.ns
  obtain ⟨sl, hs⟩ := T'.up (hk _ _ hL)
  obtain ⟨T₁, S₁⟩ := kts_turn_at (h := s'.heap) (fs := frs outer) (g := h₀)
    (fun b hb => by
      obtain ⟨_, o, ho', _⟩ := B.frames.mem hb
      exact ⟨o, ho'⟩)
    (fun b o e nmem => F'.keep b o (T'.other b o (st b o e) (fun q => by
      rcases mem_frames hf q with z | z
      · rw [z, nL₀] at e
        cases e
      · exact nmem z)))
    (fun b o e hm => by
      obtain ⟨sl', hs'⟩ := T'.up (st b o e)
      exact ⟨sl', F'.keep _ _ hs'⟩)
  have B₃ : Below A₀ base outer (ktsHeap s'.heap (frs outer) h₀) := ⟨B.stack, fun b o e => T₁.other b o (B.stays b o e) (fun hm => by
    rw [(B.frames.mem hm).1] at e
    cases e), B.frames.of_keeps fun b o e _ => by
    obtain ⟨sl', hs'⟩ := T₁.up e
    exact ⟨_, hs', rfl⟩⟩
  refine k _ T₁ ⟨⟨_, es, ep, F'.keep _ _ hs, hLd, hLk, hLf⟩, S₁, by rw [T₁.size]; exact F.above⟩ (fun q hq => ?_) B₃
  rcases List.mem_append.mp hq with hq | hq
  · refine ⟨(N' q hq).1, fun z => ?_, ?_⟩
    · have := (N' q hq).2.2; rw [z, hs] at this; cases this
    · refine T₁.none_ _ ?_
      cases e : h₀.get? q.1 with
      | none => rfl
      | some o =>
        obtain ⟨sl', hs'⟩ := T'.up (st _ _ e)
        have := (N' q hq).2.2
        rw [hs'] at this
        cases this
  · have n := N q hq
    refine ⟨F'.keep _ _ (T'.other _ _ (hk _ _ n.1) fun z => ?_), n.2.1, T₁.none_ _ n.2.2⟩
    rcases mem_frames hf z with z | z
    · exact n.2.1 z
    · obtain ⟨_, o, ho, _⟩ := B.frames.mem z
      rw [n.2.2] at ho; cases ho

/-- entering a def whose ground may turn -/
theorem enter_turn (B : Below A₀ base outer h₀) (F : Fr h₀ L s.heap m) (X₀ : K.In h₀) (N : News h₀ L s.heap news) (T : Top p loose mean mg mb h₀) (hA : A.frames = some (env :: outer)) (hf : env.frame = some L) (hke : env.scope.kind = .function)
    (ho : K.lookup f = some ⟨oc, od, .func (fnOf name qual params body scope dV kV doc pm an cdv ct), osl⟩) (hcd : codeIn K cdv qual = true) (hroom : A.depth < recursionLimit)
    (hbind : BindsTo s (fnOf name qual params body scope dV kV doc pm an cdv ct) args binds) (hloc : ∀ y ∈ binds, scope.names.lookup y.1 = some .local)
    (h : ∀ g L' h₁, Fr h₀ L g m → Fr g L' h₁ (fun y => binds.reverse.lookup y) → News g L' h₁ [] → Below A base (env :: outer) g → K.In g → Top p loose mean mg mb g →
      (∀ b o, s.heap.get? b = some o → g.get? b = some o) →
      wpAny (model Challenge.rw_pb0007_01.row.prog w) (A.deeper (envOf qual scope L' f cdv)) (execs body (envOf qual scope L' f cdv))
        (fun fl s' => LeaveT A₀ base outer env h₀ L m news g R (match fl with | .ret v => v | _ => .none) s')
        (fun e s' => wpAny (model Challenge.rw_pb0007_01.row.prog w) (A.deeper (envOf qual scope L' f cdv)) (leaving (envOf qual scope L' f cdv) e) (fun _ s'' => R (.error e) s'') (fun e' s'' => R (.error e') s'') s')
        { s with heap := h₁, toks := s.toks + binds.length })
    (hco : scope.isCoroutine = false) (hgen : scope.isGenerator = false) (hk : scope.kind = .function)
    (hcell : ∀ x ∈ scope.names, x.2 ≠ .cell) : codeAny (model Challenge.rw_pb0007_01.row.prog w) A (.call (.ref f) args) R s := by
  have N' : News h₀ L s.heap [] := fun q hq => nomatch hq
  obtain ⟨FG, BG, st, lv⟩ := groundX (R := R) B F N' hA hf hke
  refine codeAny_call_def (fd := fnOf name qual params body scope dV kV doc pm an cdv ct) (body := body) (binds := binds) hroom ((X₀.keeps F.keep) _ _ ho) rfl (T.nolimit.keeps F.keep) (codeRec_of (X₀.keeps F.keep) hcd) rfl hbind hcell hloc (fun h₁ hns hk₁ => ?_) hco hgen hk
  have hkg : ∀ b o, s.heap.get? b = some o → (hideAll s.heap (([] : List (Addr × Obj)).map (·.1))).get? b = some o := fun b o e => hideAll_get _ e (by simp)
  refine wpAny_mono (h _ s.heap.objs.size h₁ FG ⟨hns, fun b o e => hk₁ b o (of_hideAll _ e), Nat.le_of_eq (hideAll_size _ _)⟩ News.nil BG (X₀.keeps st) (T.keeps st) hkg) (fun fl s' hl => leaveT_done B F N hf hkg hl) fun _ _ y => y
end
end
section
local macro_rules | `(tactic| walk_at "none of mine") => `(tactic| fail)
theorem walk_off_E13 : True := by
  w_top off
  trivial
set_option maxHeartbeats 1000000
theorem news_head {h h' : Heap} {L : Addr} {x : Addr × Obj} {rest news : List (Addr × Obj)} (N : News h L h' ((x :: rest) ++ news)) : News h L h' (x :: news) := fun q hq => N q (by
  rcases List.mem_cons.mp hq with rfl | hq
  · exact .head _
  · exact List.mem_append_right _ hq)
theorem exc_inst {h₀ h : Heap} {L e dx C : Addr} {oe dobj : Obj} {vs : Array Value} {l : List (Addr × Obj)} (N : News h₀ L h l) (h1 : (e, oe) ∈ l) (h2 : (dx, dobj) ∈ l) (hx : isExc C dx oe) (hd : oe.data = .fields vs) : InstAt h e oe C (some dobj) := by
  obtain ⟨oc, od, odt, osl⟩ := oe
  obtain ⟨rfl, rfl⟩ := hx
  dsimp only at hd
  subst hd
  exact ⟨(N _ h1).1, rfl, rfl, (N _ h2).1⟩

local macro_rules | `(tactic| walk_at "callWith ref") => `(tactic| (refine Mine.Stop.mk ?_))
local macro_rules | `(tactic| walk_at "noteFrame ref") => `(tactic| (refine Mine.Stop.mk ?_))
local macro_rules | `(tactic| walk_at "getAttr ref") => `(tactic| (refine Mine.Stop.mk ?_))
local macro_rules | `(tactic| k_steps) => `(tactic| walk_at "S")
theorem fell_check {w : World} {A₀ : Around} {s : Shared} {base h₀ : Heap} {outer : List Env} {env : Env} {L : Addr} {m : Str → Option Value} {news : List (Addr × Obj)}
  {p : Program} {loose : List Str} {mean : ExcName → Option Value} {mg mb : Str → Option Value} {R : Result → Shared → Prop} {f kd : Addr} {line : Int} :
  (hd.heap_1 w.params).In h₀ → Below A₀ base outer h₀ → Fr h₀ L s.heap m → News h₀ L s.heap news → Top p loose mean mg mb h₀ → env.frame = some L → env.scope.kind = .function → FnAt f s.heap →
  (hd.heap_1 w.params).In base → Top p loose mean mg mb base →
  AskSpec w base (env :: outer) s.heap p loose mean mg mb f (Raises base 51 (Words51 w line)) →
  (∀ h' h₀' tk a t tl, KtsTurn (frs outer) h₀ h₀' → Fr h₀' L h' m → News h₀' L h' ((a, argsObj [.str "check" t, .int line tl]) :: news) → Below A₀ base outer h₀' → R (.ok (.ret (.ref a))) { s with heap := h', toks := tk }) →
  codeAny (model Challenge.rw_pb0007_01.row.prog w) (at_ 600 5500 (env :: outer)) (.call (.ref 184) ⟨[.ref f, .ref kd], []⟩) R s := by
  k_fill
  intro X B F N T hf hke hfn XB TB ask post
  refine' enter_turn (binds := [(Str.ofString "ask", .ref f), (Str.ofString "kinds", .ref kd)]) B F X N T rfl hf hke ?k6 ?k7 ?k8 ?k9 ?kB ?_ ?c2 ?c3 ?c4 ?c5
  case k6 => k_is
  case k7 => k_is
  case k8 => k_room
  case k9 => exact BindsTo.of_eq rfl
  case c5 => decide
  case kB => exact locs rfl
  case c2 => exact rfl
  case c3 => exact rfl
  case c4 => exact rfl
  intro g L' h' FG' F' N' B' X' T' hk
  (try dsimp only)
  change wpAny _ _ _ _ _ _
  k_fold
  k_steps
  refine Stop.go ?_
  rename Fr g L' _ _ => F9
  refine callWith_F0 (by obtain ⟨oc, od, fd, sl, e⟩ := hfn; exact ⟨oc, od, fd, sl, F9.keep _ _ (hk _ _ e)⟩) ?_
  dsimp only [List.nil_append]
  refine wpAny_call (codeAny_le (ask hk X' B' F9 T' rfl rfl ?_) rfl (Nat.le_of_ble_eq_true rfl) rfl rfl (Nat.le_of_ble_eq_true rfl))
  intro h2 tk2 e dx dobj hw hfly
  (try dsimp only)
  refine land hfly B' (fun h3 hfly3 => ?_)
  refine clause_no hfly3 B' F9 XB TB (C' := 70) rfl rfl rfl rfl ?_
  refine clause_as hfly3 B' F9 XB TB (C' := 51) rfl rfl rfl rfl ?_
  intro h4 g4 oe vs tk4 T4 F4 N4 hx hd B4 X4 Tp4
  clear F9 X' B' T'
  obtain ⟨u1, u2, tx, tt, tl, rfl⟩ := hw
  (try dsimp only)
  k_steps
  refine Stop.go ?_
  rename Fr g4 L' _ _ => F9
  rename News g4 L' _ _ => N9
  refine exc_get (X4.keeps F9.keep) (exc_inst N9 (by k_mem) (by k_mem) hx hd) rfl rfl rfl (findObj_own (attr := none) rfl rfl rfl rfl) rfl ?_
  k_steps
  rename Fr g4 L' _ _ => F8
  rename News g4 L' _ _ => N8
  exact ⟨g4, L', _, _, T4, F8, N8, fun h₀' T0 kF kN B0 => post _ h₀' _ _ _ _ T0 kF (news_head kN) B0⟩
end
section
local macro_rules | `(tactic| walk_at "none of mine") => `(tactic| fail)
theorem walk_off_E14 : True := by
  w_top off
  trivial
set_option maxHeartbeats 1000000
local macro_rules | `(tactic| walk_at "callWith ref") => `(tactic| (refine Mine.Stop.mk ?_))
local macro_rules | `(tactic| walk_at "noteFrame ref") => `(tactic| (refine Mine.Stop.mk ?_))
local macro_rules | `(tactic| walk_at "getAttr ref") => `(tactic| (refine Mine.Stop.mk ?_))
local macro_rules | `(tactic| walk_at "compareOp In str ref") => `(tactic| (refine Mine.Stop.mk ?_))
local macro_rules | `(tactic| k_steps) => `(tactic| walk_at "S")
theorem fell_wrong {w : World} {A₀ : Around} {s : Shared} {base h₀ : Heap} {outer : List Env} {env : Env} {L : Addr} {m : Str → Option Value} {news : List (Addr × Obj)}
  {p : Program} {loose : List Str} {mean : ExcName → Option Value} {mg mb : Str → Option Value} {R : Result → Shared → Prop} {f kd : Addr} {line : Int} {wd : Str} {tw : Tok} :
  (hd.heap_1 w.params).In h₀ → Below A₀ base outer h₀ → Fr h₀ L s.heap m → News h₀ L s.heap news → Top p loose mean mg mb h₀ → env.frame = some L → env.scope.kind = .function → FnAt f s.heap →
  (hd.heap_1 w.params).In base → Top p loose mean mg mb base →
  AskSpec w base (env :: outer) s.heap p loose mean mg mb f (Raises base 70 (Words70 w wd line)) → IsTup s.heap kd #[.str wd tw] →
  (∀ h' h₀' tk a t tl, KtsTurn (frs outer) h₀ h₀' → Fr h₀' L h' m → News h₀' L h' ((a, argsObj [.str wd t, .int line tl]) :: news) → Below A₀ base outer h₀' → R (.ok (.ret (.ref a))) { s with heap := h', toks := tk }) →
  codeAny (model Challenge.rw_pb0007_01.row.prog w) (at_ 600 5500 (env :: outer)) (.call (.ref 184) ⟨[.ref f, .ref kd], []⟩) R s := by
  k_fill
  intro X B F N T hf hke hfn XB TB ask hkd post
  refine' enter_turn (binds := [(Str.ofString "ask", .ref f), (Str.ofString "kinds", .ref kd)]) B F X N T rfl hf hke ?k6 ?k7 ?k8 ?k9 ?kB ?_ ?c2 ?c3 ?c4 ?c5
  case k6 => k_is
  case k7 => k_is
  case k8 => k_room
  case k9 => exact BindsTo.of_eq rfl
  case c5 => decide
  case kB => exact locs rfl
  case c2 => exact rfl
  case c3 => exact rfl
  case c4 => exact rfl
  intro g L' h' FG' F' N' B' X' T' hk
  (try dsimp only)
  change wpAny _ _ _ _ _ _
  k_fold
  k_steps
  refine Stop.go ?_
  rename Fr g L' _ _ => F9
  refine callWith_F0 (by obtain ⟨oc, od, fd, sl, e⟩ := hfn; exact ⟨oc, od, fd, sl, F9.keep _ _ (hk _ _ e)⟩) ?_
  dsimp only [List.nil_append]
  refine wpAny_call (codeAny_le (ask hk X' B' F9 T' rfl rfl ?_) rfl (Nat.le_of_ble_eq_true rfl) rfl rfl (Nat.le_of_ble_eq_true rfl))
  intro h2 tk2 e dx dobj hw hfly
  (try dsimp only)
  refine land hfly B' (fun h3 hfly3 => ?_)
  refine clause_as hfly3 B' F9 XB TB (C' := 70) rfl rfl rfl rfl ?_
  intro h4 g4 oe vs tk4 T4 F4 N4 hx hd B4 X4 Tp4
  clear F9 X' B' T' X
  have hkd4 : IsTup g4 kd #[.str wd tw] := by
    obtain ⟨o, q, qc, qn, qd⟩ := hkd
    obtain ⟨sl, q4⟩ := T4.up (hk _ _ q)
    exact ⟨_, q4, qc, qn, qd⟩
  obtain ⟨u1, u2, u3, u4, tx, tt, tn, tl, rfl⟩ := hw
  (try dsimp only)
  k_steps
  refine Stop.go ?_
  rename Fr g4 L' _ _ => F9
  rename News g4 L' _ _ => N9
  refine exc_get (X4.keeps F9.keep) (exc_inst N9 (by k_mem) (by k_mem) hx hd) rfl rfl rfl (findObj_own (attr := none) rfl rfl rfl rfl) rfl ?_
  k_steps
  refine Stop.go ?_
  rename Fr g4 L' _ _ => F9
  refine in_tuple_strs (ys := [wd]) (IsTup.keeps hkd4 F9.keep) (.cons _ _ .nil) ?_
  rw [show ([wd].any fun x => x == wd) = true from by simp]
  k_steps
  refine Stop.go ?_
  rename Fr g4 L' _ _ => F9
  rename News g4 L' _ _ => N9
  refine exc_get (X4.keeps F9.keep) (exc_inst N9 (by k_mem) (by k_mem) hx hd) rfl rfl rfl (findObj_own (attr := none) rfl rfl rfl rfl) rfl ?_
  k_steps
  refine Stop.go ?_
  rename Fr g4 L' _ _ => F9
  rename News g4 L' _ _ => N9
  refine exc_get (X4.keeps F9.keep) (exc_inst N9 (by k_mem) (by k_mem) hx hd) rfl rfl rfl (findObj_own (attr := none) rfl rfl rfl rfl) rfl ?_
  k_steps
  rename Fr g4 L' _ _ => F8
  rename News g4 L' _ _ => N8
  exact ⟨g4, L', _, _, T4, F8, N8, fun h₀' T0 kF kN B0 => post _ h₀' _ _ _ _ T0 kF (news_head kN) B0⟩
end
section
set_option maxHeartbeats 1000000
section
variable {w : World} {A₀ A : Around} {s : Shared} {base h₀ : Heap} {outer : List Env} {env : Env} {L : Addr} {m : Str → Option Value} {K : Frag}
  {p : Program} {loose : List Str} {mean : ExcName → Option Value} {mg mb : Str → Option Value}
  {R : Result → Shared → Prop} {name qual : Str} {params : Arguments} {body : PySem.Expr} {scope : Scope} {cl : List (Str × Addr)} {pm ctv : Value} {c' f : Addr} {args : Args} {binds : List (Str × Value)}

/-- entering a lambda that stands in the ground -/
theorem lam_enter (B : Below A₀ base outer h₀) (F : Fr h₀ L s.heap m) (X₀ : K.In h₀) (T : Top p loose mean mg mb h₀) (hA : A.frames = some (env :: outer)) (hf : env.frame = some L) (hke : env.scope.kind = .function)
    (ho : h₀.get? f = some (kla_obj name qual params body scope cl pm c' ctv)) (hcd : h₀.CodeRec (.ref c') qual) (hroom : A.depth < recursionLimit)
    (hbind : bindArgs (kla_fn name qual params body scope cl pm (.ref c') ctv) args = pure binds) (hloc : ∀ y ∈ binds, scope.names.lookup y.1 = some .local)
    (h : ∀ g L' h₁, Fr h₀ L g m → Fr g L' h₁ (fun y => binds.reverse.lookup y) → News g L' h₁ [] → Below A base (env :: outer) g → K.In g → Top p loose mean mg mb g →
      (∀ b o, s.heap.get? b = some o → g.get? b = some o) →
      wpAny (model Challenge.rw_pb0007_01.row.prog w) (A.deeper (envX qual scope L' f (.ref c') cl)) (eval body (envX qual scope L' f (.ref c') cl))
        (fun v s' => LeaveK h₀ L m g R v s')
        (fun e s' => wpAny (model Challenge.rw_pb0007_01.row.prog w) (A.deeper (envX qual scope L' f (.ref c') cl)) (leaving (envX qual scope L' f (.ref c') cl) e) (fun _ s'' => R (.error e) s'') (fun e' s'' => R (.error e') s'') s')
        { s with heap := h₁, toks := s.toks + binds.length })
    (hco : scope.isCoroutine = false) (hgen : scope.isGenerator = false) (hk : scope.kind = .function)
    (hcell : ∀ x ∈ scope.names, x.2 ≠ .cell) : codeAny (model Challenge.rw_pb0007_01.row.prog w) A (.call (.ref f) args) R s := by
  have N' : News h₀ L s.heap [] := fun q hq => nomatch hq
  obtain ⟨FG, BG, st, lv⟩ := groundX (R := R) B F N' hA hf hke
  have hkg : ∀ b o, s.heap.get? b = some o → (hideAll s.heap (([] : List (Addr × Obj)).map (·.1))).get? b = some o := fun b o e => hideAll_get _ e (by simp)
  have hcd' : s.heap.CodeRec (.ref c') qual := by
    obtain ⟨c, oc, vs, tq, hc, hoc, r⟩ := hcd
    exact ⟨c, oc, vs, tq, hc, F.keep _ _ hoc, r⟩
  refine kla_callFunE hroom (F.keep _ _ ho) rfl hco hgen rfl hcd' ?_
  rw [hbind]
  refine wpAny_pure (wpAny_newFunctionEnv hcell hloc (fun h₁ hns hsb => ⟨((T.nolimit).keeps F.keep).fresh _ hsb, ?_⟩) hk)
  show codeAny _ _ (.expr body (envX qual scope s.heap.objs.size f (.ref c') cl)) _ _
  have hk₁ : ∀ b o, s.heap.get? b = some o → h₁.get? b = some o := fun b o e => hsb.extBut b o (Nat.ne_of_lt (Heap.lt_size e)) (Heap.get?_push_of_some _ e)
  exact kla_codeExpr (wpAny_mono (h _ s.heap.objs.size h₁ FG ⟨hns, fun b o e => hk₁ b o (of_hideAll _ e), Nat.le_of_eq (hideAll_size _ _)⟩
    News.nil BG (X₀.keeps st) (T.keeps st) hkg) (fun v s' hl => lv _ _ hl) fun _ _ y => y)
end
end
section
theorem walk_off_G1 : True := by
  w_top off
  trivial
set_option maxHeartbeats 1000000
section
variable {prog : Program} {w : World} {K : Type} [DecidableEq K] {knd : KeyKind prog w K} {A : Around} {E : Value → Shared → Prop} {s : Shared} {h₀ : Heap} {L d : Addr} {m : Str → Option Value} {kvs : List (K × Value)} {k : K} {key v dflt : Value}
theorem dict_methodB {pl : Sem Bool} {Q : Value × List Value → Shared → Prop} (F : Fr h₀ L s.heap m) (hD : h₀.DictOf knd d kvs) (h : Q (.builtin "dict.get", [.ref d]) s) : wpAny (model prog w) A (getMethod (.ref d) "get" pl) Q E s :=
  have hD := DictOf.keep hD F.keep
  getMethod_builtin hD.typeIs PySem.F.plainAttrs_dict PySem.F.slot_dict_get PySem.F.type_dict_get hD.mapOf.noDict h
theorem dict_get1B {Q : Value → Shared → Prop} (F : Fr h₀ L s.heap m) (hD : h₀.DictOf knd d kvs) (lo : (d == sysModules) = false) (hkey : knd.is k key = true) (h : Q ((valueAt kvs k).getD .none) { s with toks := s.toks + 1 }) :
    wpAny (model prog w) A (call (.builtin "dict.get") [.ref d, key]) Q E s :=
  have hD := DictOf.keep hD F.keep
  call_meetsIn PySem.F.slot_dict_get hD.typeIs PySem.F.entry_dict_get (PySem.F.args_dict_get_2 _ _) (meets_dict_get knd d hkey lo) ⟨_, hD.mapOf, h⟩
theorem dict_get2B {Q : Value → Shared → Prop} (F : Fr h₀ L s.heap m) (hD : h₀.DictOf knd d kvs) (lo : (d == sysModules) = false) (hkey : knd.is k key = true) (h : Q ((valueAt kvs k).getD dflt) { s with toks := s.toks + 1 }) :
    wpAny (model prog w) A (call (.builtin "dict.get") [.ref d, key, dflt]) Q E s :=
  have hD := DictOf.keep hD F.keep
  call_meetsIn PySem.F.slot_dict_get hD.typeIs PySem.F.entry_dict_get (PySem.F.args_dict_get_3 _ _ _) (meets_dict_get_default knd d hkey lo dflt) ⟨_, hD.mapOf, h⟩
theorem notin_dictB {Q : Value → Shared → Prop} (F : Fr h₀ L s.heap m) (hD : h₀.DictOf knd d kvs) (lo : (d == sysModules) = false) (hkey : knd.is k key = true) (h : Q (.bool (!(valueAt kvs k).isSome)) { s with toks := s.toks + 1 }) :
    wpAny (model prog w) A (compareOp .NotIn key (.ref d)) Q E s := wpAny_notIn_of hkey lo (DictOf.keep hD F.keep).mapOf h
end

local macro_rules | `(tactic| k_inst) => `(tactic| exact Mine.instB (by k_asm) (by with_reducible assumption))
local macro_rules | `(tactic| walk_at "getMethod ref") => `(tactic| (k_here; (with_reducible show wpAny _ _ (getMethod (Value.ref _) (Str.ofString "get") _) _ _ _); k_dflt (refine' Mine.dict_methodB (knd := PySem.strKind _ _) ?F ?D ?_; (case F => k_asm); (case D => with_reducible assumption); k_whole)))
local macro_rules | `(tactic| walk_at "call builtin:dict.get") => `(tactic| (k_here; k_dflt (refine' Mine.dict_get2B (knd := PySem.strKind _ _) ?F ?D ?l (strKind_is _ _ _ _) ?_; (case F => k_asm); (case D => with_reducible assumption); (case l => with_reducible assumption); k_whole); with_reducible rename (valueAt _ _ = _) => hvA; rw [hvA]; dsimp only [Option.getD]))
local macro_rules | `(tactic| walk_at "exec Raise some none") => `(tactic| (refine Mine.Stop.mk ?_))
theorem dispatch_told {w : World} {A₀ : Around} {s : Shared} {base h₀ : Heap} {outer : List Env} {env : Env} {L : Addr} {m : Str → Option Value} {news : List (Addr × Obj)}
  {p : Program} {loose : List Str} {mean : ExcName → Option Value} {mg mb : Str → Option Value} {R : Result → Shared → Prop} {x d od : Addr} {num line : Int} {par : Value} {tg : Bool} {key nm : Str} {t1 t2 tn : Tok} {kvs : List (Str × Value)} :
  (hd.heap_1 w.params).In h₀ → Below A₀ base outer h₀ → Fr h₀ L s.heap m → News h₀ L s.heap news → Top p loose mean mg mb h₀ → env.frame = some L → env.scope.kind = .function →
  TypeAt w s.heap x d num par tg od → s.heap.DictOf (PySem.strKind Challenge.rw_pb0007_01.row.prog w) od kvs → (od == sysModules) = false →
  valueAt kvs key = some (.str nm tn) → nm ≠ Str.ofString "" →
  (∀ h' tk, (∀ b o, s.heap.get? b = some o → h'.get? b = some o) → Fr h₀ L h' m → R (.ok (.ret (.str nm tn))) { s with heap := h', toks := tk }) →
  codeAny (model Challenge.rw_pb0007_01.row.prog w) (at_ 630 5700 (env :: outer)) (.call (.ref 157) ⟨[.ref x, .str key t1, .int line t2], []⟩) R s := by
  k_fill
  intro X B F N T hf hke hT hD lo hval hnm post
  refine' enter_foot (fp := []) (binds := [(Str.ofString "tag", .ref x), (Str.ofString "key", .str key t1), (Str.ofString "line", .int line t2)]) B F X N T rfl hf hke ?fp ?k6 ?k7 ?k8 ?k9 ?kB ?_ ?c2 ?c3 ?c4 ?c5
  case fp => intro q hq; cases hq
  case k6 => k_is
  case k7 => k_is
  case k8 => k_room
  case k9 => exact BindsTo.of_eq rfl
  case c5 => decide
  case kB => exact locs rfl
  case c2 => exact rfl
  case c3 => exact rfl
  case c4 => exact rfl
  intro g L' h' FG' F' N' B' X' T' hrest hl1 hl2
  have hk : ∀ b o, s.heap.get? b = some o → g.get? b = some o := fun b o e => hrest b o e (by simp)
  obtain ⟨tk, a, nm0, n, q1, q2, q3, q4⟩ := (hT.keep hk).is
  have hI : InstAt g x (instObj 94 d) 94 (some (dictOf (typeEs w.params tk a nm0 num par tg od) n)) := ⟨q1, rfl, rfl, q2⟩
  have hD' := DictOf.keep hD hk
  (try dsimp only)
  change wpAny _ _ _ _ _ _
  k_fold
  k_steps
  · rename_i hz
    first
      | exact absurd hz hnm
      | exact absurd (eq_of_beq hz) hnm
      | exact absurd (of_decide_eq_true hz) hnm
  · rename Fr h₀ L _ m => kF
    rename Fr g L' _ _ => F9
    exact post _ _ (fun b o e => F9.keep b o (hk b o e)) kF
local macro_rules | `(tactic| walk_at "call ref") => `(tactic| (refine Mine.Stop.mk ?_))
theorem dispatch_wrong {w : World} {A₀ : Around} {s : Shared} {base h₀ : Heap} {outer : List Env} {env : Env} {L : Addr} {m : Str → Option Value} {news : List (Addr × Obj)}
  {p : Program} {loose : List Str} {mean : ExcName → Option Value} {mg mb : Str → Option Value} {R : Result → Shared → Prop} {x d od : Addr} {num line : Int} {par : Value} {tg : Bool} {key : Str} {t1 t2 : Tok} {kvs : List (Str × Value)} :
  (hd.heap_1 w.params).In h₀ → Below A₀ base outer h₀ → Fr h₀ L s.heap m → News h₀ L s.heap news → Top p loose mean mg mb h₀ → env.frame = some L → env.scope.kind = .function →
  TypeAt w s.heap x d num par tg od → s.heap.DictOf (PySem.strKind Challenge.rw_pb0007_01.row.prog w) od kvs → (od == sysModules) = false →
  (valueAt kvs key = none ∨ ∃ tn, valueAt kvs key = some (.str (Str.ofString "") tn)) →
  (∀ h' tk e dx dobj, Words70 w (Str.ofString "program_error") line dobj → Flies base s.heap (env :: outer) e dx 70 dobj h' → R (.error (.ref e)) { s with heap := h', toks := tk }) →
  codeAny (model Challenge.rw_pb0007_01.row.prog w) (at_ 630 5700 (env :: outer)) (.call (.ref 157) ⟨[.ref x, .str key t1, .int line t2], []⟩) R s := by
  k_fill
  intro X B F N T hf hke hT hD lo hval post
  refine' enter_foot (fp := []) (binds := [(Str.ofString "tag", .ref x), (Str.ofString "key", .str key t1), (Str.ofString "line", .int line t2)]) B F X N T rfl hf hke ?fp ?k6 ?k7 ?k8 ?k9 ?kB ?_ ?c2 ?c3 ?c4 ?c5
  case fp => intro q hq; cases hq
  case k6 => k_is
  case k7 => k_is
  case k8 => k_room
  case k9 => exact BindsTo.of_eq rfl
  case c5 => decide
  case kB => exact locs rfl
  case c2 => exact rfl
  case c3 => exact rfl
  case c4 => exact rfl
  intro g L' h' FG' F' N' B' X' T' hrest hl1 hl2
  have hk : ∀ b o, s.heap.get? b = some o → g.get? b = some o := fun b o e => hrest b o e (by simp)
  obtain ⟨tk, a, nm0, n, q1, q2, q3, q4⟩ := (hT.keep hk).is
  have hI : InstAt g x (instObj 94 d) 94 (some (dictOf (typeEs w.params tk a nm0 num par tg od) n)) := ⟨q1, rfl, rfl, q2⟩
  have hD' := DictOf.keep hD hk
  (try dsimp only)
  change wpAny _ _ _ _ _ _
  k_fold
  rcases hval with hval | ⟨tn, hval⟩
  all_goals
    k_steps
    refine Stop.go ?_
    refine raise_own (K := hd.heap_1 w.params) rfl ?_
    k_steps
    refine Stop.go ?_
    rename Fr g L' _ _ => F9
    rename News g L' _ _ => N9
    refine make70 X' B' F9 N9 T' rfl rfl rfl (Nat.le_of_ble_eq_true rfl) rfl rfl (Nat.le_of_ble_eq_true rfl) ?_
    intro h3 tk3 e t dx u1 u2 u3 u4 F3 N3 l1 l2
    refine ⟨e, _, _, 70, X'.keeps F3.keep, rfl, (N3 _ (.head _)).1, rfl, rfl, rfl, rfl, rfl, ?_⟩
    refine leave_raise B' F3 N3 (Ne.symm (ltNe' l2)) ⟨rfl, rfl⟩ rfl rfl (fun vs q => by cases q) rfl rfl fun h4 hfly => ?_
    exact post _ _ e dx _ ⟨_, _, _, _, _, _, _, _, rfl⟩ (hfly.mono hk)
end
section
theorem walk_off_G2 : True := by
  w_top off
  trivial
set_option maxHeartbeats 1000000
local macro_rules | `(tactic| k_inst) => `(tactic| exact Mine.instB (by k_asm) (by with_reducible assumption))
local macro_rules | `(tactic| walk_at "exec Raise some none") => `(tactic| (refine Mine.Stop.mk ?_))
local macro_rules | `(tactic| walk_at "call ref") => `(tactic| (refine Mine.Stop.mk ?_))
theorem extend_wrong {w : World} {A₀ : Around} {s : Shared} {base h₀ : Heap} {outer : List Env} {env : Env} {L : Addr} {m : Str → Option Value} {news : List (Addr × Obj)}
  {p : Program} {loose : List Str} {mean : ExcName → Option Value} {mg mb : Str → Option Value} {R : Result → Shared → Prop} {x d od c : Addr} {num line n101 : Int} {par : Value} {nm : Str} {t1 t2 t3 : Tok} :
  (hd.heap_1 w.params).In h₀ → Below A₀ base outer h₀ → Fr h₀ L s.heap m → News h₀ L s.heap news → Top p loose mean mg mb h₀ → env.frame = some L → env.scope.kind = .function →
  TypeAt w s.heap x d num par false od →
  (∀ h' tk e dx dobj, Words51 w line dobj → Flies base s.heap (env :: outer) e dx 51 dobj h' → R (.error (.ref e)) { s with heap := h', toks := tk }) →
  codeAny (model Challenge.rw_pb0007_01.row.prog w) (at_ 630 5700 (env :: outer)) (.call (.ref 124) ⟨[.ref x, .str nm t1, .int n101 t3, .ref c, .int line t2], []⟩) R s := by
  k_fill
  intro X B F N T hf hke hT post
  refine' enter_foot (fp := []) (binds := [(Str.ofString "parent", .ref x), (Str.ofString "name", .str nm t1), (Str.ofString "number", .int n101 t3), (Str.ofString "components", .ref c), (Str.ofString "line", .int line t2)]) B F X N T rfl hf hke ?fp ?k6 ?k7 ?k8 ?k9 ?kB ?_ ?c2 ?c3 ?c4 ?c5
  case fp => intro q hq; cases hq
  case k6 => k_is
  case k7 => k_is
  case k8 => k_room
  case k9 => exact BindsTo.of_eq rfl
  case c5 => decide
  case kB => exact locs rfl
  case c2 => exact rfl
  case c3 => exact rfl
  case c4 => exact rfl
  intro g L' h' FG' F' N' B' X' T' hrest hl1 hl2
  have hk : ∀ b o, s.heap.get? b = some o → g.get? b = some o := fun b o e => hrest b o e (by simp)
  obtain ⟨tk, a, nm0, n, q1, q2, q3, q4⟩ := (hT.keep hk).is
  have hI : InstAt g x (instObj 94 d) 94 (some (dictOf (typeEs w.params tk a nm0 num par false od) n)) := ⟨q1, rfl, rfl, q2⟩
  (try dsimp only)
  change wpAny _ _ _ _ _ _
  k_fold
  k_steps
  refine Stop.go ?_
  refine raise_own (K := hd.heap_1 w.params) rfl ?_
  k_steps
  refine Stop.go ?_
  rename Fr g L' _ _ => F9
  rename News g L' _ _ => N9
  refine make51 X' B' F9 N9 T' rfl rfl rfl (Nat.le_of_ble_eq_true rfl) rfl rfl (Nat.le_of_ble_eq_true rfl) ?_
  intro h3 tk3 e t dx u1 u2 F3 N3 l1 l2
  refine ⟨e, _, _, 51, X'.keeps F3.keep, rfl, (N3 _ (.head _)).1, rfl, rfl, rfl, rfl, rfl, ?_⟩
  refine leave_raise B' F3 N3 (Ne.symm (ltNe' l2)) ⟨rfl, rfl⟩ rfl rfl (fun vs q => by cases q) rfl rfl fun h4 hfly => ?_
  exact post _ _ e dx _ ⟨_, _, _, _, _, rfl⟩ (hfly.mono hk)
end
section
theorem walk_off_G3 : True := by
  w_top off
  trivial
set_option maxHeartbeats 2000000
local macro_rules | `(tactic| k_inst) => `(tactic| exact Mine.instB (by k_asm) (by with_reducible assumption))
local macro_rules | `(tactic| walk_at "exec Raise some none") => `(tactic| (refine Mine.Stop.mk ?_))
local macro_rules | `(tactic| walk_at "exec For Name Subscript") => `(tactic| (k_here; (rename Fr _ _ _ _ => lF'); (with_unfolding_all refine' For_invVF lF' ?k1 ?k2 ?_; (case k1 => exact rfl); (case k2 => exact rfl); k_whole)))
local macro_rules | `(tactic| walk_at "call ref") => `(tactic| (refine Mine.Stop.mk ?_))
/-- a type by its address, its number alone -/
def NumAt (w : World) (h : Heap) (x : Addr) (num : Int) : Prop := ∃ d od par tg, TypeAt w h x d num par tg od
theorem NumAt.keep {w : World} {h h' : Heap} {x : Addr} {num : Int} (t : NumAt w h x num) (k : ∀ b o, h.get? b = some o → h'.get? b = some o) : NumAt w h' x num := let ⟨d, od, par, tg, r⟩ := t; ⟨d, od, par, tg, r.keep k⟩
def numsAgree : List (Addr × Int) → Bool
  | [] => true
  | a :: r => r.all fun q => decide (q.2 = a.2)
theorem common_spec {w : World} {A₀ : Around} {s : Shared} {base h₀ : Heap} {outer : List Env} {env : Env} {L : Addr} {m : Str → Option Value} {news : List (Addr × Obj)}
  {p : Program} {loose : List Str} {mean : ExcName → Option Value} {mg mb : Str → Option Value} {R : Result → Shared → Prop} {l : Addr} {ts : List (Addr × Int)} {line : Int} {t2 : Tok} :
  (hd.heap_1 w.params).In h₀ → Below A₀ base outer h₀ → Fr h₀ L s.heap m → News h₀ L s.heap news → Top p loose mean mg mb h₀ → env.frame = some L → env.scope.kind = .function →
  s.heap.IsList l (ts.map fun q => Value.ref q.1).toArray → (∀ q ∈ ts, NumAt w s.heap q.1 q.2) → 1 ≤ ts.length → ts.length ≤ 3 →
  (numsAgree ts = true → ∀ h' tk a r, ts = a :: r → (∀ b o, s.heap.get? b = some o → h'.get? b = some o) → Fr h₀ L h' m → R (.ok (.ret (.ref a.1))) { s with heap := h', toks := tk }) →
  (numsAgree ts = false → ∀ h' tk e dx dobj, Words70 w (Str.ofString "constraint_error") line dobj → Flies base s.heap (env :: outer) e dx 70 dobj h' → R (.error (.ref e)) { s with heap := h', toks := tk }) →
  codeAny (model Challenge.rw_pb0007_01.row.prog w) (at_ 630 5700 (env :: outer)) (.call (.ref 164) ⟨[.ref l, .int line t2], []⟩) R s := by
  k_fill
  intro X B F N T hf hke hl hts h1 h3 post bad
  refine' enter_foot (fp := []) (binds := [(Str.ofString "tags", .ref l), (Str.ofString "line", .int line t2)]) B F X N T rfl hf hke ?fp ?k6 ?k7 ?k8 ?k9 ?kB ?_ ?c2 ?c3 ?c4 ?c5
  case fp => intro q hq; cases hq
  case k6 => k_is
  case k7 => k_is
  case k8 => k_room
  case k9 => exact BindsTo.of_eq rfl
  case c5 => decide
  case kB => exact locs rfl
  case c2 => exact rfl
  case c3 => exact rfl
  case c4 => exact rfl
  intro g L' h' FG' F' N' B' X' T' hrest hl1 hl2
  have hk : ∀ b o, s.heap.get? b = some o → g.get? b = some o := fun b o e => hrest b o e (by simp)
  have hlg := IsList.keep hl hk
  (try dsimp only)
  change wpAny _ _ _ _ _ _
  k_fold
  rcases ts with _ | ⟨⟨x1, n1⟩, _ | ⟨⟨x2, n2⟩, _ | ⟨⟨x3, n3⟩, _ | ⟨_, _⟩⟩⟩⟩
  · simp at h1
  · obtain ⟨d1, od1, par1, tg1, hT1⟩ := (hts _ (.head _)).keep hk
    obtain ⟨tk1, a1, nm1, m1, q11, q12, _, _⟩ := hT1.is
    have hI1 : InstAt g x1 (instObj 94 d1) 94 (some (dictOf (typeEs w.params tk1 a1 nm1 n1 par1 tg1 od1) m1)) := ⟨q11, rfl, rfl, q12⟩
    k_steps
    · rename Fr h₀ L _ m => kF
      rename Fr g L' _ _ => F9
      exact post (by simp [numsAgree] <;> first | assumption | (constructor <;> assumption) | omega) _ _ _ _ rfl (fun b o e => F9.keep b o (hk b o e)) kF
  · obtain ⟨d1, od1, par1, tg1, hT1⟩ := (hts _ (.head _)).keep hk
    obtain ⟨tk1, a1, nm1, m1, q11, q12, _, _⟩ := hT1.is
    have hI1 : InstAt g x1 (instObj 94 d1) 94 (some (dictOf (typeEs w.params tk1 a1 nm1 n1 par1 tg1 od1) m1)) := ⟨q11, rfl, rfl, q12⟩
    obtain ⟨d2, od2, par2, tg2, hT2⟩ := (hts _ (.tail _ (.head _))).keep hk
    obtain ⟨tk2, a2, nm2, m2, q21, q22, _, _⟩ := hT2.is
    have hI2 : InstAt g x2 (instObj 94 d2) 94 (some (dictOf (typeEs w.params tk2 a2 nm2 n2 par2 tg2 od2) m2)) := ⟨q21, rfl, rfl, q22⟩
    k_steps
    · refine Stop.go ?_
      refine raise_own (K := hd.heap_1 w.params) rfl ?_
      k_steps
      refine Stop.go ?_
      rename Fr g L' _ _ => F9
      rename News g L' _ _ => N9
      refine make70 X' B' F9 N9 T' rfl rfl rfl (Nat.le_of_ble_eq_true rfl) rfl rfl (Nat.le_of_ble_eq_true rfl) ?_
      intro h3 tk3 e t dx u1 u2 u3 u4 F3 N3 l1 l2
      refine ⟨e, _, _, 70, X'.keeps F3.keep, rfl, (N3 _ (.head _)).1, rfl, rfl, rfl, rfl, rfl, ?_⟩
      refine leave_raise B' F3 N3 (Ne.symm (ltNe' l2)) ⟨rfl, rfl⟩ rfl rfl (fun vs q => by cases q) rfl rfl fun h4 hfly => ?_
      exact bad (by simp [numsAgree] <;> first | assumption | omega) _ _ e dx _ ⟨_, _, _, _, _, _, _, _, rfl⟩ (hfly.mono hk)
    · rename Fr h₀ L _ m => kF
      rename Fr g L' _ _ => F9
      exact post (by simp [numsAgree] <;> first | assumption | (constructor <;> assumption) | omega) _ _ _ _ rfl (fun b o e => F9.keep b o (hk b o e)) kF
  · obtain ⟨d1, od1, par1, tg1, hT1⟩ := (hts _ (.head _)).keep hk
    obtain ⟨tk1, a1, nm1, m1, q11, q12, _, _⟩ := hT1.is
    have hI1 : InstAt g x1 (instObj 94 d1) 94 (some (dictOf (typeEs w.params tk1 a1 nm1 n1 par1 tg1 od1) m1)) := ⟨q11, rfl, rfl, q12⟩
    obtain ⟨d2, od2, par2, tg2, hT2⟩ := (hts _ (.tail _ (.head _))).keep hk
    obtain ⟨tk2, a2, nm2, m2, q21, q22, _, _⟩ := hT2.is
    have hI2 : InstAt g x2 (instObj 94 d2) 94 (some (dictOf (typeEs w.params tk2 a2 nm2 n2 par2 tg2 od2) m2)) := ⟨q21, rfl, rfl, q22⟩
    obtain ⟨d3, od3, par3, tg3, hT3⟩ := (hts _ (.tail _ (.tail _ (.head _)))).keep hk
    obtain ⟨tk3, a3, nm3, m3, q31, q32, _, _⟩ := hT3.is
    have hI3 : InstAt g x3 (instObj 94 d3) 94 (some (dictOf (typeEs w.params tk3 a3 nm3 n3 par3 tg3 od3) m3)) := ⟨q31, rfl, rfl, q32⟩
    k_steps
    · refine Stop.go ?_
      refine raise_own (K := hd.heap_1 w.params) rfl ?_
      k_steps
      refine Stop.go ?_
      rename Fr g L' _ _ => F9
      rename News g L' _ _ => N9
      refine make70 X' B' F9 N9 T' rfl rfl rfl (Nat.le_of_ble_eq_true rfl) rfl rfl (Nat.le_of_ble_eq_true rfl) ?_
      intro h3 tk3 e t dx u1 u2 u3 u4 F3 N3 l1 l2
      refine ⟨e, _, _, 70, X'.keeps F3.keep, rfl, (N3 _ (.head _)).1, rfl, rfl, rfl, rfl, rfl, ?_⟩
      refine leave_raise B' F3 N3 (Ne.symm (ltNe' l2)) ⟨rfl, rfl⟩ rfl rfl (fun vs q => by cases q) rfl rfl fun h4 hfly => ?_
      exact bad (by simp [numsAgree] <;> first | assumption | omega) _ _ e dx _ ⟨_, _, _, _, _, _, _, _, rfl⟩ (hfly.mono hk)
    · refine Stop.go ?_
      refine raise_own (K := hd.heap_1 w.params) rfl ?_
      k_steps
      refine Stop.go ?_
      rename Fr g L' _ _ => F9
      rename News g L' _ _ => N9
      refine make70 X' B' F9 N9 T' rfl rfl rfl (Nat.le_of_ble_eq_true rfl) rfl rfl (Nat.le_of_ble_eq_true rfl) ?_
      intro h3 tk3 e t dx u1 u2 u3 u4 F3 N3 l1 l2
      refine ⟨e, _, _, 70, X'.keeps F3.keep, rfl, (N3 _ (.head _)).1, rfl, rfl, rfl, rfl, rfl, ?_⟩
      refine leave_raise B' F3 N3 (Ne.symm (ltNe' l2)) ⟨rfl, rfl⟩ rfl rfl (fun vs q => by cases q) rfl rfl fun h4 hfly => ?_
      exact bad (by simp [numsAgree] <;> first | assumption | omega) _ _ e dx _ ⟨_, _, _, _, _, _, _, _, rfl⟩ (hfly.mono hk)
    · rename Fr h₀ L _ m => kF
      rename Fr g L' _ _ => F9
      exact post (by simp [numsAgree] <;> first | assumption | (constructor <;> assumption) | omega) _ _ _ _ rfl (fun b o e => F9.keep b o (hk b o e)) kF
  · simp at h3
end
section
set_option maxHeartbeats 1000000
section
variable {prog : Program} {w : World} {A : Around} {E : Value → Shared → Prop} {s : Shared} {h₀ : Heap} {L D d : Addr} {m : Str → Option Value} {news : List (Addr × Obj)}

theorem sort_strsN {vs : List Value} {ss : List Str} {n : Nat} {Q : Value → Shared → Prop} (F : Fr h₀ L s.heap m) (N : News h₀ L s.heap ((D, listOf vs.toArray n) :: news)) (hap : ∀ p ∈ news, p.1 ≠ D) (hS : StrsAre vs ss) (h64 : vs.length < 64)
    (h : ∀ h' vs' ss' e, Fr h₀ L h' m → News h₀ L h' ((D, listOf (vs' : List Value).toArray e) :: news) → StrsAre vs' ss' → ss'.Perm ss → sortedS ss' = true → Q .none { s with heap := h' }) :
    wpAny (model prog w) A (call (.builtin "list.sort") [.ref D]) Q E s := by
  have z := N _ (.head _)
  have ho : s.heap.get? D = some (seqObj "list" vs.toArray n) := z.1
  refine wpAny_call_entry PyProof.Rows.slot_list_sort ⟨_, z.1, rfl⟩ PyProof.Rows.entry_list_sort (list_sort_treeK strKind_oneLt ho hS.keysOf (fun v₁ v₂ rest e => keyKind_strs (by rw [← e]; exact hS)) h64 fun st' hp hs => ⟨.none, rfl, ?_⟩) (PyProof.Rows.args_list_sort _)
  obtain ⟨ss', h1, h2, h3⟩ := sorted_out_str hS hp hs
  obtain ⟨c, hc⟩ := sortedHeap_at (vs := vs) (out := (arrOf st').map (·.2)) ho
  have old : ∀ b o, b ≠ D → s.heap.get? b = some o → (sortedHeap s.heap D vs ((arrOf st').map (·.2))).get? b = some o := fun b o nb e => (sortedHeap_old nb (Heap.lt_size e)).trans e
  have F4 : Fr h₀ L (sortedHeap s.heap D vs ((arrOf st').map (·.2))) m := by
    obtain ⟨oL, es, ep, hL, r⟩ := F.ns
    exact ⟨⟨oL, es, ep, old _ _ (Ne.symm z.2.1) hL, r⟩, fun b o e => old b o (fun q => by rw [q, z.2.2] at e; cases e) (F.keep b o e), F.above⟩
  refine h _ ((arrOf st').map (·.2)).toList ss' c F4 (fun q hq => ?_) h1 h2 h3
  rcases List.mem_cons.mp hq with rfl | hq
  · exact ⟨by rw [Array.toArray_toList]; exact hc, z.2⟩
  · exact ⟨old _ _ (hap q hq) (N q (.tail _ hq)).1, (N q (.tail _ hq)).2⟩

theorem strsAre_of {kvs : List (Str × Value)} : ∀ {vs : List Value} (j : Nat), vs.length + j = kvs.length → (∀ (i : Nat) v, vs[i]? = some v → ∃ k x t, kvs[i + j]? = some (k, x) ∧ v = .str k t) → StrsAre vs ((kvs.drop j).map (·.1))
  | [], j, hl, _ => by rw [List.drop_eq_nil_of_le (by simp at hl; omega)]; exact .nil
  | v :: vs, j, hl, h => by
    obtain ⟨k, x, t, e, rfl⟩ := h 0 v rfl
    have hj : j < kvs.length := by simp at hl; omega
    have e' : kvs[j] = (k, x) := by
      rw [Nat.zero_add, List.getElem?_eq_getElem hj] at e
      exact Option.some.inj e
    rw [List.drop_eq_getElem_cons hj, e']
    refine .cons k t (strsAre_of (j + 1) (by simp at hl ⊢; omega) fun i v hv => ?_)
    obtain ⟨k', x', t', e2, r⟩ := h (i + 1) v (by simpa using hv)
    exact ⟨k', x', t', by rw [← e2]; congr 1; omega, r⟩

/-- sorted(d) of a dict of the ground whose keys are texts -/
theorem sorted_dictB {kvs : List (Str × Value)} {Q : Value → Shared → Prop} (F : Fr h₀ L s.heap m) (N : News h₀ L s.heap news) (hh : A.handled = none) (hD : h₀.DictOf (PySem.strKind prog w) d kvs) (lo : (d == sysModules) = false) (h64 : kvs.length < 64)
    (h : ∀ D h' tk vs' ss' e, Fr h₀ L h' m → News h₀ L h' ((D, listOf (vs' : List Value).toArray e) :: news) → (∀ q ∈ news, q.1 < D) → StrsAre vs' ss' → ss'.Perm (kvs.map (·.1)) → sortedS ss' = true → Q (.ref D) { s with heap := h', toks := tk }) :
    wpAny (model prog w) A (call (.builtin "sorted") [.ref d]) Q E s := by
  have hD' := DictOf.keep hD F.keep
  obtain ⟨ep, hat⟩ := hD'.dictAt
  refine kdu_sorted (kdl_dict (knd := PySem.strKind prog w) (kvs := kvs) (ep := ep) lo) hh F N hat (by rw [sizeLine_eq]; omega) fun B h' tk vs F' N' l1 hl hv => ?_
  have hS : StrsAre vs (kvs.map (·.1)) := by
    have := strsAre_of (kvs := kvs) (vs := vs) 0 (by omega) fun i v e => by
      obtain ⟨k, x, hx, hk⟩ := hv i v e
      obtain ⟨t, rfl⟩ : ∃ t, v = .str k t := by
        exact PyProof.V.Flat.str_inv (kdl_flat_str hk)
      exact ⟨k, x, t, hx, rfl⟩
    simpa using this
  exact sort_strsN (s := { s with heap := h', toks := tk }) F' N' (fun p hp => Nat.ne_of_lt (l1 p hp)) hS (by omega) fun h'' vs' ss' e F'' N'' a b c => h B h'' tk vs' ss' e F'' N'' l1 a b c
end
end
section
local macro_rules | `(tactic| walk_at "none of mine") => `(tactic| fail)
theorem walk_off_G4 : True := by
  w_top off
  trivial
set_option maxHeartbeats 1000000
local macro_rules | `(tactic| k_inst) => `(tactic| exact Mine.instB (by k_asm) (by with_reducible assumption))
local macro_rules | `(tactic| walk_at "call builtin:sorted") => `(tactic| (k_here; (with_reducible show wpAny _ _ (call (Value.builtin "sorted") [Value.ref _]) _ _ _); k_dflt (refine' Mine.sorted_dictB ?F ?N ?h ?D ?l ?z ?_; (case F => k_asm); (case N => k_asm); (case h => rfl); (case D => with_reducible assumption); (case l => with_reducible assumption); (case z => omega)); intro D' h' tk' vs' ss' e' F' N' l1' hss' hpm' hso'))
local macro_rules | `(tactic| walk_at "CompSrcT") => `(tactic| (k_here; k_dflt (refine' LCt.CompSrcT.ledger (by rfl) ?F ?N ?m ?z ?_; (case F => k_asm); (case N => k_asm); (case m => k_mem); (case z => (rw [sizeLine_eq, List.size_toArray]; with_reducible rename (List.Perm _ _) => hpmZ; with_reducible rename (StrsAre _ _) => hssZ; rw [hssZ.length, hpmZ.length_eq, List.length_map]; omega)); intro g')))
section
variable {prog : Program} {w : World} {A : Around} {E : Value → Shared → Prop} {s : Shared} {h₀ : Heap} {L : Addr} {m : Str → Option Value}
/-- an item of a dict of the ground, whatever expression names the dict -/
theorem item_dictA {K : Type} [DecidableEq K] {knd : KeyKind prog w K} {d : Addr} {kvs : List (K × Value)} {k : K} {key v : Value} {value slice : PySem.Expr} {Q : Value → Shared → Prop} (F : Fr h₀ L s.heap m) (hD : h₀.DictOf knd d kvs) (hkey : knd.is k key = true) (hl : valueAt kvs k = some v) (h : Q v { s with toks := s.toks + 1 })
    (hs : subscripted slice false (.ref d) key = operate [.ref d, key] (getItem (.ref d) key) := by with_unfolding_all rfl) :
    wpAny (model prog w) A (subscriptTail value slice (.ref d) key) Q E s :=
  have hD := DictOf.keep hD F.keep
  tail_any hD.typeIs slot_dict_getitem.lookup (wpAny_getItem_of hkey hD.mapOf hl h) hs
end
theorem named_keys {kvs : List (Str × Value)} {kv : List (Str × Str)} (h : Named kvs kv) : kvs.map (·.1) = kv.map (·.1) := by
  induction h with
  | nil => rfl
  | cons r ih => simp [ih]
theorem named_mem {kvs : List (Str × Value)} {kv : List (Str × Str)} (h : Named kvs kv) {k : Str} (hm : k ∈ kv.map (·.1)) : ∃ nm t, valueAt kvs k = some (.str nm t) ∧ look kv k = some nm := by
  rcases h.at k with ⟨_, b⟩ | z
  · exfalso
    obtain ⟨q, hq, rfl⟩ := List.mem_map.mp hm
    unfold look at b
    rw [Option.map_eq_none_iff, List.find?_eq_none] at b
    exact b q hq (by simp)
  · exact z
theorem strs_get : ∀ {vs : List Value} {ss : List Str}, StrsAre vs ss → ∀ {i : Nat} {v : Value}, vs[i]? = some v → ∃ k t, v = .str k t ∧ ss[i]? = some k
  | _, _, .nil, i, v, e => by simp at e
  | _, _, .cons y t r, 0, v, e => by
    simp at e; subst e
    exact ⟨y, t, rfl, rfl⟩
  | _, _, .cons y t r, i + 1, v, e => by
    simp at e
    simpa using strs_get r e
def bareTest (kv : List (Str × Str)) (all : List Str) (j : Nat) : Bool := match all[j]? with | some k => decide (look kv k = some (Str.ofString "")) | none => false
def bareOf (kv : List (Str × Str)) (all : List Str) : List Str := all.filter fun k => decide (look kv k = some (Str.ofString ""))
theorem strs_filter {kv : List (Str × Str)} {all : List Str} : ∀ {vs : List Value} {ss : List Str} (j : Nat), StrsAre vs ss → all.drop j = ss → StrsAre (keepIf (bareTest kv all) j vs) (bareOf kv ss)
  | _, _, _, .nil, _ => .nil
  | _, _, j, .cons (vs := vs) (ys := ys) y t r, e => by
    have hj : all[j]? = some y := by
      have := congrArg (fun l => l[0]?) e
      simpa using this
    have hr : all.drop (j + 1) = ys := by
      have := congrArg (List.drop 1) e
      simpa [Nat.add_comm] using this
    have ih := strs_filter (kv := kv) (j + 1) r hr
    unfold keepIf bareOf bareTest
    rw [List.filter_cons, hj]
    simp only []
    split
    · exact .cons y t ih
    · exact ih
local macro_rules | `(tactic| walk_at "subscriptTail") => `(tactic| (refine Mine.Stop.mk ?_))
local macro_rules | `(tactic| k_steps) => `(tactic| walk_at "S")
theorem abstract_spec {w : World} {A₀ : Around} {s : Shared} {base h₀ : Heap} {outer : List Env} {env : Env} {L : Addr} {m : Str → Option Value} {news : List (Addr × Obj)}
  {p : Program} {loose : List Str} {mean : ExcName → Option Value} {mg mb : Str → Option Value} {R : Result → Shared → Prop} {x d od : Addr} {num : Int} {par : Value} {tg : Bool} {kvs : List (Str × Value)} {kv : List (Str × Str)} :
  (hd.heap_1 w.params).In h₀ → Below A₀ base outer h₀ → Fr h₀ L s.heap m → News h₀ L s.heap news → Top p loose mean mg mb h₀ → env.frame = some L → env.scope.kind = .function →
  TypeAt w s.heap x d num par tg od → s.heap.DictOf (PySem.strKind Challenge.rw_pb0007_01.row.prog w) od kvs → (od == sysModules) = false → kvs.length ≤ 5 → Named kvs kv →
  (∀ h' tk a e vs' all, (∀ b o, s.heap.get? b = some o → h'.get? b = some o) → Fr h₀ L h' m → News h₀ L h' [(a, listOf (vs' : List Value).toArray e)] → s.heap.get? a = none → StrsAre vs' (bareOf kv all) → all.Perm (kv.map (·.1)) → sortedS all = true →
     R (.ok (.ret (.ref a))) { s with heap := h', toks := tk }) →
  codeAny (model Challenge.rw_pb0007_01.row.prog w) (at_ 640 5900 (env :: outer)) (.call (.ref 136) ⟨[.ref x], []⟩) R s := by
  k_fill
  intro X B F N T hf hke hT hD lo hlen hnmd post
  refine' enter_footC (fp := []) (binds := [(Str.ofString "kind", .ref x)]) B F X N T rfl hf hke ?fp ?k6 ?k7 ?k8 ?k9 ?kB ?kD ?_ ?c2 ?c3 ?c4
  case fp => intro q hq; cases hq
  case k6 => k_is
  case k7 => k_is
  case k8 => k_room
  case k9 => exact BindsTo.of_eq rfl
  case kB => exact rfl
  case kD => decide +kernel
  case c2 => exact rfl
  case c3 => exact rfl
  case c4 => exact rfl
  intro g L' h' tk' cells' FG' F' N' Y' B' X' T' hrest hl1 hl2
  have hk : ∀ b o, s.heap.get? b = some o → g.get? b = some o := fun b o e => hrest b o e (by simp)
  k_cells Y'
  (try simp only [List.cons_append, List.nil_append, List.append_nil] at N')
  (try dsimp only)
  obtain ⟨tk, a, nm0, n, q1, q2, q3, q4⟩ := (hT.keep hk).is
  have hI : InstAt g x (instObj 94 d) 94 (some (dictOf (typeEs w.params tk a nm0 num par tg od) n)) := ⟨q1, rfl, rfl, q2⟩
  have hD' := DictOf.keep hD hk
  change wpAny _ _ _ _ _ _
  k_fold
  k_steps
  rename (List Str) => all
  rename StrsAre _ all => hss
  rename List.Perm all _ => hpm
  rename (sortedS _ = true) => hso
  have hpm' : List.Perm all (kv.map (·.1)) := by rw [named_keys hnmd] at hpm; exact hpm
  refine Mine.rest_filter (bareTest kv all) (fun _ => rfl) (fun _ => rfl) (by decide) (Or.inr ⟨_, (by k_mem), rfl, _, rfl⟩) ?turn _ 0 [] (by simp) ?fin
  case turn =>
    intro j v I oI C oC D' ys m₂ hh tk E' hv hC hx F2 N2 off ne
    obtain ⟨k, t, rfl, hk'⟩ := strs_get hss hv
    have hmem : k ∈ kv.map (·.1) := hpm'.mem_iff.mp (List.mem_of_getElem? hk')
    obtain ⟨nm, tn, hval, hlook⟩ := named_mem hnmd hmem
    k_steps
    refine Stop.go ?_
    refine Mine.item_dictA (knd := PySem.strKind _ _) F2 hD' (strKind_is _ _ _ _) hval ?_
    k_steps
    refine ⟨?_, _, _, rfl, by k_asm, by k_asm⟩
    simp only [bareTest, hk', hlook, Option.some.injEq]
    by_cases e : nm = Str.ofString "" <;> simp [e]
  case fin =>
    simp only [List.nil_append, List.drop_zero]
    have hown := strs_filter (kv := kv) 0 hss (List.drop_zero)
    generalize keepIf (bareTest kv all) 0 _ = ws at hown
    k_steps
    rename Fr h₀ L _ m => kF
    rename News h₀ L _ _ => kN
    rename Fr g L' _ _ => F9
    rename News g L' _ _ => N9
    exact post _ _ _ _ _ all (fun b o e => F9.keep b o (hk b o e)) kF (fun q hq => kN q (by rw [List.mem_singleton.mp hq]; exact .head _)) (kts_none hk (N9 _ (.head _)).2.2) hown hpm' hso
end
section
theorem walk_off_G5 : True := by
  w_top off
  trivial
set_option maxHeartbeats 1000000
theorem bare_nil {kv : List (Str × Str)} {all : List Str} (hp : all.Perm (kv.map (·.1))) : bareOf kv all = [] ↔ bareOf kv (kv.map (·.1)) = [] := by
  unfold bareOf
  rw [List.filter_eq_nil_iff, List.filter_eq_nil_iff]
  exact ⟨fun h a ha => h a (hp.mem_iff.mpr ha), fun h a ha => h a (hp.mem_iff.mp ha)⟩
local macro_rules | `(tactic| walk_at "exec Raise some none") => `(tactic| (refine Mine.Stop.mk ?_))
local macro_rules | `(tactic| walk_at "call ref") => `(tactic| (refine Mine.Stop.mk ?_))
theorem check_spec {w : World} {A₀ : Around} {s : Shared} {base h₀ : Heap} {outer : List Env} {env : Env} {L : Addr} {m : Str → Option Value} {news : List (Addr × Obj)}
  {p : Program} {loose : List Str} {mean : ExcName → Option Value} {mg mb : Str → Option Value} {R : Result → Shared → Prop} {x d od : Addr} {num line : Int} {t2 : Tok} {par : Value} {tg : Bool} {kvs : List (Str × Value)} {kv : List (Str × Str)} :
  (hd.heap_1 w.params).In h₀ → Below A₀ base outer h₀ → Fr h₀ L s.heap m → News h₀ L s.heap news → Top p loose mean mg mb h₀ → env.frame = some L → env.scope.kind = .function →
  TypeAt w s.heap x d num par tg od → s.heap.DictOf (PySem.strKind Challenge.rw_pb0007_01.row.prog w) od kvs → (od == sysModules) = false → kvs.length ≤ 5 → Named kvs kv →
  (bareOf kv (kv.map (·.1)) = [] → ∀ h' tk, (∀ b o, s.heap.get? b = some o → h'.get? b = some o) → Fr h₀ L h' m → R (.ok (.ret .none)) { s with heap := h', toks := tk }) →
  (bareOf kv (kv.map (·.1)) ≠ [] → ∀ h' tk e dx dobj, Words51 w line dobj → Flies base s.heap (env :: outer) e dx 51 dobj h' → R (.error (.ref e)) { s with heap := h', toks := tk }) →
  codeAny (model Challenge.rw_pb0007_01.row.prog w) (at_ 630 5700 (env :: outer)) (.call (.ref 143) ⟨[.ref x, .int line t2], []⟩) R s := by
  k_fill
  intro X B F N T hf hke hT hD lo hlen hnmd post bad
  refine' enter_foot (fp := []) (binds := [(Str.ofString "kind", .ref x), (Str.ofString "line", .int line t2)]) B F X N T rfl hf hke ?fp ?k6 ?k7 ?k8 ?k9 ?kB ?_ ?c2 ?c3 ?c4 ?c5
  case fp => intro q hq; cases hq
  case k6 => k_is
  case k7 => k_is
  case k8 => k_room
  case k9 => exact BindsTo.of_eq rfl
  case c5 => decide
  case kB => exact locs rfl
  case c2 => exact rfl
  case c3 => exact rfl
  case c4 => exact rfl
  intro g L' h' FG' F' N' B' X' T' hrest hl1 hl2
  have hk : ∀ b o, s.heap.get? b = some o → g.get? b = some o := fun b o e => hrest b o e (by simp)
  (try dsimp only)
  change wpAny _ _ _ _ _ _
  k_fold
  k_steps
  refine Stop.go ?_
  rename Fr g L' _ _ => F9
  rename News g L' _ _ => N9
  have k9 : ∀ b o, s.heap.get? b = some o → _ := fun b o e => F9.keep b o (hk b o e)
  refine wpAny_call (codeAny_le (abstract_spec X' B' F9 N9 T' rfl rfl (hT.keep k9) (DictOf.keep hD k9) lo hlen hnmd ?_) rfl (Nat.le_of_ble_eq_true rfl) rfl rfl (Nat.le_of_ble_eq_true rfl))
  intro h2 tk2 a e vs' all k2 F2 N2 fa hvs hpm hso
  have hb := bare_nil hpm
  clear F9 N9
  (try dsimp only)
  generalize hgen : bareOf kv all = bo at hvs hb
  rcases hvs with _ | ⟨y, t, hvs⟩
  · k_steps
    rename Fr h₀ L _ m => kF
    rename Fr g L' _ _ => F9
    exact post (hb.mp rfl) _ _ (fun b o e => F9.keep b o (hk b o e)) kF
  · have hne : bareOf kv (kv.map (·.1)) ≠ [] := fun z => absurd (hb.mpr z) (by simp)
    k_steps
    refine Stop.go ?_
    refine raise_own (K := hd.heap_1 w.params) rfl ?_
    k_steps
    refine Stop.go ?_
    rename Fr g L' _ _ => F9
    rename News g L' _ _ => N9
    refine make51 X' B' F9 N9 T' rfl rfl rfl (Nat.le_of_ble_eq_true rfl) rfl rfl (Nat.le_of_ble_eq_true rfl) ?_
    intro h3 tk3 e t dx u1 u2 F3 N3 l1 l2
    refine ⟨e, _, _, 51, X'.keeps F3.keep, rfl, (N3 _ (.head _)).1, rfl, rfl, rfl, rfl, rfl, ?_⟩
    refine leave_raise B' F3 N3 (Ne.symm (ltNe' l2)) ⟨rfl, rfl⟩ rfl rfl (fun vs q => by cases q) rfl rfl fun h4 hfly => ?_
    exact bad hne _ _ e dx _ ⟨_, _, _, _, _, rfl⟩ (hfly.mono hk)
end
section
theorem walk_off_G6 : True := by
  w_top off
  trivial
set_option maxHeartbeats 2000000
/-- types and their operations, all on the heap -/
structure Forest (w : World) (h : Heap) (xs : List TX) (made : List (Int × Int)) (ops : List (List (Str × Str))) : Prop where
  types : TypesAt w h xs made
  op : ∀ (i : Nat) x d od, xs[i]? = some (x, d, od) → ∃ kv kvs, ops[i]? = some kv ∧ h.DictOf (PySem.strKind Challenge.rw_pb0007_01.row.prog w) od kvs ∧ Named kvs kv ∧ (od == sysModules) = false
theorem Forest.keep {w : World} {h h' : Heap} {xs : List TX} {made : List (Int × Int)} {ops : List (List (Str × Str))} (T : Forest w h xs made ops) (k : ∀ b o, h.get? b = some o → h'.get? b = some o) : Forest w h' xs made ops :=
  ⟨T.types.keep k, fun i x d od e => let ⟨kv, kvs, a, b, c⟩ := T.op i x d od e; ⟨kv, kvs, a, DictOf.keep b k, c⟩⟩

def opAt (ops : List (List (Str × Str))) (i : Nat) (key : Str) : Option Str := (ops[i]?).bind fun kv => look kv key
def homeIx (made : List (Int × Int)) (ops : List (List (Str × Str))) (key : Str) : Nat → Nat → Nat
  | 0, i => i
  | n + 1, i => match made[i]? with
    | some (p, _) => if p < 0 then i else if opAt ops p.toNat key = opAt ops i key then homeIx made ops key n p.toNat else i
    | none => i

theorem home_fuel {made : List (Int × Int)} {ops : List (List (Str × Str))} {key : Str} (hpar : ∀ (j : Nat) p mo, made[j]? = some (p, mo) → p < (j : Int)) :
    ∀ (n n' : Nat) (i : Nat), i < n → i < n' → homeIx made ops key n i = homeIx made ops key n' i
  | 0, _, _, h, _ => absurd h (Nat.not_lt_zero _)
  | _ + 1, 0, _, _, h => absurd h (Nat.not_lt_zero _)
  | n + 1, n' + 1, i, h, h' => by
    unfold homeIx
    cases hm : made[i]? with
    | none => rfl
    | some q =>
      obtain ⟨p, mo⟩ := q
      have hp := hpar i p mo hm
      simp only
      by_cases hz : p < 0
      · simp only [hz, if_true]
      · simp only [hz, if_false]
        rw [home_fuel hpar n n' p.toNat (by omega) (by omega)]

/-- the end of a turn of a loop over one local -/
def VarEnd (h₀ : Heap) (L : Addr) (s : Shared) (k : Str) (m0 : Str → Option Value) (I : Nat → Value → Prop) (n : Nat) (f : Flow) (s₃ : Shared) : Prop :=
  f = .next ∧ ∃ h' tk m' news' v' n', s₃ = { s with heap := h', toks := tk } ∧ Fr h₀ L h' m' ∧ News h₀ L h' news' ∧ (∀ y, m' y = if y = k then some v' else m0 y) ∧ n' < n ∧ I n' v'
section
variable {prog : Program} {w : World} {A : Around} {E : Value → Shared → Prop} {Q : Flow → Shared → Prop} {s : Shared} {env : Env} {h₀ : Heap} {L : Addr}
theorem While_var {test : PySem.Expr} {body : List Stmt} {pos : Pos} {k : Str} {v0 : Value} {m0 : Str → Option Value} {n₀ : Nat} (I : Nat → Value → Prop) (F : Fr h₀ L s.heap (fun y => if y = k then some v0 else m0 y)) (h0 : I n₀ v0)
    (turn : ∀ n v h₁ tk₁, Fr h₀ L h₁ (fun y => if y = k then some v else m0 y) → News h₀ L h₁ [] → I n v →
      wpAny (model prog w) A (isTrue test env (eval test env)) (fun b s₂ => if b = true then wpAny (model prog w) A (execs body env) (VarEnd h₀ L s k m0 I n) E s₂ else Q .next s₂) E { s with heap := h₁, toks := tk₁ })
    (hE : PassesOwn (model prog w) A env E) : wpAny (model prog w) A (exec (.While test body [] pos) env) Q E s := by
  refine While_inv (fun n m' _ => ∃ v, I n v ∧ m' = fun y => if y = k then some v else m0 y) F News.nil ⟨v0, h0, rfl⟩ ?_ hE
  rintro n m' nw h₁ tk₁ F₁ N₁ ⟨v, hI, rfl⟩
  refine wpAny_mono (turn n v h₁ tk₁ F₁ News.nil hI) (fun b s₂ h₂ => ?_) (fun _ _ e => e)
  cases b with
  | false => exact h₂
  | true =>
    simp only [if_true] at h₂ ⊢
    refine wpAny_mono h₂ (fun f s₃ h₃ => ?_) fun _ _ e => e
    obtain ⟨rfl, h', tk, m', news', v', n', rfl, F', N', hm, hn, hI'⟩ := h₃
    refine ⟨rfl, h', tk, m', news', n', rfl, F', N', hn, v', hI', funext hm⟩
end
local macro_rules | `(tactic| k_inst) => `(tactic| exact Mine.instB (by k_asm) (by with_reducible assumption))
local macro_rules | `(tactic| walk_at "compareOp NotIn str ref") => `(tactic| (refine Mine.Stop.mk ?_))
local macro_rules | `(tactic| walk_at "getMethod ref") => `(tactic| (k_here; (with_reducible show wpAny _ _ (getMethod (Value.ref _) (Str.ofString "get") _) _ _ _); k_dflt (refine' Mine.dict_methodB (knd := PySem.strKind _ _) ?F ?D ?_; (case F => k_asm); (case D => with_reducible assumption); k_whole)))
local macro_rules | `(tactic| walk_at "call builtin:dict.get") => `(tactic| (refine Mine.Stop.mk ?_))
local macro_rules | `(tactic| walk_at "subscriptTail") => `(tactic| (refine Mine.Stop.mk ?_))
local macro_rules | `(tactic| walk_at "exec While") => `(tactic| (refine Mine.Stop.mk ?_))
local macro_rules | `(tactic| walk_at "exec While BoolOp") => `(tactic| (refine Mine.Stop.mk ?_))
local macro_rules | `(tactic| k_steps) => `(tactic| walk_at "S")
theorem home_spec {w : World} {A₀ : Around} {s : Shared} {base h₀ : Heap} {outer : List Env} {env : Env} {L : Addr} {m : Str → Option Value} {news : List (Addr × Obj)}
  {p : Program} {loose : List Str} {mean : ExcName → Option Value} {mg mb : Str → Option Value} {R : Result → Shared → Prop} {key : Str} {t1 : Tok} {xs : List TX} {made : List (Int × Int)} {ops : List (List (Str × Str))} {i : Nat} {x d od : Addr} :
  (hd.heap_1 w.params).In h₀ → Below A₀ base outer h₀ → Fr h₀ L s.heap m → News h₀ L s.heap news → Top p loose mean mg mb h₀ → env.frame = some L → env.scope.kind = .function →
  Forest w s.heap xs made ops → xs[i]? = some (x, d, od) → (∀ (j : Nat) p mo, made[j]? = some (p, mo) → p < (j : Int)) →
  (opAt ops i key = none → ∀ h' tk, (∀ b o, s.heap.get? b = some o → h'.get? b = some o) → Fr h₀ L h' m → R (.ok (.ret .none)) { s with heap := h', toks := tk }) →
  (opAt ops i key ≠ none → ∀ h' tk j xj dj oj, i < 8 → homeIx made ops key 8 i = j → xs[j]? = some (xj, dj, oj) → (∀ b o, s.heap.get? b = some o → h'.get? b = some o) → Fr h₀ L h' m → R (.ok (.ret (.ref xj))) { s with heap := h', toks := tk }) → i < 8 →
  codeAny (model Challenge.rw_pb0007_01.row.prog w) (at_ 640 5900 (env :: outer)) (.call (.ref 150) ⟨[.ref x, .str key t1], []⟩) R s := by
  k_fill
  intro X B F N T hf hke hT hx hpar postN postS hi8
  refine' enter_foot (fp := []) (binds := [(Str.ofString "kind", .ref x), (Str.ofString "key", .str key t1)]) B F X N T rfl hf hke ?fp ?k6 ?k7 ?k8 ?k9 ?kB ?_ ?c2 ?c3 ?c4 ?c5
  case fp => intro q hq; cases hq
  case k6 => k_is
  case k7 => k_is
  case k8 => k_room
  case k9 => exact BindsTo.of_eq rfl
  case c5 => decide
  case kB => exact locs rfl
  case c2 => exact rfl
  case c3 => exact rfl
  case c4 => exact rfl
  intro g L' h' FG' F' N' B' X' T' hrest hl1 hl2
  have hk : ∀ b o, s.heap.get? b = some o → g.get? b = some o := fun b o e => hrest b o e (by simp)
  have hTg := hT.keep hk
  have inst : ∀ (i : Nat) x d od, xs[i]? = some (x, d, od) → ∃ tk a nm0 n p mo, made[i]? = some (p, mo) ∧ InstAt g x (instObj 94 d) 94 (some (dictOf (typeEs w.params tk a nm0 (100 + (i : Int)) (parVal xs p) true od) n)) := by
    intro i x d od e
    obtain ⟨⟨p, mo⟩, hm⟩ : ∃ t, made[i]? = some t := ⟨_, List.getElem?_eq_getElem (by have := (List.getElem?_eq_some_iff.mp e).1; have := hTg.types.len; omega)⟩
    obtain ⟨tk, a, nm0, n, q1, q2, q3, q4⟩ := (hTg.types.ty i x d od p mo e hm).is
    exact ⟨tk, a, nm0, n, p, mo, hm, q1, rfl, rfl, q2⟩
  refine Classical.byContradiction fun hG => ?_
  obtain ⟨kv, kvs, hkv, hD, hnm, lo⟩ := hTg.op _ _ _ _ hx
  obtain ⟨tk, a, nm0, n, pp, mo, hmd, hI⟩ := inst i x d od hx
  refine hG ?_
  clear hG
  have hop : opAt ops i key = look kv key := by simp [opAt, hkv]
  (try dsimp only)
  change wpAny _ _ _ _ _ _
  k_fold
  k_steps
  refine Stop.go ?_
  rename Fr g L' _ _ => F9
  refine notin_dictB (knd := PySem.strKind _ _) F9 hD lo (strKind_is _ _ _ _) ?_
  rcases hnm.at key with ⟨hv, hlk⟩ | ⟨nm, tn, hv, hlk⟩
  · rw [hv]
    dsimp only [Option.isSome, Bool.not_false]
    k_steps
    rename Fr h₀ L _ m => kF
    rename Fr g L' _ _ => F8
    exact postN (hop.trans hlk) _ _ (fun b o e => F8.keep b o (hk b o e)) kF
  · rw [hv]
    dsimp only [Option.isSome, Bool.not_true]
    k_steps
    refine Stop.go ?_
    rename Fr g L' _ _ => F8
    refine While_var (n₀ := i) (fun n v => ∃ xn dn on, v = .ref xn ∧ xs[n]? = some (xn, dn, on) ∧ n < 8 ∧ opAt ops n key ≠ none ∧ homeIx made ops key 8 n = homeIx made ops key 8 i) F8 ⟨x, d, od, rfl, hx, hi8, by rw [hop, hlk]; simp, rfl⟩ ?turn ?hE
    case hE => passes_own
    clear F8
    intro n v h1 tk1 F1 N1 hV
    refine Classical.byContradiction fun hG => ?_
    obtain ⟨xn, dn, on, hv', hxn, hn8, hopn, hhome⟩ := hV
    subst hv'
    obtain ⟨kvn, kvsn, hkvn, hDn, hnmn, lon⟩ := hTg.op _ _ _ _ hxn
    obtain ⟨tkn, an, nmn, nn, ppn, mon, hmdn, hIn⟩ := inst n xn dn on hxn
    refine hG ?_
    clear hG
    have hopn' : opAt ops n key = look kvn key := by simp [opAt, hkvn]
    have fin : homeIx made ops key 8 n = n → ∀ h' tk, (∀ b o, s.heap.get? b = some o → h'.get? b = some o) → Fr h₀ L h' m → R (.ok (.ret (.ref xn))) { s with heap := h', toks := tk } := fun e h' tk k F => postS (by rw [hop, hlk]; simp) h' tk n xn dn on hi8 (by rw [← hhome, e]) hxn k F
    by_cases hpn : ppn < 0
    · have hpv : parVal xs ppn = .none := by unfold parVal; rw [if_pos hpn]
      rw [hpv] at hIn
      k_steps
      rename Fr h₀ L _ m => kF
      rename Fr g L' _ _ => F8
      exact fin (by unfold homeIx; rw [hmdn]; simp [hpn]) _ _ (fun b o e => F8.keep b o (hk b o e)) kF
    · have hpl := hpar _ _ _ hmdn
      have hnl : n < xs.length := (List.getElem?_eq_some_iff.mp hxn).1
      refine Classical.byContradiction fun hG => ?_
      obtain ⟨⟨xp, dp, op⟩, hxp⟩ : ∃ t, xs[ppn.toNat]? = some t := ⟨_, List.getElem?_eq_getElem (by omega)⟩
      have hpv : parVal xs ppn = .ref xp := by unfold parVal; rw [if_neg hpn, hxp]; rfl
      rw [hpv] at hIn
      obtain ⟨kvp, kvsp, hkvp, hDp, hnmp, lop⟩ := hTg.op _ _ _ _ hxp
      obtain ⟨tkp, ap, nmp, np, ppp, mop, hmdp, hIp⟩ := inst ppn.toNat xp dp op hxp
      refine hG ?_
      clear hG
      have hopp : opAt ops ppn.toNat key = look kvp key := by simp [opAt, hkvp]
      k_steps
      refine Stop.go ?_
      rename Fr g L' _ _ => F7
      refine dict_get1B (knd := PySem.strKind _ _) F7 hDp lop (strKind_is _ _ _ _) ?_
      rcases hnmn.at key with ⟨_, hl0⟩ | ⟨nmk, tnk, hvk, hlkn⟩
      · exact absurd (hopn'.trans hl0) hopn
      rcases hnmp.at key with ⟨hvp, hlp⟩ | ⟨nmq, tnq, hvp, hlp⟩
      · rw [hvp]
        dsimp only [Option.getD]
        k_steps
        refine Stop.go ?_
        rename Fr g L' _ _ => F6
        refine item_dictA (knd := PySem.strKind _ _) F6 hDn (strKind_is _ _ _ _) hvk ?_
        k_steps
        rename Fr h₀ L _ m => kF
        rename Fr g L' _ _ => F8
        refine fin ?_ _ _ (fun b o e => F8.keep b o (hk b o e)) kF
        have hne : opAt ops ppn.toNat key ≠ opAt ops n key := by rw [hopp, hopn', hlp, hlkn]; simp
        unfold homeIx; rw [hmdn]; simp [hpn, hne]
      · rw [hvp]
        dsimp only [Option.getD]
        k_steps
        refine Stop.go ?_
        rename Fr g L' _ _ => F6
        refine item_dictA (knd := PySem.strKind _ _) F6 hDn (strKind_is _ _ _ _) hvk ?_
        k_steps
        · have heq : nmq = nmk := eq_of_beq (by assumption)
          rename Fr g L' _ _ => F8
          have he : opAt ops ppn.toNat key = opAt ops n key := by rw [hopp, hopn', hlp, hlkn, heq]
          refine ⟨rfl, _, _, _, _, .ref xp, ppn.toNat, rfl, F8, News.nil, fun y => ?_, by omega, xp, dp, op, rfl, hxp, by omega, by rw [he]; exact hopn, ?_⟩
          · by_cases hy : y = Str.ofString "here" <;> simp [hy]
          · rw [← hhome]
            rw [show (8 : Nat) = 7 + 1 from rfl]
            conv => rhs; unfold homeIx
            rw [hmdn]
            simp only [hpn, if_false, he, if_true]
            exact home_fuel hpar 8 7 ppn.toNat (by omega) (by omega)
        · have hneq : nmq ≠ nmk := fun z => by rename ((nmq == nmk) = false) => hq; rw [z] at hq; simp at hq
          rename Fr h₀ L _ m => kF
          rename Fr g L' _ _ => F8
          refine fin ?_ _ _ (fun b o e => F8.keep b o (hk b o e)) kF
          have hne : opAt ops ppn.toNat key ≠ opAt ops n key := by rw [hopp, hopn', hlp, hlkn]; simpa using hneq
          unfold homeIx; rw [hmdn]; simp [hpn, hne]
end
section
set_option maxHeartbeats 1000000
section
variable {prog : Program} {w : World} {A : Around} {E : Value → Shared → Prop} {s : Shared} {env : Env} {target : PySem.Expr} {body : List Stmt} {Q : Flow → Shared → Prop}

/-- the end of a turn of a for loop -/
def ForEnd (St : Nat → Heap → Prop) (Inv : Nat → Shared → Prop) (Q : Flow → Shared → Prop) (i : Nat) (f : Flow) (s : Shared) : Prop :=
  match f with
  | .next => St i s.heap ∧ Inv i s
  | .cont => St i s.heap ∧ Inv i s
  | .brk => Q .next s
  | .ret v => Q (.ret v) s

/-- a for loop with any invariant: the ground may turn in it -/
theorem for_inv {I : Addr} {fp wr : List Addr} {n : Nat} {P : Nat → Value → Prop} {St : Nat → Heap → Prop} (W : Walks prog w A I fp wr n P St)
    (hgo : ∀ i v (s : Shared) (Q : Unit → Shared → Prop) (E : Value → Shared → Prop), St i s.heap → Q () s → wpAny (model prog w) A (letOwnedTupleGo target (.ref I) v) Q E s)
    (Inv : Nat → Shared → Prop) (st0 : St 0 s.heap) (h0 : Inv 0 s)
    (step : ∀ i v s₁ h₂ tk₂, i < n → P i v → Inv i s₁ → St (i + 1) h₂ → (∀ b o, b ∉ wr → s₁.heap.get? b = some o → h₂.get? b = some o) →
      wpAny (model prog w) A (assign target env v) (fun _ s₃ => wpAny (model prog w) A (execs body env) (ForEnd St Inv Q (i + 1)) E s₃) E { s₁ with heap := h₂, toks := tk₂ })
    (fin : ∀ s₁ h₂ tk₂, Inv n s₁ → (∀ b o, b ∉ wr → s₁.heap.get? b = some o → h₂.get? b = some o) → Q .next { s₁ with heap := h₂, toks := tk₂ })
    (hE : PassesOwn (model prog w) A env E) :
    codeAny (model prog w) A (.forLoop target (.ref I) body [] env) (fun r s' => match r with | .ok f => Q f s' | .error e => cameBackBy (model prog w) A env E e s') s := by
  refine codeAny_forLoop_any (fun k s' => ∃ i, St i s'.heap ∧ Inv i s' ∧ i ≤ n ∧ k = n + 1 - i) ?_ (n + 1) ⟨0, st0, h0, Nat.zero_le _, rfl⟩
  rintro k s₁ ⟨i, st, hI, hi, rfl⟩
  by_cases hlt : i < n
  · refine W.item i _ _ _ hlt st fun v h₂ tk₂ hP st₂ hk₂ => ?_
    refine hgo (i + 1) v _ _ _ st₂ ?_
    refine wpAny_mono (step i v s₁ h₂ tk₂ hlt hP hI st₂ hk₂) (fun _ s₃ h₃ => wpAny_mono h₃ (fun f s₄ h₄ => ?_) hE) hE
    cases f with
    | next => exact ⟨n + 1 - (i + 1), by omega, i + 1, h₄.1, h₄.2, hlt, rfl⟩
    | cont => exact ⟨n + 1 - (i + 1), by omega, i + 1, h₄.1, h₄.2, hlt, rfl⟩
    | brk => exact h₄
    | ret v => exact h₄
  · have hin : i = n := by omega
    subst hin
    exact W.done _ _ _ st fun h₂ tk₂ hk₂ => wpAny_execs_nil (fin s₁ h₂ tk₂ hI hk₂)
/-- the turns of a for loop, from the iterator on -/
def ForAt (prog : Program) (w : World) (A : Around) (E : Value → Shared → Prop) (env : Env) (target : PySem.Expr) (body : List Stmt) (Q : Flow → Shared → Prop) (it : Value) (s : Shared) : Prop :=
  codeAny (model prog w) A (.forLoop target it body [] env) (fun r s' => match r with | .ok f => Q f s' | .error e => cameBackBy (model prog w) A env E e s') s
theorem For_at {iter : PySem.Expr} {pos : Pos} (h : wpAny (model prog w) A (eval iter env) (fun xv s₁ => wpAny (model prog w) A (pyIter xv) (fun it s₂ => ForAt prog w A E env target body Q it s₂) E s₁) E s)
    (hs : ∀ x, foldedSetIterable iter env x = pure x := by intro _; rfl) : wpAny (model prog w) A (exec (.For target iter body [] pos) env) Q E s := wpAny_For h hs
end
end
section
set_option maxHeartbeats 1000000
/-- leaving a def with a footprint whose ground has turned -/
def LeaveF (A₀ : Around) (base : Heap) (outer : List Env) (env : Env) (h₀ : Heap) (L : Addr) (m : Str → Option Value) (fp : List (Addr × Obj)) (h g : Heap) (R : Result → Shared → Prop) (v : Value) (s' : Shared) : Prop :=
  ∃ g' L' m' news', KtsTurn (frs (env :: outer)) g g' ∧ Fr g' L' s'.heap m' ∧ News g' L' s'.heap news' ∧
    ∀ h₀', KtsTurn (frs outer) h₀ h₀' → Fr h₀' L s'.heap m → News h₀' L s'.heap news' → Below A₀ base outer h₀' →
      (∀ b o, h.get? b = some o → b ∉ fp.map (·.1) → b ∉ frs (env :: outer) → s'.heap.get? b = some o) → R (.ok (.ret v)) s'

section
variable {w : World} {A₀ A : Around} {s : Shared} {base h₀ : Heap} {outer : List Env} {env : Env} {L : Addr} {m : Str → Option Value} {news fp : List (Addr × Obj)} {K : Frag}
  {p : Program} {loose : List Str} {mean : ExcName → Option Value} {mg mb : Str → Option Value}
  {R : Result → Shared → Prop} {name qual : Str} {params : Arguments} {body : List Stmt} {scope : Scope} {dV kV doc pm cdv ct oc : Value} {an od : Option Addr} {osl : Array (Option Value)} {f : Addr} {args : Args} {binds : List (Str × Value)}

theorem leaveF_done {g : Heap} {v : Value} {s' : Shared} (B : Below A₀ base outer h₀) (F : Fr h₀ L s.heap m) (N : News h₀ L s.heap news) (hfp : ∀ q ∈ fp, q ∈ news) (hf : env.frame = some L)
    (hk : ∀ b o, s.heap.get? b = some o → b ∉ fp.map (·.1) → g.get? b = some o) (hl : LeaveF A₀ base outer env h₀ L m fp s.heap g R v s') : R (.ok (.ret v)) s' := by
  obtain ⟨g', L', m', news', T', F', N', k⟩ := hl
  have nL₀ : h₀.get? L = none := kts_self F
  have off : ∀ b o, h₀.get? b = some o → b ∉ fp.map (·.1) := fun b o e hm => by
    obtain ⟨q, hq, rfl⟩ := List.mem_map.mp hm
    rw [(N q (hfp q hq)).2.2] at e; cases e
  have st : ∀ b o, h₀.get? b = some o → g.get? b = some o := fun b o e => hk b o (F.keep b o e) (off b o e)
  obtain ⟨oL, es, ep, hL, hLd, hLk, hLf⟩ := F.ns
  have nLf : L ∉ fp.map (·.1) := fun hm => by
    obtain ⟨q, hq, e⟩ := List.mem_map.mp hm
    exact (N q (hfp q hq)).2.1 e
  obtain ⟨sl, hs⟩ := T'.up (hk _ _ hL nLf)
  obtain ⟨T₁, S₁⟩ := kts_turn_at (h := s'.heap) (fs := frs outer) (g := h₀)
    (fun b hb => by
      obtain ⟨_, o, ho', _⟩ := B.frames.mem hb
      exact ⟨o, ho'⟩)
    (fun b o e nmem => F'.keep b o (T'.other b o (st b o e) (fun q => by
      rcases mem_frames hf q with z | z
      · rw [z, nL₀] at e
        cases e
      · exact nmem z)))
    (fun b o e hm => by
      obtain ⟨sl', hs'⟩ := T'.up (st b o e)
      exact ⟨sl', F'.keep _ _ hs'⟩)
  have B₃ : Below A₀ base outer (ktsHeap s'.heap (frs outer) h₀) := ⟨B.stack, fun b o e => T₁.other b o (B.stays b o e) (fun hm => by
    rw [(B.frames.mem hm).1] at e
    cases e), B.frames.of_keeps fun b o e _ => by
    obtain ⟨sl', hs'⟩ := T₁.up e
    exact ⟨_, hs', rfl⟩⟩
  refine k _ T₁ ⟨⟨_, es, ep, F'.keep _ _ hs, hLd, hLk, hLf⟩, S₁, by rw [T₁.size]; exact F.above⟩ (fun q hq => ?_) B₃ fun b o e n1 n2 => F'.keep _ _ (T'.other b o (hk b o e n1) n2)
  refine ⟨(N' q hq).1, fun z => ?_, ?_⟩
  · have := (N' q hq).2.2; rw [z, hs] at this; cases this
  · refine T₁.none_ _ ?_
    cases e : h₀.get? q.1 with
    | none => rfl
    | some o =>
      obtain ⟨sl', hs'⟩ := T'.up (st _ _ e)
      have := (N' q hq).2.2
      rw [hs'] at this
      cases this

/-- entering a def with cells and a footprint whose ground may turn -/
theorem enter_turnC (B : Below A₀ base outer h₀) (F : Fr h₀ L s.heap m) (X₀ : K.In h₀) (N : News h₀ L s.heap news) (T : Top p loose mean mg mb h₀) (hA : A.frames = some (env :: outer)) (hf : env.frame = some L) (hke : env.scope.kind = .function)
    (hfp : ∀ q ∈ fp, q ∈ news)
    (ho : K.lookup f = some ⟨oc, od, .func (fnOf name qual params body scope dV kV doc pm an cdv ct), osl⟩) (hcd : codeIn K cdv qual = true) (hroom : A.depth < recursionLimit)
    (hbind : BindsTo s (fnOf name qual params body scope dV kV doc pm an cdv ct) args binds) (hkind : (binds.all fun y => scope.names.lookup y.1 == some .local || scope.names.lookup y.1 == some .cell) = true)
    (hnd : ((cellsFrom 0 scope.names []).map (·.1)).Nodup)
    (h : ∀ g L' h₁ tk cells, Fr h₀ L g m → Fr g L' h₁ (bindL (envOfC qual scope L' f cdv).kindOf binds fun _ => none) → News g L' h₁ (cells ++ fp) →
      CellsAre (bindC (envOfC qual scope L' f cdv).kindOf binds fun _ => none) (cellsFrom (L' + 1) scope.names []) cells → Below A base (env :: outer) g → K.In g → Top p loose mean mg mb g →
      (∀ b o, s.heap.get? b = some o → b ∉ fp.map (·.1) → g.get? b = some o) → (∀ q ∈ fp, q.1 < L') → (∀ q ∈ news, q.1 < L') →
      wpAny (model Challenge.rw_pb0007_01.row.prog w) (A.deeper (envOfC qual scope L' f cdv)) (execs body (envOfC qual scope L' f cdv))
        (fun fl s' => LeaveF A₀ base outer env h₀ L m fp s.heap g R (match fl with | .ret v => v | _ => .none) s')
        (fun e s' => wpAny (model Challenge.rw_pb0007_01.row.prog w) (A.deeper (envOfC qual scope L' f cdv)) (leaving (envOfC qual scope L' f cdv) e) (fun _ s'' => R (.error e) s'') (fun e' s'' => R (.error e') s'') s')
        { s with heap := h₁, toks := tk })
    (hco : scope.isCoroutine = false) (hgen : scope.isGenerator = false) (hk : scope.kind = .function) : codeAny (model Challenge.rw_pb0007_01.row.prog w) A (.call (.ref f) args) R s := by
  have N' : News h₀ L s.heap fp := fun q hq => N q (hfp q hq)
  obtain ⟨FG, BG, st, lv⟩ := groundX (R := R) B F N' hA hf hke
  have hkg : ∀ b o, s.heap.get? b = some o → b ∉ fp.map (·.1) → (hideAll s.heap (fp.map (·.1))).get? b = some o := fun b o e n => hideAll_get _ e n
  refine codeAny_call_function hroom ((X₀.keeps F.keep) _ _ ho) rfl hco hgen rfl (codeRec_of (X₀.keeps F.keep) hcd) (hbind _ _ _ _ ?_)
  refine wpAny_newFunctionEnv_cells hk (kindsX hkind _) fun env' he s' x => ?_
  subst he
  refine ⟨(T.nolimit.keeps F.keep).keeps x.toInCall.keep, codeAny_func ?_⟩
  obtain ⟨h₁, tk, rfl, _⟩ := x.done
  have hk₁ := x.toInCall.keep
  obtain ⟨cells, NC, Y⟩ := Cl.news (h₀ := s.heap) (Nat.le_refl _) fun n c hm => ⟨x.cell n c (lookup_of_mem_nodup (cellsFrom_names scope.names 0 (s.heap.objs.size + 1) [] [] rfl ▸ hnd) hm), x.above n c hm⟩
  refine wpAny_mono (h _ s.heap.objs.size h₁ tk cells FG ⟨x.toInCall.ns, fun b o e => hk₁ b o (of_hideAll _ e), Nat.le_of_eq (hideAll_size _ _)⟩ (fun q hq => ?_) Y BG (X₀.keeps st) (T.keeps st)
    hkg (fun q hq => Heap.lt_size (N' q hq).1) (fun q hq => Heap.lt_size (N q hq).1)) (fun fl s' hl => leaveF_done B F N hfp hf hkg hl) fun _ _ y => y
  rcases List.mem_append.mp hq with hq | hq
  · refine ⟨(NC q hq).1, (NC q hq).2.1, ?_⟩
    cases z : (hideAll s.heap (fp.map (·.1))).get? q.1 with
    | none => rfl
    | some o => have := of_hideAll _ z; rw [(NC q hq).2.2] at this; cases this
  · exact ⟨hk₁ _ _ (N' q hq).1, Nat.ne_of_lt (Heap.lt_size (N' q hq).1), hideAll_none _ (List.mem_map_of_mem hq)⟩
end
end
section
set_option maxHeartbeats 1000000
/-- the lambdas of a function that have been made: their codes stand -/
structure Codes (qual : Str) (ps : Array Value) (cds : List (Addr × Obj)) : Prop where
  ok : TriplesOk ps.toList
  hit : ∀ pos c, codeAmong pos ps.toList = some c → ∃ a oc vs t, c = .ref a ∧ (a, oc) ∈ cds ∧ oc.data = .fields vs ∧ vs[1]? = some (.str qual t)
/-- a code stands among them -/
def CodeIn (qual : Str) (c' : Addr) (cds : List (Addr × Obj)) : Prop := ∃ oc vs t, (c', oc) ∈ cds ∧ oc.data = .fields vs ∧ vs[1]? = some (.str qual t)
theorem CodeIn.rec {qual : Str} {c' : Addr} {cds news : List (Addr × Obj)} {h₀ h : Heap} {L : Addr} (x : CodeIn qual c' cds) (N : News h₀ L h news) (hs : ∀ q ∈ cds, q ∈ news) : h.CodeRec (.ref c') qual :=
  let ⟨_, _, _, hm, hd, hv⟩ := x; codeRec_news N (hs _ hm) hd hv
theorem Codes.none (qual : Str) : Codes qual #[] [] := ⟨trivial, fun _ _ e => by cases e⟩

theorem among_snoc {pos pos2 : Pos} {c v : Value} (l : List Value) (h : TriplesOk l) (e : codeAmong pos (l ++ [rawInt pos2.line, rawInt pos2.col, v]) = some c) : codeAmong pos l = some c ∨ c = v := by
  fun_induction TriplesOk l with
  | case1 =>
    simp only [List.nil_append, codeAmong, rawInt] at e
    split at e
    · exact .inr (Option.some.inj e).symm
    · cases e
  | case2 a t b u x rest ih =>
    simp only [List.cons_append, codeAmong] at e ⊢
    split
    · rename_i hq
      rw [if_pos hq] at e
      exact .inl e
    · rename_i hq
      rw [if_neg hq] at e
      exact ih h e
  | case3 l h1 h2 => exact h.elim

theorem Codes.snoc {qual : Str} {ps : Array Value} {cds : List (Addr × Obj)} {pos : Pos} {a : Addr} {oc : Obj} {vs : Array Value} {t : Tok} (D : Codes qual ps cds) (hd : oc.data = .fields vs) (hv : vs[1]? = some (.str qual t)) :
    Codes qual (ps ++ #[rawInt pos.line, rawInt pos.col, .ref a]) ((a, oc) :: cds) := by
  have e : (ps ++ #[rawInt pos.line, rawInt pos.col, .ref a]).toList = ps.toList ++ [rawInt pos.line, rawInt pos.col, .ref a] := by simp
  refine ⟨by rw [e]; exact TriplesOk_snoc _ _ _ _ D.ok, fun pos' c h => ?_⟩
  rw [e] at h
  rcases among_snoc _ D.ok h with h | rfl
  · obtain ⟨a', oc', vs', t', r1, r2, r3⟩ := D.hit _ _ h
    exact ⟨a', oc', vs', t', r1, .tail _ r2, r3⟩
  · exact ⟨a, oc, vs, t, rfl, .head _, hd, hv⟩

section
variable {M : Model} {A : Around} {E : Value → Shared → Prop} {s : Shared} {h₀ : Heap} {L a c P : Addr} {m mg mb : Str → Option Value} {cn : Str} {cs : Scope} {ccd : Value} {cl : List (Str × Addr)} {pre cds : List (Addr × Obj)}
  {p : Program} {loose : List Str} {mean : ExcName → Option Value} {name qual : Str} {params : Arguments} {body : PySem.Expr} {scope : Scope} {ps : Array Value} {pos : Pos} {firstLine : Nat} {clos : List (Str × Addr)}

/-- making a lambda, its code made before or not -/
theorem lam_make {Q : Value → Shared → Prop} (F : Fr h₀ L s.heap m) (N : News h₀ L s.heap (pre ++ (P, tabObj ps) :: cds)) (h1 : ∀ q ∈ pre, q.1 ≠ P) (h2 : ∀ q ∈ cds, q.1 ≠ P) (T : Top p loose mean mg mb h₀) (C : CodeHd h₀ c P) (hcd : ccd = .ref c)
    (D : Codes qual ps cds) (hcl : closureFor scope (envX cn cs L a ccd cl) = pure clos)
    (h : ∀ f c' ctv h' tk ps' cds', Fr h₀ L h' m → News h₀ L h' ((f, kla_obj name qual params body scope clos ((mg "__name__").getD .none) c' ctv) :: (pre ++ (P, tabObj ps') :: cds')) → Codes qual ps' cds' → CodeIn qual c' cds' →
      (∀ q ∈ pre ++ (P, tabObj ps') :: cds', q.1 < f) → (∀ q ∈ cds', q.1 ≠ P) → (∀ q ∈ cds', q ∈ cds ∨ ∀ z ∈ pre, z.1 < q.1) → Q (.ref f) { s with heap := h', toks := tk }) :
    wpAny M A (makeFunction name qual params (.expr body) scope (envX cn cs L a ccd cl) [] [] [] pos firstLine) Q E s := by
  cases hf : codeAmong pos ps.toList with
  | some v =>
    obtain ⟨c', oc, vs, t, rfl, hm, hd, hv⟩ := D.hit _ _ hf
    refine kla_hit F N T C hcd (List.mem_append_right _ (.head _)) D.ok hf hcl fun f ctv h' tk F' N' l1 => ?_
    exact h f c' ctv h' tk ps cds F' N' D ⟨oc, vs, t, hm, hd, hv⟩ l1 h2 fun q hq => .inl hq
  | none =>
    have U : UpdF P (tabObj ps) (pre ++ (P, tabObj ps) :: cds) (fun o => pre ++ (P, o) :: cds) := by
      clear h N D
      induction pre with
      | nil => exact .head fun q hq => h2 q hq
      | cons q r ih => exact .tail (h1 q (.head _)) (ih fun z hz => h1 z (.tail _ hz))
    refine kla_nest F N T C hcd U D.ok hf hcl fun f c' oc vs t ctv h' tk F' N' hd hv l1 l2 => ?_
    have hP' : P < c' := l1 (P, tabObj ps) (List.mem_append_right _ (.head _))
    have lt1 : ∀ q ∈ pre, q.1 < c' := fun q hq => l1 q (List.mem_append_left _ hq)
    have lt2 : ∀ q ∈ cds, q.1 < c' := fun q hq => l1 q (List.mem_append_right _ (.tail _ hq))
    refine h f c' ctv h' tk (ps ++ #[rawInt pos.line, rawInt pos.col, .ref c']) ((c', oc) :: cds) F' (fun q hq => N' q ?_) (D.snoc hd hv) ⟨oc, vs, t, .head _, hd, hv⟩ ?_ ?_ ?_
    · simp only [List.mem_cons, List.mem_append] at hq ⊢
      rcases hq with hq | hq | hq | hq | hq <;> simp [hq]
    · intro q hq
      simp only [List.mem_cons, List.mem_append] at hq
      rcases hq with hq | rfl | rfl | hq
      · exact Nat.lt_trans (lt1 q hq) l2
      · exact Nat.lt_trans hP' l2
      · exact l2
      · exact Nat.lt_trans (lt2 q hq) l2
    · intro q hq
      rcases List.mem_cons.mp hq with rfl | hq
      · exact Nat.ne_of_gt hP'
      · exact h2 q hq
    · intro q hq
      rcases List.mem_cons.mp hq with rfl | hq
      · exact .inr lt1
      · exact .inl hq
end
end
section
set_option maxHeartbeats 1000000
open PySem.SeqAt
def leS (a b : Str) : Prop := PySem.Spec.ltCps b.cps.toList a.cps.toList = false
theorem leS_iff {a b : Str} : leS a b ↔ a.cps.toList ≤ b.cps.toList := by
  unfold leS
  rw [ltCps_eq]
  simp [List.not_lt]
theorem leS_trans {a b c : Str} (h1 : leS a b) (h2 : leS b c) : leS a c := by
  rw [leS_iff] at *
  exact List.le_trans h1 h2
theorem leS_antisymm {a b : Str} (h1 : leS a b) (h2 : leS b a) : a = b := by
  rw [leS_iff] at *
  have := List.le_antisymm h1 h2
  obtain ⟨⟨x⟩⟩ := a
  obtain ⟨⟨y⟩⟩ := b
  simp at this
  rw [this]
theorem rising_pairwise : ∀ {l : List Str} {p : Str}, risingS p l = true → (p :: l).Pairwise leS
  | [], p, _ => by simp
  | x :: r, p, h => by
    unfold risingS at h
    rw [Bool.and_eq_true, Bool.not_eq_true'] at h
    have ih := rising_pairwise h.2
    have h1 : leS p x := h.1
    refine List.pairwise_cons.mpr ⟨fun y hy => ?_, ih⟩
    rcases List.mem_cons.mp hy with rfl | hy
    · exact h1
    · exact leS_trans h1 ((List.pairwise_cons.mp ih).1 y hy)
theorem sorted_pairwise {l : List Str} (h : sortedS l = true) : l.Pairwise leS := by
  cases l with
  | nil => exact .nil
  | cons p r => exact rising_pairwise h
theorem sorted_unique {l l' : List Str} (hp : l.Perm l') (h : sortedS l = true) (h' : sortedS l' = true) : l = l' :=
  List.Perm.eq_of_pairwise (fun a b _ _ h1 h2 => leS_antisymm h1 h2) (sorted_pairwise h) (sorted_pairwise h') hp

section
variable {prog : Program} {w : World} {A : Around} {E : Value → Shared → Prop} {s : Shared}
theorem ne_strs_same {a b : Addr} {vs vs' : List Value} {ss : List Str} {Q : Value → Shared → Prop} (ha : s.heap.IsList a vs.toArray) (hb : s.heap.IsList b vs'.toArray) (h1 : StrsAre vs ss) (h2 : StrsAre vs' ss) (hu : A.units < cLine) (h : Q (.bool false) s) :
    wpAny (model prog w) A (compareOp .NotEq (.ref a) (.ref b)) Q E s := by
  have l1 := h1.length
  have l2 := h2.length
  refine cmp_ofNotEq (RcNeAt.lists (e := fun _ => true) ha hb (by simp [l1, l2]) hu (fun j j1 j2 => ?_) prog w E Q (by rw [show (!(List.range vs.toArray.size).all fun _ => true) = false from by simp [List.all_eq_true]]; exact h))
  obtain ⟨k, t, e1, e2⟩ := strs_get h1 (i := j) (v := vs.toArray[j]) (by simp)
  obtain ⟨k', t', e1', e2'⟩ := strs_get h2 (i := j) (v := vs'.toArray[j]) (by simp)
  rw [e2] at e2'
  cases e2'
  rw [e1, e1']
  have := EqAt.str_str (A := A.in1) (s := s) k t k t'
  simpa using this
end
end
section
set_option maxHeartbeats 1000000
/-- what the search finds is a row of what was laid, at the type or above it -/
theorem found_row {made : List (Int × Int)} {laid : List Row} (hpar : ∀ (j : Nat) p mo, made[j]? = some (p, mo) → p < (j : Int)) {k : Str} :
    ∀ (n : Nat) (i : Nat) (b : Int) {nm : Str} {ix : Int}, found made laid n i k b = some (nm, ix) → ∃ r ∈ laid, r.2.2.2 = nm ∧ r.2.1 = ix ∧ ix ≤ (i : Int)
  | 0, _, _, _, _, h => by cases h
  | n + 1, i, b, nm, ix, h => by
    unfold found at h
    cases ho : (ownRows laid i k b).getLast? with
    | some r =>
      rw [ho] at h
      cases h
      have hm := List.mem_of_getLast? ho
      unfold ownRows at hm
      rw [List.mem_filter] at hm
      have h2 := hm.2
      simp only [Bool.and_eq_true, decide_eq_true_eq] at h2
      exact ⟨r, hm.1, rfl, h2.1.1, Int.le_refl _⟩
    | none =>
      rw [ho] at h
      simp only [Int.toNat_natCast] at h
      cases hm : made[i]? with
      | none => rw [hm] at h; cases h
      | some q =>
        obtain ⟨p, mo⟩ := q
        rw [hm] at h
        simp only at h
        have hp := hpar i p mo hm
        by_cases hz : p < 0
        · rw [if_pos hz] at h; cases h
        · rw [if_neg hz] at h
          rw [show p = ((p.toNat : Nat) : Int) by omega] at h
          obtain ⟨r, h1, h2, h3, h4⟩ := found_row hpar n p.toNat mo h
          exact ⟨r, h1, h2, h3, by omega⟩

theorem pname_inj {a b : Int} (ha : 0 ≤ a) (hb : 0 ≤ b) (h : pname a = pname b) : a = b := by
  unfold pname at h
  simp at h
  omega

theorem row_unique {laid : List Row} (hs : laid.Pairwise (fun x y => x.1 < y.1)) {r r' : Row} (h : r ∈ laid) (h' : r' ∈ laid) (e : r.1 = r'.1) : r = r' := by
  induction laid with
  | nil => cases h
  | cons x l ih =>
    rw [List.pairwise_cons] at hs
    rcases List.mem_cons.mp h with e1 | h <;> rcases List.mem_cons.mp h' with e2 | h'
    · rw [e1, e2]
    · have := hs.1 r' h'; rw [← e1] at this; omega
    · have := hs.1 r h; rw [← e2] at this; omega
    · exact ih hs.2 h h'

theorem Good.opAt {made laid ops b} (G : Good made laid ops b) {i : Nat} (h : i < made.length) (k : Str) : Mine.opAt ops i k = (found made laid 8 i k 99).map (·.1) := by
  obtain ⟨kv, hkv⟩ : ∃ kv, ops[i]? = some kv := ⟨_, List.getElem?_eq_getElem (by rw [← G.len]; exact h)⟩
  simp only [Mine.opAt, hkv, Option.bind_some]
  exact G.fnd i kv k hkv

/-- the home that the project tells is the one that the search finds -/
theorem Good.home {made laid ops b} (G : Good made laid ops b) {k nm : Str} (hnm : nm ≠ Str.empty) :
    ∀ (i : Nat) {ix : Int}, i < made.length → found made laid 8 i k 99 = some (nm, ix) → (homeIx made ops k 8 i : Int) = ix := by
  intro i
  induction i using Nat.strongRecOn with
  | _ i ih =>
    intro ix hi hf
    have hop := G.opAt hi k
    rw [hf] at hop
    obtain ⟨⟨p, mo⟩, hm⟩ : ∃ t, made[i]? = some t := ⟨_, List.getElem?_eq_getElem hi⟩
    have hp := G.hpar _ _ _ hm
    rw [show (8 : Nat) = 7 + 1 from rfl] at hf ⊢
    unfold found at hf
    unfold homeIx
    rw [hm]
    simp only
    cases ho : (ownRows laid i k 99).getLast? with
    | some r =>
      rw [ho] at hf
      simp only [Option.some.injEq, Prod.mk.injEq] at hf
      obtain ⟨hr1, rfl⟩ := hf
      have hrm := List.mem_of_getLast? ho
      unfold ownRows at hrm
      rw [List.mem_filter] at hrm
      have hr2 := hrm.2
      simp only [Bool.and_eq_true, decide_eq_true_eq] at hr2
      by_cases hz : p < 0
      · rw [if_pos hz]
      · rw [if_neg hz]
        rw [if_neg]
        intro he
        rw [hop, G.opAt (by omega) k] at he
        simp only [Option.map_some] at he
        cases hfp : found made laid 8 p.toNat k 99 with
        | none => rw [hfp] at he; cases he
        | some q =>
          obtain ⟨nm', ix'⟩ := q
          rw [hfp] at he
          simp only [Option.map_some, Option.some.injEq] at he
          obtain ⟨r', h1, h2, h3, h4⟩ := found_row G.hpar 8 p.toNat 99 hfp
          have g := G.rows r hrm.1
          have g' := G.rows r' h1
          have e1 : r.2.2.2 = pname r.1 := (g.2.2.2.2.2).resolve_left (by rw [hr1]; exact hnm)
          have e2 : r'.2.2.2 = pname r'.1 := (g'.2.2.2.2.2).resolve_left (by rw [h2, he]; exact hnm)
          have e3 : r.1 = r'.1 := pname_inj g.1 g'.1 (by rw [← e1, ← e2, hr1, h2, he])
          have e4 := row_unique G.sorted hrm.1 h1 e3
          have e5 : r.2.1 = (i : Int) := hr2.1.1
          rw [e4, h3] at e5
          omega
    | none =>
      rw [ho] at hf
      simp only [Int.toNat_natCast] at hf
      rw [hm] at hf
      simp only at hf
      by_cases hz : p < 0
      · rw [if_pos hz] at hf; cases hf
      · rw [if_neg hz] at hf ⊢
        have e : p = ((p.toNat : Nat) : Int) := by omega
        have hl := G.le7
        have hf' : found made laid 8 p.toNat k 99 = some (nm, ix) := by
          rw [← hf, e, found_fuel G.hpar 7 8 p.toNat mo (by omega) (by omega), Int.toNat_natCast]
          refine found_frozen 8 fun r hr h => ?_
          have h1 := G.froz i p mo hm (by omega) r hr (by rw [h]; omega)
          have h2 := G.rows r hr
          have h3 := G.bb
          exact ⟨by omega, h1⟩
        have he : Mine.opAt ops p.toNat k = Mine.opAt ops i k := by rw [hop, G.opAt (by omega) k, hf']
        rw [if_pos he]
        rw [home_fuel G.hpar 7 8 p.toNat (by omega) (by omega)]
        exact ih p.toNat (by omega) (by omega) hf'
end
section
set_option maxHeartbeats 1000000
open PySem.SeqAt
theorem look_mem {kv : List (Str × Str)} {k nm : Str} (h : look kv k = some nm) : k ∈ kv.map (·.1) := by
  unfold look at h
  obtain ⟨q, hq, _⟩ := Option.map_eq_some_iff.mp h
  have h1 := List.find?_some hq
  have h2 := List.mem_of_find?_eq_some hq
  rw [← of_decide_eq_true h1]
  exact List.mem_map_of_mem h2
theorem mem_bare {kv : List (Str × Str)} {l : List Str} {k : Str} : k ∈ bareOf kv l ↔ k ∈ l ∧ look kv k = some (Str.ofString "") := by
  unfold bareOf
  rw [List.mem_filter, decide_eq_true_eq]
theorem lawKeys_nodup : lawKeys.Nodup := by decide +kernel
theorem bare_perm {kv : List (Str × Str)} (h1 : ∀ q ∈ kv, q.1 ∈ lawKeys) (h2 : (kv.map (·.1)).Nodup) : (bareOf kv (kv.map (·.1))).Perm (bareOf kv lawKeys) := by
  refine (List.perm_ext_iff_of_nodup (h2.filter _) (lawKeys_nodup.filter _)).mpr fun k => ?_
  show k ∈ bareOf kv (kv.map (·.1)) ↔ k ∈ bareOf kv lawKeys
  rw [mem_bare, mem_bare]
  refine ⟨fun ⟨a, b⟩ => ⟨?_, b⟩, fun ⟨_, b⟩ => ⟨look_mem b, b⟩⟩
  obtain ⟨q, hq, rfl⟩ := List.mem_map.mp a
  exact h1 q hq
theorem bare_sorted {kv : List (Str × Str)} {all ss : List Str} (h1 : ∀ q ∈ kv, q.1 ∈ lawKeys) (h2 : (kv.map (·.1)).Nodup) (hp : all.Perm (kv.map (·.1))) (hs : sortedS all = true) (hp' : ss.Perm (bareOf kv lawKeys)) (hs' : sortedS ss = true) : bareOf kv all = ss :=
  List.Perm.eq_of_pairwise (fun a b _ _ h1 h2 => leS_antisymm h1 h2) ((sorted_pairwise hs).filter _) (sorted_pairwise hs') (((hp.filter _).trans (bare_perm h1 h2)).trans hp'.symm)
theorem bare_nil_law {kv : List (Str × Str)} (h1 : ∀ q ∈ kv, q.1 ∈ lawKeys) (h2 : (kv.map (·.1)).Nodup) : bareOf kv (kv.map (·.1)) = [] ↔ bareOf kv lawKeys = [] := by
  have p := (bare_perm h1 h2).length_eq
  constructor
  · intro e; rw [e] at p; exact List.eq_nil_of_length_eq_zero p.symm
  · intro e; rw [e] at p; exact List.eq_nil_of_length_eq_zero p
theorem take5 : lawKeys.take 5 = lawKeys := by decide +kernel
theorem strs_nil {vs : List Value} {ss : List Str} (h : StrsAre vs ss) : vs = [] ↔ ss = [] := by
  have l := h.length
  constructor
  · intro e; rw [e] at l; exact List.eq_nil_of_length_eq_zero (by simpa using l.symm)
  · intro e; rw [e] at l; exact List.eq_nil_of_length_eq_zero (by simpa using l)
end
section
set_option maxHeartbeats 1000000
/-- the locals of _law_types_right over those that are bound from the start -/
abbrev MT (m0 : Str → Option Value) (hh dd bb : Option Value) : Str → Option Value := fun y => if y = Str.ofString "heard" then hh else if y = Str.ofString "due" then dd else if y = Str.ofString "bare" then bb else m0 y
theorem MT_self (m0 : Str → Option Value) : MT m0 (m0 (Str.ofString "heard")) (m0 (Str.ofString "due")) (m0 (Str.ofString "bare")) = m0 := by
  funext y
  unfold MT
  by_cases h1 : y = Str.ofString "heard"
  · rw [if_pos h1, h1]
  by_cases h2 : y = Str.ofString "due"
  · rw [if_neg h1, if_pos h2, h2]
  by_cases h3 : y = Str.ofString "bare"
  · rw [if_neg h1, if_neg h2, if_pos h3, h3]
  rw [if_neg h1, if_neg h2, if_neg h3]

theorem str_ne1 : Str.ofString "bare" ≠ Str.ofString "heard" := by decide +kernel
theorem str_ne2 : Str.ofString "bare" ≠ Str.ofString "due" := by decide +kernel
theorem str_ne3 : Str.ofString "due" ≠ Str.ofString "heard" := by decide +kernel
theorem MT_bare (m0 : Str → Option Value) (hh dd bb : Option Value) (v : Option Value) : (fun y => if y = Str.ofString "bare" then v else MT m0 hh dd bb y) = MT m0 hh dd v := by
  funext y
  unfold MT
  by_cases h3 : y = Str.ofString "bare"
  · rw [if_pos h3, h3, if_neg str_ne1, if_neg str_ne2, if_pos rfl]
  · rw [if_neg h3, if_neg h3, if_neg h3]
theorem MT_due (m0 : Str → Option Value) (hh dd bb : Option Value) (v : Option Value) : (fun y => if y = Str.ofString "due" then v else MT m0 hh dd bb y) = MT m0 hh v bb := by
  funext y
  unfold MT
  by_cases h3 : y = Str.ofString "due"
  · rw [if_pos h3, h3, if_neg str_ne3, if_pos rfl]
  · rw [if_neg h3, if_neg h3, if_neg h3]
theorem MT_heard (m0 : Str → Option Value) (hh dd bb : Option Value) (v : Option Value) : (fun y => if y = Str.ofString "heard" then v else MT m0 hh dd bb y) = MT m0 v dd bb := by
  funext y
  unfold MT
  by_cases h3 : y = Str.ofString "heard"
  · rw [if_pos h3, if_pos h3]
  · rw [if_neg h3, if_neg h3, if_neg h3]

/-- the state of _law_types_right at the head of a loop -/
structure RSt (fr : List Env) (A : Around) (base g : Heap) (L' : Addr) (m0 : Str → Option Value) (qual : Str) (types : Addr) (line : Int) (tl : Tok) (kk ww bb : Option Value) (ext : List (Addr × Obj)) (h₁ : Heap)
    (g₁ : Heap) (ps : Array Value) (cds : List (Addr × Obj)) (ot ol ow ok : Obj) (dd hh : Option Value) : Prop where
  turn : KtsTurn (frs fr) g g₁
  below : Below A base fr g₁
  frame : Fr g₁ L' h₁ (MT m0 hh dd bb)
  news : News g₁ L' h₁ (ext ++ ((L' + 1 + 1 + 1 + 1, ow) :: (L' + 1 + 1 + 1, ok) :: (L' + 1 + 1, ol) :: (L' + 1, ot) :: (191, tabObj ps) :: cds))
  codes : Codes qual ps cds
  cot : ot.data = .cell (some (.ref types))
  col : ol.data = .cell (some (.int line tl))
  cow : ow.data = .cell ww
  cok : ok.data = .cell kk
  far : ∀ q ∈ cds, L' + 1 + 1 + 1 + 1 < q.1
  apart : ∀ q ∈ cds, ∀ z ∈ ext, q.1 ≠ z.1
def RInv (s : Shared) (fr : List Env) (A : Around) (base g : Heap) (L' : Addr) (m0 : Str → Option Value) (qual : Str) (types : Addr) (line : Int) (tl : Tok) (kk ww bb : Option Value) (ext : List (Addr × Obj)) (s₁ : Shared) : Prop :=
  ∃ h₁ tk₁ g₁ ps cds ot ol ow ok dd hh, s₁ = { s with heap := h₁, toks := tk₁ } ∧ RSt fr A base g L' m0 qual types line tl kk ww bb ext h₁ g₁ ps cds ot ol ow ok dd hh

section
variable {fr : List Env} {A : Around} {base g : Heap} {L' : Addr} {m0 : Str → Option Value} {qual : Str} {types : Addr} {line : Int} {tl : Tok} {kk ww bb : Option Value} {ext : List (Addr × Obj)} {h₁ g₁ : Heap} {ps : Array Value} {cds : List (Addr × Obj)} {ot ol ow ok : Obj} {dd hh : Option Value}
/-- the iterator has gone on -/
theorem RSt.iter {I : Addr} {oI oI' : Obj} {h₂ : Heap} (S : RSt fr A base g L' m0 qual types line tl kk ww bb ((I, oI) :: ext) h₁ g₁ ps cds ot ol ow ok dd hh) (hext : ∀ q ∈ ext, q.1 ≠ I) (hI : @LT.lt Nat _ (L' + 1 + 1 + 1 + 1) I) (hI2 : @LT.lt Nat _ 191 I)
    (k : ∀ b o, b ∉ [I] → h₁.get? b = some o → h₂.get? b = some o) (ho : h₂.get? I = some oI') : RSt fr A base g L' m0 qual types line tl kk ww bb ((I, oI') :: ext) h₂ g₁ ps cds ot ol ow ok dd hh := by
  have hIn := S.news (I, oI) (by simp)
  have k' : ∀ b o, b ≠ I → h₁.get? b = some o → h₂.get? b = some o := fun b o n e => k b o (by simpa using n) e
  refine ⟨S.turn, S.below, ?_, ?_, S.codes, S.cot, S.col, S.cow, S.cok, S.far, fun q hq z hz => ?_⟩
  · obtain ⟨oL, es, ep, hL, r⟩ := S.frame.ns
    exact ⟨⟨oL, es, ep, k' _ _ (Ne.symm hIn.2.1) hL, r⟩, fun b o e => k' b o (fun z => by rw [z, hIn.2.2] at e; cases e) (S.frame.keep b o e), S.frame.above⟩
  · intro q hq
    simp only [List.cons_append, List.mem_cons, List.mem_append] at hq
    have go : q ∈ ((I, oI) :: ext) ++ ((L' + 1 + 1 + 1 + 1, ow) :: (L' + 1 + 1 + 1, ok) :: (L' + 1 + 1, ol) :: (L' + 1, ot) :: (191, tabObj ps) :: cds) → q.1 ≠ I → h₂.get? q.1 = some q.2 ∧ q.1 ≠ L' ∧ g₁.get? q.1 = none := fun hm hn => ⟨k' _ _ hn (S.news q hm).1, (S.news q hm).2⟩
    rcases hq with rfl | hq | rfl | rfl | rfl | rfl | rfl | hq
    · exact ⟨ho, hIn.2⟩
    · exact go (by simp [hq]) (hext q hq)
    · exact go (by simp) (show @Ne Nat (L' + 1 + 1 + 1 + 1) I by omega)
    · exact go (by simp) (show @Ne Nat (L' + 1 + 1 + 1) I by omega)
    · exact go (by simp) (show @Ne Nat (L' + 1 + 1) I by omega)
    · exact go (by simp) (show @Ne Nat (L' + 1) I by omega)
    · exact go (by simp) (show @Ne Nat 191 I by omega)
    · exact go (by simp [hq]) (S.apart q hq _ (.head _))
  · rcases List.mem_cons.mp hz with rfl | hz
    · exact S.apart q hq (I, oI) (.head _)
    · exact S.apart q hq z (.tail _ hz)
end

section
variable {prog : Program} {w : World} {A : Around} {E : Value → Shared → Prop} {s : Shared} {env : Env} {target : PySem.Expr} {body : List Stmt} {Q : Flow → Shared → Prop}
variable {fr : List Env} {A' : Around} {base g : Heap} {L' : Addr} {m0 : Str → Option Value} {qual : Str} {types : Addr} {line : Int} {tl : Tok} {ext : List (Addr × Obj)}

theorem RSt.start {I : Addr} {oI : Obj} {h₁ : Heap} {ot ol ow ok : Obj} {kk ww : Option Value} (B : Below A' base fr g) (F : Fr g L' h₁ m0) (N : News g L' h₁ ([(I, oI)] ++ ((L' + 1 + 1 + 1 + 1, ow) :: (L' + 1 + 1 + 1, ok) :: (L' + 1 + 1, ol) :: (L' + 1, ot) :: [(191, tabObj #[])])))
    (d1 : ot.data = .cell (some (.ref types))) (d2 : ol.data = .cell (some (.int line tl))) (d3 : ow.data = .cell ww) (d4 : ok.data = .cell kk) :
    RSt fr A' base g L' m0 qual types line tl kk ww (m0 (Str.ofString "bare")) [(I, oI)] h₁ g #[] [] ot ol ow ok (m0 (Str.ofString "due")) (m0 (Str.ofString "heard")) :=
  ⟨KtsTurn.refl, B, (MT_self m0).symm ▸ F, N, Codes.none _, d1, d2, d3, d4, (fun q hq => nomatch hq), (fun q hq => nomatch hq)⟩

/-- a loop of _law_types_right -/
theorem right_loop {I : Addr} {fp : List Addr} {n : Nat} {P : Nat → Value → Prop} {St : Nat → Heap → Prop} (W : Walks prog w A I fp [I] n P St)
    (hgo : ∀ i v (s : Shared) (Q : Unit → Shared → Prop) (E : Value → Shared → Prop), St i s.heap → Q () s → wpAny (model prog w) A (letOwnedTupleGo target (.ref I) v) Q E s)
    (hSt : ∀ i h, St i h → ∃ o, h.get? I = some o) (hI : @LT.lt Nat _ (L' + 1 + 1 + 1 + 1) I) (hI2 : @LT.lt Nat _ 191 I)
    (J : Nat → Option Value → Option Value → Option Value → List (Addr × Obj) → Prop) {kk ww bb : Option Value} {oI : Obj} {g₁ : Heap} {ps : Array Value} {cds : List (Addr × Obj)} {ot ol ow ok : Obj} {dd hh : Option Value}
    (st0 : St 0 s.heap) (S0 : RSt fr A' base g L' m0 qual types line tl kk ww bb ((I, oI) :: ext) s.heap g₁ ps cds ot ol ow ok dd hh) (J0 : J 0 kk ww bb ext)
    (hJ : ∀ i kk ww bb ext, J i kk ww bb ext → ∀ q ∈ ext, q.1 ≠ I)
    (step : ∀ i v h₂ tk₂ kk ww bb ext oI g₁ ps cds ot ol ow ok dd hh, i < n → P i v → St (i + 1) h₂ → J i kk ww bb ext → RSt fr A' base g L' m0 qual types line tl kk ww bb ((I, oI) :: ext) h₂ g₁ ps cds ot ol ow ok dd hh →
(QE : Flow → Shared → Prop) → (∀ f s', ForEnd St (fun i s₁ => ∃ h₁ tk₁ kk ww bb ext oI g₁ ps cds ot ol ow ok dd hh, s₁ = { s with heap := h₁, toks := tk₁ } ∧ J i kk ww bb ext ∧ RSt fr A' base g L' m0 qual types line tl kk ww bb ((I, oI) :: ext) h₁ g₁ ps cds ot ol ow ok dd hh) Q (i + 1) f s' → QE f s') →
      wpAny (model prog w) A (assign target env v) (fun _ s₃ => wpAny (model prog w) A (execs body env)
        QE E s₃) E { s with heap := h₂, toks := tk₂ })
    (fin : ∀ h₂ tk₂ kk ww bb ext g₁ ps cds ot ol ow ok dd hh, J n kk ww bb ext → RSt fr A' base g L' m0 qual types line tl kk ww bb ext h₂ g₁ ps cds ot ol ow ok dd hh → Q .next { s with heap := h₂, toks := tk₂ })
    (hE : PassesOwn (model prog w) A env E) : ForAt prog w A E env target body Q (.ref I) s := by
  refine for_inv W hgo (fun i s₁ => ∃ h₁ tk₁ kk ww bb ext oI g₁ ps cds ot ol ow ok dd hh, s₁ = { s with heap := h₁, toks := tk₁ } ∧ J i kk ww bb ext ∧ RSt fr A' base g L' m0 qual types line tl kk ww bb ((I, oI) :: ext) h₁ g₁ ps cds ot ol ow ok dd hh)
    st0 ⟨s.heap, s.toks, kk, ww, bb, ext, oI, g₁, ps, cds, ot, ol, ow, ok, dd, hh, rfl, J0, S0⟩ ?_ ?_ hE
  · rintro i v s₁ h₂ tk₂ hi hP ⟨h₁, tk₁, kk, ww, bb, ext, oI, g₁, ps, cds, ot, ol, ow, ok, dd, hh, rfl, hj, S⟩ st hk
    obtain ⟨oI', ho⟩ := hSt _ _ st
    exact step i v h₂ tk₂ kk ww bb ext oI' g₁ ps cds ot ol ow ok dd hh hi hP st hj (S.iter (hJ _ _ _ _ _ hj) hI hI2 hk ho) _ fun _ _ x => x
  · rintro s₁ h₂ tk₂ ⟨h₁, tk₁, kk, ww, bb, ext, oI, g₁, ps, cds, ot, ol, ow, ok, dd, hh, rfl, hj, S⟩ hk
    refine fin h₂ tk₂ kk ww bb ext g₁ ps cds ot ol ow ok dd hh hj ?_
    have hIn := S.news (I, oI) (by simp)
    have hx := hJ _ _ _ _ _ hj
    have k' : ∀ b o, b ≠ I → h₁.get? b = some o → h₂.get? b = some o := fun b o n e => hk b o (by simpa using n) e
    refine ⟨S.turn, S.below, ?_, fun q hq => ?_, S.codes, S.cot, S.col, S.cow, S.cok, S.far, fun q hq z hz => S.apart q hq z (.tail _ hz)⟩
    · obtain ⟨oL, es, ep, hL, r⟩ := S.frame.ns
      exact ⟨⟨oL, es, ep, k' _ _ (Ne.symm hIn.2.1) hL, r⟩, fun b o e => k' b o (fun z => by rw [z, hIn.2.2] at e; cases e) (S.frame.keep b o e), S.frame.above⟩
    · have hm : q ∈ ((I, oI) :: ext) ++ ((L' + 1 + 1 + 1 + 1, ow) :: (L' + 1 + 1 + 1, ok) :: (L' + 1 + 1, ol) :: (L' + 1, ot) :: (191, tabObj ps) :: cds) := .tail _ hq
      refine ⟨k' _ _ ?_ (S.news q hm).1, (S.news q hm).2⟩
      simp only [List.mem_cons, List.mem_append] at hq
      rcases hq with hq | rfl | rfl | rfl | rfl | rfl | hq
      · exact hx q hq
      · exact (show @Ne Nat (L' + 1 + 1 + 1 + 1) I by omega)
      · exact (show @Ne Nat (L' + 1 + 1 + 1) I by omega)
      · exact (show @Ne Nat (L' + 1 + 1) I by omega)
      · exact (show @Ne Nat (L' + 1) I by omega)
      · exact (show @Ne Nat 191 I by omega)
      · exact S.apart q hq _ (.head _)
end
end
section
theorem walk_off_H1 : True := by
  w_top off
  trivial
set_option maxHeartbeats 4000000
section
variable {M : Model} {A : Around} {E : Value → Shared → Prop} {s : Shared} {h₀ : Heap} {L a c : Addr} {m : Str → Option Value} {cn : Str} {cs : Scope} {ccd : Value} {cl : List (Str × Addr)} {x : Str} {v : Value} {Q : Value → Shared → Prop} {pos : Pos}
/-- a cell of the ground -/
def CellAt (h : Heap) (c : Addr) (v : Value) : Prop := ∃ o, h.get? c = some o ∧ o.data = .cell (some v)
theorem CellAt.keep {h h' : Heap} (x : CellAt h c v) (k : ∀ b o, h.get? b = some o → h'.get? b = some o) : CellAt h' c v := let ⟨o, e, d⟩ := x; ⟨o, k _ _ e, d⟩
theorem nameX_B (F : Fr h₀ L s.heap m) (hc : cl.lookup x = some c) (hv : CellAt h₀ c v) (h : Q v s)
    (hk : cs.kind = .function := by rfl) (hx : (envX cn cs L a ccd cl).kindOf x = some .free := by rfl) (hb : (x == ("__debug__" : Str)) = false := by decide) (hn : (x == ("__classdict__" : Str)) = false := by decide) :
    wpAny M A (eval (.Name x pos) (envX cn cs L a ccd cl)) Q E s := wpAny_Name (wpAny_loadName_free hk hx hc (let ⟨o, e, d⟩ := hv; ⟨o, F.keep _ _ e, d⟩) h hn) hb
end
local macro_rules | `(tactic| walk_at "exec For Name Call") => `(tactic| (refine Mine.Stop.mk ?_))
local macro_rules | `(tactic| walk_at "pyIter ref") => `(tactic| (refine Mine.Stop.mk ?_))
local macro_rules | `(tactic| walk_at "call builtin:len") => `(tactic| (k_here; (with_reducible show wpAny _ _ (call (Value.builtin "len") [Value.ref _]) _ _ _); k_dflt (refine' kun_lenL ?l ?k ?z ?_; (case l => exact IsList.keep (by with_reducible assumption) (Fr.keep (by k_asm))); (case k => (simp only [List.size_toArray, List.length_map]; exact rfl)); (case z => omega); k_whole)))
local macro_rules | `(tactic| k_all) => `(tactic| with_reducible assumption)
local macro_rules | `(tactic| walk_at "exec For Name Name") => `(tactic| (refine Mine.Stop.mk ?_))
local macro_rules | `(tactic| walk_at "exec For Name Name cons nil") => `(tactic| (refine Mine.Stop.mk ?_))
local macro_rules | `(tactic| walk_at "call ref") => `(tactic| (refine Mine.Stop.mk ?_))
local macro_rules | `(tactic| walk_at "call builtin:sorted") => `(tactic| (refine Mine.Stop.mk ?_))
local macro_rules | `(tactic| walk_at "eval Lambda") => `(tactic| (refine Mine.Stop.mk ?_))
local macro_rules | `(tactic| walk_at "eval Name") => `(tactic| (k_here; k_dflt (refine' Mine.nameX_B ?F ?c ?v ?_; (case F => k_asm); (case c => rfl); (case v => with_reducible assumption); k_whole)))
local macro_rules | `(tactic| walk_at "callWith ref") => `(tactic| (k_here; k_dflt (refine' callWith_K ?k1 ?k2 ?_; (case k1 => k_asm); (case k2 => k_is); k_whole)))
local macro_rules | `(tactic| walk_at "subscriptTail Name Name ref int") => `(tactic| (k_here; (with_reducible show wpAny _ _ (subscriptTail _ _ (Value.ref _) (Value.int _ _)) _ _ _); k_dflt (refine' Mine.item_listB ?F ?l ?a ?b ?x ?_; (case F => k_asm); (case l => with_reducible assumption); (case a => omega); (case b => omega); (case x => with_reducible assumption); k_whole)))
theorem isTupN {h₀ h : Heap} {L a : Addr} {o : Obj} {news : List (Addr × Obj)} {its : Array Value} {n : Nat} (N : News h₀ L h news) (hm : (a, o) ∈ news) (hc : o.cls = .type "tuple") (hd : o.data = .seq its n) : IsTup h a its := ⟨o, (N _ hm).1, hc, n, hd⟩
theorem ne_kinds {h₀ h : Heap} {L a b : Addr} {o o' : Obj} {news : List (Addr × Obj)} {x y : String} (N : News h₀ L h news) (ha : (a, o) ∈ news) (hb : (b, o') ∈ news) (hc : o.cls = .type x) (hc' : o'.cls = .type y) (hne : x ≠ y) : @Ne Nat a b := fun z => by
  have e1 := (N _ ha).1
  have e2 := (N _ hb).1
  rw [show a = b from z] at e1
  rw [e1] at e2
  cases e2
  rw [hc] at hc'
  exact hne (Value.type.inj hc')
theorem strs_snoc {k : Str} {t : Tok} : ∀ {vs : List Value} {ss : List Str}, StrsAre vs ss → StrsAre (vs ++ [.str k t]) (ss ++ [k])
  | _, _, .nil => .cons k t .nil
  | _, _, .cons y u r => .cons y u (strs_snoc r)
local macro_rules | `(tactic| k_inst) => `(tactic| exact Mine.instB (by k_asm) (by with_reducible assumption))
local macro_rules | `(tactic| walk_at "subscriptTail Name Constant ref int") => `(tactic| (k_here; (with_reducible show wpAny _ _ (subscriptTail _ _ (Value.ref _) (Value.int _ _)) _ _ _); k_dflt (refine' item_tupleT (l := [_, _]) ?t ?a ?b ?c ?d ?_; (case t => exact Mine.isTupN (by k_asm) (by k_mem) (by with_reducible assumption) (by with_reducible assumption)); (case a => decide); (case b => decide); (case c => rfl); (case d => rfl); k_whole)))
theorem ne_pair {prog : Program} {w : World} {A : Around} {E : Value → Shared → Prop} {s : Shared} {a b : Addr} {k nm : Str} {t1 t2 u1 u2 : Tok} {Q : Value → Shared → Prop} (ha : IsTup s.heap a (List.toArray [.str k t1, .str nm t2])) (hb : IsTup s.heap b (List.toArray [.str k u1, .str nm u2])) (hu : A.units < cLine) (h : Q (.bool false) s) :
    wpAny (model prog w) A (compareOp .NotEq (.ref a) (.ref b)) Q E s := by
  refine cmp_ofNotEq (SeqAt.RcNeAt.tuples (e := fun _ => true) ha hb hu (fun j h1 h2 => ?_) prog w E Q (by
    rw [show (!((List.range (min (List.toArray [Value.str k t1, .str nm t2]).size (List.toArray [Value.str k u1, .str nm u2]).size)).all (fun _ => true) && (List.toArray [Value.str k t1, .str nm t2]).size == (List.toArray [Value.str k u1, .str nm u2]).size)) = false from rfl]
    exact h))
  match j, h1, h2 with
  | 0, _, _ => simpa using SeqAt.EqAt.str_str (A := A.in1) (s := s) k t1 k u1
  | 1, _, _ => simpa using SeqAt.EqAt.str_str (A := A.in1) (s := s) nm t2 nm u2
local macro_rules | `(tactic| walk_at "compareOp NotEq ref ref") => `(tactic| (k_here; k_dflt (refine' Mine.ne_pair ?a ?b ?u ?_; (case a => exact News.isTup (by k_asm) (by k_mem)); (case b => exact News.isTup (by k_asm) (by k_mem)); (case u => exact Nat.le_of_ble_eq_true rfl); k_whole)))
theorem law_tuple {w : World} {h : Heap} (X : (hd.heap_1 w.params).In h) : ∃ its, IsTup h 165 its ∧ its.size = 5 ∧ ∀ (j : Nat) v, its[j]? = some v → ∃ k t, v = .str k t ∧ lawKeys[j]? = some k := by
  have ht := tupK X (show (hd.heap_1 w.params).lookup 165 = some ⟨.type "tuple", _, .seq (List.toArray [.str (Str.ofString "draw") _, .str (Str.ofString "area") _, .str (Str.ofString "=") _, .str (Str.ofString "clone") _, .str (Str.ofString "move") _]) _, _⟩ from rfl)
  refine ⟨_, ht, rfl, fun j v e => ?_⟩
  match j with
  | 0 => cases e; exact ⟨_, _, rfl, by decide +kernel⟩
  | 1 => cases e; exact ⟨_, _, rfl, by decide +kernel⟩
  | 2 => cases e; exact ⟨_, _, rfl, by decide +kernel⟩
  | 3 => cases e; exact ⟨_, _, rfl, by decide +kernel⟩
  | 4 => cases e; exact ⟨_, _, rfl, by decide +kernel⟩
  | _ + 5 => cases e
theorem bare_step {kv : List (Str × Str)} {l : List Str} {j : Nat} {key : Str} (h : l[j]? = some key) : bareOf kv (l.take (j + 1)) = bareOf kv (l.take j) ++ bareOf kv [key] := by
  unfold bareOf
  rw [List.take_add_one, h, List.filter_append]
  rfl
theorem bare_none {kv : List (Str × Str)} {key : Str} (h : look kv key ≠ some (Str.ofString "")) : bareOf kv [key] = [] := by
  unfold bareOf
  simp [h]
theorem bare_some {kv : List (Str × Str)} {key : Str} (h : look kv key = some (Str.ofString "")) : bareOf kv [key] = [key] := by
  unfold bareOf
  simp [h]
theorem fr_hd {g h : Heap} {L : Addr} {m0 : Str → Option Value} {hh dd bb v v2 : Option Value} (F : Fr g L h (fun y => if y = Str.ofString "heard" then v else if y = Str.ofString "due" then v2 else MT m0 hh dd bb y)) : Fr g L h (MT m0 v v2 bb) := by
  have e : (fun y => if y = Str.ofString "heard" then v else if y = Str.ofString "due" then v2 else MT m0 hh dd bb y) = MT m0 v v2 bb := by
    funext y
    unfold MT
    by_cases h1 : y = Str.ofString "heard"
    · rw [if_pos h1, if_pos h1]
    by_cases h2 : y = Str.ofString "due"
    · rw [if_neg h1, if_pos h2, if_neg h1, if_pos h2]
    · rw [if_neg h1, if_neg h2, if_neg h1, if_neg h2, if_neg h1, if_neg h2]
  exact e ▸ F
theorem fr_d {g h : Heap} {L : Addr} {m0 : Str → Option Value} {hh dd bb v : Option Value} (F : Fr g L h (fun y => if y = Str.ofString "due" then v else MT m0 hh dd bb y)) : Fr g L h (MT m0 hh v bb) := (MT_due m0 hh dd bb v) ▸ F
theorem small_upto : ∀ n : Nat, n < 20 → Builtin.Range.small 0 (n : Int) 1 = true := by decide +kernel
theorem size_upto : ∀ n : Nat, n < 20 → Builtin.Range.rangeSize 0 (n : Int) 1 = (n : Int) := by decide +kernel
theorem all6 {α : Type} {P : α → Prop} {a0 a1 a2 a3 a4 a5 : α} (h0 : P a0) (h1 : P a1) (h2 : P a2) (h3 : P a3) (h4 : P a4) (h5 : P a5) : ∀ q ∈ [a0, a1, a2, a3, a4, a5], P q := fun q hq => by
  simp only [List.mem_cons, List.not_mem_nil, or_false] at hq
  rcases hq with rfl | rfl | rfl | rfl | rfl | rfl <;> assumption
theorem all7 {α : Type} {P : α → Prop} {a0 a1 a2 a3 a4 a5 a6 : α} (h0 : P a0) (h1 : P a1) (h2 : P a2) (h3 : P a3) (h4 : P a4) (h5 : P a5) (h6 : P a6) : ∀ q ∈ [a0, a1, a2, a3, a4, a5, a6], P q := fun q hq => by
  simp only [List.mem_cons, List.not_mem_nil, or_false] at hq
  rcases hq with rfl | rfl | rfl | rfl | rfl | rfl | rfl <;> assumption
theorem all8 {α : Type} {P : α → Prop} {a0 a1 a2 a3 a4 a5 a6 a7 : α} (h0 : P a0) (h1 : P a1) (h2 : P a2) (h3 : P a3) (h4 : P a4) (h5 : P a5) (h6 : P a6) (h7 : P a7) : ∀ q ∈ [a0, a1, a2, a3, a4, a5, a6, a7], P q := fun q hq => by
  simp only [List.mem_cons, List.not_mem_nil, or_false] at hq
  rcases hq with rfl | rfl | rfl | rfl | rfl | rfl | rfl | rfl <;> assumption
local macro_rules | `(tactic| k_steps) => `(tactic| walk_at "S")
theorem right_spec {w : World} {A₀ : Around} {s : Shared} {base h₀ : Heap} {outer : List Env} {env : Env} {L : Addr} {m : Str → Option Value} {news : List (Addr × Obj)}
  {p : Program} {loose : List Str} {mean : ExcName → Option Value} {mg mb : Str → Option Value} {R : Result → Shared → Prop} {ps : Array Value} {hz : Heap} {book types lm ll : Addr} {line : Int} {tl : Tok}
  {xs : List TX} {made : List (Int × Int)} {laid : List Row} {ops : List (List (Str × Str))} {vm vl : List Value} :
  (hd.heap_1 w.params).In h₀ → Below A₀ base outer h₀ → Fr h₀ L s.heap m → News h₀ L s.heap news → Top p loose mean mg mb h₀ → env.frame = some L → env.scope.kind = .function →
  (hd.heap_1 w.params).In base → Top p loose mean mg mb base → CodeHd base 195 191 → (191, tabObj #[]) ∈ news → (∀ b o, hz.get? b = some o → s.heap.get? b = some o ∧ b ≠ 191 ∧ b ∉ frs (env :: outer)) → BookAt w hz book lm ll vm vl made laid → Forest w hz xs made ops → hz.IsList types (xs.map fun t => Value.ref t.1).toArray → Good made laid ops 16 →
  (∀ h' h₀' tk, KtsTurn (frs outer) h₀ h₀' → Fr h₀' L h' m → Below A₀ base outer h₀' → (∀ b o, s.heap.get? b = some o → b ≠ 191 → b ∉ frs (env :: outer) → h'.get? b = some o) → GrownAt 191 h' → R (.ok (.ret (.bool true))) { s with heap := h', toks := tk }) →
  codeAny (model Challenge.rw_pb0007_01.row.prog w) (at_ 520 3200 (env :: outer)) (.call (.ref 196) ⟨[.ref book, .ref types, .int line tl], []⟩) R s := by
  k_fill
  intro X B F N T hf hke XB TB HC hP hzs hB hFo hty G post
  refine' enter_turnC (fp := [(191, tabObj #[])]) (binds := [(Str.ofString "book", .ref book), (Str.ofString "types", .ref types), (Str.ofString "line", .int line tl)]) B F X N T rfl hf hke ?fp ?k6 ?k7 ?k8 ?k9 ?kB ?kD ?_ ?c2 ?c3 ?c4
  case fp => intro q hq; rw [List.mem_singleton.mp hq]; exact hP
  case k6 => k_is
  case k7 => k_is
  case k8 => k_room
  case k9 => exact BindsTo.of_eq rfl
  case kB => exact rfl
  case kD => decide +kernel
  case c2 => exact rfl
  case c3 => exact rfl
  case c4 => exact rfl
  intro g L' h' tk' cells' FG' F' N' Y' B' X' T' hrest hl1 hl2
  k_cells Y'
  (try simp only [List.cons_append, List.nil_append, List.append_nil] at N')
  (try dsimp only)
  change wpAny _ _ _ _ _ _
  k_fold
  have hzg : ∀ b o, hz.get? b = some o → g.get? b = some o := fun b o e => hrest b o (hzs b o e).1 (by simpa using (hzs b o e).2.1)
  have htyg := IsList.keep hty hzg
  have hx7 : xs.length ≤ 7 := by rw [hFo.types.len]; exact G.le7
  have hx1 : 1 ≤ xs.length := by rw [hFo.types.len]; exact G.pos
  k_steps
  refine Stop.go ?_
  refine For_at ?_
  k_steps
  refine Stop.go ?_
  rename IsRange _ _ _ _ _ _ _ _ => hR
  rename Fr g L' _ _ => F9
  rename News g L' _ _ => N9
  refine wpAny_pyIter_range hR (small_upto _ (by omega)) ?_
  rw [size_upto _ (by omega)]
  rename Heap => h5
  have N10 := News.push F9 N9 { cls := .type "range_iterator", data := .fields #[rawInt 0, rawInt (xs.length : Int), rawInt 1] }
  have F10 := F9.push { cls := .type "range_iterator", data := .fields #[rawInt 0, rawInt (xs.length : Int), rawInt 1] }
  have b1 : @LT.lt Nat _ (L' + 1 + 1 + 1 + 1) h5.objs.size := Heap.lt_size (N9 _ (.head _)).1
  have b2 : @LT.lt Nat _ 191 h5.objs.size := Heap.lt_size (N9 _ (.tail _ (.tail _ (.tail _ (.tail _ (.head _)))))).1
  refine right_loop (kk := none) (ww := none) (qual := Str.ofString "_law_types_right.<locals>.<lambda>") (types := types) (line := line) (tl := tl) (LCg.range_walks rfl 0 xs.length) (fun i v s Q E st q => wpAny_pure q) (fun i h st => ⟨_, st⟩) b1 b2 (fun i kk ww bb ext => ext = []) ?st0 (RSt.start (kk := none) (ww := none) B' F10 N10 ?d1 ?d2 ?d3 ?d4) rfl ?hJ ?step ?fin ?hE
  case st0 => simpa using (N10 _ (.head _)).1
  case d1 => assumption
  case d2 => assumption
  case d3 => assumption
  case d4 => assumption
  case hJ => intro i kk ww bb ext e q hq; subst e; cases hq
  case hE => passes_own
  case fin =>
    intro h₂ tk₂ kk ww bb ext g₁ ps cds ot ol ow ok dd hh he S
    subst he
    have Fz := S.frame
    have Nz := S.news
    simp only [List.nil_append] at Nz
    (try dsimp only)
    k_steps
    rename Fr g₁ L' _ _ => F7
    rename News g₁ L' _ _ => N7
    exact ⟨g₁, L', _, _, S.turn, F7, N7, fun h₀' T0 kF kN B0 fr => post _ h₀' _ T0 kF B0 (fun b o e n1 n2 => fr b o e (by simpa using n1) n2) (GrownAt.of N7 (by k_mem))⟩
  case step =>
    intro i v h₂ tk₂ kk ww bb ext oI g₁ ps cds ot ol ow ok dd hh hi hP st he S QE hQE
    subst he
    refine Classical.byContradiction fun hG => ?_
    obtain ⟨ti, rfl⟩ := hP
    obtain ⟨⟨x, d, od⟩, hxi⟩ : ∃ t, xs[i]? = some t := ⟨_, List.getElem?_eq_getElem hi⟩
    obtain ⟨kv, kvs, hkv, hDz, hnmd, lod⟩ := hFo.op _ _ _ _ hxi
    have him : i < made.length := by rw [← hFo.types.len]; exact hi
    obtain ⟨⟨pp, pmo⟩, hmr⟩ : ∃ t, made[i]? = some t := ⟨_, List.getElem?_eq_getElem him⟩
    have hT0 := hFo.types.ty _ _ _ _ _ _ hxi hmr
    refine hG ?_
    clear hG
    have hkl : kvs.length ≤ 5 := by rw [hnmd.length]; exact G.five hkv
    have hopk : ∀ key, opAt ops i key = look kv key := fun key => by simp [opAt, hkv]
    have Fz := S.frame
    have Nz := S.news
    simp only [List.cons_append, List.nil_append] at Nz
    have c1 : ∀ q ∈ cds, q.1 ≠ L' + 1 + 1 + 1 + 1 := fun q hq => Ne.symm (ltNe' (S.far q hq))
    have c2 : ∀ q ∈ cds, q.1 ≠ L' + 1 + 1 + 1 := fun q hq => Ne.symm (ltNe' (Nat.lt_trans (Nat.lt_succ_self _) (S.far q hq)))
    have b0 : @LT.lt Nat _ 191 L' := hl1 _ (.head _)
    have hXg : (hd.heap_1 w.params).In g₁ := XB.keeps S.below.stays
    have hTg : Top p loose mean mg mb g₁ := TB.keeps S.below.stays
    have hcow := S.cow
    have hcok := S.cok
    k_steps
    refine Stop.go ?_
    refine For_at ?_
    k_steps
    refine Stop.go ?_
    rename Fr g₁ L' _ _ => F7
    rename News g₁ L' _ _ => N7
    obtain ⟨its, htupB, hsz, hits⟩ := law_tuple XB
    have htup := IsTup.keeps htupB S.below.stays
    rename Heap => h7
    refine wpAny_pyIter_tuple (IsTup.keeps htup F7.keep) ?_
    have N8 := News.push F7 N7 { cls := .type "tuple_iterator", data := .fields #[.ref 165, .int 0 0] }
    have F8 := F7.push { cls := .type "tuple_iterator", data := .fields #[.ref 165, .int 0 0] }
    have b3 : @LT.lt Nat _ (L' + 1 + 1 + 1 + 1) h7.objs.size := Heap.lt_size (N7 _ (.tail _ (.tail _ (.head _)))).1
    have b4 : @LT.lt Nat _ 191 h7.objs.size := Nat.lt_trans b0 (Nat.lt_of_le_of_lt (Nat.le_add_right _ 4) b3)
    rename (_ = Data.cell (some (Value.int _ _))) => hw'
    refine right_loop (kk := kk) (ww := some (.int (0 + (i : Int)) ti)) (ext := [(_, listOf #[] 0), (h5.objs.size, oI)]) (Walks.tuple rfl h7.objs.size 165 (ltNe' (Heap.lt_size (F7.keep _ _ htup.choose_spec.1))) its) (fun i v s Q E st q => wpAny_pure q) (fun j h st => by obtain ⟨o, e, _⟩ := st.1; exact ⟨o, e⟩) b3 b4
      (fun j kk ww bb ext => ww = some (.int (0 + (i : Int)) ti) ∧ ∃ bl vs e, bb = some (.ref bl) ∧ ext = [(bl, listOf (vs : List Value).toArray (e : Nat)), (h5.objs.size, oI)] ∧ StrsAre vs (bareOf kv (lawKeys.take j)) ∧ (@Ne Nat bl h7.objs.size) ∧ (@LT.lt Nat _ (L' + 1 + 1 + 1 + 1) bl) ∧ (@Ne Nat bl h5.objs.size) ∧ vs.length ≤ j)
      ?ist0 ⟨S.turn, S.below, (MT_bare ..) ▸ F8, N8, S.codes, S.cot, S.col, hw', S.cok, S.far, ?iap⟩ ⟨rfl, _, [], 0, rfl, rfl, .nil, ?in1, ?in2, ?in3, Nat.le_refl _⟩ ?ihJ ?istep ?ifin ?ihE
    case ist0 => exact ⟨⟨_, (N8 _ (.head _)).1, rfl, rfl⟩, IsTup.keeps htup F8.keep⟩
    case iap =>
      intro q hq z hz
      have q1 : @LT.lt Nat _ q.1 h7.objs.size := Heap.lt_size (N7 q (.tail _ (.tail _ (.tail _ (.tail _ (.tail _ (.tail _ (.tail _ hq)))))))).1
      rename (@LT.lt Nat _ h5.objs.size _ ∧ _) => l8
      obtain ⟨_, _, _, _, _, _, l9⟩ := l8
      simp only [List.mem_cons, List.not_mem_nil, or_false] at hz
      rcases hz with rfl | rfl | rfl
      · exact ltNe' q1
      · exact ltNe' (allLt_mem l9 q hq)
      · exact S.apart q hq _ (.head _)
    case in1 => exact ltNe' (Heap.lt_size (N7 _ (.head _)).1)
    case in2 =>
      rename (@LT.lt Nat _ h5.objs.size _ ∧ _) => l8
      exact l8.2.1
    case in3 =>
      rename (@LT.lt Nat _ h5.objs.size _ ∧ _) => l8
      exact Ne.symm (ltNe' l8.1)
    case ihJ =>
      rintro j kk ww bb ext ⟨_, bl, vs, e, _, rfl, _, n1, _, _, _⟩ q hq
      simp only [List.mem_cons, List.not_mem_nil, or_false] at hq
      rcases hq with rfl | rfl
      · exact n1
      · exact ltNe' (Heap.lt_size (N7 _ (.tail _ (.head _))).1)
    case ihE => passes_own
    case ifin =>
      intro h₆ tk₆ kk ww bb ext g₂ ps₂ cds₂ ot₂ ol₂ ow₂ ok₂ dd₂ hh₂ hV S2
      refine Classical.byContradiction fun hG => ?_
      obtain ⟨rfl, bl, vs, e, rfl, rfl, hvs, n1, n2, n3, hlen⟩ := hV
      refine hG ?_
      clear hG
      rw [hsz] at hlen hvs
      rw [take5] at hvs
      have F2 := S2.frame
      have N2 := S2.news
      simp only [List.cons_append, List.nil_append] at N2
      have hXg2 : (hd.heap_1 w.params).In g₂ := XB.keeps S2.below.stays
      have hTg2 : Top p loose mean mg mb g₂ := TB.keeps S2.below.stays
      have hcow2 := S2.cow
      have hcok2 := S2.cok
      have hcol2 := S2.col
      have hcot2 := S2.cot
      (try clear N9); (try clear N10); (try clear F10); (try clear N7); (try clear N8); (try clear F7); (try clear F8); (try clear Fz); (try clear Nz); (try clear F9)
      have hz2 : ∀ b o, hz.get? b = some o → g₂.get? b = some o := fun b o e => S2.turn.other b o (hzg b o e) (hzs b o e).2.2
      have B2 := S2.below
      have hty2 := IsList.keep hty hz2
      have hvx2 : (xs.map fun t => Value.ref t.1)[(0 + (i : Int)).toNat]? = some (.ref x) := by rw [Int.zero_add, Int.toNat_natCast, List.getElem?_map, hxi]; rfl
      have hkeys := G.keys _ _ hkv
      (try dsimp only)
      k_steps
      refine Stop.go ?_
      rename Fr g₂ L' _ _ => F3
      rename News g₂ L' _ _ => N3
      have stE : ∀ h : Heap, h.get? h5.objs.size = some oI → IsRangeIter h h5.objs.size (0 + ((i + 1 : Nat) : Int) * 1) (xs.length - (i + 1 : Nat)) 1 := fun h e => by
        have e3 := (S.news _ (.head _)).1
        exact e.trans (e3.symm.trans st)
      refine wpAny_call (codeAny_le (abstract_spec hXg2 B2 F3 N3 hTg2 rfl rfl ((hT0.keep hz2).keep F3.keep) (DictOf.keep (DictOf.keep hDz hz2) F3.keep) lod hkl hnmd ?_) rfl (Nat.le_of_ble_eq_true rfl) rfl rfl (Nat.le_of_ble_eq_true rfl))
      intro h8 tk8 a8 e8 vs8 all8 k8 F8 N8a hn8 hvs8 hpm8 hso8
      have N8 : News g₂ L' h8 ((a8, listOf vs8.toArray e8) :: _) := fun q hq => by
        rcases List.mem_cons.mp hq with rfl | hq
        · exact N8a _ (.head _)
        · exact news0 N3 k8 q hq
      clear F3 N3 N8a k8
      (try dsimp only)
      k_steps
      refine Stop.go ?_
      rename Fr g₂ L' _ _ => F3
      rename News g₂ L' _ _ => N3
      have hlb := News.isList N3 (a := bl) (by k_mem)
      refine' sorted_N_str (vs := vs) F3 N3 ?sl hvs ?sz ?_
      case sl => exact hlb
      case sz => omega
      intro h9 vs9 ss9 e9 F9 N9 hvs9 hpm9 hso9
      have hsame : bareOf kv all8 = ss9 := bare_sorted hkeys.1 hkeys.2 hpm8 hso8 hpm9 hso9
      rw [hsame] at hvs8
      clear F3 N3
      (try dsimp only)
      refine' Mine.ne_strs_same ?nA ?nB ?nC ?nD ?nE ?_
      case nA => exact News.isList N9 (by k_mem)
      case nB => exact News.isList N9 (by k_mem)
      case nC => exact hvs8
      case nD => exact hvs9
      case nE => exact Nat.le_of_ble_eq_true rfl
      by_cases hvn : vs = []
      · have hbn : bareOf kv lawKeys = [] := (strs_nil hvs).mp hvn
        have hbk := (bare_nil_law hkeys.1 hkeys.2).mpr hbn
        k_steps
        refine Stop.go ?_
        rename Fr g₂ L' _ _ => F3
        rename News g₂ L' _ _ => N3
        have N4 : News g₂ L' _ ((_, _) :: (h5.objs.size, oI) :: _) := fun q hq => (List.mem_cons.mp hq).elim (fun z => N3 q (by rw [z]; exact .head _)) (fun z => N3 q (.tail _ (.tail _ (.tail _ (.tail _ (.tail _ z))))))
        clear N3
        refine kla_eval rfl ?_
        refine lam_make (pre := [_, _, _, _, _, _]) (cds := cds₂) F3 N4 ?lh1 ?lh2 hTg2 (HC.keeps B2.stays) rfl S2.codes rfl ?_
        case lh1 =>
          exact all6 (by k_ne) (Ne.symm (ltNe' b2)) (Ne.symm (ltNe' (Nat.lt_of_lt_of_le b0 (Nat.le_add_right _ 4)))) (Ne.symm (ltNe' (Nat.lt_of_lt_of_le b0 (Nat.le_add_right _ 3)))) (Ne.symm (ltNe' (Nat.lt_of_lt_of_le b0 (Nat.le_add_right _ 2)))) (Ne.symm (ltNe' (Nat.lt_of_lt_of_le b0 (Nat.le_add_right _ 1))))
        case lh2 => exact fun q hq => Ne.symm (ltNe' (Nat.lt_trans (Nat.lt_of_lt_of_le b0 (Nat.le_add_right _ 4)) (S2.far q hq)))
        clear F3 N4
        intro fL cL ctvL hL tkL ps₃ cds₃ F3 N3 D3 hcr3 hlt3 hne3 hnew3
        simp only [List.cons_append, List.nil_append] at N3 hlt3 hnew3
        have far3 : ∀ q ∈ cds₃, @LT.lt Nat _ (L' + 1 + 1 + 1 + 1) q.1 := fun q hq => (hnew3 q hq).elim (S2.far q) (fun z => z (L' + 1 + 1 + 1 + 1, ow₂) (by simp))
        have ap3 : ∀ q ∈ cds₃, ∀ z ∈ [(h5.objs.size, oI)], q.1 ≠ z.1 := fun q hq z hz => (hnew3 q hq).elim (fun hq => S2.apart q hq z (by
          simp only [List.mem_cons, List.not_mem_nil, or_false] at hz ⊢
          rw [hz]; simp)) (fun w => Ne.symm (ltNe' (w z (by
          simp only [List.mem_cons, List.not_mem_nil, or_false] at hz ⊢
          rw [hz]; simp))))
        (try dsimp only)
        k_steps
        refine Stop.go ?_
        rename Fr g₂ L' _ _ => F4
        rename News g₂ L' _ _ => N4
        refine wpAny_call (codeAny_le (fell_told (v := .none) hXg2 B2 F4 N4 hTg2 rfl rfl ⟨_, _, _, _, (N4 (fL, _) (by k_mem)).1⟩ ?ask ?tell) rfl (Nat.le_of_ble_eq_true rfl) rfl rfl (Nat.le_of_ble_eq_true rfl))
        case ask =>
          intro A9 s9 g9 L9 m9 env9 R9 hk9 X9 B9 F9 T9 hf9 hke9 out9
          have hof9 := hk9 _ _ (N4 (fL, _) (by k_mem)).1
          have kz9 : ∀ b o, hz.get? b = some o → g9.get? b = some o := fun b o e => hk9 b o (F4.keep b o (hz2 b o e))
          have cr9 : g9.CodeRec (.ref cL) (Str.ofString "_law_types_right.<locals>.<lambda>") := by
            obtain ⟨c, oc, vs, tq, q1, q2, q3⟩ := hcr3.rec N4 (fun q hq => by simp [hq])
            exact ⟨c, oc, vs, tq, q1, hk9 _ _ q2, q3⟩
          have ct9 : CellAt g9 (L' + 1) (.ref types) := ⟨_, hk9 _ _ (N4 (L' + 1, _) (by k_mem)).1, S2.cot⟩
          have cl9 : CellAt g9 (L' + 1 + 1) (.int line tl) := ⟨_, hk9 _ _ (N4 (L' + 1 + 1, _) (by k_mem)).1, S2.col⟩
          have cw9 : CellAt g9 (L' + 1 + 1 + 1 + 1) (.int (0 + (i : Int)) ti) := ⟨_, hk9 _ _ (N4 (L' + 1 + 1 + 1 + 1, _) (by k_mem)).1, hcow2⟩
          clear F4 N4
          refine lam_enter B9 F9 X9 T9 rfl hf9 hke9 hof9 cr9 (Nat.le_of_ble_eq_true rfl) rfl (locs rfl) ?_ rfl rfl rfl (by decide)
          clear hof9
          intro g5 L5 h5' FG5 F5 N5 B5 X5 T5 hk5
          have kz5 : ∀ b o, hz.get? b = some o → g5.get? b = some o := fun b o e => hk5 b o (F9.keep b o (kz9 b o e))
          have ct5 := CellAt.keep ct9 (fun b o e => hk5 b o (F9.keep b o e))
          have cl5 := CellAt.keep cl9 (fun b o e => hk5 b o (F9.keep b o e))
          have cw5 := CellAt.keep cw9 (fun b o e => hk5 b o (F9.keep b o e))
          have ty5 := IsList.keep hty kz5
          dsimp only
          change wpAny _ _ _ _ _ _
          k_fold
          k_steps
          refine Stop.go ?_
          rename Fr g5 L5 _ _ => F6
          rename News g5 L5 _ _ => N6
          refine wpAny_call (codeAny_le (check_spec X5 B5 F6 N6 T5 rfl rfl ((hT0.keep kz5).keep F6.keep) (DictOf.keep (DictOf.keep hDz kz5) F6.keep) lod hkl hnmd ?cpost ?cbad) rfl (Nat.le_of_ble_eq_true rfl) rfl rfl (Nat.le_of_ble_eq_true rfl))
          case cbad => intro z; exact absurd hbk z
          intro _ h6 tk6 k6 F7
          clear F6 N6
          have N7 : News g5 L5 h6 [] := News.nil
          (try dsimp only)
          k_steps
          rename Fr g9 L9 _ _ => kF
          exact out9 _ _ kF
        case tell =>
          intro h9 tk9 a9 t9 k9 F9 N9a hn9
          have N9 : News g₂ L' h9 ((a9, argsObj [.str "told" t9, .none]) :: _) := fun q hq => by
            rcases List.mem_cons.mp hq with rfl | hq
            · exact N9a _ (.head _)
            · exact news0 N4 k9 q hq
          clear F4 N4 N9a
          (try dsimp only)
          k_steps
          rename Fr g₂ L' _ _ => F11
          rename News g₂ L' _ _ => N11
          refine hQE _ _ ?_
          show _ ∧ _
          refine ⟨stE _ (News.get (a := h5.objs.size) N11 (by k_mem)), _, _, kk, some (.int (0 + (i : Int)) ti), some (.ref bl), [], oI, g₂, ps₃, cds₃, ot₂, ol₂, ow₂, ok₂, _, hh₂, rfl, rfl, ⟨S2.turn, B2, fr_d F11, ?nw, D3, S2.cot, S2.col, S2.cow, S2.cok, far3, ap3⟩⟩
          exact fun q hq => N11 q (.tail _ (.tail _ (.tail _ (.tail _ hq))))
      · have hbn : bareOf kv lawKeys ≠ [] := fun z => hvn ((strs_nil hvs).mpr z)
        have hbk := fun z => hbn ((bare_nil_law hkeys.1 hkeys.2).mp z)
        k_steps
        refine Stop.go ?_
        rename Fr g₂ L' _ _ => F3
        rename News g₂ L' _ _ => N3
        have N4 : News g₂ L' _ ((_, _) :: (h5.objs.size, oI) :: _) := fun q hq => (List.mem_cons.mp hq).elim (fun z => N3 q (by rw [z]; exact .head _)) (fun z => N3 q (.tail _ (.tail _ (.tail _ (.tail _ (.tail _ z))))))
        clear N3
        refine kla_eval rfl ?_
        refine lam_make (pre := [_, _, _, _, _, _]) (cds := cds₂) F3 N4 ?zlh1 ?zlh2 hTg2 (HC.keeps B2.stays) rfl S2.codes rfl ?_
        case zlh1 =>
          exact all6 (by k_ne) (Ne.symm (ltNe' b2)) (Ne.symm (ltNe' (Nat.lt_of_lt_of_le b0 (Nat.le_add_right _ 4)))) (Ne.symm (ltNe' (Nat.lt_of_lt_of_le b0 (Nat.le_add_right _ 3)))) (Ne.symm (ltNe' (Nat.lt_of_lt_of_le b0 (Nat.le_add_right _ 2)))) (Ne.symm (ltNe' (Nat.lt_of_lt_of_le b0 (Nat.le_add_right _ 1))))
        case zlh2 => exact fun q hq => Ne.symm (ltNe' (Nat.lt_trans (Nat.lt_of_lt_of_le b0 (Nat.le_add_right _ 4)) (S2.far q hq)))
        clear F3 N4
        intro fL cL ctvL hL tkL ps₃ cds₃ F3 N3 D3 hcr3 hlt3 hne3 hnew3
        simp only [List.cons_append, List.nil_append] at N3 hlt3 hnew3
        have far3 : ∀ q ∈ cds₃, @LT.lt Nat _ (L' + 1 + 1 + 1 + 1) q.1 := fun q hq => (hnew3 q hq).elim (S2.far q) (fun z => z (L' + 1 + 1 + 1 + 1, ow₂) (by simp))
        have ap3 : ∀ q ∈ cds₃, ∀ z ∈ [(h5.objs.size, oI)], q.1 ≠ z.1 := fun q hq z hz => (hnew3 q hq).elim (fun hq => S2.apart q hq z (by
          simp only [List.mem_cons, List.not_mem_nil, or_false] at hz ⊢
          rw [hz]; simp)) (fun w => Ne.symm (ltNe' (w z (by
          simp only [List.mem_cons, List.not_mem_nil, or_false] at hz ⊢
          rw [hz]; simp))))
        (try dsimp only)
        k_steps
        refine Stop.go ?_
        rename Fr g₂ L' _ _ => F4
        rename News g₂ L' _ _ => N4
        refine wpAny_call (codeAny_le (fell_check (line := line) hXg2 B2 F4 N4 hTg2 rfl rfl ⟨_, _, _, _, (N4 (fL, _) (by k_mem)).1⟩ XB TB ?zask ?ztell) rfl (Nat.le_of_ble_eq_true rfl) rfl rfl (Nat.le_of_ble_eq_true rfl))
        case zask =>
          intro A9 s9 g9 L9 m9 env9 R9 hk9 X9 B9 F9 T9 hf9 hke9 out9
          have hof9 := hk9 _ _ (N4 (fL, _) (by k_mem)).1
          have kz9 : ∀ b o, hz.get? b = some o → g9.get? b = some o := fun b o e => hk9 b o (F4.keep b o (hz2 b o e))
          have cr9 : g9.CodeRec (.ref cL) (Str.ofString "_law_types_right.<locals>.<lambda>") := by
            obtain ⟨c, oc, vs, tq, q1, q2, q3⟩ := hcr3.rec N4 (fun q hq => by simp [hq])
            exact ⟨c, oc, vs, tq, q1, hk9 _ _ q2, q3⟩
          have ct9 : CellAt g9 (L' + 1) (.ref types) := ⟨_, hk9 _ _ (N4 (L' + 1, _) (by k_mem)).1, S2.cot⟩
          have cl9 : CellAt g9 (L' + 1 + 1) (.int line tl) := ⟨_, hk9 _ _ (N4 (L' + 1 + 1, _) (by k_mem)).1, S2.col⟩
          have cw9 : CellAt g9 (L' + 1 + 1 + 1 + 1) (.int (0 + (i : Int)) ti) := ⟨_, hk9 _ _ (N4 (L' + 1 + 1 + 1 + 1, _) (by k_mem)).1, hcow2⟩
          clear F4 N4
          refine lam_enter B9 F9 X9 T9 rfl hf9 hke9 hof9 cr9 (Nat.le_of_ble_eq_true rfl) rfl (locs rfl) ?_ rfl rfl rfl (by decide)
          clear hof9
          intro g5 L5 h5' FG5 F5 N5 B5 X5 T5 hk5
          have kz5 : ∀ b o, hz.get? b = some o → g5.get? b = some o := fun b o e => hk5 b o (F9.keep b o (kz9 b o e))
          have ct5 := CellAt.keep ct9 (fun b o e => hk5 b o (F9.keep b o e))
          have cl5 := CellAt.keep cl9 (fun b o e => hk5 b o (F9.keep b o e))
          have cw5 := CellAt.keep cw9 (fun b o e => hk5 b o (F9.keep b o e))
          have ty5 := IsList.keep hty kz5
          dsimp only
          change wpAny _ _ _ _ _ _
          k_fold
          k_steps
          refine Stop.go ?_
          rename Fr g5 L5 _ _ => F6
          rename News g5 L5 _ _ => N6
          refine wpAny_call (codeAny_le (check_spec X5 B5 F6 N6 T5 rfl rfl ((hT0.keep kz5).keep F6.keep) (DictOf.keep (DictOf.keep hDz kz5) F6.keep) lod hkl hnmd ?zcpost ?zcbad) rfl (Nat.le_of_ble_eq_true rfl) rfl rfl (Nat.le_of_ble_eq_true rfl))
          case zcpost => intro z; exact absurd z hbk
          intro _ h6 tk6 e6 dx6 dobj6 hw6 hfly6
          (try dsimp only)
          refine leave_on B5 F6 hfly6 rfl fun h6' hfly7 => ?_
          exact out9 _ _ e6 dx6 _ hw6 (hfly7.mono (fun b o e => hk5 b o e))
        case ztell =>
          clear F4 N4
          intro h9 g9 tk9 a9 t9 tl9 T9 F9 N9 B9
          have X9 : (hd.heap_1 w.params).In g9 := XB.keeps B9.stays
          have Tp9 : Top p loose mean mg mb g9 := TB.keeps B9.stays
          (try dsimp only)
          k_steps
          rename Fr g9 L' _ _ => F11
          rename News g9 L' _ _ => N11
          refine hQE _ _ ?_
          show _ ∧ _
          refine ⟨stE _ (News.get (a := h5.objs.size) N11 (by k_mem)), _, _, kk, some (.int (0 + (i : Int)) ti), some (.ref bl), [], oI, g9, ps₃, cds₃, ot₂, ol₂, ow₂, ok₂, _, hh₂, rfl, rfl, ⟨S2.turn.trans T9, B9, fr_d F11, ?znw, D3, S2.cot, S2.col, S2.cow, S2.cok, far3, ap3⟩⟩
          exact fun q hq => N11 q (.tail _ (.tail _ (.tail _ (.tail _ hq))))
    -- end of ifin
    case istep =>
      intro j v h₆ tk₆ kk ww bb ext oJ g₂ ps₂ cds₂ ot₂ ol₂ ow₂ ok₂ dd₂ hh₂ hj hPv st₂ hV S2 QI hQI
      refine Classical.byContradiction fun hG => ?_
      obtain ⟨rfl, bl, vs, e, rfl, rfl, hvs, n1, n2, n3, hlen⟩ := hV
      obtain ⟨key, tk, rfl, hkey⟩ := hits _ _ hPv
      refine hG ?_
      clear hG
      have F2 := S2.frame
      have N2 := S2.news
      simp only [List.cons_append, List.nil_append] at N2
      have e1 : ∀ q ∈ cds₂, q.1 ≠ L' + 1 + 1 + 1 + 1 := fun q hq => Ne.symm (ltNe' (S2.far q hq))
      have e2 : ∀ q ∈ cds₂, q.1 ≠ L' + 1 + 1 + 1 := fun q hq => Ne.symm (ltNe' (Nat.lt_trans (Nat.lt_succ_self _) (S2.far q hq)))
      have hXg2 : (hd.heap_1 w.params).In g₂ := XB.keeps S2.below.stays
      have hTg2 : Top p loose mean mg mb g₂ := TB.keeps S2.below.stays
      have b5 : @LT.lt Nat _ bl bl.succ := Nat.lt_succ_self _
      have hcow2 := S2.cow
      have hcok2 := S2.cok
      have hcol2 := S2.col
      have hcot2 := S2.cot
      (try clear N9); (try clear N10); (try clear F10); (try clear N7); (try clear N8); (try clear F7); (try clear F8); (try clear Fz); (try clear Nz); (try clear F9)
      have hz2 : ∀ b o, hz.get? b = some o → g₂.get? b = some o := fun b o e => S2.turn.other b o (hzg b o e) (hzs b o e).2.2
      have hB2 := hB.keep hz2
      have B2 := S2.below
      have hll : laid.length ≤ 16 := by have := G.nlaid; omega
      k_steps
      refine Stop.go ?_
      rename Fr g₂ L' _ _ => F3
      rename News g₂ L' _ _ => N3
      rename (_ = Data.cell (some (Value.str key _))) => hck
      rename Obj => oK
      have stE : ∀ h : Heap, h.get? h7.objs.size = some oJ → (∀ b o, base.get? b = some o → h.get? b = some o) → h.IsTupleIter h7.objs.size 165 (j + 1) ∧ h.IsTuple 165 its := fun h e k => by
        obtain ⟨⟨o, e1, e2⟩, _⟩ := st₂
        have e3 := (S2.news _ (.head _)).1
        rw [e1] at e3
        cases e3
        exact ⟨⟨_, e, e2⟩, IsTup.keeps htupB k⟩
      refine wpAny_call (codeAny_le (found_spec w 8 hXg2 B2 F3 N3 hTg2 rfl rfl (D := 600) (U := 5000) (by omega) (by omega) (hB2.keep F3.keep) G.le7 hll G.hpar (by omega) (by have := G.le7; omega) (by omega) ?_) rfl (Nat.le_of_ble_eq_true rfl) rfl rfl (Nat.le_of_ble_eq_true rfl))
      intro h8 tk8 v8 k8 F8 N8' hv8 hfr8
      rw [show (0 : Int) + (i : Int) = ((i : Nat) : Int) from Int.zero_add _] at hv8
      generalize hfd : found made laid 8 (i : Int) key 99 = fd at hv8
      rcases fd with _ | ⟨nm8, ix8⟩
      · have hv8' : v8 = Value.none := hv8
        subst hv8'
        clear F3 N3
        have N8 := N8'
        clear N8'
        have hlk : look kv key = none := by rw [← hopk, G.opAt him key, hfd]; rfl
        have hval : valueAt kvs key = none ∨ ∃ tn, valueAt kvs key = some (.str (Str.ofString "") tn) := by
          rcases hnmd.at key with ⟨a, _⟩ | ⟨nm, t, _, b⟩
          · exact .inl a
          · rw [hlk] at b; cases b
        have hbs : bareOf kv (lawKeys.take (j + 1)) = bareOf kv (lawKeys.take j) := by rw [bare_step hkey, bare_none (by rw [hlk]; simp), List.append_nil]
        (try dsimp only)
        k_steps
        refine Stop.go ?_
        rename Fr g₂ L' _ _ => F3
        rename News g₂ L' _ _ => N3
        refine kla_eval rfl ?_
        refine lam_make (pre := [_, _, _, _, _, _, _]) (cds := cds₂) F3 N3 ?xah1 ?xah2 hTg2 (HC.keeps B2.stays) rfl S2.codes rfl ?_
        case xah1 =>
          exact all7 (Ne.symm (ltNe' b4)) (Ne.symm (ltNe' (Nat.lt_trans (Nat.lt_of_lt_of_le b0 (Nat.le_add_right _ 4)) n2))) (Ne.symm (ltNe' b2)) (Ne.symm (ltNe' (Nat.lt_of_lt_of_le b0 (Nat.le_add_right _ 4)))) (Ne.symm (ltNe' (Nat.lt_of_lt_of_le b0 (Nat.le_add_right _ 3)))) (Ne.symm (ltNe' (Nat.lt_of_lt_of_le b0 (Nat.le_add_right _ 2)))) (Ne.symm (ltNe' (Nat.lt_of_lt_of_le b0 (Nat.le_add_right _ 1))))
        case xah2 => exact fun q hq => Ne.symm (ltNe' (Nat.lt_trans (Nat.lt_of_lt_of_le b0 (Nat.le_add_right _ 4)) (S2.far q hq)))
        clear F3 N3
        intro fL cL ctvL hL tkL ps₃ cds₃ F3 N3 D3 hcr3 hlt3 hne3 hnew3
        simp only [List.cons_append, List.nil_append] at N3 hlt3 hnew3
        (try dsimp only)
        k_steps
        refine Stop.go ?_
        rename Fr g₂ L' _ _ => F4
        rename News g₂ L' _ _ => N4
        have far3 : ∀ q ∈ cds₃, @LT.lt Nat _ (L' + 1 + 1 + 1 + 1) q.1 := fun q hq => (hnew3 q hq).elim (S2.far q) (fun z => z (L' + 1 + 1 + 1 + 1, ow₂) (by simp))
        have ap3 : ∀ q ∈ cds₃, ∀ z ∈ [(h7.objs.size, oJ), (bl, listOf vs.toArray e), (h5.objs.size, oI)], q.1 ≠ z.1 := fun q hq z hz => (hnew3 q hq).elim (fun hq => S2.apart q hq z hz) (fun w => Ne.symm (ltNe' (w z (List.mem_append_left _ hz))))
        refine wpAny_call (codeAny_le (fell_wrong (line := line) (wd := Str.ofString "program_error") hXg2 B2 F4 N4 hTg2 rfl rfl ⟨_, _, _, _, (N4 (fL, _) (by k_mem)).1⟩ XB TB ?xaask (News.isTup N4 (by k_mem)) ?xatell) rfl (Nat.le_of_ble_eq_true rfl) rfl rfl (Nat.le_of_ble_eq_true rfl))
        case xaask =>
          intro A9 s9 g9 L9 m9 env9 R9 hk9 X9 B9 F9 T9 hf9 hke9 out9
          have hof9 := hk9 _ _ (N4 (fL, _) (by k_mem)).1
          have kz9 : ∀ b o, hz.get? b = some o → g9.get? b = some o := fun b o e => hk9 b o (F4.keep b o (hz2 b o e))
          have cr9 : g9.CodeRec (.ref cL) (Str.ofString "_law_types_right.<locals>.<lambda>") := by
            obtain ⟨c, oc, vs, tq, q1, q2, q3⟩ := hcr3.rec N4 (fun q hq => by simp [hq])
            exact ⟨c, oc, vs, tq, q1, hk9 _ _ q2, q3⟩
          have ct9 : CellAt g9 (L' + 1) (.ref types) := ⟨_, hk9 _ _ (N4 (L' + 1, _) (by k_mem)).1, S2.cot⟩
          have cl9 : CellAt g9 (L' + 1 + 1) (.int line tl) := ⟨_, hk9 _ _ (N4 (L' + 1 + 1, _) (by k_mem)).1, S2.col⟩
          have ck9 : CellAt g9 (L' + 1 + 1 + 1) (.str key _) := ⟨_, hk9 _ _ (N4 (L' + 1 + 1 + 1, _) (by k_mem)).1, hck⟩
          have cw9 : CellAt g9 (L' + 1 + 1 + 1 + 1) (.int (0 + (i : Int)) ti) := ⟨_, hk9 _ _ (N4 (L' + 1 + 1 + 1 + 1, _) (by k_mem)).1, hcow2⟩
          clear F4 N4
          refine lam_enter B9 F9 X9 T9 rfl hf9 hke9 hof9 cr9 (Nat.le_of_ble_eq_true rfl) rfl (locs rfl) ?_ rfl rfl rfl (by decide)
          clear hof9
          intro g5 L5 h5' FG5 F5 N5 B5 X5 T5 hk5
          have kz5 : ∀ b o, hz.get? b = some o → g5.get? b = some o := fun b o e => hk5 b o (F9.keep b o (kz9 b o e))
          have ct5 := CellAt.keep ct9 (fun b o e => hk5 b o (F9.keep b o e))
          have cl5 := CellAt.keep cl9 (fun b o e => hk5 b o (F9.keep b o e))
          have ck5 := CellAt.keep ck9 (fun b o e => hk5 b o (F9.keep b o e))
          have cw5 := CellAt.keep cw9 (fun b o e => hk5 b o (F9.keep b o e))
          have ty5 := IsList.keep hty kz5
          have hvx5 : (xs.map fun t => Value.ref t.1)[(0 + (i : Int)).toNat]? = some (.ref x) := by rw [Int.zero_add, Int.toNat_natCast, List.getElem?_map, hxi]; rfl
          dsimp only
          change wpAny _ _ _ _ _ _
          k_fold
          k_steps
          refine Stop.go ?_
          rename Fr g5 L5 _ _ => F6
          rename News g5 L5 _ _ => N6
          refine wpAny_call (codeAny_le (dispatch_wrong X5 B5 F6 N6 T5 rfl rfl ((hT0.keep kz5).keep F6.keep) (DictOf.keep (DictOf.keep hDz kz5) F6.keep) lod hval ?_) rfl (Nat.le_of_ble_eq_true rfl) rfl rfl (Nat.le_of_ble_eq_true rfl))
          intro h6 tk6 e6 dx6 dobj6 hw6 hfly6
          (try dsimp only)
          refine leave_on B5 F6 hfly6 rfl fun h6' hfly7 => ?_
          exact out9 _ _ e6 dx6 _ hw6 (hfly7.mono (fun b o e => hk5 b o e))
        case xatell =>
          clear F4 N4
          intro h9 g9 tk9 a9 t9 tl9 T9 F9 N9 B9
          have X9 : (hd.heap_1 w.params).In g9 := XB.keeps B9.stays
          have Tp9 : Top p loose mean mg mb g9 := TB.keeps B9.stays
          have hz9 : ∀ b o, hz.get? b = some o → g9.get? b = some o := fun b o e => T9.other b o (hz2 b o e) (hzs b o e).2.2
          have hty9 := IsList.keep hty hz9
          have hvx9 : (xs.map fun t => Value.ref t.1)[(0 + (i : Int)).toNat]? = some (.ref x) := by rw [Int.zero_add, Int.toNat_natCast, List.getElem?_map, hxi]; rfl
          (try dsimp only)
          k_steps
          refine Stop.go ?_
          rename Fr g9 L' _ _ => F10
          rename News g9 L' _ _ => N10
          refine wpAny_call (codeAny_le (home_spec X9 B9 F10 N10 Tp9 rfl rfl ((hFo.keep hz9).keep F10.keep) hxi G.hpar ?xahn ?xahs (by have := G.le7; omega)) rfl (Nat.le_of_ble_eq_true rfl) rfl rfl (Nat.le_of_ble_eq_true rfl))
          case xahs => intro z; exact absurd (by rw [hopk, hlk]) z
          case xahn =>
            intro _ h11 tk11 k11 F11
            have N11 := news0 N10 k11
            clear F10 N10
            (try dsimp only)
            k_steps
            refine hQI _ _ ?_
            show _ ∧ _
            refine ⟨stE _ (News.get (a := h7.objs.size) N11 (by k_mem)) (fun b o e => F11.keep b o (B9.stays b o e)), _, _, some (.str key _), some (.int (0 + (i : Int)) ti), some (.ref bl), _, oJ, g9, ps₃, cds₃, ot₂, ol₂, ow₂, _, some .none, some (.ref a9), rfl, ⟨rfl, bl, _, _, rfl, rfl, ?xavs, n1, n2, n3, ?xaln⟩, ⟨S2.turn.trans T9, B9, ?xafr, ?xanw, D3, S2.cot, S2.col, hcow2, hck, far3, ap3⟩⟩
            case xavs => rw [hbs]; exact hvs
            case xaln => omega
            case xafr => exact fr_hd F11
            case xanw => exact fun q hq => N11 q (.tail _ (.tail _ (.tail _ (.tail _ hq))))
      · refine Classical.byContradiction fun hG => ?_
        obtain ⟨a8, ta8, tb8, rfl, o8, hg8, hc8, n8, hd8⟩ := hv8
        refine hG ?_
        clear hG
        have gn8 : g₂.get? a8 = none := kts_none F3.keep (hfr8 a8 rfl)
        have a8L : a8 ≠ L' := fun z => by
          obtain ⟨oL, es, ep, hL, _⟩ := F3.ns
          have := hfr8 a8 rfl
          rw [z, hL] at this; cases this
        have N8 : News g₂ L' h8 ((a8, o8) :: _) := fun q hq => by
          rcases List.mem_cons.mp hq with rfl | hq
          · exact ⟨hg8, a8L, gn8⟩
          · exact N8' q hq
        have b6 : a8 ≠ 191 := fun z => by
          have e := (N3 (191, _) (by k_mem)).1
          rw [← show a8 = 191 from z, hfr8 a8 rfl] at e; cases e
        have hd8' : o8.data = .seq (List.toArray [.str nm8 ta8, .int ix8 tb8]) n8 := hd8
        clear N8' N3 F3
        by_cases hnm8 : nm8 = Str.ofString ""
        · subst hnm8
          have hlk : look kv key = some (Str.ofString "") := by rw [← hopk, G.opAt him key, hfd]; rfl
          have hval : valueAt kvs key = none ∨ ∃ tn, valueAt kvs key = some (.str (Str.ofString "") tn) := by
            rcases hnmd.at key with ⟨a, _⟩ | ⟨nm, t, hva, b⟩
            · exact .inl a
            · rw [hlk] at b; cases b; exact .inr ⟨_, hva⟩
          have hbs : bareOf kv (lawKeys.take (j + 1)) = bareOf kv (lawKeys.take j) ++ [key] := by rw [bare_step hkey, bare_some hlk]
          (try dsimp only)
          k_steps
          refine Stop.go ?_
          rename Fr g₂ L' _ _ => F3
          rename News g₂ L' _ _ => N3
          refine kla_eval rfl ?_
          refine lam_make (pre := [_, _, _, _, _, _, _, _]) (cds := cds₂) F3 N3 ?xbh1 ?xbh2 hTg2 (HC.keeps B2.stays) rfl S2.codes rfl ?_
          case xbh1 =>
            exact all8 (b6) (Ne.symm (ltNe' b4)) (Ne.symm (ltNe' (Nat.lt_trans (Nat.lt_of_lt_of_le b0 (Nat.le_add_right _ 4)) n2))) (Ne.symm (ltNe' b2)) (Ne.symm (ltNe' (Nat.lt_of_lt_of_le b0 (Nat.le_add_right _ 4)))) (Ne.symm (ltNe' (Nat.lt_of_lt_of_le b0 (Nat.le_add_right _ 3)))) (Ne.symm (ltNe' (Nat.lt_of_lt_of_le b0 (Nat.le_add_right _ 2)))) (Ne.symm (ltNe' (Nat.lt_of_lt_of_le b0 (Nat.le_add_right _ 1))))
          case xbh2 => exact fun q hq => Ne.symm (ltNe' (Nat.lt_trans (Nat.lt_of_lt_of_le b0 (Nat.le_add_right _ 4)) (S2.far q hq)))
          clear F3 N3
          intro fL cL ctvL hL tkL ps₃ cds₃ F3 N3 D3 hcr3 hlt3 hne3 hnew3
          simp only [List.cons_append, List.nil_append] at N3 hlt3 hnew3
          (try dsimp only)
          k_steps
          refine Stop.go ?_
          rename Fr g₂ L' _ _ => F4
          rename News g₂ L' _ _ => N4
          have far3 : ∀ q ∈ cds₃, @LT.lt Nat _ (L' + 1 + 1 + 1 + 1) q.1 := fun q hq => (hnew3 q hq).elim (S2.far q) (fun z => z (L' + 1 + 1 + 1 + 1, ow₂) (by simp))
          have ap3 : ∀ q ∈ cds₃, ∀ z ∈ [(h7.objs.size, oJ), (bl, listOf vs.toArray e), (h5.objs.size, oI)], q.1 ≠ z.1 := fun q hq z hz => (hnew3 q hq).elim (fun hq => S2.apart q hq z hz) (fun w => Ne.symm (ltNe' (w z (.tail _ (List.mem_append_left _ hz)))))
          refine wpAny_call (codeAny_le (fell_wrong (line := line) (wd := Str.ofString "program_error") hXg2 B2 F4 N4 hTg2 rfl rfl ⟨_, _, _, _, (N4 (fL, _) (by k_mem)).1⟩ XB TB ?xbask (News.isTup N4 (by k_mem)) ?xbtell) rfl (Nat.le_of_ble_eq_true rfl) rfl rfl (Nat.le_of_ble_eq_true rfl))
          case xbask =>
            intro A9 s9 g9 L9 m9 env9 R9 hk9 X9 B9 F9 T9 hf9 hke9 out9
            have hof9 := hk9 _ _ (N4 (fL, _) (by k_mem)).1
            have kz9 : ∀ b o, hz.get? b = some o → g9.get? b = some o := fun b o e => hk9 b o (F4.keep b o (hz2 b o e))
            have cr9 : g9.CodeRec (.ref cL) (Str.ofString "_law_types_right.<locals>.<lambda>") := by
              obtain ⟨c, oc, vs, tq, q1, q2, q3⟩ := hcr3.rec N4 (fun q hq => by simp [hq])
              exact ⟨c, oc, vs, tq, q1, hk9 _ _ q2, q3⟩
            have ct9 : CellAt g9 (L' + 1) (.ref types) := ⟨_, hk9 _ _ (N4 (L' + 1, _) (by k_mem)).1, S2.cot⟩
            have cl9 : CellAt g9 (L' + 1 + 1) (.int line tl) := ⟨_, hk9 _ _ (N4 (L' + 1 + 1, _) (by k_mem)).1, S2.col⟩
            have ck9 : CellAt g9 (L' + 1 + 1 + 1) (.str key _) := ⟨_, hk9 _ _ (N4 (L' + 1 + 1 + 1, _) (by k_mem)).1, hck⟩
            have cw9 : CellAt g9 (L' + 1 + 1 + 1 + 1) (.int (0 + (i : Int)) ti) := ⟨_, hk9 _ _ (N4 (L' + 1 + 1 + 1 + 1, _) (by k_mem)).1, hcow2⟩
            clear F4 N4
            refine lam_enter B9 F9 X9 T9 rfl hf9 hke9 hof9 cr9 (Nat.le_of_ble_eq_true rfl) rfl (locs rfl) ?_ rfl rfl rfl (by decide)
            clear hof9
            intro g5 L5 h5' FG5 F5 N5 B5 X5 T5 hk5
            have kz5 : ∀ b o, hz.get? b = some o → g5.get? b = some o := fun b o e => hk5 b o (F9.keep b o (kz9 b o e))
            have ct5 := CellAt.keep ct9 (fun b o e => hk5 b o (F9.keep b o e))
            have cl5 := CellAt.keep cl9 (fun b o e => hk5 b o (F9.keep b o e))
            have ck5 := CellAt.keep ck9 (fun b o e => hk5 b o (F9.keep b o e))
            have cw5 := CellAt.keep cw9 (fun b o e => hk5 b o (F9.keep b o e))
            have ty5 := IsList.keep hty kz5
            have hvx5 : (xs.map fun t => Value.ref t.1)[(0 + (i : Int)).toNat]? = some (.ref x) := by rw [Int.zero_add, Int.toNat_natCast, List.getElem?_map, hxi]; rfl
            dsimp only
            change wpAny _ _ _ _ _ _
            k_fold
            k_steps
            refine Stop.go ?_
            rename Fr g5 L5 _ _ => F6
            rename News g5 L5 _ _ => N6
            refine wpAny_call (codeAny_le (dispatch_wrong X5 B5 F6 N6 T5 rfl rfl ((hT0.keep kz5).keep F6.keep) (DictOf.keep (DictOf.keep hDz kz5) F6.keep) lod hval ?_) rfl (Nat.le_of_ble_eq_true rfl) rfl rfl (Nat.le_of_ble_eq_true rfl))
            intro h6 tk6 e6 dx6 dobj6 hw6 hfly6
            (try dsimp only)
            refine leave_on B5 F6 hfly6 rfl fun h6' hfly7 => ?_
            exact out9 _ _ e6 dx6 _ hw6 (hfly7.mono (fun b o e => hk5 b o e))
          case xbtell =>
            clear F4 N4
            intro h9 g9 tk9 a9 t9 tl9 T9 F9 N9 B9
            have X9 : (hd.heap_1 w.params).In g9 := XB.keeps B9.stays
            have Tp9 : Top p loose mean mg mb g9 := TB.keeps B9.stays
            have hz9 : ∀ b o, hz.get? b = some o → g9.get? b = some o := fun b o e => T9.other b o (hz2 b o e) (hzs b o e).2.2
            have hty9 := IsList.keep hty hz9
            have hvx9 : (xs.map fun t => Value.ref t.1)[(0 + (i : Int)).toNat]? = some (.ref x) := by rw [Int.zero_add, Int.toNat_natCast, List.getElem?_map, hxi]; rfl
            (try dsimp only)
            have na9 : @Ne Nat a9 bl := ne_kinds N9 (by k_mem) (by k_mem) rfl rfl (by decide)
            have na8 : @Ne Nat a8 bl := ne_kinds N9 (by k_mem) (by k_mem) hc8 rfl (by decide)
            have nc8 : ∀ q ∈ cds₃, q.1 ≠ bl := fun q hq => ap3 q hq _ (.tail _ (.head _))
            have hlt4 := hlt3
            k_lt hlt4
            k_steps
            rename Fr g9 L' _ _ => F11
            rename News g9 L' _ _ => N11
            have far3' := far3
            have ap3' : ∀ (o' : Obj), ∀ q ∈ cds₃, ∀ z ∈ [(h7.objs.size, oJ), (bl, o'), (h5.objs.size, oI)], q.1 ≠ z.1 := fun o' q hq z hz => by
              simp only [List.mem_cons, List.not_mem_nil, or_false] at hz
              rcases hz with z | z | z <;> rw [z]
              · exact ap3 q hq _ (.head _)
              · exact ap3 q hq (bl, listOf vs.toArray e) (.tail _ (.head _))
              · exact ap3 q hq _ (.tail _ (.tail _ (.head _)))
            obtain ⟨vs', e', hvs', hlen', N12⟩ : ∃ vs' e', StrsAre vs' (bareOf kv (lawKeys.take (j + 1))) ∧ vs'.length ≤ j + 1 ∧ News g9 L' _ ((h7.objs.size, oJ) :: (bl, listOf (vs' : List Value).toArray e') :: (h5.objs.size, oI) :: (L' + 1 + 1 + 1 + 1, ow₂) :: (L' + 1 + 1 + 1, oK) :: (L' + 1 + 1, ol₂) :: (L' + 1, ot₂) :: (191, tabObj ps₃) :: cds₃) :=
              ⟨_, _, by rw [hbs, List.concat_eq_append, List.toList_toArray]; exact strs_snoc hvs, by simp; omega, fun q hq => N11 q (.tail _ (.tail _ (.tail _ (.tail _ (.tail _ hq)))))⟩
            refine hQI _ _ ?_
            show _ ∧ _
            refine ⟨stE _ (News.get (a := h7.objs.size) N12 (by k_mem)) (fun b o e => F11.keep b o (B9.stays b o e)), _, _, some (.str key _), some (.int (0 + (i : Int)) ti), some (.ref bl), _, oJ, g9, ps₃, cds₃, ot₂, ol₂, ow₂, _, some (.ref a8), some (.ref a9), rfl, ⟨rfl, bl, vs', e', rfl, rfl, hvs', n1, n2, n3, hlen'⟩, ⟨S2.turn.trans T9, B9, ?xbfr, ?xbnw, D3, S2.cot, S2.col, hcow2, hck, far3, ap3' _⟩⟩
            case xbfr => exact fr_hd F11
            case xbnw => exact N12
        · have hlk : look kv key = some nm8 := by rw [← hopk, G.opAt him key, hfd]; rfl
          obtain ⟨tn8, hval⟩ : ∃ tn, valueAt kvs key = some (.str nm8 tn) := by
            rcases hnmd.at key with ⟨_, b⟩ | ⟨nm, t, hva, b⟩
            · rw [hlk] at b; cases b
            · rw [hlk] at b; cases b; exact ⟨_, hva⟩
          have hbs : bareOf kv (lawKeys.take (j + 1)) = bareOf kv (lawKeys.take j) := by rw [bare_step hkey, bare_none (by rw [hlk]; intro z; exact hnm8 (Option.some.inj z)), List.append_nil]
          (try dsimp only)
          k_steps
          refine Stop.go ?_
          rename Fr g₂ L' _ _ => F3
          rename News g₂ L' _ _ => N3
          refine kla_eval rfl ?_
          refine lam_make (pre := [_, _, _, _, _, _, _, _]) (cds := cds₂) F3 N3 ?xch1 ?xch2 hTg2 (HC.keeps B2.stays) rfl S2.codes rfl ?_
          case xch1 =>
            exact all8 (b6) (Ne.symm (ltNe' b4)) (Ne.symm (ltNe' (Nat.lt_trans (Nat.lt_of_lt_of_le b0 (Nat.le_add_right _ 4)) n2))) (Ne.symm (ltNe' b2)) (Ne.symm (ltNe' (Nat.lt_of_lt_of_le b0 (Nat.le_add_right _ 4)))) (Ne.symm (ltNe' (Nat.lt_of_lt_of_le b0 (Nat.le_add_right _ 3)))) (Ne.symm (ltNe' (Nat.lt_of_lt_of_le b0 (Nat.le_add_right _ 2)))) (Ne.symm (ltNe' (Nat.lt_of_lt_of_le b0 (Nat.le_add_right _ 1))))
          case xch2 => exact fun q hq => Ne.symm (ltNe' (Nat.lt_trans (Nat.lt_of_lt_of_le b0 (Nat.le_add_right _ 4)) (S2.far q hq)))
          clear F3 N3
          intro fL cL ctvL hL tkL ps₃ cds₃ F3 N3 D3 hcr3 hlt3 hne3 hnew3
          simp only [List.cons_append, List.nil_append] at N3 hlt3 hnew3
          (try dsimp only)
          k_steps
          refine Stop.go ?_
          rename Fr g₂ L' _ _ => F4
          rename News g₂ L' _ _ => N4
          have far3 : ∀ q ∈ cds₃, @LT.lt Nat _ (L' + 1 + 1 + 1 + 1) q.1 := fun q hq => (hnew3 q hq).elim (S2.far q) (fun z => z (L' + 1 + 1 + 1 + 1, ow₂) (by simp))
          have ap3 : ∀ q ∈ cds₃, ∀ z ∈ [(h7.objs.size, oJ), (bl, listOf vs.toArray e), (h5.objs.size, oI)], q.1 ≠ z.1 := fun q hq z hz => (hnew3 q hq).elim (fun hq => S2.apart q hq z hz) (fun w => Ne.symm (ltNe' (w z (.tail _ (List.mem_append_left _ hz)))))
          refine wpAny_call (codeAny_le (fell_told (v := .str nm8 tn8) hXg2 B2 F4 N4 hTg2 rfl rfl ⟨_, _, _, _, (N4 (fL, _) (by k_mem)).1⟩ ?xcask ?xctell) rfl (Nat.le_of_ble_eq_true rfl) rfl rfl (Nat.le_of_ble_eq_true rfl))
          case xcask =>
            intro A9 s9 g9 L9 m9 env9 R9 hk9 X9 B9 F9 T9 hf9 hke9 out9
            have hof9 := hk9 _ _ (N4 (fL, _) (by k_mem)).1
            have kz9 : ∀ b o, hz.get? b = some o → g9.get? b = some o := fun b o e => hk9 b o (F4.keep b o (hz2 b o e))
            have cr9 : g9.CodeRec (.ref cL) (Str.ofString "_law_types_right.<locals>.<lambda>") := by
              obtain ⟨c, oc, vs, tq, q1, q2, q3⟩ := hcr3.rec N4 (fun q hq => by simp [hq])
              exact ⟨c, oc, vs, tq, q1, hk9 _ _ q2, q3⟩
            have ct9 : CellAt g9 (L' + 1) (.ref types) := ⟨_, hk9 _ _ (N4 (L' + 1, _) (by k_mem)).1, S2.cot⟩
            have cl9 : CellAt g9 (L' + 1 + 1) (.int line tl) := ⟨_, hk9 _ _ (N4 (L' + 1 + 1, _) (by k_mem)).1, S2.col⟩
            have ck9 : CellAt g9 (L' + 1 + 1 + 1) (.str key _) := ⟨_, hk9 _ _ (N4 (L' + 1 + 1 + 1, _) (by k_mem)).1, hck⟩
            have cw9 : CellAt g9 (L' + 1 + 1 + 1 + 1) (.int (0 + (i : Int)) ti) := ⟨_, hk9 _ _ (N4 (L' + 1 + 1 + 1 + 1, _) (by k_mem)).1, hcow2⟩
            clear F4 N4
            refine lam_enter B9 F9 X9 T9 rfl hf9 hke9 hof9 cr9 (Nat.le_of_ble_eq_true rfl) rfl (locs rfl) ?_ rfl rfl rfl (by decide)
            clear hof9
            intro g5 L5 h5' FG5 F5 N5 B5 X5 T5 hk5
            have kz5 : ∀ b o, hz.get? b = some o → g5.get? b = some o := fun b o e => hk5 b o (F9.keep b o (kz9 b o e))
            have ct5 := CellAt.keep ct9 (fun b o e => hk5 b o (F9.keep b o e))
            have cl5 := CellAt.keep cl9 (fun b o e => hk5 b o (F9.keep b o e))
            have ck5 := CellAt.keep ck9 (fun b o e => hk5 b o (F9.keep b o e))
            have cw5 := CellAt.keep cw9 (fun b o e => hk5 b o (F9.keep b o e))
            have ty5 := IsList.keep hty kz5
            have hvx5 : (xs.map fun t => Value.ref t.1)[(0 + (i : Int)).toNat]? = some (.ref x) := by rw [Int.zero_add, Int.toNat_natCast, List.getElem?_map, hxi]; rfl
            dsimp only
            change wpAny _ _ _ _ _ _
            k_fold
            k_steps
            refine Stop.go ?_
            rename Fr g5 L5 _ _ => F6
            rename News g5 L5 _ _ => N6
            refine wpAny_call (codeAny_le (dispatch_told X5 B5 F6 N6 T5 rfl rfl ((hT0.keep kz5).keep F6.keep) (DictOf.keep (DictOf.keep hDz kz5) F6.keep) lod hval hnm8 ?_) rfl (Nat.le_of_ble_eq_true rfl) rfl rfl (Nat.le_of_ble_eq_true rfl))
            intro h6 tk6 k6 F7
            clear F6 N6
            have N7 : News g5 L5 h6 [] := News.nil
            (try dsimp only)
            k_steps
            rename Fr g9 L9 _ _ => kF
            exact out9 _ _ kF
          case xctell =>
            intro h9 tk9 a9 t9 k9 F9 N9a hn9
            have N9 : News g₂ L' h9 ((a9, argsObj [.str "told" t9, .str nm8 tn8]) :: _) := fun q hq => by
              rcases List.mem_cons.mp hq with rfl | hq
              · exact N9a _ (.head _)
              · exact news0 N4 k9 q hq
            clear F4 N4 N9a
            have hty9 := IsList.keep hty hz2
            have hvx9 : (xs.map fun t => Value.ref t.1)[(0 + (i : Int)).toNat]? = some (.ref x) := by rw [Int.zero_add, Int.toNat_natCast, List.getElem?_map, hxi]; rfl
            have hnb : (nm8 == Str.ofString "") = false := by simpa using hnm8
            have hnb' : ¬ ((nm8 == Str.ofString "") = true) := by simpa using hnm8
            (try dsimp only)
            k_steps
            refine Stop.go ?_
            rename Fr g₂ L' _ _ => F10
            rename News g₂ L' _ _ => N10
            refine wpAny_call (codeAny_le (home_spec hXg2 B2 F10 N10 hTg2 rfl rfl ((hFo.keep hz2).keep F10.keep) hxi G.hpar ?xchn ?xchs (by have := G.le7; omega)) rfl (Nat.le_of_ble_eq_true rfl) rfl rfl (Nat.le_of_ble_eq_true rfl))
            case xchn => intro z; rw [hopk, hlk] at z; cases z
            case xchs =>
              intro _ h11 tk11 jj xj dj oj _ hjj hxj k11 F11
              have N11 := news0 N10 k11
              clear F10 N10
              have hix : (homeIx made ops key 8 i : Int) = ix8 := G.home (fun z => hnm8 (z.trans (by decide +kernel))) i him hfd
              rw [hjj] at hix
              obtain ⟨⟨ppj, mj⟩, hmj⟩ : ∃ t, made[jj]? = some t := ⟨_, List.getElem?_eq_getElem (by rw [← hFo.types.len]; exact (List.getElem?_eq_some_iff.mp hxj).1)⟩
              have hjl : jj < xs.length := (List.getElem?_eq_some_iff.mp hxj).1
              obtain ⟨tkj, aj, nmj, nj, q1, q2, q3, q4⟩ := ((hFo.types.ty _ _ _ _ _ _ hxj hmj).keep hz2).is
              have hIj : InstAt g₂ xj (instObj 94 dj) 94 (some (dictOf (typeEs w.params tkj aj nmj (100 + (jj : Int)) (parVal xs ppj) true oj) nj)) := ⟨q1, rfl, rfl, q2⟩
              have hvx8 : (xs.map fun t => Value.ref t.1)[ix8.toNat]? = some (.ref xj) := by rw [← hix, Int.toNat_natCast, List.getElem?_map, hxj]; rfl
              have hlo8 : 0 ≤ ix8 := by omega
              have hhi8 : ix8 < 1000000 := by omega
              (try dsimp only)
              k_steps
              · exact absurd rfl (by assumption)
              refine hQI _ _ ?_
              show _ ∧ _
              refine ⟨stE _ (News.get (a := h7.objs.size) N11 (by k_mem)) (fun b o e => F11.keep b o (B2.stays b o e)), _, _, some (.str key _), some (.int (0 + (i : Int)) ti), some (.ref bl), _, oJ, g₂, ps₃, cds₃, ot₂, ol₂, ow₂, _, some (.ref a8), some (.ref a9), rfl, ⟨rfl, bl, _, _, rfl, rfl, ?xcvs, n1, n2, n3, ?xcln⟩, ⟨S2.turn, B2, ?xcfr, ?xcnw, D3, S2.cot, S2.col, hcow2, hck, far3, ap3⟩⟩
              case xcvs => rw [hbs]; exact hvs
              case xcln => omega
              case xcfr => exact fr_hd F11
              case xcnw => exact fun q hq => N11 q (.tail _ (.tail _ (.tail _ (.tail _ (.tail _ hq)))))
end
section
theorem walk_off_R1 : True := by
  w_top off
  trivial
set_option maxHeartbeats 1000000
local macro_rules | `(tactic| k_inst) => `(tactic| exact Mine.instB (by k_asm) (by with_reducible assumption))
theorem newsOf5 {h₀ h : Heap} {L : Addr} {l : List (Addr × Obj)} (N : News h₀ L h l) {a b c d e : Addr × Obj} (ha : a ∈ l) (hb : b ∈ l) (hc : c ∈ l) (hd : d ∈ l) (he : e ∈ l) : News h₀ L h [a, b, c, d, e] := fun q hq => by
  simp only [List.mem_cons, List.not_mem_nil, or_false] at hq
  rcases hq with rfl | rfl | rfl | rfl | rfl
  · exact N _ ha
  · exact N _ hb
  · exact N _ hc
  · exact N _ hd
  · exact N _ he
local macro_rules | `(tactic| k_steps) => `(tactic| walk_at "S")
local macro_rules | `(tactic| walk_at "setAttr ref") => `(tactic| (k_here; (with_reducible rename PartOf _ _ _ _ => pO); k_dflt (refine' Mine.set_part ?F ?X ?N ?x pO ?U ?z ?a ?b ?c ?d ?_; (case F => k_asm); (case X => k_asm); (case N => k_asm); (case x => k_mem); (case U => k_updF); (case z => decide); (case a => k_is); (case b => k_is); (case c => k_is); (case d => k_is)); clear pO; intro h' o' k' F' N' p'; (try dsimp only at N'); k_sweep))
local macro_rules | `(tactic| walk_at "call ref") => `(tactic| ((with_reducible show wpAny _ _ (call (Value.ref 94) _ _) _ _ _); refine Mine.Stop.mk ?_))
theorem record_spec {w : World} {A₀ : Around} {s : Shared} {base h₀ : Heap} {outer : List Env} {env : Env} {L : Addr} {m : Str → Option Value} {news : List (Addr × Obj)}
  {p : Program} {loose : List Str} {mean : ExcName → Option Value} {mg mb : Str → Option Value} {R : Result → Shared → Prop}
  {la lb : Addr} {t1 : Tok} :
  (hd.heap_1 w.params).In h₀ → Below A₀ base outer h₀ → Fr h₀ L s.heap m → News h₀ L s.heap news → Top p loose mean mg mb h₀ → env.frame = some L → env.scope.kind = .function →
  s.heap.IsList la (List.toArray []) → s.heap.IsList lb (List.toArray []) →
  (∀ h' tk x' d' od' oo tt a' e1 e2, (∀ b o, s.heap.get? b = some o → h'.get? b = some o) → Fr h₀ L h' m → News h₀ L h' [(x', instObj 94 d'), (d', dictOf (typeEs w.params tt a' (Str.ofString "root") 0 .none false od') 21), (od', oo), (a'.a12, listOf #[] e1), (a'.a13, listOf #[] e2)] →
     (∀ q ∈ [(x', instObj 94 d'), (d', dictOf (typeEs w.params tt a' (Str.ofString "root") 0 .none false od') 21), (od', oo), (a'.a12, listOf #[] e1), (a'.a13, listOf #[] e2)], s.heap.get? q.1 = none) →
     (@Ne Nat x' d') → (@Ne Nat od' d') → (@Ne Nat od' x') → (@Ne Nat a'.a12 d') → (@Ne Nat a'.a13 d') → (@Ne Nat a'.a12 od') → (@Ne Nat a'.a13 od') → oo.IsDictOf (PySem.strKind Challenge.rw_pb0007_01.row.prog w) [] → (od' == sysModules) = false →
     R (.ok (.ret (.ref x'))) { s with heap := h', toks := tk }) →
  codeAny (model Challenge.rw_pb0007_01.row.prog w) (at_ 570 3700 (env :: outer)) (.call (.ref 105) ⟨[.str (Str.ofString "root") t1, .ref la, .ref lb, .none], []⟩) R s := by
  k_fill
  intro X B F N T hf hke hla hlb post
  refine' enter_foot (fp := []) (binds := [(Str.ofString "name", .str (Str.ofString "root") t1), (Str.ofString "discriminants", .ref la), (Str.ofString "components", .ref lb), (Str.ofString "variant", .none)]) B F X N T rfl hf hke ?fp ?k6 ?k7 ?k8 ?k9 ?kB ?_ ?c2 ?c3 ?c4 ?c5
  case fp => intro q hq; cases hq
  case k6 => k_is
  case k7 => k_is
  case k8 => k_room
  case k9 => exact BindsTo.of_eq rfl
  case c5 => decide
  case kB => exact locs rfl
  case c2 => exact rfl
  case c3 => exact rfl
  case c4 => exact rfl
  intro g L' h' FG' F' N' B' X' T' hrest hl1 hl2
  have hk : ∀ b o, s.heap.get? b = some o → g.get? b = some o := fun b o e => hrest b o e (by simp)
  have hla' := IsList.keep hla hk
  have hlb' := IsList.keep hlb hk
  (try dsimp only)
  change wpAny _ _ _ _ _ _
  k_fold
  k_steps
  refine Stop.go ?_
  refine' call_cls (fI := 91) ?k1 ?k2 ?k3 ?k4 ?k5 ?k6 ?_
  case k1 => k_asm
  case k2 => k_asm
  case k3 => k_asm
  case k4 => k_is
  case k5 => k_is
  case k6 => k_is
  intro x1 d1 h1 F1 N1 l1 l2
  refine codeAny_le (init_spec X' B' F1 N1 T' rfl rfl (.head _) (.tail _ (.head _)) (Nat.ne_of_gt l2) ?_) rfl (Nat.le_of_ble_eq_true rfl) rfl rfl (Nat.le_of_ble_eq_true rfl)
  intro h2 tk2 o2 od2 oo2 v2 v7 a6 a8 a9 a12 a13 k2 F2 N2 p2 fr2 ho2 lo2
  clear k2
  have hne : @Ne Nat x1 d1 := Nat.ne_of_gt l2
  have hod : @Ne Nat od2 d1 := fun e => by have := (N1 _ (.tail _ (.head _))).1; rw [show (d1, dictOf [] 0).1 = od2 from e.symm, fr2] at this; cases this
  have hox : @Ne Nat od2 x1 := fun e => by have := (N1 _ (.head _)).1; rw [show (x1, instObj 94 d1).1 = od2 from e.symm, fr2] at this; cases this
  clear F1 N1 l1 fr2
  refine ⟨rfl, ?_⟩
  (try dsimp only)
  k_steps
  rename PartOf _ _ _ _ => p9
  obtain ⟨tt, ho⟩ := part_type (part_record p9)
  clear p9
  subst ho
  rename Fr h₀ L _ m => kF
  rename News h₀ L _ _ => kN
  rename Fr g L' _ _ => F9
  rename News g L' _ _ => N9
  have kp : ∀ b o, s.heap.get? b = some o → _ := fun b o e => F9.keep b o (hk b o e)
  rename (_ ∧ _ ∧ _ ∧ _ ∧ _) => l9
  clear l9
  rename (_ ∧ _ ∧ _ ∧ _) => l9
  obtain ⟨_, _, m5, m7⟩ := l9
  rename (_ ∧ _ ∧ _) => l9
  obtain ⟨_, m4, m6⟩ := l9
  refine' post _ _ _ _ _ _ tt _ _ _ kp kF ?news ?fr hne hod hox ?n4 ?n5 ?n6 ?n7 ho2 lo2
  case news => refine' newsOf5 kN ?_ ?_ ?_ ?_ ?_ <;> k_mem
  case fr =>
    refine' fun q hq => none_of hk (newsOf5 N9 ?_ ?_ ?_ ?_ ?_ q hq).2.2 <;> k_mem
  case n4 => exact Nat.ne_of_gt m4
  case n5 => exact Nat.ne_of_gt m5
  case n6 => exact Nat.ne_of_gt m6
  case n7 => exact Nat.ne_of_gt m7
end
section
set_option maxHeartbeats 1000000
theorem part_number {P : Params} {n : Nat} {o : Obj} {v0 v1 v2 v3 v4 v5 v6 v7 v8 v9 v10 v11 v12 v13 v14 v15 v16 v17 v18 v19 v20 u : Value} (p : PartOf P n (putKV (Str.ofString "number") u [(Str.ofString "kind", v0), (Str.ofString "name", v1), (Str.ofString "number", v2), (Str.ofString "parent", v3), (Str.ofString "low", v4), (Str.ofString "high", v5), (Str.ofString "literals", v6), (Str.ofString "modulus", v7), (Str.ofString "small", v8), (Str.ofString "index", v9), (Str.ofString "component", v10), (Str.ofString "is_constrained", v11), (Str.ofString "discriminants", v12), (Str.ofString "components", v13), (Str.ofString "variant", v14), (Str.ofString "designated", v15), (Str.ofString "is_tagged", v16), (Str.ofString "wide", v17), (Str.ofString "is_limited", v18), (Str.ofString "is_private", v19), (Str.ofString "operations", v20)]) o) :
    PartOf P 21 [(Str.ofString "kind", v0), (Str.ofString "name", v1), (Str.ofString "number", u), (Str.ofString "parent", v3), (Str.ofString "low", v4), (Str.ofString "high", v5), (Str.ofString "literals", v6), (Str.ofString "modulus", v7), (Str.ofString "small", v8), (Str.ofString "index", v9), (Str.ofString "component", v10), (Str.ofString "is_constrained", v11), (Str.ofString "discriminants", v12), (Str.ofString "components", v13), (Str.ofString "variant", v14), (Str.ofString "designated", v15), (Str.ofString "is_tagged", v16), (Str.ofString "wide", v17), (Str.ofString "is_limited", v18), (Str.ofString "is_private", v19), (Str.ofString "operations", v20)] o := ⟨Nat.le_refl 21, (p.cast (by kernel_rfl : _ = [(Str.ofString "kind", v0), (Str.ofString "name", v1), (Str.ofString "number", u), (Str.ofString "parent", v3), (Str.ofString "low", v4), (Str.ofString "high", v5), (Str.ofString "literals", v6), (Str.ofString "modulus", v7), (Str.ofString "small", v8), (Str.ofString "index", v9), (Str.ofString "component", v10), (Str.ofString "is_constrained", v11), (Str.ofString "discriminants", v12), (Str.ofString "components", v13), (Str.ofString "variant", v14), (Str.ofString "designated", v15), (Str.ofString "is_tagged", v16), (Str.ofString "wide", v17), (Str.ofString "is_limited", v18), (Str.ofString "is_private", v19), (Str.ofString "operations", v20)])).is⟩
theorem part_is_tagged {P : Params} {n : Nat} {o : Obj} {v0 v1 v2 v3 v4 v5 v6 v7 v8 v9 v10 v11 v12 v13 v14 v15 v16 v17 v18 v19 v20 u : Value} (p : PartOf P n (putKV (Str.ofString "is_tagged") u [(Str.ofString "kind", v0), (Str.ofString "name", v1), (Str.ofString "number", v2), (Str.ofString "parent", v3), (Str.ofString "low", v4), (Str.ofString "high", v5), (Str.ofString "literals", v6), (Str.ofString "modulus", v7), (Str.ofString "small", v8), (Str.ofString "index", v9), (Str.ofString "component", v10), (Str.ofString "is_constrained", v11), (Str.ofString "discriminants", v12), (Str.ofString "components", v13), (Str.ofString "variant", v14), (Str.ofString "designated", v15), (Str.ofString "is_tagged", v16), (Str.ofString "wide", v17), (Str.ofString "is_limited", v18), (Str.ofString "is_private", v19), (Str.ofString "operations", v20)]) o) :
    PartOf P 21 [(Str.ofString "kind", v0), (Str.ofString "name", v1), (Str.ofString "number", v2), (Str.ofString "parent", v3), (Str.ofString "low", v4), (Str.ofString "high", v5), (Str.ofString "literals", v6), (Str.ofString "modulus", v7), (Str.ofString "small", v8), (Str.ofString "index", v9), (Str.ofString "component", v10), (Str.ofString "is_constrained", v11), (Str.ofString "discriminants", v12), (Str.ofString "components", v13), (Str.ofString "variant", v14), (Str.ofString "designated", v15), (Str.ofString "is_tagged", u), (Str.ofString "wide", v17), (Str.ofString "is_limited", v18), (Str.ofString "is_private", v19), (Str.ofString "operations", v20)] o := ⟨Nat.le_refl 21, (p.cast (by kernel_rfl : _ = [(Str.ofString "kind", v0), (Str.ofString "name", v1), (Str.ofString "number", v2), (Str.ofString "parent", v3), (Str.ofString "low", v4), (Str.ofString "high", v5), (Str.ofString "literals", v6), (Str.ofString "modulus", v7), (Str.ofString "small", v8), (Str.ofString "index", v9), (Str.ofString "component", v10), (Str.ofString "is_constrained", v11), (Str.ofString "discriminants", v12), (Str.ofString "components", v13), (Str.ofString "variant", v14), (Str.ofString "designated", v15), (Str.ofString "is_tagged", u), (Str.ofString "wide", v17), (Str.ofString "is_limited", v18), (Str.ofString "is_private", v19), (Str.ofString "operations", v20)])).is⟩
theorem type_part {P : Params} {tt : TK} {a : AD} {nm : Str} {num : Int} {par : Value} {tg : Bool} {od : Addr} :
    PartOf P 21 [(Str.ofString "kind", .str (Str.ofString "record") tt.v0), (Str.ofString "name", .str nm tt.v1), (Str.ofString "number", .int num tt.v2), (Str.ofString "parent", par), (Str.ofString "low", .none), (Str.ofString "high", .none), (Str.ofString "literals", .ref a.a6), (Str.ofString "modulus", .int 0 tt.v7), (Str.ofString "small", .ref a.a8), (Str.ofString "index", .ref a.a9), (Str.ofString "component", .none), (Str.ofString "is_constrained", .bool true), (Str.ofString "discriminants", .ref a.a12), (Str.ofString "components", .ref a.a13), (Str.ofString "variant", .none), (Str.ofString "designated", .none), (Str.ofString "is_tagged", .bool tg), (Str.ofString "wide", .none), (Str.ofString "is_limited", .bool false), (Str.ofString "is_private", .bool false), (Str.ofString "operations", .ref od)] (dictOf (typeEs P tt a nm num par tg od) 21) :=
  ⟨Nat.le_refl 21, [tt.k0, tt.k1, tt.k2, tt.k3, tt.k4, tt.k5, tt.k6, tt.k7, tt.k8, tt.k9, tt.k10, tt.k11, tt.k12, tt.k13, tt.k14, tt.k15, tt.k16, tt.k17, tt.k18, tt.k19, tt.k20], rfl, rfl⟩
section
variable {prog : Program} {w : World} {A : Around} {E : Value → Shared → Prop} {s : Shared} {K : Frag} {x C d L od : Addr} {h₀ : Heap} {m : Str → Option Value} {news : List (Addr × Obj)} {tt : TK} {a : AD} {nm : Str} {num : Int} {par : Value} {tg : Bool} {g1 : Obj → List (Addr × Obj)} {Q : Unit → Shared → Prop}
theorem set_number {n2 : Int} {t2 : Tok} (F : Fr h₀ L s.heap m) (X₀ : K.In h₀) (N : News h₀ L s.heap news) (hx : (x, instObj C d) ∈ news)
    (U : UpdF d (dictOf (typeEs w.params tt a nm num par tg od) 21) news g1) (hs : findIn K (.ref C) "__setattr__" = some (some (.builtin "object.__setattr__"))) (hpl : plainOver K C = true) (ht : takerIn K C (Str.ofString "number") = some none) (hh : hasDictIn K C = true)
    (h : ∀ h' tt' tk, Fr h₀ L h' m → News h₀ L h' (g1 (dictOf (typeEs w.params tt' a nm n2 par tg od) 21)) → Q () { s with heap := h', toks := tk }) :
    wpAny (model prog w) A (setAttr (.ref x) (Str.ofString "number") (.int n2 t2)) Q E s :=
  set_part F X₀ N hx type_part U (by decide) hs hpl ht hh fun h' o' tk F' N' p => by
    obtain ⟨tt', e⟩ := part_type (part_number p)
    subst e
    exact h _ _ _ F' N'
theorem set_tagged {t2 : Bool} (F : Fr h₀ L s.heap m) (X₀ : K.In h₀) (N : News h₀ L s.heap news) (hx : (x, instObj C d) ∈ news)
    (U : UpdF d (dictOf (typeEs w.params tt a nm num par tg od) 21) news g1) (hs : findIn K (.ref C) "__setattr__" = some (some (.builtin "object.__setattr__"))) (hpl : plainOver K C = true) (ht : takerIn K C (Str.ofString "is_tagged") = some none) (hh : hasDictIn K C = true)
    (h : ∀ h' tt' tk, Fr h₀ L h' m → News h₀ L h' (g1 (dictOf (typeEs w.params tt' a nm num par t2 od) 21)) → Q () { s with heap := h', toks := tk }) :
    wpAny (model prog w) A (setAttr (.ref x) (Str.ofString "is_tagged") (.bool t2)) Q E s :=
  set_part F X₀ N hx type_part U (by decide) hs hpl ht hh fun h' o' tk F' N' p => by
    obtain ⟨tt', e⟩ := part_type (part_is_tagged p)
    subst e
    exact h _ _ _ F' N'
end
end
section
set_option maxHeartbeats 1000000
theorem heap_list (hi : Heap) : ∃ kept : List (Addr × Obj), ∀ b o, (b, o) ∈ kept ↔ hi.get? b = some o := by
  refine ⟨(List.range hi.objs.size).filterMap fun b => (hi.get? b).map fun o => (b, o), fun b o => ?_⟩
  rw [List.mem_filterMap]
  constructor
  · rintro ⟨c, _, e⟩
    obtain ⟨o', h1, h2⟩ := Option.map_eq_some_iff.mp e
    cases h2
    exact h1
  · intro e
    exact ⟨b, List.mem_range.mpr (Heap.lt_size e), by rw [e]; rfl⟩

/-- the law's state at a place of law -/
def LS (w : World) (g0 : Heap) (L : Addr) (ad : Adr) (n : Nat) (b : Int) (fixd : List Addr) (xs : List TX) (h : Heap) : Prop :=
  ∃ hi oh ol ot om oL rest made laid ops vm vl, StAt w hi h ad oh ol ot om oL rest xs n made laid ops vm vl ∧ Good made laid ops b ∧ News g0 L h (ledOf ad oh ol ot om oL rest) ∧ (∀ a o, hi.get? a = some o → a ≠ L ∧ g0.get? a = none) ∧
    (∀ z ∈ fixd, hi.get? z = none ∧ z ∉ (ledOf ad oh ol ot om oL rest).map (·.1))

section
variable {w : World} {g0 h : Heap} {L : Addr} {ad : Adr} {n : Nat} {b : Int} {fixd : List Addr} {xs : List TX}
theorem StAt.move {hi h h' : Heap} {oh ol ot om oL : Obj} {rest : List (Addr × Obj)} {made : List (Int × Int)} {laid : List Row} {ops : List (List (Str × Str))} {vm vl : List Value}
    (S : StAt w hi h ad oh ol ot om oL rest xs n made laid ops vm vl) (k1 : ∀ a o, hi.get? a = some o → h'.get? a = some o) (k2 : ∀ q ∈ ledOf ad oh ol ot om oL rest, h'.get? q.1 = some q.2) : StAt w hi h' ad oh ol ot om oL rest xs n made laid ops vm vl :=
  ⟨k1, fun q hq => ⟨k2 q hq, (S.led q hq).2⟩, S.nod, S.hand, S.ot, S.om, S.oL, S.book, S.madeAt, S.laidAt, S.typesAt, S.opsAt⟩

theorem LS.tail (x : LS w g0 L ad n b fixd xs h) : ∃ tl, News g0 L h tl ∧ ∀ h', News g0 L h' tl → LS w g0 L ad n b fixd xs h' := by
  obtain ⟨hi, oh, ol, ot, om, oL, rest, made, laid, ops, vm, vl, S, G, N, a1, a2⟩ := x
  obtain ⟨kept, hk⟩ := heap_list hi
  refine ⟨kept ++ ledOf ad oh ol ot om oL rest, News.append (fun q hq => ⟨S.sub _ _ ((hk _ _).mp hq), a1 _ _ ((hk q.1 q.2).mp hq)⟩) N, fun h' N' => ?_⟩
  exact ⟨hi, oh, ol, ot, om, oL, rest, made, laid, ops, vm, vl, S.move (fun a o e => (N' (a, o) (List.mem_append_left _ ((hk _ _).mpr e))).1) (fun q hq => (N' q (List.mem_append_right _ hq)).1), G, fun q hq => N' q (List.mem_append_right _ hq), a1, a2⟩
theorem LS.sub {fixd' : List Addr} (x : LS w g0 L ad n b fixd xs h) (hs : ∀ z ∈ fixd', z ∈ fixd) : LS w g0 L ad n b fixd' xs h := by
  obtain ⟨hi, oh, ol, ot, om, oL, rest, made, laid, ops, vm, vl, S, G, N, a1, a2⟩ := x
  exact ⟨hi, oh, ol, ot, om, oL, rest, made, laid, ops, vm, vl, S, G, N, a1, fun z hz => a2 z (hs z hz)⟩
/-- what is new at a heap is apart -/
theorem LS.new {z : Addr} (x : LS w g0 L ad n b fixd xs h) (hz : h.get? z = none) : LS w g0 L ad n b (z :: fixd) xs h := by
  obtain ⟨hi, oh, ol, ot, om, oL, rest, made, laid, ops, vm, vl, S, G, N, a1, a2⟩ := x
  refine ⟨hi, oh, ol, ot, om, oL, rest, made, laid, ops, vm, vl, S, G, N, a1, fun y hy => ?_⟩
  rcases List.mem_cons.mp hy with rfl | hy
  · refine ⟨?_, fun hm => ?_⟩
    · cases e : hi.get? y with
      | none => rfl
      | some o => rw [S.sub _ _ e] at hz; cases hz
    · obtain ⟨q, hq, rfl⟩ := List.mem_map.mp hm
      rw [(N q hq).1] at hz; cases hz
  · exact a2 y hy
/-- what does not touch the state leaves it -/
theorem LS.keep {h' : Heap} (x : LS w g0 L ad n b fixd xs h) (k : ∀ a o, h.get? a = some o → a ≠ L → a ∉ fixd → h'.get? a = some o) : LS w g0 L ad n b fixd xs h' := by
  obtain ⟨hi, oh, ol, ot, om, oL, rest, made, laid, ops, vm, vl, S, G, N, a1, a2⟩ := x
  have k1 : ∀ a o, hi.get? a = some o → h'.get? a = some o := fun a o e => k a o (S.sub a o e) (a1 a o e).1 fun hm => by rw [(a2 a hm).1] at e; cases e
  have k2 : ∀ q ∈ ledOf ad oh ol ot om oL rest, h'.get? q.1 = some q.2 := fun q hq => k _ _ (N q hq).1 (N q hq).2.1 fun hm => (a2 _ hm).2 (List.mem_map_of_mem hq)
  exact ⟨hi, oh, ol, ot, om, oL, rest, made, laid, ops, vm, vl, S.move k1 k2, G, fun q hq => ⟨k2 q hq, (N q hq).2⟩, a1, a2⟩

theorem LS.types (x : LS w g0 L ad n b fixd xs h) : h.IsList ad.types (xs.map fun t => Value.ref t.1).toArray ∧ 1 ≤ xs.length ∧ xs.length ≤ 7 ∧ ∀ (i : Nat) y d od, xs[i]? = some (y, d, od) → ∃ p, TypeAt w h y d (100 + (i : Int)) p true od := by
  obtain ⟨hi, oh, ol, ot, om, oL, rest, made, laid, ops, vm, vl, S, G, N, a1, a2⟩ := x
  obtain ⟨e, rfl⟩ := S.ot
  refine ⟨⟨_, (N (ad.types, _) (.tail _ (.tail _ (.head _)))).1, rfl, _, rfl⟩, by rw [S.typesAt.len]; exact G.pos, by rw [S.typesAt.len]; exact G.le7, fun i y d od h1 => ?_⟩
  obtain ⟨⟨p, mo⟩, hm⟩ : ∃ t, made[i]? = some t := ⟨_, List.getElem?_eq_getElem (by have := (List.getElem?_eq_some_iff.mp h1).1; have := S.typesAt.len; omega)⟩
  exact ⟨_, (S.typesAt.ty _ _ _ _ _ _ h1 hm).keep S.sub⟩
theorem LS.insts (x : LS w g0 L ad n b fixd xs h) {i : Nat} {y d od : Addr} (h1 : xs[i]? = some (y, d, od)) : ∃ tk a nm n p, News g0 L h [(y, instObj 94 d), (d, dictOf (typeEs w.params tk a nm (100 + (i : Int)) p true od) n)] := by
  obtain ⟨hi, oh, ol, ot, om, oL, rest, made, laid, ops, vm, vl, S, G, N, a1, a2⟩ := x
  obtain ⟨⟨p, mo⟩, hm⟩ : ∃ t, made[i]? = some t := ⟨_, List.getElem?_eq_getElem (by have := (List.getElem?_eq_some_iff.mp h1).1; have := S.typesAt.len; omega)⟩
  obtain ⟨tk, a, nm, n, q1, q2, q3, q4⟩ := (S.typesAt.ty _ _ _ _ _ _ h1 hm).is
  refine ⟨tk, a, nm, n, parVal xs p, fun q hq => ?_⟩
  simp only [List.mem_cons, List.not_mem_nil, or_false] at hq
  rcases hq with rfl | rfl
  · exact ⟨S.sub _ _ q1, a1 _ _ q1⟩
  · exact ⟨S.sub _ _ q2, a1 _ _ q2⟩
theorem deed_ls {A₀ : Around} {s : Shared} {base : Heap} {outer : List Env} {env : Env} {m : Str → Option Value} {fx : List (Addr × Obj)}
  {p : Program} {loose : List Str} {mean : ExcName → Option Value} {mg mb : Str → Option Value} {R : Result → Shared → Prop} {t4 : Tok}
  (X : (hd.heap_1 w.params).In g0) (B : Below A₀ base outer g0) (F : Fr g0 L s.heap m) (NF : News g0 L s.heap fx) (T : Top p loose mean mg mb g0) (hf : env.frame = some L) (hke : env.scope.kind = .function)
  (x : LS w g0 L ad n b (fx.map (·.1)) xs s.heap) (hn : n ≤ 1000) (hb0 : 0 ≤ b) (hb : b ≤ 15)
  (post : ∀ h' tk xs', Fr g0 L h' m → News g0 L h' fx → LS w g0 L ad (n + 4) (b + 1) (fx.map (·.1)) xs' h' → R (.ok (.ret (.bool true))) { s with heap := h', toks := tk }) :
  codeAny (model Challenge.rw_pb0007_01.row.prog w) (at_ 500 3000 (env :: outer)) (.call (.ref 189) ⟨[.ref ad.hand, .ref ad.book, .ref ad.types, .int b t4], []⟩) R s := by
  obtain ⟨hi, oh, ol, ot, om, oL, rest, made, laid, ops, vm, vl, S, G, N, a1, a2⟩ := x
  refine deed_spec X B F N T hf hke (fun q hq => hq) S hn hb0 hb G ?_
  intro h' tk hi' new oh' ol' ot' om' oL' rest' xs' made' laid' ops' vm' vl' F' N' S' k1 k2 k3 fr G'
  have notin : ∀ z ∈ fx.map (·.1), ∀ q ∈ new ++ ledOf ad oh' ol' ot' om' oL' rest', q.1 ≠ z := fun z hz q hq e => by
    obtain ⟨y, hy, rfl⟩ := List.mem_map.mp hz
    rcases fr q hq with e1 | e1
    · rw [e, (NF y hy).1] at e1; cases e1
    · rw [e] at e1; exact (a2 _ hz).2 e1
  refine post h' tk xs' F' (fun q hq => ⟨k3 _ _ (NF q hq).1 (a2 _ (List.mem_map_of_mem hq)).2, (NF q hq).2⟩) ⟨hi', oh', ol', ot', om', oL', rest', made', laid', ops', vm', vl', S', G', fun q hq => N' q (List.mem_append_right _ hq), fun a o e => ?_, fun z hz => ⟨?_, fun hm => ?_⟩⟩
  · rcases k2 a o e with e | e
    · exact a1 a o e
    · exact (N' (a, o) (List.mem_append_left _ e)).2
  · cases e : hi'.get? z with
    | none => rfl
    | some o =>
      rcases k2 z o e with e | e
      · rw [(a2 z hz).1] at e; cases e
      · exact absurd rfl (notin z hz (z, o) (List.mem_append_left _ e))
  · obtain ⟨q, hq, e⟩ := List.mem_map.mp hm
    exact notin z hz q (List.mem_append_right _ hq) e

theorem next_ls {A₀ : Around} {s : Shared} {base : Heap} {outer : List Env} {env : Env} {m : Str → Option Value} {fx : List (Addr × Obj)}
  {p : Program} {loose : List Str} {mean : ExcName → Option Value} {mg mb : Str → Option Value} {R : Result → Shared → Prop} {t4 : Tok} {lim : Int}
  (X : (hd.heap_1 w.params).In g0) (B : Below A₀ base outer g0) (F : Fr g0 L s.heap m) (NF : News g0 L s.heap fx) (T : Top p loose mean mg mb g0) (hf : env.frame = some L) (hke : env.scope.kind = .function)
  (x : LS w g0 L ad n b (fx.map (·.1)) xs s.heap) (hn : n ≤ 1000) (hl : 0 < lim)
  (post : ∀ h' tk r t, 0 ≤ r → r < lim → Fr g0 L h' m → News g0 L h' fx → LS w g0 L ad (n + 1) b (fx.map (·.1)) xs h' → R (.ok (.ret (.int r t))) { s with heap := h', toks := tk }) :
  codeAny (model Challenge.rw_pb0007_01.row.prog w) (at_ 600 4000 (env :: outer)) (.call (.ref 172) ⟨[.ref ad.hand, .int lim t4], []⟩) R s := by
  obtain ⟨hi, oh, ol, ot, om, oL, rest, made, laid, ops, vm, vl, S, G, N, a1, a2⟩ := x
  obtain ⟨⟨d1, d2, d3, d4, d5, d6, d7, d8, d9, d10⟩, r1, r2, r3, r4, r5, rn⟩ := nodup5 S.nod
  refine next_spec (g1 := fun o => ledOf ad o ol ot om oL rest) (g2 := fun o o' => ledOf ad o o' ot om oL rest) X B F N T hf hke (.head ?_) (fun o => .tail ?_ (.head ?_)) (.tail _ (.head _)) d1 S.hand (by omega) hl ?_
  · intro q hq
    simp only [List.mem_cons] at hq
    rcases hq with rfl | rfl | rfl | rfl | hq
    · exact Ne.symm d1
    · exact Ne.symm d2
    · exact Ne.symm d3
    · exact Ne.symm d4
    · exact r1 q hq
  · exact d1
  · intro q hq
    simp only [List.mem_cons] at hq
    rcases hq with rfl | rfl | rfl | hq
    · exact Ne.symm d5
    · exact Ne.symm d6
    · exact Ne.symm d7
    · exact r2 q hq
  intro h' tk r t oh' ol' h0 h1 F' N' H' k
  have nh : ∀ a o, hi.get? a = some o → a ≠ ad.hand ∧ a ≠ ad.l := fun a o e => ⟨fun z => (by rw [z, (S.led _ (.head _)).2] at e; cases e), fun z => (by rw [z, (S.led _ (.tail _ (.head _))).2] at e; cases e)⟩
  refine post h' tk r t h0 h1 F' (fun q hq => ⟨k _ _ (NF q hq).1 (fun z => (a2 _ (List.mem_map_of_mem hq)).2 (z ▸ .head _)) (fun z => (a2 _ (List.mem_map_of_mem hq)).2 (z ▸ .tail _ (.head _))), (NF q hq).2⟩)
    ⟨hi, oh', ol', ot, om, oL, rest, made, laid, ops, vm, vl, ⟨fun a o e => k a o (S.sub a o e) (nh a o e).1 (nh a o e).2, fun q hq => ⟨(N' q hq).1, ?_⟩, S.nod, H', S.ot, S.om, S.oL, S.book, S.madeAt, S.laidAt, S.typesAt, S.opsAt⟩, G, N', a1, a2⟩
  have : q.1 ∈ (ledOf ad oh ol ot om oL rest).map (·.1) := by
    simp only [ledOf, List.mem_cons, List.map_cons] at hq ⊢
    rcases hq with rfl | rfl | rfl | rfl | rfl | hq
    · exact .inl rfl
    · exact .inr (.inl rfl)
    · exact .inr (.inr (.inl rfl))
    · exact .inr (.inr (.inr (.inl rfl)))
    · exact .inr (.inr (.inr (.inr (.inl rfl))))
    · exact .inr (.inr (.inr (.inr (.inr (List.mem_map_of_mem hq)))))
  obtain ⟨q', hq', e⟩ := List.mem_map.mp this
  rw [← e]
  exact (S.led q' hq').2
end

theorem good_init : Good [((-1 : Int), (0 : Int))] [] [[]] 0 := by
  refine ⟨rfl, by simp, by simp, rfl, ?_, ?_, by simp, by simp, by simp, by simp, ?_, ?_, by omega⟩
  · intro j p mo h
    match j with
    | 0 => cases h; omega
    | j + 1 => simp at h
  · intro j p mo h h1
    match j with
    | 0 => omega
    | j + 1 => simp at h
  · intro i kv k h
    match i with
    | 0 =>
      cases h
      rfl
    | i + 1 => simp at h
  · intro i kv h
    match i with
    | 0 => cases h; exact ⟨by simp, by simp⟩
    | i + 1 => simp at h
theorem Good.upto {made laid ops} : ∀ (k : Nat) {b : Int}, Good made laid ops b → b + k = 16 → Good made laid ops 16
  | 0, b, G, h => by
    have : b = 16 := by omega
    exact this ▸ G
  | k + 1, b, G, h => Good.upto k (G.skip (by omega)) (by omega)

theorem st_init {w : World} {g h : Heap} {L : Addr} {x d od book tup hand l types lm ll : Addr} {oh ol oo ob : Obj} {tk : TK} {a : AD} {nm : Str} {n n0 e1 e2 e3 e4 e5 : Nat} {t1 t2 : Tok} {news : List (Addr × Obj)} {fixd : List Addr}
    (N : News g L h news) (mx : (x, instObj 94 d) ∈ news) (md : (d, dictOf (typeEs w.params tk a nm 100 .none true od) n) ∈ news) (mo : (od, oo) ∈ news) (m12 : (a.a12, listOf #[] e1) ∈ news) (m13 : (a.a13, listOf #[] e2) ∈ news)
    (ml : (l, ol) ∈ news) (mh : (hand, oh) ∈ news) (mt : (types, listOf #[.ref x] e3) ∈ news) (mlm : (lm, listOf #[.ref tup] e4) ∈ news) (mll : (ll, listOf #[] e5) ∈ news) (mtup : (tup, ({ cls := .type "tuple", data := .seq #[.int (-1) t1, .int 0 t2] } : Obj)) ∈ news) (mb : (book, ob) ∈ news)
    (H : HandIs w l oh ol n0) (hoo : oo.IsDictOf (PySem.strKind Challenge.rw_pb0007_01.row.prog w) []) (lo : (od == sysModules) = false)
    (hob : ob.IsDictOf (PySem.strKind Challenge.rw_pb0007_01.row.prog w) [(Str.ofString "made", .ref lm), (Str.ofString "laid", .ref ll)])
    (nod : ([hand, l, types, lm, ll, od] : List Nat).Nodup) (off : ∀ z ∈ ([hand, l, types, lm, ll, od] : List Nat), z ∉ ([x, d, a.a12, a.a13, book, tup] : List Nat))
    (fo : ∀ z ∈ fixd, z ∉ ([hand, l, types, lm, ll, od, x, d, a.a12, a.a13, book, tup] : List Nat)) :
    LS w g L ⟨hand, l, book, lm, ll, types⟩ n0 0 fixd [(x, d, od)] h := by
  obtain ⟨hi, hh⟩ := restrict h fun b => b ∈ ([x, d, a.a12, a.a13, book, tup] : List Nat)
  have g1 : ∀ {b o}, (b, o) ∈ news → b ∈ ([x, d, a.a12, a.a13, book, tup] : List Nat) → hi.get? b = some o := fun hm hb => (hh _ _).mpr ⟨(N _ hm).1, hb⟩
  have nled : ∀ q ∈ ledOf ⟨hand, l, book, lm, ll, types⟩ oh ol (listOf #[.ref x] e3) (listOf #[.ref tup] e4) (listOf #[] e5) [(od, oo)], q ∈ news := by
    intro q hq
    simp only [ledOf, List.mem_cons, List.not_mem_nil, or_false] at hq
    rcases hq with rfl | rfl | rfl | rfl | rfl | rfl <;> assumption
  have inl : ∀ q ∈ ledOf ⟨hand, l, book, lm, ll, types⟩ oh ol (listOf #[.ref x] e3) (listOf #[.ref tup] e4) (listOf #[] e5) [(od, oo)], q.1 ∈ ([hand, l, types, lm, ll, od] : List Nat) := by
    intro q hq
    simp only [ledOf, List.mem_cons, List.not_mem_nil, or_false] at hq
    rcases hq with rfl | rfl | rfl | rfl | rfl | rfl <;> simp
  refine ⟨hi, oh, ol, listOf #[.ref x] e3, listOf #[.ref tup] e4, listOf #[] e5, [(od, oo)], [((-1 : Int), (0 : Int))], [], [[]], [.ref tup], [], ⟨fun b o e => ((hh b o).mp e).1, fun q hq => ⟨(N q (nled q hq)).1, ?_⟩, nod, H, ⟨e3, rfl⟩, ⟨e4, rfl⟩, ⟨e5, rfl⟩, ?_, ?_, .nil, ⟨rfl, ?_⟩, ⟨rfl, rfl, ?_⟩⟩, good_init, fun q hq => N q (nled q hq), fun b o e => ?_, fun z hz => ⟨?_, fun hm => ?_⟩⟩
  · cases e : hi.get? q.1 with
    | none => rfl
    | some o => exact absurd ((hh _ _).mp e).2 (off _ (inl q hq))
  · exact Heap.dictOf_iff.mpr ⟨ob, g1 mb (by simp), hob⟩
  · exact .cons ⟨_, g1 mtup (by simp), rfl, _, rfl⟩ .nil
  · intro i x' d' od' p' mo' h1 h2
    match i with
    | 0 =>
      cases h1; cases h2
      exact ⟨tk, a, nm, n, g1 mx (by simp), g1 md (by simp), ⟨_, g1 m12 (by simp), rfl, _, rfl⟩, ⟨_, g1 m13 (by simp), rfl, _, rfl⟩⟩
    | i + 1 => simp at h1
  · intro i od' oo' h1
    match i with
    | 0 => cases h1; exact ⟨lo, [], [], rfl, hoo, .nil⟩
    | i + 1 => simp at h1
  · have hm := ((hh b o).mp e).2
    simp only [List.mem_cons, List.not_mem_nil, or_false] at hm
    rcases hm with rfl | rfl | rfl | rfl | rfl | rfl
    · exact (N _ mx).2
    · exact (N _ md).2
    · exact (N _ m12).2
    · exact (N _ m13).2
    · exact (N _ mb).2
    · exact (N _ mtup).2
  · cases e : hi.get? z with
    | none => rfl
    | some o =>
      exact absurd (List.mem_append_right [hand, l, types, lm, ll, od] ((hh _ _).mp e).2) (fo z hz)
  · obtain ⟨q, hq, e⟩ := List.mem_map.mp hm
    have := inl q hq
    rw [e] at this
    exact fo z hz (List.mem_append_left [x, d, a.a12, a.a13, book, tup] this)
end
section
set_option maxHeartbeats 1000000
/-- the kind of an object's data -/
def dk (o : Obj) : Nat := match o.data with
  | .dict .. => 1
  | .seq .. => (match o.cls with | .type "list" => 2 | _ => 3)
  | .plain => 4
  | .cell _ => 5
  | .fields _ => 6
  | _ => 0
theorem ne_kind {h : Heap} {a b : Addr} {o o' : Obj} (e1 : h.get? a = some o) (e2 : h.get? b = some o') (k : dk o ≠ dk o') : @Ne Nat a b := fun z => by
  rw [show a = b from z, e2] at e1
  cases e1
  exact k rfl
def AllK : List (Addr × Obj) → Prop
  | [] => True
  | q :: l => 5 ≤ dk q.2 ∧ AllK l
theorem allK_mem {l : List (Addr × Obj)} (h : AllK l) : ∀ q ∈ l, 5 ≤ dk q.2 := by
  induction l with
  | nil => intro q hq; cases hq
  | cons p l ih =>
    intro q hq
    obtain ⟨h1, h2⟩ : 5 ≤ dk p.2 ∧ AllK l := h
    rcases List.mem_cons.mp hq with rfl | hq
    · exact h1
    · exact ih h2 q hq
theorem dk_dict {prog : Program} {w : World} {K : Type} [DecidableEq K] {knd : KeyKind prog w K} {o : Obj} {kvs : List (K × Value)} (h : o.IsDictOf knd kvs) : dk o = 1 := by
  obtain ⟨es, ep, _, e, _⟩ := h
  unfold dk; rw [e]
theorem dk_cell {o : Obj} {v : Option Value} (h : o.data = .cell v) : 5 ≤ dk o := by unfold dk; rw [h]; exact Nat.le_refl 5
theorem dk_fields {o : Obj} {v : Array Value} (h : o.data = .fields v) : 5 ≤ dk o := by unfold dk; rw [h]; exact Nat.le_of_ble_eq_true rfl
/-- the law's state ahead of the deeds: what is apart by its kind need not be said -/
theorem st_init2 {w : World} {g h : Heap} {L : Addr} {x d od book tup hand l types lm ll : Addr} {oh ol oo ob : Obj} {tk : TK} {a : AD} {nm : Str} {n n0 e1 e2 e3 e4 e5 : Nat} {t1 t2 : Tok} {news fx : List (Addr × Obj)}
    (N : News g L h news) (mx : (x, instObj 94 d) ∈ news) (md : (d, dictOf (typeEs w.params tk a nm 100 .none true od) n) ∈ news) (mo : (od, oo) ∈ news) (m12 : (a.a12, listOf #[] e1) ∈ news) (m13 : (a.a13, listOf #[] e2) ∈ news)
    (ml : (l, ol) ∈ news) (mh : (hand, oh) ∈ news) (mt : (types, listOf #[.ref x] e3) ∈ news) (mlm : (lm, listOf #[.ref tup] e4) ∈ news) (mll : (ll, listOf #[] e5) ∈ news) (mtup : (tup, ({ cls := .type "tuple", data := .seq #[.int (-1) t1, .int 0 t2] } : Obj)) ∈ news) (mb : (book, ob) ∈ news)
    (H : HandIs w l oh ol n0) (hoo : oo.IsDictOf (PySem.strKind Challenge.rw_pb0007_01.row.prog w) []) (lo : (od == sysModules) = false)
    (hob : ob.IsDictOf (PySem.strKind Challenge.rw_pb0007_01.row.prog w) [(Str.ofString "made", .ref lm), (Str.ofString "laid", .ref ll)])
    (c1 : @Ne Nat l types) (c2 : @Ne Nat l lm) (c3 : @Ne Nat l ll) (c4 : @Ne Nat types lm) (c5 : @Ne Nat types ll) (c6 : @Ne Nat lm ll) (c7 : @Ne Nat hand od)
    (b1 : @Ne Nat l a.a12) (b2 : @Ne Nat l a.a13) (b3 : @Ne Nat types a.a12) (b4 : @Ne Nat types a.a13) (b5 : @Ne Nat lm a.a12) (b6 : @Ne Nat lm a.a13) (b7 : @Ne Nat ll a.a12) (b8 : @Ne Nat ll a.a13)
    (f1 : @Ne Nat hand d) (f2 : @Ne Nat hand book) (f3 : @Ne Nat od d) (f4 : @Ne Nat od book) (NF : News g L h fx) (hfx : AllK fx) :
    LS w g L ⟨hand, l, book, lm, ll, types⟩ n0 0 (fx.map (·.1)) [(x, d, od)] h := by
  obtain ⟨t, k, vs, ns, e, hoh, rfl, hI, hlen, hk0, hk1⟩ := H
  have k1 := dk_dict hoh
  have k2 := dk_dict hoo
  have k3 := dk_dict hob
  have G : ∀ {b o}, (b, o) ∈ news → h.get? b = some o := fun hm => (N _ hm).1
  have K : ∀ {b c o o'}, (b, o) ∈ news → (c, o') ∈ news → dk o ≠ dk o' → @Ne Nat b c := fun hm hm' => ne_kind (G hm) (G hm')
  have kl : ∀ (z : Array Value) n, dk (listOf z n) = 2 := fun _ _ => rfl
  refine st_init N mx md mo m12 m13 ml mh mt mlm mll mtup mb ⟨t, k, vs, ns, e, hoh, rfl, hI, hlen, hk0, hk1⟩ hoo lo hob ?_ ?_ ?_
  · have q1 := K mh ml (by rw [k1, kl]; decide)
    have q2 := K mh mt (by rw [k1, kl]; decide)
    have q3 := K mh mlm (by rw [k1, kl]; decide)
    have q4 := K mh mll (by rw [k1, kl]; decide)
    have q5 := K ml mo (by rw [k2, kl]; decide)
    have q6 := K mt mo (by rw [k2, kl]; decide)
    have q7 := K mlm mo (by rw [k2, kl]; decide)
    have q8 := K mll mo (by rw [k2, kl]; decide)
    simp only [List.nodup_cons, List.mem_cons, List.not_mem_nil, or_false, not_or, List.nodup_nil, and_true, not_false_eq_true]
    exact ⟨⟨q1, q2, q3, q4, c7⟩, ⟨c1, c2, c3, q5⟩, ⟨c4, c5, q6⟩, ⟨c6, q7⟩, q8⟩
  · have inst : ∀ {b o}, (b, o) ∈ news → dk o < 4 → @Ne Nat b x := fun hm hk => K hm mx (by rw [show dk (instObj 94 d) = 4 from rfl]; exact Nat.ne_of_lt hk)
    have tu : ∀ {b o}, (b, o) ∈ news → dk o < 3 → @Ne Nat b tup := fun hm hk => K hm mtup (Nat.ne_of_lt hk)
    have li : ∀ {b : Addr} {z n}, (b, listOf z n) ∈ news → @Ne Nat b a.a12 → @Ne Nat b a.a13 → b ∉ ([x, d, a.a12, a.a13, book, tup] : List Nat) := fun {b z n} hm n1 n2 => by
      simp only [List.mem_cons, List.not_mem_nil, or_false, not_or]
      exact ⟨inst hm (by rw [kl]; decide), K hm md (by rw [kl, show dk (dictOf _ _) = 1 from rfl]; decide), n1, n2, K hm mb (by rw [kl, k3]; decide), tu hm (by rw [kl]; decide)⟩
    have di : ∀ {b : Addr} {o}, (b, o) ∈ news → dk o = 1 → @Ne Nat b d → @Ne Nat b book → b ∉ ([x, d, a.a12, a.a13, book, tup] : List Nat) := fun {b o} hm hk n1 n2 => by
      simp only [List.mem_cons, List.not_mem_nil, or_false, not_or]
      exact ⟨inst hm (by rw [hk]; decide), n1, K hm m12 (by rw [kl, hk]; decide), K hm m13 (by rw [kl, hk]; decide), n2, tu hm (by rw [hk]; decide)⟩
    intro z hz
    simp only [List.mem_cons, List.not_mem_nil, or_false] at hz
    rcases hz with rfl | rfl | rfl | rfl | rfl | rfl
    · exact di mh k1 f1 f2
    · exact li ml b1 b2
    · exact li mt b3 b4
    · exact li mlm b5 b6
    · exact li mll b7 b8
    · exact di mo k2 f3 f4
  · intro z hz hm
    obtain ⟨q, hq, rfl⟩ := List.mem_map.mp hz
    have h5 := allK_mem hfx q hq
    have e5 := (NF q hq).1
    have M : ∀ {b o}, (b, o) ∈ news → dk o < 5 → q.1 ≠ b := fun hm' hk' => ne_kind e5 (G hm') (Nat.ne_of_gt (Nat.lt_of_lt_of_le hk' h5))
    simp only [List.mem_cons, List.not_mem_nil, or_false] at hm
    rcases hm with hm | hm | hm | hm | hm | hm | hm | hm | hm | hm | hm | hm
    · exact M mh (by rw [k1]; decide) hm
    · exact M ml (by rw [kl]; decide) hm
    · exact M mt (by rw [kl]; decide) hm
    · exact M mlm (by rw [kl]; decide) hm
    · exact M mll (by rw [kl]; decide) hm
    · exact M mo (by rw [k2]; decide) hm
    · exact M mx (by rw [show dk (instObj 94 d) = 4 from rfl]; decide) hm
    · exact M md (by rw [show dk (dictOf _ _) = 1 from rfl]; decide) hm
    · exact M m12 (by rw [kl]; decide) hm
    · exact M m13 (by rw [kl]; decide) hm
    · exact M mb (by rw [k3]; decide) hm
    · exact M mtup (by rw [show dk _ = 3 from rfl]; decide) hm
end
section
set_option maxHeartbeats 1000000
theorem fr_back {g g' h : Heap} {L : Addr} {m : Str → Option Value} (T : KtsTurn [] g g') (F : Fr g' L h m) : Fr g L h m := ⟨F.ns, fun b o e => F.keep b o (T.other b o e (by simp)), by rw [← T.size]; exact F.above⟩
theorem news_back {g g' h : Heap} {L : Addr} {l : List (Addr × Obj)} (T : KtsTurn [] g g') (N : News g' L h l) : News g L h l := fun q hq => ⟨(N q hq).1, (N q hq).2.1, by
  cases e : g.get? q.1 with
  | none => rfl
  | some o => rw [← (N q hq).2.2, T.other _ _ e (by simp)]⟩
section
variable {w : World} {g0 h : Heap} {L : Addr} {ad : Adr} {n : Nat} {b : Int} {xs : List TX}
theorem right_ls {A₀ : Around} {s : Shared} {base : Heap} {env : Env} {m : Str → Option Value} {fx : List (Addr × Obj)}
  {p : Program} {loose : List Str} {mean : ExcName → Option Value} {mg mb : Str → Option Value} {R : Result → Shared → Prop} {line : Int} {tl : Tok}
  (X : (hd.heap_1 w.params).In g0) (B : Below A₀ base [] g0) (F : Fr g0 L s.heap m) (NF : News g0 L s.heap ((191, tabObj #[]) :: fx)) (T : Top p loose mean mg mb g0) (hf : env.frame = some L) (hke : env.scope.kind = .function)
  (XB : (hd.heap_1 w.params).In base) (TB : Top p loose mean mg mb base) (HC : CodeHd base 195 191)
  (x : LS w g0 L ad n b (191 :: fx.map (·.1)) xs s.heap) (hb0 : 0 ≤ b) (hb : b ≤ 16) (hap : ∀ z ∈ fx.map (·.1), z ≠ (191 : Addr))
  (post : ∀ h' tk ps, Fr g0 L h' m → News g0 L h' ((191, tabObj ps) :: fx) → LS w g0 L ad n b (191 :: fx.map (·.1)) xs h' → R (.ok (.ret (.bool true))) { s with heap := h', toks := tk }) :
  codeAny (model Challenge.rw_pb0007_01.row.prog w) (at_ 520 3200 [env]) (.call (.ref 196) ⟨[.ref ad.book, .ref ad.types, .int line tl], []⟩) R s := by
  have x' := x
  obtain ⟨hi, oh, ol, ot, om, oL, rest, made, laid, ops, vm, vl, S, G, N, a1, a2⟩ := x
  obtain ⟨hz, hh⟩ := restrict s.heap fun a => (∃ o, hi.get? a = some o) ∨ a ∈ (ledOf ad oh ol ot om oL rest).map (·.1)
  have kz : ∀ a o, hi.get? a = some o → hz.get? a = some o := fun a o e => (hh a o).mpr ⟨S.sub a o e, .inl ⟨o, e⟩⟩
  have lz : ∀ q ∈ ledOf ad oh ol ot om oL rest, hz.get? q.1 = some q.2 := fun q hq => (hh _ _).mpr ⟨(N q hq).1, .inr (List.mem_map_of_mem hq)⟩
  have hfr : ∀ a, a ∈ frs [env] → a = L := fun a ha => by
    simp only [frs, List.filterMap_cons, hf, List.filterMap_nil, List.mem_singleton] at ha
    exact ha
  have m191 : (191 : Addr) ∈ (191 : Addr) :: fx.map (·.1) := .head _
  refine right_spec (ps := #[]) (hz := hz) X B F NF T hf hke XB TB HC (.head _) ?hzs ⟨DictOf.keep S.book kz, ?lm, ?ll, S.madeAt.keep kz, S.laidAt.keep kz⟩ ⟨S.typesAt.keep kz, ?op⟩ ?ty (Good.upto (16 - b).toNat G (by omega)) ?post
  case hzs =>
    intro a o e
    obtain ⟨e1, e2⟩ := (hh a o).mp e
    have key : a ≠ 191 ∧ a ≠ L := by
      rcases e2 with ⟨o', e2⟩ | e2
      · exact ⟨fun z => (by rw [z, (a2 _ m191).1] at e2; cases e2), (a1 a o' e2).1⟩
      · refine ⟨fun z => (a2 _ m191).2 (z ▸ e2), fun z => ?_⟩
        obtain ⟨q, hq, e3⟩ := List.mem_map.mp e2
        exact (N q hq).2.1 (e3.trans z)
    exact ⟨e1, key.1, fun hm => key.2 (hfr a hm)⟩
  case lm =>
    obtain ⟨e, rfl⟩ := S.om
    exact ⟨_, lz (ad.lm, _) (.tail _ (.tail _ (.tail _ (.head _)))), rfl, _, rfl⟩
  case ll =>
    obtain ⟨e, rfl⟩ := S.oL
    exact ⟨_, lz (ad.ll, _) (.tail _ (.tail _ (.tail _ (.tail _ (.head _))))), rfl, _, rfl⟩
  case ty =>
    obtain ⟨e, rfl⟩ := S.ot
    exact ⟨_, lz (ad.types, _) (.tail _ (.tail _ (.head _))), rfl, _, rfl⟩
  case op =>
    intro i y d od hx
    obtain ⟨oo, hrr⟩ : ∃ oo, rest[i]? = some (od, oo) := by
      have e := congrArg (fun l => l[i]?) S.opsAt.adr
      simp only [List.getElem?_map, hx, Option.map_some] at e
      cases q : rest[i]? with
      | none => rw [q] at e; cases e
      | some z => rw [q] at e; exact ⟨z.2, by rw [show z = (z.1, z.2) from rfl]; simp at e; rw [e]⟩
    obtain ⟨lo, kv, kvs, hkv, hoo, hnm⟩ := S.opsAt.op _ _ _ hrr
    exact ⟨kv, kvs, hkv, Heap.dictOf_iff.mpr ⟨oo, lz (od, oo) (.tail _ (.tail _ (.tail _ (.tail _ (.tail _ (List.mem_of_getElem? hrr)))))), hoo⟩, hnm, lo⟩
  case post =>
    intro h' h0' tk T0 F' B' k gr
    have F2 := fr_back (show KtsTurn [] _ _ from T0) F'
    obtain ⟨ps, hps⟩ := gr
    have hL : ∀ a, a ≠ L → a ∉ frs [env] := fun a n hm => n (hfr a hm)
    refine post h' tk ps F2 (fun q hq => ?_) (x'.keep fun a o e n1 n2 => k a o e (fun z => n2 (z ▸ .head _)) (hL a n1))
    rcases List.mem_cons.mp hq with rfl | hq
    · exact ⟨hps, (NF (191, tabObj #[]) (.head _)).2⟩
    · have := NF q (.tail _ hq)
      exact ⟨k _ _ this.1 (hap _ (List.mem_map_of_mem hq)) (hL _ this.2.1), this.2⟩
end
end
section
set_option maxHeartbeats 1000000
section
variable {prog : Program} {w : World} {A : Around} {E : Value → Shared → Prop} {s : Shared} {env : Env} {target : PySem.Expr} {body : List Stmt} {Q : Flow → Shared → Prop}
variable {g0 h : Heap} {L : Addr} {ad : Adr} {n0 : Nat} {b : Int} {xs : List TX} {m0 : Str → Option Value} {fx : List (Addr × Obj)}

theorem LS.open (NF : News g0 L h fx) (x : LS w g0 L ad n0 b (fx.map (·.1)) xs h) : ∃ tl, News g0 L h (fx ++ tl) ∧ ∀ h', News g0 L h' (fx ++ tl) → News g0 L h' fx ∧ LS w g0 L ad n0 b (fx.map (·.1)) xs h' := by
  obtain ⟨tl, N, k⟩ := x.tail
  exact ⟨tl, News.append NF N, fun h' N' => ⟨fun q hq => N' q (List.mem_append_left _ hq), k h' fun q hq => N' q (List.mem_append_right _ hq)⟩⟩

theorem LS.open2 {fixd : List Addr} (x : LS w g0 L ad n0 b fixd xs h) : ∃ tl, News g0 L h tl ∧ (∀ h', News g0 L h' tl → LS w g0 L ad n0 b fixd xs h') ∧ (∀ q ∈ tl, ∀ z ∈ fixd, q.1 ≠ z) := by
  obtain ⟨hi, oh, ol, ot, om, oL, rest, made, laid, ops, vm, vl, S, G, N, a1, a2⟩ := x
  obtain ⟨kept, hk⟩ := heap_list hi
  refine ⟨kept ++ ledOf ad oh ol ot om oL rest, News.append (fun q hq => ⟨S.sub _ _ ((hk _ _).mp hq), a1 _ _ ((hk q.1 q.2).mp hq)⟩) N, fun h' N' => ?_, fun q hq z hz e => ?_⟩
  · exact ⟨hi, oh, ol, ot, om, oL, rest, made, laid, ops, vm, vl, S.move (fun a o e => (N' (a, o) (List.mem_append_left _ ((hk _ _).mpr e))).1) (fun q hq => (N' q (List.mem_append_right _ hq)).1), G, fun q hq => N' q (List.mem_append_right _ hq), a1, a2⟩
  · rcases List.mem_append.mp hq with hq | hq
    · have := (hk q.1 q.2).mp hq
      rw [e, (a2 z hz).1] at this; cases this
    · exact (a2 z hz).2 (e ▸ List.mem_map_of_mem hq)
/-- the loop of the deeds -/
theorem law_loop {I : Addr} {fp : List Addr} {n : Nat} {P : Nat → Value → Prop} {St : Nat → Heap → Prop} (mo : Str) (W : Walks prog w A I fp [I] n P St)
    (hgo : ∀ i v (s : Shared) (Q : Unit → Shared → Prop) (E : Value → Shared → Prop), St i s.heap → Q () s → wpAny (model prog w) A (letOwnedTupleGo target (.ref I) v) Q E s)
    (st0 : St 0 s.heap) (F0 : Fr g0 L s.heap m0) (NF0 : News g0 L s.heap fx) (x0 : LS w g0 L ad n0 0 (I :: fx.map (·.1)) xs s.heap) (hI : ∀ q ∈ fx, q.1 ≠ I) (hIL : I ≠ L) (hIg : g0.get? I = none)
    (step : ∀ i v h₂ tk₂ mv xs, i < n → P i v → St (i + 1) h₂ → Fr g0 L h₂ (fun y => if y = mo then mv else m0 y) → News g0 L h₂ fx → LS w g0 L ad (n0 + 4 * i) (i : Int) (I :: fx.map (·.1)) xs h₂ →
      wpAny (model prog w) A (assign target env v) (fun _ s₃ => wpAny (model prog w) A (execs body env)
        (ForEnd St (fun i s₁ => ∃ h₁ tk₁ mv xs, s₁ = { s with heap := h₁, toks := tk₁ } ∧ Fr g0 L h₁ (fun y => if y = mo then mv else m0 y) ∧ News g0 L h₁ fx ∧ LS w g0 L ad (n0 + 4 * i) (i : Int) (I :: fx.map (·.1)) xs h₁) Q (i + 1)) E s₃) E { s with heap := h₂, toks := tk₂ })
    (fin : ∀ h₂ tk₂ mv xs, Fr g0 L h₂ (fun y => if y = mo then mv else m0 y) → News g0 L h₂ fx → LS w g0 L ad (n0 + 4 * n) (n : Int) (fx.map (·.1)) xs h₂ → Q .next { s with heap := h₂, toks := tk₂ })
    (hE : PassesOwn (model prog w) A env E) : ForAt prog w A E env target body Q (.ref I) s := by
  have turn : ∀ {h₁ h₂ : Heap} {mv : Option Value} {nn : Nat} {bb : Int} {xs : List TX}, Fr g0 L h₁ (fun y => if y = mo then mv else m0 y) → News g0 L h₁ fx → LS w g0 L ad nn bb (I :: fx.map (·.1)) xs h₁ → (∀ b o, b ∉ [I] → h₁.get? b = some o → h₂.get? b = some o) →
      Fr g0 L h₂ (fun y => if y = mo then mv else m0 y) ∧ News g0 L h₂ fx ∧ LS w g0 L ad nn bb (I :: fx.map (·.1)) xs h₂ := by
    intro h₁ h₂ mv nn bb xs F N x k
    have k' : ∀ b o, b ≠ I → h₁.get? b = some o → h₂.get? b = some o := fun b o n e => k b o (by simpa using n) e
    refine ⟨?_, fun q hq => ⟨k' _ _ (hI q hq) (N q hq).1, (N q hq).2⟩, x.keep fun a o e _ n2 => k' a o (fun z => n2 (z ▸ .head _)) e⟩
    obtain ⟨oL, es, ep, hL, r⟩ := F.ns
    exact ⟨⟨oL, es, ep, k' _ _ (Ne.symm hIL) hL, r⟩, fun b o e => k' b o (fun z => by rw [z, hIg] at e; cases e) (F.keep b o e), F.above⟩
  refine for_inv W hgo (fun i s₁ => ∃ h₁ tk₁ mv xs, s₁ = { s with heap := h₁, toks := tk₁ } ∧ Fr g0 L h₁ (fun y => if y = mo then mv else m0 y) ∧ News g0 L h₁ fx ∧ LS w g0 L ad (n0 + 4 * i) (i : Int) (I :: fx.map (·.1)) xs h₁)
    st0 ⟨s.heap, s.toks, m0 mo, xs, rfl, ?_, NF0, x0⟩ ?_ ?_ hE
  · have : (fun y => if y = mo then m0 mo else m0 y) = m0 := by
      funext y
      by_cases h : y = mo
      · rw [if_pos h, h]
      · rw [if_neg h]
    rw [this]; exact F0
  · rintro i v s₁ h₂ tk₂ hi hP ⟨h₁, tk₁, mv, xs, rfl, F, N, x⟩ st hk
    obtain ⟨F', N', x'⟩ := turn F N x hk
    exact step i v h₂ tk₂ mv xs hi hP st F' N' x'
  · rintro s₁ h₂ tk₂ ⟨h₁, tk₁, mv, xs, rfl, F, N, x⟩ hk
    obtain ⟨F', N', x'⟩ := turn F N x hk
    exact fin h₂ tk₂ mv xs F' N' (x'.sub fun z hz => .tail _ hz)
theorem ar0 {r : Int} (h0 : 0 ≤ r) (h1 : r < 16) : ∃ k : Nat, 1 + r = (k : Int) := ⟨(1 + r).toNat, by omega⟩
theorem ar1 {i k : Nat} (h : i < k) (h2 : k ≤ 16) : 0 + 1 + 4 * i ≤ 1000 := by omega
theorem ar2 (i : Nat) : (0 : Int) ≤ 0 + (i : Int) := by omega
theorem ar3 {i k : Nat} (h : i < k) (h2 : k ≤ 16) : (0 : Int) + (i : Int) ≤ 15 := by omega
theorem ar4 {k : Nat} (h2 : k ≤ 16) : k < 20 := by omega
theorem ar5 {r : Int} {k : Nat} (h : 1 + r = (k : Int)) (h1 : r < 16) : k ≤ 16 := by omega
theorem news_ne_size {g h : Heap} {L : Addr} {l : List (Addr × Obj)} (N : News g L h l) : ∀ q ∈ l, q.1 ≠ h.objs.size := fun q hq => ltNe (Heap.lt_size (N q hq).1)
theorem ar6 (i : Nat) : (0 : Int) + (i : Int) + 1 = ((i + 1 : Nat) : Int) := by omega
theorem ar7 {k : Nat} (h : k ≤ 16) : 0 + 1 + 4 * k ≤ 1000 := by omega
theorem ar8 {k : Nat} (h : k ≤ 16) : (k : Int) ≤ 16 := by omega
theorem ar9 {k : Nat} (h : k ≤ 16) : 0 + 1 + 4 * k + 1 ≤ 1000 := by omega
theorem ar10 {k : Nat} (h : k ≤ 16) : 0 + 1 + 4 * k + 1 + 1 ≤ 1000 := by omega
theorem ar11 (k : Nat) : (0 : Int) ≤ (k : Int) := by omega
theorem fr_mo {mo : Str} {mv mv' : Option Value} (F : Fr g0 L h (fun y => if y = mo then mv' else if y = mo then mv else m0 y)) : Fr g0 L h (fun y => if y = mo then mv' else m0 y) := by
  have : (fun y => if y = mo then mv' else if y = mo then mv else m0 y) = (fun y => if y = mo then mv' else m0 y) := by
    funext y
    by_cases h : y = mo
    · rw [if_pos h, if_pos h]
    · rw [if_neg h, if_neg h, if_neg h]
  exact this ▸ F
end
end
section
set_option maxHeartbeats 1000000
open LCg
section
variable {w : World} {g0 h : Heap} {L : Addr} {ad : Adr} {n0 : Nat} {b : Int} {xs : List TX} {fixd : List Addr}
/-- a list of what the law's state stands on -/
structure Tail (w : World) (g0 : Heap) (L : Addr) (ad : Adr) (n0 : Nat) (b : Int) (fixd : List Addr) (xs : List TX) (tl : List (Addr × Obj)) : Prop where
  up : ∀ zs h', (∀ q ∈ tl, ∀ z ∈ zs, q.1 ≠ z) → News g0 L h' tl → LS w g0 L ad n0 b (zs ++ fixd) xs h'
  apt : ∀ q ∈ tl, ∀ z ∈ fixd, q.1 ≠ z
theorem Tail.ls {tl : List (Addr × Obj)} (t : Tail w g0 L ad n0 b fixd xs tl) {h' : Heap} (N : News g0 L h' tl) : LS w g0 L ad n0 b fixd xs h' := t.up [] h' (fun _ _ _ hz => nomatch hz) N
theorem LS.open3 (x : LS w g0 L ad n0 b fixd xs h) : ∃ tl, News g0 L h tl ∧ Tail w g0 L ad n0 b fixd xs tl := by
  obtain ⟨hi, oh, ol, ot, om, oL, rest, made, laid, ops, vm, vl, S, G, N, a1, a2⟩ := x
  obtain ⟨kept, hk⟩ := heap_list hi
  refine ⟨kept ++ ledOf ad oh ol ot om oL rest, News.append (fun q hq => ⟨S.sub _ _ ((hk _ _).mp hq), a1 _ _ ((hk q.1 q.2).mp hq)⟩) N, fun zs h' hz N' => ?_, fun q hq z hz e => ?_⟩
  · refine ⟨hi, oh, ol, ot, om, oL, rest, made, laid, ops, vm, vl, S.move (fun a o e => (N' (a, o) (List.mem_append_left _ ((hk _ _).mpr e))).1) (fun q hq => (N' q (List.mem_append_right _ hq)).1), G, fun q hq => N' q (List.mem_append_right _ hq), a1, fun z hm => ?_⟩
    rcases List.mem_append.mp hm with hm | hm
    · refine ⟨?_, fun hq => ?_⟩
      · cases e : hi.get? z with
        | none => rfl
        | some o => exact absurd rfl (hz (z, o) (List.mem_append_left _ ((hk _ _).mpr e)) z hm)
      · obtain ⟨q, hq, e⟩ := List.mem_map.mp hq
        exact hz q (List.mem_append_right _ hq) z hm e
    · exact a2 z hm
  · rcases List.mem_append.mp hq with hq | hq
    · have := (hk q.1 q.2).mp hq
      rw [e, (a2 z hz).1] at this; cases this
    · exact (a2 z hz).2 (e ▸ List.mem_map_of_mem hq)
theorem Tail.drop {zs : List Addr} {tl : List (Addr × Obj)} (t : Tail w g0 L ad n0 b (zs ++ fixd) xs tl) : Tail w g0 L ad n0 b fixd xs tl :=
  ⟨fun ys h' hz N => (t.up ys h' hz N).sub fun z hz => by
    rcases List.mem_append.mp hz with hz | hz
    · exact List.mem_append_left _ hz
    · exact List.mem_append_right _ (List.mem_append_right _ hz), fun q hq z hz => t.apt q hq z (List.mem_append_right _ hz)⟩
theorem TagsOf.snoc {xs : List TX} {ys : List Value} {ts : List (Addr × Int)} {y d od : Addr} {j : Nat} (t : ys = ts.map (fun q => Value.ref q.1) ∧ ∀ q ∈ ts, ∃ (j : Nat) (d od : Addr), xs[j]? = some (q.1, d, od) ∧ q.2 = 100 + (j : Int)) (e : xs[j]? = some (y, d, od)) :
    ys ++ [Value.ref y] = (ts ++ [(y, 100 + (j : Int))]).map (fun q => Value.ref q.1) ∧ ∀ q ∈ ts ++ [(y, 100 + (j : Int))], ∃ (j : Nat) (d od : Addr), xs[j]? = some (q.1, d, od) ∧ q.2 = 100 + (j : Int) := by
  refine ⟨by rw [t.1]; simp, fun q hq => ?_⟩
  rcases List.mem_append.mp hq with hq | hq
  · exact t.2 q hq
  · rw [List.mem_singleton.mp hq]; exact ⟨j, d, od, e, rfl⟩
theorem ar12 {r : Int} (h0 : 0 ≤ r) (h1 : r < 3) : ∃ k : Nat, 1 + r = (k : Int) ∧ 1 ≤ k ∧ k ≤ 3 := ⟨(1 + r).toNat, by omega, by omega, by omega⟩
theorem ar13 {k : Nat} (h : k ≤ 3) : k < 20 := by omega
theorem ar14 {k i : Nat} (h : k ≤ 16) (h2 : i ≤ 3) : 0 + 1 + 4 * k + 1 + 1 + i ≤ 1000 := by omega
theorem ar15 {n : Nat} (h : 1 ≤ n) : (0 : Int) < (n : Int) := by omega
theorem ar16 {r : Int} {n : Nat} (h0 : 0 ≤ r) (h1 : r < (n : Int)) : r.toNat < n := by omega
theorem ar20 {n : Nat} (h : n ≤ 7) : (n : Int) ≤ 16384 := by omega
theorem ar18 {n : Nat} (h : n ≤ 7) : n < 2 ^ 60 := by omega
theorem ar19 {k i kb : Nat} (h : k ≤ 16) (hb : kb ≤ 3) (h2 : i ≤ kb) : 0 + 1 + 4 * k + 1 + 1 + i ≤ 1000 := by omega
theorem ar17 {r : Int} {n : Nat} (h1 : r < (n : Int)) (h : n ≤ 7) : r < 1000000 := by omega
theorem off1_mem {D : Addr} {l : List (Addr × Obj)} (h : LCg.Off1 D l) : ∀ p ∈ l, p.1 ≠ D := by
  induction l with
  | nil => intro p hp; cases hp
  | cons a r ih =>
    intro p hp
    rcases List.mem_cons.mp hp with e | hp
    · rw [e]; exact h.1
    · exact ih h.2 p hp
/-- the tags that have been drawn -/
def TagsOf (xs : List TX) (ys : List Value) (ts : List (Addr × Int)) : Prop := ys = ts.map (fun q => Value.ref q.1) ∧ ∀ q ∈ ts, ∃ (j : Nat) (d od : Addr), xs[j]? = some (q.1, d, od) ∧ q.2 = 100 + (j : Int)
theorem TagsOf.nums {ys : List Value} {ts : List (Addr × Int)} (t : TagsOf xs ys ts) (x : LS w g0 L ad n0 b fixd xs h) : ∀ q ∈ ts, NumAt w h q.1 q.2 := fun q hq => by
  obtain ⟨j, d, od, e, e2⟩ := t.2 q hq
  obtain ⟨_, _, _, k⟩ := x.types
  obtain ⟨p, hT⟩ := k _ _ _ _ e
  rw [e2]
  exact ⟨d, od, p, true, hT⟩
end

section
variable {prog : Program} {w : World} {A : Around} {E : Value → Shared → Prop} {s : Shared} {h₀ : Heap} {L : Addr} {m : Str → Option Value} {env : Env}
theorem rest_inv {elt : PySem.Expr} {x : Str} {scope : Scope} {cl : List (Str × Addr)} {P : Nat → Value → Prop} {Fin : List Value → List (Addr × Obj) → Prop} (n : Nat) (Inv : Nat → List Value → List (Addr × Obj) → Prop)
    (turn : ∀ i v I oI C oC D ys m₂ h tk E' news, i < n → Inv i ys news → P i v → NsObj oC m₂ → m₂ x = some v → Fr h₀ L h m → News h₀ L h ((I, oI) :: (C, oC) :: (D, lst ys) :: news) → Off3 I C D news → ((@Ne Nat I C) ∧ (@Ne Nat I D) ∧ (@Ne Nat C D)) →
      wpAny (model prog w) A (eval elt (compEnvC scope cl C env)) (fun y s₂ => ∃ h' tk' news', s₂ = { s with heap := h', toks := tk' } ∧ Fr h₀ L h' m ∧ News h₀ L h' ((I, oI) :: (C, oC) :: (D, lst ys) :: news') ∧ Off3 I C D news' ∧ Inv (i + 1) (ys ++ [y]) news') E' { s with heap := h, toks := tk }) :
    ∀ (k i : Nat) (ys : List Value) (news : List (Addr × Obj)), i + k = n → Inv i ys news → (∀ ys news, Inv n ys news → Fin ys news) → CompRest prog w A h₀ L m env elt x scope cl s (fun _ => True) P Fin k i ys news
  | 0, i, ys, news, hn, hI, fin => CompRest.zero (fin ys news ((show i = n from hn) ▸ hI))
  | k + 1, i, ys, news, hn, hI, fin => by
    refine CompRest.succ fun v I oI C oC D m₂ h tk E' hv hC hx F N off ne => ?_
    refine wpAny_mono (turn i v I oI C oC D ys m₂ h tk E' news (by omega) hI hv hC hx F N off ne) (fun y s₂ z => ?_) fun _ _ e => e
    obtain ⟨h', tk', news', rfl, F', N', off', hI'⟩ := z
    exact CompEnd.intro (s₁ := { s with heap := h, toks := tk }) F' N' news' (fun p hp => hp) off' trivial (rest_inv n Inv turn k (i + 1) _ news' (by omega) hI' fin)
end
end
section
set_option maxHeartbeats 1000000
def diffTest (ts : List (Addr × Int)) (n : Int) (j : Nat) : Bool := match ts[j]? with
  | some q => !(decide (q.2 = n))
  | none => false
theorem keepIf_nil {bs : Nat → Bool} : ∀ {vs : List Value} {i : Nat}, (∀ (j : Nat), j < vs.length → bs (i + j) = false) → keepIf bs i vs = []
  | [], _, _ => rfl
  | v :: vs, i, h => by
    unfold keepIf
    have := h 0 (by simp)
    rw [Nat.add_zero] at this
    rw [this]
    simp only [Bool.false_eq_true, if_false]
    exact keepIf_nil fun j hj => by rw [show i + 1 + j = i + (j + 1) by omega]; exact h (j + 1) (by simpa using hj)
theorem diff_nil {y : Addr × Int} {r : List (Addr × Int)} (h : numsAgree (y :: r) = true) : keepIf (diffTest (y :: r) y.2) 0 ((y :: r).map fun q => Value.ref q.1) = [] := by
  refine keepIf_nil fun j hj => ?_
  rw [Nat.zero_add]
  have hj' : j < (y :: r).length := by simpa using hj
  have e : (y :: r)[j]? = some (y :: r)[j] := List.getElem?_eq_getElem hj'
  unfold diffTest
  rw [e]
  have hm := List.getElem_mem hj'
  generalize (y :: r)[j] = q at hm
  have : q.2 = y.2 := by
    rcases List.mem_cons.mp hm with rfl | hm
    · rfl
    · unfold numsAgree at h
      exact of_decide_eq_true (List.all_eq_true.mp h q hm)
  simp [this]
theorem diff_cons {y : Addr × Int} {r : List (Addr × Int)} (h : ¬ numsAgree (y :: r) = true) : keepIf (diffTest (y :: r) y.2) 0 ((y :: r).map fun q => Value.ref q.1) ≠ [] := by
  intro e
  apply h
  unfold numsAgree
  refine List.all_eq_true.mpr fun q hq => decide_eq_true ?_
  obtain ⟨j, hj⟩ := List.getElem?_of_mem hq
  cases hd : decide (q.2 = y.2) with
  | true => exact of_decide_eq_true hd
  | false =>
    exfalso
    have := keepIf_mem (bs := diffTest (y :: r) y.2) (vs := (y :: r).map fun q => Value.ref q.1) (i := 0) (j := j + 1) (v := .ref q.1) (by simp [hj]) (by
      unfold diffTest
      rw [show 0 + (j + 1) = j + 1 by omega, List.getElem?_cons_succ, hj]
      simp [hd])
    rw [e] at this
    cases this
end
section
theorem walk_off_J1 : True := by
  w_top off
  trivial
set_option maxHeartbeats 20000000
def AllNe (d : Nat) : List (Addr × Obj) → Prop
  | [] => True
  | p :: r => @Ne Nat d p.1 ∧ AllNe d r
theorem allNe_of {g h : Heap} {L z : Addr} : ∀ {l : List (Addr × Obj)}, News g L h l → h.get? z = none → AllNe z l
  | [], _, _ => trivial
  | p :: r, N, hz => ⟨fun e => (by
      have := (N p (.head _)).1
      rw [← show z = p.1 from e, hz] at this
      cases this), allNe_of (fun q hq => N q (.tail _ hq)) hz⟩
local macro_rules | `(tactic| walk_at "call ref") => `(tactic| ((first | (with_reducible show wpAny _ _ (call (Value.ref 105) _ _) _ _ _) | (with_reducible show wpAny _ _ (call (Value.ref 164) _ _) _ _ _) | (with_reducible show wpAny _ _ (call (Value.ref 124) _ _) _ _ _) | (with_reducible show wpAny _ _ (call (Value.ref 184) _ _) _ _ _) | (with_reducible show wpAny _ _ (call (Value.ref 172) _ _) _ _ _) | (with_reducible show wpAny _ _ (call (Value.ref 189) _ _) _ _ _) | (with_reducible show wpAny _ _ (call (Value.ref 196) _ _) _ _ _)); refine Mine.Stop.mk ?_))
local macro_rules | `(tactic| walk_at "callWith ref") => `(tactic| (k_here; k_dflt (refine' callWith_K ?k1 ?k2 ?_; (case k1 => k_asm); (case k2 => k_is); k_whole)))
local macro_rules | `(tactic| k_ne) => `(tactic| (refine neN ?_; (try dsimp only); first | with_reducible assumption | (refine Ne.symm ?_; with_reducible assumption) | omega))
theorem newsC {g h : Heap} {L : Addr} {q : Addr × Obj} {l : List (Addr × Obj)} (x : h.get? q.1 = some q.2 ∧ q.1 ≠ L ∧ g.get? q.1 = none) (N : News g L h l) : News g L h (q :: l) := fun z hz => (List.mem_cons.mp hz).elim (fun e => e ▸ x) (N z)
theorem ne_gets {h : Heap} {a b : Addr} {o o' : Obj} {x y : String} (e1 : h.get? a = some o) (e2 : h.get? b = some o') (hc : o.cls = .type x) (hc' : o'.cls = .type y) (hne : x ≠ y) : @Ne Nat a b := fun z => by
  rw [show a = b from z] at e1
  rw [e1] at e2
  cases e2
  rw [hc] at hc'
  exact hne (Value.type.inj hc')
theorem allK_of {g h : Heap} {L : Addr} {fx : List (Addr × Obj)} (_ : News g L h fx) (k : AllK fx) : AllK fx := k
theorem wp_gen {M : Model} {A : Around} {α : Type} {c : Sem α} {Q : α → Shared → Prop} {E : Value → Shared → Prop} {s : Shared} (h : ∀ Q' : α → Shared → Prop, (∀ v s', Q v s' → Q' v s') → wpAny M A c Q' E s) : wpAny M A c Q E s := h Q fun _ _ x => x
theorem News.left {g h : Heap} {L : Addr} {fx tl : List (Addr × Obj)} (N : News g L h (fx ++ tl)) : News g L h fx := fun q hq => N q (List.mem_append_left _ hq)
structure JoinA (s : Shared) (g : Heap) (L : Addr) (m : Str → Option Value) (led : List (Addr × Obj)) (P : Obj → Prop) (v : Value) (s' : Shared) : Prop where
  is : ∃ h tk a o, v = .ref a ∧ s' = { s with heap := h, toks := tk } ∧ P o ∧ Fr g L h m ∧ News g L h ((a, o) :: led)
theorem join_obj {M : Model} {A : Around} {E : Value → Shared → Prop} {s : Shared} {c : Sem Value} {Q : Value → Shared → Prop} {g h : Heap} {L : Addr} {m : Str → Option Value} {led : List (Addr × Obj)} {tk : Nat} (F : Fr g L h m) (N : News g L h led) (P : Obj → Prop)
    (h1 : wpAny M A c (JoinA s g L m led P) E { s with heap := h, toks := tk })
    (h2 : ∀ h' tk' a o, P o → Fr g L h' m → News g L h' ((a, o) :: led) → Q (.ref a) { s with heap := h', toks := tk' }) : wpAny M A c Q E { s with heap := h, toks := tk } :=
  wpAny_mono h1 (fun v s' j => by obtain ⟨h', tk', a, o, rfl, rfl, p, F', N'⟩ := j; exact h2 h' tk' a o p F' N') fun _ _ x => x
structure StopHere : Prop where
local macro_rules | `(tactic| walk_at "CompSrcT") => `(tactic| (refine Mine.Stop.mk ?_))
local macro_rules | `(tactic| walk_at "eval ListComp") => `(tactic| ((have hStop : StopHere := by assumption); clear hStop; refine Mine.Stop.mk ?_))
local macro_rules | `(tactic| walk_at "subscriptTail Name Constant ref int") => `(tactic| (refine Mine.Stop.mk ?_))
local macro_rules | `(tactic| k_inst) => `(tactic| exact Mine.instB (by k_asm) (by with_reducible assumption))
local macro_rules | `(tactic| walk_at "exec Assign cons ListComp") => `(tactic| (k_here; k_dflt (refine wpAny_Assign_Name ?_)))
local macro_rules | `(tactic| walk_at "eval ListComp") => `(tactic| (k_here; (with_reducible show wpAny _ _ (eval (Expr.ListComp _ [⟨_, _, [], _⟩] _ _) _) _ _ _); k_dflt (refine LCg.ListComp_U (F₀ := by k_asm) (by rfl) (by decide) (by rfl) (by decide) (by rfl) ?_)))
local macro_rules | `(tactic| walk_at "CompSrc") => `(tactic| (refine Mine.Stop.mk ?_))
local macro_rules | `(tactic| walk_at "call builtin:len") => `(tactic| (refine Mine.Stop.mk ?_))
local macro_rules | `(tactic| walk_at "subscriptTail") => `(tactic| ((with_reducible show wpAny _ _ (subscriptTail _ _ (Value.ref _) (Value.int _ _)) _ _ _); refine Mine.Stop.mk ?_))
local macro_rules | `(tactic| walk_at "subscriptTail Name Call ref int") => `(tactic| (refine Mine.Stop.mk ?_))
local macro_rules | `(tactic| walk_at "exec For Name Call") => `(tactic| (refine Mine.Stop.mk ?_))
local macro_rules | `(tactic| walk_at "exec For Name Call cons nil") => `(tactic| (refine Mine.Stop.mk ?_))
local macro_rules | `(tactic| walk_at "pyIter ref") => `(tactic| (refine Mine.Stop.mk ?_))
local macro_rules | `(tactic| walk_at "eval Name") => `(tactic| (k_here; k_dflt (refine' Mine.nameX_B ?F ?c ?v ?_; (case F => k_asm); (case c => rfl); (case v => with_reducible assumption); k_whole)))
local macro_rules | `(tactic| k_all) => `(tactic| with_reducible assumption)
local macro_rules | `(tactic| walk_at "exec Assign cons Dict") => `(tactic| ((have hStop : StopHere := by assumption); clear hStop; refine Mine.Stop.mk ?_))
local macro_rules | `(tactic| walk_at "setAttr ref") => `(tactic| (refine Mine.Stop.mk ?_))
theorem law_holds : PySem.Challenge.rw_pb0007_01.Holds := hd (by
  k_go0
  all_goals try k_fold
  rename Frag.In _ (ghostOf _ _) => X0
  rename Top _ _ _ _ _ (ghostOf _ _) => T0
  rename Below _ _ _ _ => B0
  rename CodeHd _ (195, 191).fst _ => HC1
  rename CodeHd _ (200, 198).fst _ => HC2
  rename Shared => s1
  rename World => w
  generalize ghostOf s1.heap [(195, 191), (200, 198)] = g0 at *
  generalize s1.heap.objs.size = L0 at *
  refine wp_gen fun QL hQL => ?_
  k_steps
  refine Stop.go ?_
  rename_i hand _ _ _ _ _ l wsx _ hIx _ _ _ _ oh hoh _ _ _ _ _ _ _ _ _ _ _
  rename Fr _ _ _ _ => F1
  rename News _ _ _ _ => N1
  refine wpAny_call (codeAny_le (record_spec X0 B0 F1 N1 T0 rfl rfl (News.isList N1 (by k_mem)) (News.isList N1 (by k_mem)) ?_) rfl (Nat.le_of_ble_eq_true rfl) rfl rfl (Nat.le_of_ble_eq_true rfl))
  intro h2 tk2 x d od oo tt a e1 e2 k2 F2 N2a fr2 n1 n2 n3 n4 n5 n6 n7 hoo lo
  have q1 := allNe_of N1 (fr2 _ (.head _))
  have q2 := allNe_of N1 (fr2 _ (.tail _ (.head _)))
  have q3 := allNe_of N1 (fr2 _ (.tail _ (.tail _ (.head _))))
  have q4 := allNe_of N1 (fr2 _ (.tail _ (.tail _ (.tail _ (.head _)))))
  have q5 := allNe_of N1 (fr2 _ (.tail _ (.tail _ (.tail _ (.tail _ (.head _))))))
  have N2 := News.append N2a (news0 N1 k2)
  simp only [List.cons_append, List.nil_append] at N2
  simp only [AllNe, and_true] at q1 q2 q3 q4 q5
  clear N2a N1 F1 k2
  refine Classical.byContradiction fun hG => ?_
  obtain ⟨_, _, _, _, _, _, _, _, _, _, _⟩ := q1
  obtain ⟨_, _, _, _, _, _, _, _, _, _, _⟩ := q2
  obtain ⟨_, _, _, _, _, _, _, _, _, _, _⟩ := q3
  obtain ⟨_, _, _, _, _, _, _, _, _, _, _⟩ := q4
  obtain ⟨_, _, _, _, _, _, _, _, _, _, _⟩ := q5
  refine hG ?_
  clear hG
  (try dsimp only)
  walk_at "S"
  refine Stop.go ?_
  rename Fr _ _ _ _ => F3
  rename News _ _ _ _ => N3
  refine' set_number F3 X0 N3 (by k_mem) ?sU (by k_is) (by k_is) (by k_is) (by k_is) ?_
  case sU => k_updF
  clear F3 N3
  intro h3 tt3 tk3 F3 N3
  (try dsimp only)
  walk_at "S"
  refine Stop.go ?_
  rename_i fL cL ocL vsL tL ctL _ _ dL1 dL2 _ _ _ _ F4 N4 _
  rename (_ = Data.cell (some (Value.ref x))) => hcx
  refine wpAny_call (codeAny_le (fell_check (line := 7) X0 B0 F4 N4 T0 rfl rfl ⟨_, _, _, _, (N4 (fL, _) (by k_mem)).1⟩ X0 T0 ?ask ?tell) rfl (Nat.le_of_ble_eq_true rfl) rfl rfl (Nat.le_of_ble_eq_true rfl))
  case ask =>
    intro A9 s9 g9 L9 m9 env9 R9 hk9 X9 B9 F9 T9 hf9 hke9 out9
    have hof9 := hk9 _ _ (N4 (fL, _) (by k_mem)).1
    have cr9 : g9.CodeRec (.ref cL) (Str.ofString "law.<locals>.<lambda>") := by
      obtain ⟨c, oc, vs, tq, q1, q2, q3⟩ := codeRec_news N4 (c := cL) (by k_mem) dL1 dL2
      exact ⟨c, oc, vs, tq, q1, hk9 _ _ q2, q3⟩
    have cx9 : CellAt g9 (L0 + 1 + 1 + 1 + 1) (.ref x) := ⟨_, hk9 _ _ (N4 (L0 + 1 + 1 + 1 + 1, _) (by k_mem)).1, hcx⟩
    have ed := hk9 _ _ (N4 (d, _) (by k_mem)).1
    have ed' : g9.get? d = some (dictOf (typeEs w.params tt3 a (Str.ofString "root") 100 .none false od) 21) := ed
    have hT9 : TypeAt w g9 x d 100 .none false od := ⟨tt3, a, Str.ofString "root", 21, hk9 _ _ (N4 (x, _) (by k_mem)).1, ed', ⟨_, hk9 _ _ (N4 (a.a12, _) (by k_mem)).1, rfl, _, rfl⟩, ⟨_, hk9 _ _ (N4 (a.a13, _) (by k_mem)).1, rfl, _, rfl⟩⟩
    clear F4 N4
    refine lam_enter B9 F9 X9 T9 rfl hf9 hke9 hof9 cr9 (Nat.le_of_ble_eq_true rfl) rfl (locs rfl) ?_ rfl rfl rfl (by decide)
    clear hof9
    intro g5 L5 h5' FG5 F5 N5 B5 X5 T5 hk5
    have cx5 := CellAt.keep cx9 (fun b o e => hk5 b o (F9.keep b o e))
    have hT5 := hT9.keep (fun b o e => hk5 b o (F9.keep b o e))
    dsimp only
    change wpAny _ _ _ _ _ _
    k_fold
    walk_at "S"
    refine Stop.go ?_
    rename Fr g5 L5 _ _ => F6
    rename News g5 L5 _ _ => N6
    refine wpAny_call (codeAny_le (extend_wrong X5 B5 F6 N6 T5 rfl rfl (hT5.keep F6.keep) ?_) rfl (Nat.le_of_ble_eq_true rfl) rfl rfl (Nat.le_of_ble_eq_true rfl))
    intro h6 tk6 e6 dx6 dobj6 hw6 hfly6
    (try dsimp only)
    refine leave_on B5 F6 hfly6 rfl fun h6' hfly7 => ?_
    exact out9 _ _ e6 dx6 _ hw6 (hfly7.mono (fun b o e => hk5 b o e))
  case tell =>
    clear F4 N4
    intro h9 g9 tk9 a9 t9 tl9 T9 F9' N9' B9
    have F9 := fr_back (show KtsTurn [] _ _ from T9) F9'
    have N9 := news_back (show KtsTurn [] _ _ from T9) N9'
    clear F9' N9' B9 T9
    have ea9 := (N9 (a9, _) (by k_mem)).1
    have ed9 := (N9 (d, _) (by k_mem)).1
    have na9 : @Ne Nat a9 d := ne_gets ea9 ed9 rfl rfl (by decide)
    clear ea9 ed9
    (try dsimp only)
    walk_at "S"
    refine Stop.go ?_
    rename Fr _ _ _ _ => F3
    rename News _ _ _ _ => N3
    refine' set_tagged F3 X0 N3 (by k_mem) ?tU (by k_is) (by k_is) (by k_is) (by k_is) ?_
    case tU => k_updF
    clear F3 N3
    intro h3b tt4 tk3b F3 N3
    have hstop : StopHere := ⟨⟩
    (try dsimp only)
    walk_at "S"
    refine Stop.go ?_
    rename Fr _ _ _ _ => F3
    rename News _ _ _ _ => N3
    have N4 := newsC (N3 (x, _) (by k_mem)) (newsC (N3 (d, _) (by k_mem)) (newsC (N3 (od, _) (by k_mem)) (newsC (N3 (a.a12, _) (by k_mem)) (newsC (N3 (a.a13, _) (by k_mem)) (newsC (N3 (l, _) (by k_mem)) (newsC (N3 (hand, _) (by k_mem)) (newsC (N3 (L0 + 1 + 1 + 1 + 1 + 1, _) (by k_mem)) (newsC (N3 (L0 + 1 + 1 + 1 + 1, _) (by k_mem)) (newsC (N3 (L0 + 1 + 1 + 1, _) (by k_mem)) (newsC (N3 (L0 + 1 + 1, _) (by k_mem)) (newsC (N3 (L0 + 1, _) (by k_mem)) (newsC (N3 (191, _) (by k_mem)) (newsC (N3 (198, _) (by k_mem)) (newsC (N3 (cL, _) (by k_mem)) News.nil))))))))))))))
    clear N3 na9 hstop
    have hH : HandIs w l oh (listOf wsx.toArray 0) 0 := ⟨⟨_, 0, wsx, _, 0, hoh, rfl, hIx, by have := IntsAre.length hIx; simp only [List.length_take] at this; omega, by omega, by omega⟩⟩
    (try dsimp only)
    walk_at "S"
    refine Stop.go ?_
    rename_i book _ _ _ _ _ tup _ _ lm _ _ ll _ _ _ ob hob _ types _ _ _ oct F5 N5 hct
    have NF : News g0 L0 _ [(191, _), (L0 + 1 + 1 + 1 + 1 + 1, _), (L0 + 1 + 1 + 1 + 1, _), (L0 + 1 + 1 + 1, _), (L0 + 1 + 1, _), (L0 + 1, _), (198, _), (cL, _)] := newsC (N5 (191, _) (by k_mem)) (newsC (N5 (L0 + 1 + 1 + 1 + 1 + 1, _) (by k_mem)) (newsC (N5 (L0 + 1 + 1 + 1 + 1, _) (by k_mem)) (newsC (N5 (L0 + 1 + 1 + 1, _) (by k_mem)) (newsC (N5 (L0 + 1 + 1, _) (by k_mem)) (newsC (N5 (L0 + 1, _) (by k_mem)) (newsC (N5 (198, _) (by k_mem)) (newsC (N5 (cL, _) (by k_mem)) News.nil)))))))
    have hfx := allK_of NF ⟨Nat.le_of_ble_eq_true rfl, dk_cell (by assumption), dk_cell (by assumption), dk_cell (by assumption), dk_cell (by assumption), dk_cell (by assumption), Nat.le_of_ble_eq_true rfl, dk_fields dL1, trivial⟩
    have hLS := st_init2 (tk := tt4) (a := a) (n := 21) N5 (by k_mem) (by k_mem) (by k_mem) (by k_mem) (by k_mem) (by k_mem) (by k_mem) (by k_mem) (by k_mem) (by k_mem) (by k_mem) (by k_mem) hH hoo lo hob (by k_ne) (by k_ne) (by k_ne) (by k_ne) (by k_ne) (by k_ne) (by k_ne) (by k_ne) (by k_ne) (by k_ne) (by k_ne) (by k_ne) (by k_ne) (by k_ne) (by k_ne) (by k_ne) (by k_ne) (by k_ne) (by k_ne) NF hfx
    obtain ⟨tl, N6, hop⟩ := LS.open NF hLS
    simp only [List.cons_append, List.nil_append] at N6
    clear N5 NF hLS
    (try clear F3); (try clear F9)
    refine For_at ?_
    walk_at "S"
    refine Stop.go ?_
    rename Fr _ _ _ _ => F7
    rename News _ _ _ _ => N7
    obtain ⟨NF, hLS⟩ := hop _ N7
    refine wpAny_call (codeAny_le (next_ls (ad := ⟨hand, l, book, lm, ll, types⟩) X0 B0 F7 NF T0 rfl rfl hLS (by omega) (by omega) ?_) rfl (Nat.le_of_ble_eq_true rfl) rfl rfl (Nat.le_of_ble_eq_true rfl))
    clear F7 N7 NF hLS hop tl
    intro h7 tk7 r7 t7 r0 r1 F7 NF hLS
    obtain ⟨tl, N7, hop⟩ := LS.open NF hLS
    simp only [List.cons_append, List.nil_append] at N7
    clear NF hLS
    (try dsimp only)
    walk_at "S"
    refine Stop.go ?_
    rename IsRange _ _ _ _ _ _ _ _ => hR
    rename Fr _ _ _ _ => F9
    rename News _ _ _ _ => N9
    obtain ⟨k9, hk9⟩ : ∃ k : Nat, 1 + r7 = (k : Int) := ar0 r0 r1
    have hk16 : k9 ≤ 16 := ar5 hk9 r1
    rw [hk9] at hR
    refine wpAny_pyIter_range hR (small_upto _ (ar4 hk16)) ?_
    rw [size_upto _ (ar4 hk16)]
    rename Heap => h9
    have N10 := News.push F9 N9 { cls := .type "range_iterator", data := .fields #[rawInt 0, rawInt (k9 : Int), rawInt 1] }
    have F10 := F9.push { cls := .type "range_iterator", data := .fields #[rawInt 0, rawInt (k9 : Int), rawInt 1] }
    have x9 := (hop _ N9).2.new (Heap.get?_none_of_le (Nat.le_refl h9.objs.size))
    have x10 := x9.keep (h' := h9.push { cls := .type "range_iterator", data := .fields #[rawInt 0, rawInt (k9 : Int), rawInt 1] }) (fun a o e _ _ => Heap.get?_push_of_some _ e)
    have NF10 := (hop _ (fun q hq => N10 q (.tail _ hq))).1
    have hI10 := news_ne_size (hop _ N9).1
    have hL10 := N10 _ (.head _)
    clear hop N9 F9 N10 x9
    refine law_loop (mo := Str.ofString "moment") (LCg.range_walks rfl 0 k9) (fun i v s Q E st q => wpAny_pure q) ?st0 F10 NF10 x10 hI10 hL10.2.1 hL10.2.2 ?step ?fin ?hE
    case st0 => simpa using hL10.1
    case hE => passes_own
    case step =>
      clear F10 NF10 x10
      intro i v h₂ tk₂ mv xs₂ hi hP st F N x₂
      obtain ⟨ti, rfl⟩ := hP
      obtain ⟨tl2, N2, hop2⟩ := LS.open (newsC (q := (h9.objs.size, _)) ⟨st, hL10.2⟩ N) x₂
      simp only [List.cons_append, List.nil_append] at N2
      clear N x₂
      (try dsimp only)
      walk_at "S"
      refine Stop.go ?_
      rename Fr _ _ _ _ => F3
      rename News _ _ _ _ => N3
      obtain ⟨NF, x₃⟩ := hop2 _ N3
      rw [show (((i : Nat) : Int)) = 0 + (i : Int) from (Int.zero_add _).symm] at x₃
      refine wpAny_call (codeAny_le (deed_ls (ad := ⟨hand, l, book, lm, ll, types⟩) X0 B0 F3 NF T0 rfl rfl x₃ (ar1 hi hk16) (ar2 i) (ar3 hi hk16) ?_) rfl (Nat.le_of_ble_eq_true rfl) rfl rfl (Nat.le_of_ble_eq_true rfl))
      clear F3 N3 NF x₃ hop2 tl2
      intro h5 tk5 xs₅ F5 NF5 x₅
      have N5 := NF5
      (try dsimp only)
      walk_at "S"
      rename Fr _ _ _ _ => F5
      refine ⟨(NF5 _ (.head _)).1, _, _, _, xs₅, rfl, fr_mo F5, fun q hq => NF5 q (.tail _ hq), ?_⟩
      rw [← ar6 i]
      exact x₅
    case fin =>
      clear F10 NF10 x10
      intro h₂ tk₂ mv xs₂ F2 NF2 x₂
      obtain ⟨tl2, Nt2, htl⟩ := LS.open3 x₂
      have N2 := News.append NF2 Nt2
      simp only [List.cons_append, List.nil_append] at N2
      have ha3 : ∀ q ∈ tl2, q.1 ≠ L0 + 1 + 1 + 1 := fun q hq => htl.apt q hq _ (.tail _ (.tail _ (.tail _ (.head _))))
      have ha5 : ∀ q ∈ tl2, q.1 ≠ L0 + 1 + 1 + 1 + 1 + 1 := fun q hq => htl.apt q hq _ (.tail _ (.head _))
      clear NF2 Nt2 x₂
      (try dsimp only)
      walk_at "S"
      refine Stop.go ?_
      rename Fr _ _ _ _ => F3
      rename News _ _ _ _ => N3
      have NF3 := News.left (fx := [_, _, _, _, _, _, _, _]) N3
      have x₃ := htl.ls (fun q hq => N3 q (.tail _ (.tail _ (.tail _ (.tail _ (.tail _ (.tail _ (.tail _ (.tail _ hq)))))))))
      refine wpAny_call (codeAny_le (next_ls (ad := ⟨hand, l, book, lm, ll, types⟩) X0 B0 F3 NF3 T0 rfl rfl x₃ (ar7 hk16) (by decide) ?_) rfl (Nat.le_of_ble_eq_true rfl) rfl rfl (Nat.le_of_ble_eq_true rfl))
      clear F3 N3 NF3 x₃ htl ha3 ha5
      intro ha tka ra ta ra0 ra1 F2 NF2 x₂
      obtain ⟨tl2, Nt2, htl⟩ := LS.open3 x₂
      have N2 := News.append NF2 Nt2
      simp only [List.cons_append, List.nil_append] at N2
      have ha3 : ∀ q ∈ tl2, q.1 ≠ L0 + 1 + 1 + 1 := fun q hq => htl.apt q hq _ (.tail _ (.tail _ (.tail _ (.head _))))
      have ha5 : ∀ q ∈ tl2, q.1 ≠ L0 + 1 + 1 + 1 + 1 + 1 := fun q hq => htl.apt q hq _ (.tail _ (.head _))
      clear NF2 Nt2 x₂
      (try dsimp only)
      walk_at "S"
      refine Stop.go ?_
      rename Fr _ _ _ _ => F3
      rename News _ _ _ _ => N3
      have NF3 := News.left (fx := [_, _, _, _, _, _, _, _]) N3
      have x₃ := htl.ls (fun q hq => N3 q (.tail _ (.tail _ (.tail _ (.tail _ (.tail _ (.tail _ (.tail _ (.tail _ hq)))))))))
      have hap3 : ∀ z ∈ ([L0 + 1 + 1 + 1 + 1 + 1, L0 + 1 + 1 + 1 + 1, L0 + 1 + 1 + 1, L0 + 1 + 1, L0 + 1, 198, cL] : List Nat), z ≠ 191 := by
        intro z hz
        simp only [List.mem_cons, List.not_mem_nil, or_false] at hz
        rcases hz with rfl | rfl | rfl | rfl | rfl | rfl | rfl <;> k_ne
      refine wpAny_call (codeAny_le (right_ls (ad := ⟨hand, l, book, lm, ll, types⟩) X0 B0 F3 NF3 T0 rfl rfl X0 T0 HC1 x₃ (ar11 k9) (ar8 hk16) hap3 ?_) rfl (Nat.le_of_ble_eq_true rfl) rfl rfl (Nat.le_of_ble_eq_true rfl))
      clear F3 N3 NF3 x₃ htl ha3 ha5
      intro h5 tk5 ps5 F2 NF2 x₂
      obtain ⟨tl2, Nt2, htl⟩ := LS.open3 x₂
      have N2 := News.append NF2 Nt2
      simp only [List.cons_append, List.nil_append] at N2
      have ha3 : ∀ q ∈ tl2, q.1 ≠ L0 + 1 + 1 + 1 := fun q hq => htl.apt q hq _ (.tail _ (.tail _ (.tail _ (.head _))))
      have ha5 : ∀ q ∈ tl2, q.1 ≠ L0 + 1 + 1 + 1 + 1 + 1 := fun q hq => htl.apt q hq _ (.tail _ (.head _))
      clear NF2 Nt2 x₂
      (try dsimp only)
      walk_at "S"
      refine Stop.go ?_
      rename Fr _ _ _ _ => F3
      rename News _ _ _ _ => N3
      have NF3 := News.left (fx := [_, _, _, _, _, _, _, _]) N3
      have x₃ := htl.ls (fun q hq => N3 q (.tail _ (.tail _ (.tail _ (.tail _ (.tail _ (.tail _ (.tail _ (.tail _ hq)))))))))
      refine wpAny_call (codeAny_le (next_ls (ad := ⟨hand, l, book, lm, ll, types⟩) X0 B0 F3 NF3 T0 rfl rfl x₃ (ar9 hk16) (by decide) ?_) rfl (Nat.le_of_ble_eq_true rfl) rfl rfl (Nat.le_of_ble_eq_true rfl))
      clear F3 N3 NF3 x₃ htl ha3 ha5
      intro hb tkb rb tb rb0 rb1 F2 NF2 x₂
      obtain ⟨tl2, Nt2, htl⟩ := LS.open3 x₂
      have N2 := News.append NF2 Nt2
      simp only [List.cons_append, List.nil_append] at N2
      have ha3 : ∀ q ∈ tl2, q.1 ≠ L0 + 1 + 1 + 1 := fun q hq => htl.apt q hq _ (.tail _ (.tail _ (.tail _ (.head _))))
      have ha5 : ∀ q ∈ tl2, q.1 ≠ L0 + 1 + 1 + 1 + 1 + 1 := fun q hq => htl.apt q hq _ (.tail _ (.head _))
      clear NF2 Nt2 x₂
      (try dsimp only)
      walk_at "S"
      refine Stop.go ?_
      rename IsRange _ _ _ _ _ _ _ _ => hR
      rename Fr _ _ _ _ => F3
      rename News _ _ _ _ => N3
      obtain ⟨kb, hkb, hkb1, hkb3⟩ := ar12 rb0 rb1
      rw [hkb] at hR
      refine LCg.CompSrc.range rfl F3 N3 hR (small_upto _ (ar13 hkb3)) (size_upto _ (ar13 hkb3)) (by rw [sizeLine_eq]; exact Nat.le_trans hkb3 (by decide)) ?_
      intro gq
      refine Mine.rest_inv kb (fun i ys news => ∃ tl ts, news = _ :: _ :: _ :: _ :: _ :: _ :: _ :: _ :: tl ∧ Tail w g0 L0 ⟨hand, l, book, lm, ll, types⟩ (0 + 1 + 4 * k9 + 1 + 1 + i) (k9 : Int) [191, L0 + 1 + 1 + 1 + 1 + 1, L0 + 1 + 1 + 1 + 1, L0 + 1 + 1 + 1, L0 + 1 + 1, L0 + 1, 198, cL] xs₂ tl ∧ TagsOf xs₂ ys ts ∧ ts.length = i) ?turn kb 0 [] _ (Nat.zero_add _) ⟨tl2, [], rfl, htl, ⟨rfl, fun q hq => nomatch hq⟩, rfl⟩ ?cfin
      case turn =>
        clear F3 N3 htl ha3 ha5 hR
        intro i v I oI C oC D ys m₂ h tk E' news hik hInv hv hC hx F N off ne
        obtain ⟨tl, ts, hnews, ht, htg, hlen⟩ := hInv
        subst hnews
        have offm := off.mem
        (try dsimp only)
        walk_at "S"
        refine Stop.go ?_
        rename Fr _ _ _ _ => F5
        rename News _ _ _ _ => N5
        have Nt5 : News g0 L0 _ tl := fun q hq => N5 q (.tail _ (.tail _ (.tail _ (.tail _ (.tail _ (.tail _ (.tail _ (.tail _ (.tail _ (.tail _ (.tail _ hq)))))))))))
        have hty5 := (ht.ls Nt5).types
        refine' kun_lenL ?kl ?kk ?kz ?_
        case kl => exact hty5.1
        case kk => (simp only [List.size_toArray, List.length_map]; exact rfl)
        case kz => exact ar20 hty5.2.2.1
        clear Nt5
        walk_at "S"
        refine Stop.go ?_
        rename Fr _ _ _ _ => F5
        rename News _ _ _ _ => N5
        have Nt5 : News g0 L0 _ tl := fun q hq => N5 q (.tail _ (.tail _ (.tail _ (.tail _ (.tail _ (.tail _ (.tail _ (.tail _ (.tail _ (.tail _ (.tail _ hq)))))))))))
        have x5 := ht.up [I, C, D] _ (fun q hq z hz => by
          have o := offm q (.tail _ (.tail _ (.tail _ (.tail _ (.tail _ (.tail _ (.tail _ (.tail _ hq))))))))
          simp only [List.mem_cons, List.not_mem_nil, or_false] at hz
          rcases hz with rfl | rfl | rfl
          · exact o.1
          · exact o.2.1
          · exact o.2.2) Nt5
        have NF5 := newsC (N5 (I, _) (.head _)) (newsC (N5 (C, _) (.tail _ (.head _))) (newsC (N5 (D, _) (.tail _ (.tail _ (.head _)))) (newsC (N5 (191, _) (by k_mem)) (newsC (N5 (L0 + 1 + 1 + 1 + 1 + 1, _) (by k_mem)) (newsC (N5 (L0 + 1 + 1 + 1 + 1, _) (by k_mem)) (newsC (N5 (L0 + 1 + 1 + 1, _) (by k_mem)) (newsC (N5 (L0 + 1 + 1, _) (by k_mem)) (newsC (N5 (L0 + 1, _) (by k_mem)) (newsC (N5 (198, _) (by k_mem)) (newsC (N5 (cL, _) (by k_mem)) News.nil))))))))))
        refine wpAny_call (codeAny_le (next_ls (ad := ⟨hand, l, book, lm, ll, types⟩) X0 B0 F5 NF5 T0 rfl rfl x5 (ar19 hk16 hkb3 (Nat.le_of_lt hik)) (ar15 hty5.2.1) ?_) rfl (Nat.le_of_ble_eq_true rfl) rfl rfl (Nat.le_of_ble_eq_true rfl))
        clear F5 N5 NF5 x5 Nt5
        intro h6 tk6 r6 t6 r60 r61 F6 NF6 x6
        have ht6 := x6.types
        obtain ⟨tl6, Nt6, htl6⟩ := LS.open3 x6
        have N6 := News.append NF6 Nt6
        simp only [List.cons_append, List.nil_append] at N6
        clear NF6 Nt6
        (try dsimp only)
        walk_at "S"
        refine Stop.go ?_
        rename Fr _ _ _ _ => F7
        rename News _ _ _ _ => N7
        have x7 := htl6.ls (fun q hq => N7 q (.tail _ (.tail _ (.tail _ (.tail _ (.tail _ (.tail _ (.tail _ (.tail _ (.tail _ (.tail _ (.tail _ hq))))))))))))
        obtain ⟨ty7, _, _, _⟩ := x7.types
        have hr6 : r6.toNat < xs₂.length := ar16 r60 r61
        obtain ⟨⟨y6, d6, od6⟩, hy6⟩ : ∃ t, xs₂[r6.toNat]? = some t := ⟨_, List.getElem?_eq_getElem hr6⟩
        refine Mine.item_listL ty7 r60 (ar17 r61 ht6.2.2.1) (by rw [List.getElem?_map, hy6]; rfl) ?_
        refine ⟨_, _, _, rfl, F7, N7, LCg.Off3.of ?off6, tl6, _, rfl, Tail.drop (zs := [I, C, D]) htl6, TagsOf.snoc htg hy6, by rw [List.length_append, hlen]; rfl⟩
        case off6 =>
          intro q hq
          rcases List.mem_append.mp (show q ∈ [_, _, _, _, _, _, _, _] ++ tl6 from hq) with hq | hq
          · exact offm q (List.mem_append_left tl hq)
          · exact ⟨htl6.apt q hq I (.head _), htl6.apt q hq C (.tail _ (.head _)), htl6.apt q hq D (.tail _ (.tail _ (.head _)))⟩
      case cfin =>
        intro ys news hInv
        refine Classical.byContradiction fun hG => ?_
        obtain ⟨tl, ts, hnews, ht, htg, hlen⟩ := hInv
        subst hnews
        refine hG ?_
        clear hG
        have ha3 : ∀ q ∈ tl, q.1 ≠ L0 + 1 + 1 + 1 := fun q hq => ht.apt q hq _ (.tail _ (.tail _ (.tail _ (.head _))))
        have ha5 : ∀ q ∈ tl, q.1 ≠ L0 + 1 + 1 + 1 + 1 + 1 := fun q hq => ht.apt q hq _ (.tail _ (.head _))
        have ha8 : ∀ q ∈ tl, q.1 ≠ 198 := fun q hq => ht.apt q hq _ (.tail _ (.tail _ (.tail _ (.tail _ (.tail _ (.tail _ (.head _)))))))
        clear F3 N3 htl
        unfold LCg.FinE
        intro Dq hq tkq Fq Nq offq
        have offm := off1_mem offq
        have offt : ∀ q ∈ tl, q.1 ≠ Dq := fun q hq => offm q (.tail _ (.tail _ (.tail _ (.tail _ (.tail _ (.tail _ (.tail _ (.tail _ hq))))))))
        simp only [LCg.Off1, and_true] at offq
        refine Classical.byContradiction fun hG => ?_
        obtain ⟨_, _, _, _, _, _, _, _, _⟩ := offq
        obtain ⟨hys, htag⟩ := htg
        subst hys
        refine hG ?_
        clear hG
        (try dsimp only)
        walk_at "S"
        refine Stop.go ?_
        rename_i fM cM ocM vsM tM ctM _ _ dM1 dM2 _ _ _ _ F4 N4 _
        rename (_ = Data.cell (some (Value.ref Dq))) => hcT
        rename (_ = Data.cell (some (Value.int (1 + ra) _))) => hcL
        have hlk : 1 ≤ ts.length ∧ ts.length ≤ 3 := by rw [hlen]; exact ⟨hkb1, hkb3⟩
        have Nt4 : News g0 L0 _ tl := fun q hq => N4 q (.tail _ (.tail _ (.tail _ (.tail _ (.tail _ (.tail _ (.tail _ (.tail _ (.tail _ (.tail _ (.tail _ (.tail _ hq))))))))))))
        have x4 := ht.ls Nt4
        have hl4 := News.isList (a := Dq) N4 (by k_mem)
        refine Classical.byContradiction fun hG => ?_
        obtain ⟨y1, r1', hts⟩ : ∃ y r, ts = y :: r := by
          cases ts with
          | nil => exact absurd hlk.1 (by simp)
          | cons y r => exact ⟨y, r, rfl⟩
        subst hts
        have hnum := TagsOf.nums (ts := y1 :: r1') ⟨rfl, htag⟩ x4
        obtain ⟨j1, d1, od1, e1', e2'⟩ := htag y1 (.head _)
        obtain ⟨tk1, a1, nm1, nn1, p1, Ni1⟩ := x4.insts e1'
        rw [← e2'] at Ni1
        refine hG ?_
        clear hG
        clear Nt4
        refine' join_obj F4 N4 (fun o => (numsAgree (y1 :: r1') = true ∧ ∃ t9, o = argsObj [.str (Str.ofString "told") t9, .int y1.2 tk1.v2]) ∨ (¬ numsAgree (y1 :: r1') = true ∧ ∃ t9 tl9, o = argsObj [.str (Str.ofString "constraint_error") t9, .int (1 + ra) tl9])) ?both ?after
        case both =>
          by_cases hag : numsAgree (y1 :: r1') = true
          · refine wpAny_call (codeAny_le (fell_told (v := .int y1.2 tk1.v2) X0 B0 F4 N4 T0 rfl rfl ⟨_, _, _, _, (N4 (fM, _) (by k_mem)).1⟩ ?ask2 ?tell2) rfl (Nat.le_of_ble_eq_true rfl) rfl rfl (Nat.le_of_ble_eq_true rfl))
            case ask2 =>
              intro A9 s9 g9 L9 m9 env9 R9 hk9 X9 B9 F9 T9 hf9 hke9 out9
              have hof9 := hk9 _ _ (N4 (fM, _) (by k_mem)).1
              have cr9 : g9.CodeRec (.ref cM) (Str.ofString "law.<locals>.<lambda>") := by
                obtain ⟨c, oc, vs, tq, q1, q2, q3⟩ := codeRec_news N4 (c := cM) (by k_mem) dM1 dM2
                exact ⟨c, oc, vs, tq, q1, hk9 _ _ q2, q3⟩
              have ct9 : CellAt g9 (L0 + 1 + 1 + 1 + 1 + 1) (.ref Dq) := ⟨_, hk9 _ _ (N4 (L0 + 1 + 1 + 1 + 1 + 1, _) (by k_mem)).1, hcT⟩
              have cl9 : CellAt g9 (L0 + 1 + 1 + 1) (.int (1 + ra) _) := ⟨_, hk9 _ _ (N4 (L0 + 1 + 1 + 1, _) (by k_mem)).1, hcL⟩
              have hl9 := IsList.keep hl4 hk9
              have hn9 : ∀ q ∈ y1 :: r1', NumAt w g9 q.1 q.2 := fun q hq => (hnum q hq).keep hk9
              clear F4 N4
              refine lam_enter B9 F9 X9 T9 rfl hf9 hke9 hof9 cr9 (Nat.le_of_ble_eq_true rfl) rfl (locs rfl) ?_ rfl rfl rfl (by decide)
              clear hof9
              intro g5 L5 h5' FG5 F5 N5 B5 X5 T5 hk5
              have kp5 : ∀ b o, g9.get? b = some o → g5.get? b = some o := fun b o e => hk5 b o (F9.keep b o e)
              have ct5 := CellAt.keep ct9 kp5
              have cl5 := CellAt.keep cl9 kp5
              have hi5 : InstAt g5 y1.1 (instObj 94 d1) 94 (some (dictOf (typeEs w.params tk1 a1 nm1 y1.2 p1 true od1) nn1)) := ⟨kp5 _ _ (hk9 _ _ (Ni1 _ (.head _)).1), rfl, rfl, kp5 _ _ (hk9 _ _ (Ni1 _ (.tail _ (.head _))).1)⟩
              have hl5 := IsList.keep hl9 kp5
              have hn5 : ∀ q ∈ y1 :: r1', NumAt w g5 q.1 q.2 := fun q hq => (hn9 q hq).keep kp5
              dsimp only
              change wpAny _ _ _ _ _ _
              k_fold
              walk_at "S"
              refine Stop.go ?_
              rename Fr g5 L5 _ _ => F6
              rename News g5 L5 _ _ => N6
              refine wpAny_call (codeAny_le (common_spec X5 B5 F6 N6 T5 rfl rfl (IsList.keep hl5 F6.keep) (fun q hq => (hn5 q hq).keep F6.keep) hlk.1 hlk.2 ?cpost ?cbad) rfl (Nat.le_of_ble_eq_true rfl) rfl rfl (Nat.le_of_ble_eq_true rfl))
              case cbad => intro z; rw [hag] at z; cases z
              intro _ h6 tk6 y r e6 k6 F7
              obtain rfl : y1 = y := (List.cons.inj e6).1
              have N7 : News g5 L5 h6 [] := News.nil
              clear F6 N6
              (try dsimp only)
              walk_at "S"
              rename Fr g9 L9 _ _ => kF
              exact out9 _ _ kF
            case tell2 =>
              intro h9 tk9 a9 t9 k9 F9 N9a hn9
              refine ⟨_, _, _, _, rfl, rfl, .inl ⟨hag, t9, rfl⟩, F9, fun q hq => ?_⟩
              rcases List.mem_cons.mp hq with rfl | hq
              · exact N9a _ (.head _)
              · exact news0 N4 k9 q hq
          · refine wpAny_call (codeAny_le (fell_wrong (line := 1 + ra) (wd := Str.ofString "constraint_error") X0 B0 F4 N4 T0 rfl rfl ⟨_, _, _, _, (N4 (fM, _) (by k_mem)).1⟩ X0 T0 ?ask3 (News.isTup N4 (by k_mem)) ?tell3) rfl (Nat.le_of_ble_eq_true rfl) rfl rfl (Nat.le_of_ble_eq_true rfl))
            case ask3 =>
              intro A9 s9 g9 L9 m9 env9 R9 hk9 X9 B9 F9 T9 hf9 hke9 out9
              have hof9 := hk9 _ _ (N4 (fM, _) (by k_mem)).1
              have cr9 : g9.CodeRec (.ref cM) (Str.ofString "law.<locals>.<lambda>") := by
                obtain ⟨c, oc, vs, tq, q1, q2, q3⟩ := codeRec_news N4 (c := cM) (by k_mem) dM1 dM2
                exact ⟨c, oc, vs, tq, q1, hk9 _ _ q2, q3⟩
              have ct9 : CellAt g9 (L0 + 1 + 1 + 1 + 1 + 1) (.ref Dq) := ⟨_, hk9 _ _ (N4 (L0 + 1 + 1 + 1 + 1 + 1, _) (by k_mem)).1, hcT⟩
              have cl9 : CellAt g9 (L0 + 1 + 1 + 1) (.int (1 + ra) _) := ⟨_, hk9 _ _ (N4 (L0 + 1 + 1 + 1, _) (by k_mem)).1, hcL⟩
              have hl9 := IsList.keep hl4 hk9
              have hn9 : ∀ q ∈ y1 :: r1', NumAt w g9 q.1 q.2 := fun q hq => (hnum q hq).keep hk9
              clear F4 N4
              refine lam_enter B9 F9 X9 T9 rfl hf9 hke9 hof9 cr9 (Nat.le_of_ble_eq_true rfl) rfl (locs rfl) ?_ rfl rfl rfl (by decide)
              clear hof9
              intro g5 L5 h5' FG5 F5 N5 B5 X5 T5 hk5
              have kp5 : ∀ b o, g9.get? b = some o → g5.get? b = some o := fun b o e => hk5 b o (F9.keep b o e)
              have ct5 := CellAt.keep ct9 kp5
              have cl5 := CellAt.keep cl9 kp5
              have hi5 : InstAt g5 y1.1 (instObj 94 d1) 94 (some (dictOf (typeEs w.params tk1 a1 nm1 y1.2 p1 true od1) nn1)) := ⟨kp5 _ _ (hk9 _ _ (Ni1 _ (.head _)).1), rfl, rfl, kp5 _ _ (hk9 _ _ (Ni1 _ (.tail _ (.head _))).1)⟩
              have hl5 := IsList.keep hl9 kp5
              have hn5 : ∀ q ∈ y1 :: r1', NumAt w g5 q.1 q.2 := fun q hq => (hn9 q hq).keep kp5
              dsimp only
              change wpAny _ _ _ _ _ _
              k_fold
              walk_at "S"
              refine Stop.go ?_
              rename Fr g5 L5 _ _ => F6
              rename News g5 L5 _ _ => N6
              refine wpAny_call (codeAny_le (common_spec X5 B5 F6 N6 T5 rfl rfl (IsList.keep hl5 F6.keep) (fun q hq => (hn5 q hq).keep F6.keep) hlk.1 hlk.2 ?dpost ?dbad) rfl (Nat.le_of_ble_eq_true rfl) rfl rfl (Nat.le_of_ble_eq_true rfl))
              case dpost => intro z; exact absurd z hag
              intro _ h6 tk6 e6 dx6 dobj6 hw6 hfly6
              (try dsimp only)
              refine leave_on B5 F6 hfly6 rfl fun h6' hfly7 => ?_
              exact out9 _ _ e6 dx6 _ hw6 (hfly7.mono (fun b o e => hk5 b o e))
            case tell3 =>
              intro h9 g9 tk9 a9 t9 tl9 T9 F9' N9' B9
              exact ⟨_, _, _, _, rfl, rfl, .inr ⟨hag, t9, tl9, rfl⟩, fr_back (show KtsTurn [] _ _ from T9) F9', news_back (show KtsTurn [] _ _ from T9) N9'⟩
        case after =>
          clear F4 N4
          intro h9 tk9 a9 oH hP F9 N9
          refine Classical.byContradiction fun hG => ?_
          obtain ⟨tk5, a5, nm5, nn5, p5, Ni5⟩ := (ht.ls (h' := h9) (fun q hq => N9 q (.tail _ (.tail _ (.tail _ (.tail _ (.tail _ (.tail _ (.tail _ (.tail _ (.tail _ (.tail _ (.tail _ (.tail _ (.tail _ hq))))))))))))))).insts e1'
          rw [← e2'] at Ni5
          refine hG ?_
          clear hG
          have N10 := newsC (Ni5 _ (.head _)) (newsC (Ni5 _ (.tail _ (.head _))) N9)
          clear N9 Ni5
          (try dsimp only)
          walk_at "S"
          refine Stop.go ?_
          rename Fr _ _ _ _ => F3
          rename News _ _ _ _ => N3
          refine LCt.CompSrcT.ledger (ax := Dq) rfl F3 N3 (by k_mem) (by rw [sizeLine_eq, List.size_toArray, List.length_map]; exact Nat.le_trans hlk.2 (by decide)) ?_
          intro gq
          refine' Mine.rest_filter (diffTest (y1 :: r1') y1.2) (vs := (y1 :: r1').map fun q => Value.ref q.1) ?qa1 ?qb1 ?qc1 ?qd1 ?turn1 _ 0 [] ?qf1 ?fin1
          case qa1 => exact fun _ => rfl
          case qb1 => exact fun _ => rfl
          case qc1 => decide
          case qd1 => exact Or.inr ⟨_, (by k_mem), rfl, _, rfl⟩
          case qf1 => simp
          case turn1 =>
            clear F3 N3
            intro j v I oI C oC D' ys m₂ hh tk E' hv hC hx F2 N2 off ne
            rw [List.getElem?_map] at hv
            refine Classical.byContradiction fun hG => ?_
            obtain ⟨q, hq, rfl⟩ := Option.map_eq_some_iff.mp hv
            obtain ⟨jq, dq, odq, eq1, eq2⟩ := htag q (List.mem_of_getElem? hq)
            obtain ⟨tkq, aq, nmq, nnq, pq, Niq⟩ := (ht.ls (h' := hh) (fun z hz => N2 z (.tail _ (.tail _ (.tail _ (.tail _ (.tail _ (.tail _ (.tail _ (.tail _ (.tail _ (.tail _ (.tail _ (.tail _ (.tail _ (.tail _ (.tail _ (.tail _ (.tail _ (.tail _ hz)))))))))))))))))))).insts eq1
            rw [← eq2] at Niq
            refine hG ?_
            clear hG
            have N3 := newsC (Niq _ (.head _)) (newsC (Niq _ (.tail _ (.head _))) N2)
            clear Niq N2
            (try dsimp only)
            walk_at "S"
            refine Stop.go ?_
            rename Fr _ _ _ _ => F5
            rename News _ _ _ _ => N5
            have hl5 : Heap.IsList _ Dq ((y1 :: r1').map fun q => Value.ref q.1).toArray := News.isList N5 (by k_mem)
            refine' Mine.item_listL (vs := (y1 :: r1').map fun q => Value.ref q.1) hl5 ?iaA ?ibA ?icA ?_
            case iaA => decide
            case ibA => decide
            case icA => exact rfl
            walk_at "S"
            rename Fr _ _ _ _ => F6
            rename News _ _ _ _ => N6
            refine ⟨?_, _, _, rfl, F6, fun z hz => N6 z (.tail _ (.tail _ hz))⟩
            unfold diffTest
            rw [hq]
            by_cases e : q.2 = y1.2 <;> simp [e]
          case fin1 =>
            clear F3 N3
            simp only [List.nil_append, List.drop_zero]
            rcases hP with ⟨hag, t9, rfl⟩ | ⟨hag, t9, tl9, rfl⟩
            · rw [diff_nil hag]
              walk_at "S"
              refine Stop.go ?_
              rename Fr _ _ _ _ => F5
              rename News _ _ _ _ => N5
              have hl5 : Heap.IsList _ Dq ((y1 :: r1').map fun q => Value.ref q.1).toArray := News.isList N5 (by k_mem)
              refine' Mine.item_listL (vs := (y1 :: r1').map fun q => Value.ref q.1) hl5 ?iaB ?ibB ?icB ?_
              case iaB => decide
              case ibB => decide
              case icB => exact rfl
              walk_at "S"
              refine hQL _ _ ?_
              walk_at "S"
            · have hdc := diff_cons hag
              generalize keepIf (diffTest (y1 :: r1') y1.2) 0 _ = ws at hdc ⊢
              walk_at "S"
              refine hQL _ _ ?_
              walk_at "S")
end
end Mine
theorem PySem.Challenge.cw_pb0007_01_holds : PySem.Challenge.rw_pb0007_01.Holds := by
  exact Mine.law_holds
