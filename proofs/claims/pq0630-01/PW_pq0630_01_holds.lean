import PyProof.Rows.All
import Wide.All
import OpenK.AllK
import Wide.FinOn
import PySem.Challenge.RW_pq0630_01
set_option Elab.async false
set_option rowWalk.seconds 0
set_option compiler.extract_closed false
set_option maxRecDepth 100000
set_option maxHeartbeats 8000000
namespace Mine

section
open PySem PySem.W PyProof.Rows
noncomputable def hd.view_39 : PySem.Program := by
  refine haveI h : ?q = view PySem.Challenge.pw_pq0630_01 [0,2,3,5,6,7,8,9,10,11,12,13,15,16,17,18,19,21,22,23,24,25,27,28,29,30,31,32,33,34,35,36,37,38,39,40,41,42,43,44,45,46,47,49,50,51,52,53] := (by (conv => (rhs; unfold view PySem.Challenge.pw_pq0630_01; simp only [List.filterMap_cons, List.filterMap_nil, List.getElem?_cons_zero, List.getElem?_cons_succ]))); ?q
namespace Ahead
theorem opened (w : World) : (fencedOpening treeTable PySem.Challenge.pw_pq0630_01 w 4826).map (fun s => (s.heap, s.gens, s.drawn, s.toks)) = some (boot_heap w.params, Array.mk [], boot_drawn, boot_toks) := boot_open (by kernel_rfl) (by decide +kernel) (fun s => by kernel_rfl) w
noncomputable abbrev body0 : List Stmt := behindTheImports PySem.Challenge.pw_pq0630_01
abbrev pos0 : Pos := ⟨0, 0, 0, 0⟩
abbrev ann0 : Option Value := some (.ref 6)
noncomputable def env0 : Env := { scope := PySem.Challenge.pw_pq0630_01.main.scope, locals := mainNs, globals := mainNs, cells := [], code := .ref 13, frame := some 14 }
noncomputable abbrev code0 : Code := .body body0 env0
/-- a statement of the text's, by its place -/
noncomputable def ts (k : Nat) : Stmt := (body0[k]?).getD (.Pass pos0)
noncomputable def tm (k j : Nat) : Stmt := match ts k with
  | .ClassDef _ _ _ b .. => (b[j]?).getD (.Pass pos0)
  | _ => .Pass pos0
noncomputable def fP : Stmt → Arguments
  | .FunctionDef _ a .. => a
  | _ => ⟨[], [], none, [], [], none, []⟩
noncomputable def fB : Stmt → FuncBody
  | .FunctionDef _ _ b .. => .stmts b
  | _ => .stmts []
noncomputable def fS : Stmt → Scope
  | .FunctionDef _ _ _ _ _ _ s .. => s
  | _ => PySem.Challenge.pw_pq0630_01.main.scope
noncomputable def ob_11_v0 (_ : Params) : Obj := (Obj.mk (Value.type "tuple") none (Data.seq (Array.mk []) 0) (Array.mk []))
noncomputable def ob_12_v0 (_ : Params) : Obj := (Obj.mk Value.none none (Data.fields (Array.mk [])) (Array.mk []))
noncomputable def ob_13_v0 (_ : Params) : Obj := (Obj.mk (Value.type "code") none (Data.fields (Array.mk [(Value.str (Str.ofString "<module>") 182), (Value.str (Str.ofString "<module>") 183), (Value.str (Str.ofString "/claim/cut.py") 184), (Value.int 1 0), (Value.int 0 0), (Value.int 0 0), (Value.int 0 0), (Value.int 0 0), (Value.ref 11), (Value.bool false), (Value.int 181 0), (Value.ref 12), Value.none, Value.none, Value.none, Value.none, (Value.int 185 0), (Value.int 1 0), (Value.str (Str.ofString "/claim/cut.py") 186)])) (Array.mk []))
noncomputable def ob_14_v0 (_ : Params) : Obj := (Obj.mk (Value.type "frame") none Data.plain (Array.mk [(some (Value.ref 13)), (some (Value.ref 3)), (some (Value.ref 3)), none, (some (Value.str (Str.ofString "__main__") 164)), none, (some (Value.ref 0))]))
noncomputable def ob_2_v1 (P : Params) : Obj := (Obj.mk Value.none none (Data.dict (Array.mk [(DictEntry.mk (PyData.keyHash P (Str.ofString "type.__subclasses__.Exception.0")) (Value.str (Str.ofString "type.__subclasses__.Exception.0") 232) (Value.int 47 0)), (DictEntry.mk (PyData.keyHash P (Str.ofString "type.__subclasses__.Exception.n")) (Value.str (Str.ofString "type.__subclasses__.Exception.n") 233) (Value.int 1 0))]) 2) (Array.mk []))
noncomputable def ob_3_v1 (P : Params) : Obj := (Obj.mk (Value.type "dict") none (Data.dict (Array.mk [(DictEntry.mk (PyData.keyHash P (Str.ofString "__name__")) (Value.str (Str.ofString "__name__") 165) (Value.str (Str.ofString "ledgerspeak.items") 252)), (DictEntry.mk (PyData.keyHash P (Str.ofString "__doc__")) (Value.str (Str.ofString "__doc__") 166) Value.none), (DictEntry.mk (PyData.keyHash P (Str.ofString "__package__")) (Value.str (Str.ofString "__package__") 167) Value.none), (DictEntry.mk (PyData.keyHash P (Str.ofString "__loader__")) (Value.str (Str.ofString "__loader__") 168) (Value.builtin "__main__.__loader__#opaque")), (DictEntry.mk (PyData.keyHash P (Str.ofString "__spec__")) (Value.str (Str.ofString "__spec__") 169) Value.none), (DictEntry.mk (PyData.keyHash P (Str.ofString "__annotations__")) (Value.str (Str.ofString "__annotations__") 170) (Value.ref 6)), (DictEntry.mk (PyData.keyHash P (Str.ofString "__builtins__")) (Value.str (Str.ofString "__builtins__") 171) (Value.ref 4)), (DictEntry.mk (PyData.keyHash P (Str.ofString "__file__")) (Value.str (Str.ofString "__file__") 173) (Value.str (Str.ofString "/claim/cut.py") 172)), (DictEntry.mk (PyData.keyHash P (Str.ofString "__cached__")) (Value.str (Str.ofString "__cached__") 174) Value.none), (DictEntry.mk (PyData.keyHash P (Str.ofString "_wall")) (Value.str (Str.ofString "_wall") 193) (Value.ref 21)), (DictEntry.mk (PyData.keyHash P (Str.ofString "LedgerError")) (Value.str (Str.ofString "LedgerError") 235) (Value.ref 47)), (DictEntry.mk (PyData.keyHash P (Str.ofString "CheckFault")) (Value.str (Str.ofString "CheckFault") 251) (Value.ref 60)), (DictEntry.mk (PyData.keyHash P (Str.ofString "FILLER")) (Value.str (Str.ofString "FILLER") 255) (Value.str (Str.ofString "FILLER") 254)), (DictEntry.mk (PyData.keyHash P (Str.ofString "Data")) (Value.str (Str.ofString "Data") 295) (Value.ref 86))]) 14) (Array.mk []))
noncomputable def ob_12_v1 (_ : Params) : Obj := (Obj.mk Value.none none (Data.fields (Array.mk [(Value.int 1 0), (Value.int 0 0), (Value.ref 20), (Value.int 5 0), (Value.int 0 0), (Value.ref 27), (Value.int 14 0), (Value.int 0 0), (Value.ref 56), (Value.int 18 0), (Value.int 0 0), (Value.ref 68)])) (Array.mk []))
noncomputable def ob_15_v1 (_ : Params) : Obj := (Obj.mk (Value.type "tuple") none (Data.seq (Array.mk []) 0) (Array.mk []))
noncomputable def ob_16_v1 (_ : Params) : Obj := (Obj.mk Value.none none (Data.fields (Array.mk [])) (Array.mk []))
noncomputable def ob_17_v1 (_ : Params) : Obj := (Obj.mk (Value.type "tuple") none (Data.seq (Array.mk [(Value.str (Str.ofString "k") 190)]) 0) (Array.mk []))
noncomputable def ob_18_v1 (_ : Params) : Obj := (Obj.mk (Value.type "tuple") none (Data.seq (Array.mk []) 0) (Array.mk []))
noncomputable def ob_19_v1 (_ : Params) : Obj := (Obj.mk Value.none none (Data.func (FuncData.mk (Str.ofString "_wall") (Str.ofString "_wall") (fP (ts 0)) (fB (ts 0)) (fS (ts 0)) 0 [] Value.none Value.none Value.none Value.none none Value.none Value.none 0)) (Array.mk []))
noncomputable def ob_20_v1 (_ : Params) : Obj := (Obj.mk (Value.type "code") none (Data.fields (Array.mk [(Value.str (Str.ofString "_wall") 187), (Value.str (Str.ofString "_wall") 188), (Value.str (Str.ofString "/claim/cut.py") 189), (Value.int 1 0), (Value.int 1 0), (Value.int 0 0), (Value.int 0 0), (Value.int 3 0), (Value.ref 15), (Value.bool true), (Value.int 181 0), (Value.ref 16), Value.none, (Value.ref 17), (Value.ref 18), (Value.ref 19), (Value.int 191 0), (Value.int 1 0), (Value.str (Str.ofString "/claim/cut.py") 192)])) (Array.mk []))
noncomputable def ob_21_v1 (_ : Params) : Obj := (Obj.mk (Value.type "function") none (Data.func (FuncData.mk (Str.ofString "_wall") (Str.ofString "_wall") (fP (ts 0)) (fB (ts 0)) (fS (ts 0)) 3 [] Value.none Value.none Value.none (Value.str (Str.ofString "__main__") 164) none (Value.ref 20) Value.none 0)) (Array.mk []))
noncomputable def ob_22_v1 (_ : Params) : Obj := (Obj.mk (Value.type "tuple") none (Data.seq (Array.mk [(Value.type "Exception")]) 0) (Array.mk []))
noncomputable def ob_23_v1 (_ : Params) : Obj := (Obj.mk (Value.type "builtin_function_or_method") none (Data.fields (Array.mk [(Value.builtin "type.__prepare__"), (Value.type "type")])) (Array.mk []))
noncomputable def ob_24_v1 (P : Params) : Obj := (Obj.mk (Value.type "dict") none (Data.dict (Array.mk [(DictEntry.mk (PyData.keyHash P (Str.ofString "__module__")) (Value.str (Str.ofString "__module__") 203) (Value.str (Str.ofString "ledgerspeak.errors") 194)), (DictEntry.mk (PyData.keyHash P (Str.ofString "__qualname__")) (Value.str (Str.ofString "__qualname__") 205) (Value.str (Str.ofString "LedgerError") 204)), (DictEntry.mk (PyData.keyHash P (Str.ofString "__firstlineno__")) (Value.str (Str.ofString "__firstlineno__") 207) (Value.int 5 206)), (DictEntry.mk (PyData.keyHash P (Str.ofString "__init__")) (Value.str (Str.ofString "__init__") 218) (Value.ref 37)), (DictEntry.mk (PyData.keyHash P (Str.ofString "told")) (Value.str (Str.ofString "told") 225) (Value.ref 44)), (DictEntry.mk (PyData.keyHash P (Str.ofString "__static_attributes__")) (Value.str (Str.ofString "__static_attributes__") 228) (Value.ref 45))]) 6) (Array.mk []))
noncomputable def ob_25_v1 (_ : Params) : Obj := (Obj.mk (Value.type "tuple") none (Data.seq (Array.mk []) 0) (Array.mk []))
noncomputable def ob_26_v1 (_ : Params) : Obj := (Obj.mk Value.none none (Data.fields (Array.mk [(Value.int 7 0), (Value.int 4 0), (Value.ref 36), (Value.int 12 0), (Value.int 4 0), (Value.ref 43)])) (Array.mk []))
noncomputable def ob_27_v1 (_ : Params) : Obj := (Obj.mk (Value.type "code") none (Data.fields (Array.mk [(Value.str (Str.ofString "LedgerError") 198), (Value.str (Str.ofString "LedgerError") 199), (Value.str (Str.ofString "/claim/cut.py") 200), (Value.int 5 0), (Value.int 0 0), (Value.int 0 0), (Value.int 0 0), (Value.int 0 0), (Value.ref 25), (Value.bool false), (Value.int 181 0), (Value.ref 26), Value.none, Value.none, Value.none, Value.none, (Value.int 201 0), (Value.int 5 0), (Value.str (Str.ofString "/claim/cut.py") 202)])) (Array.mk []))
noncomputable def ob_28_v1 (_ : Params) : Obj := (Obj.mk (Value.type "frame") none Data.plain (Array.mk [(some (Value.ref 27)), (some (Value.ref 3)), (some (Value.ref 24)), none, (some (Value.str (Str.ofString "ledgerspeak.errors") 194)), none, (some (Value.ref 0))]))
noncomputable def ob_29_v1 (_ : Params) : Obj := (Obj.mk (Value.type "tuple") none (Data.seq (Array.mk [(Value.int 0 208), (Value.int 0 209)]) 0) (Array.mk []))
noncomputable def ob_30_v1 (_ : Params) : Obj := (Obj.mk (Value.type "tuple") none (Data.seq (Array.mk [(Value.ref 29)]) 0) (Array.mk []))
noncomputable def ob_31_v1 (_ : Params) : Obj := (Obj.mk (Value.type "tuple") none (Data.seq (Array.mk []) 0) (Array.mk []))
noncomputable def ob_32_v1 (_ : Params) : Obj := (Obj.mk Value.none none (Data.fields (Array.mk [])) (Array.mk []))
noncomputable def ob_33_v1 (_ : Params) : Obj := (Obj.mk (Value.type "tuple") none (Data.seq (Array.mk [(Value.str (Str.ofString "self") 213), (Value.str (Str.ofString "what") 214), (Value.str (Str.ofString "at") 215)]) 0) (Array.mk []))
noncomputable def ob_34_v1 (_ : Params) : Obj := (Obj.mk (Value.type "tuple") none (Data.seq (Array.mk []) 0) (Array.mk []))
noncomputable def ob_35_v1 (_ : Params) : Obj := (Obj.mk Value.none none (Data.func (FuncData.mk (Str.ofString "__init__") (Str.ofString "LedgerError.__init__") (fP (tm 2 0)) (fB (tm 2 0)) (fS (tm 2 0)) 0 [] Value.none Value.none Value.none Value.none none Value.none Value.none 0)) (Array.mk []))
noncomputable def ob_36_v1 (_ : Params) : Obj := (Obj.mk (Value.type "code") none (Data.fields (Array.mk [(Value.str (Str.ofString "__init__") 210), (Value.str (Str.ofString "LedgerError.__init__") 211), (Value.str (Str.ofString "/claim/cut.py") 212), (Value.int 7 0), (Value.int 3 0), (Value.int 0 0), (Value.int 0 0), (Value.int 3 0), (Value.ref 31), (Value.bool true), (Value.int 181 0), (Value.ref 32), Value.none, (Value.ref 33), (Value.ref 34), (Value.ref 35), (Value.int 216 0), (Value.int 7 0), (Value.str (Str.ofString "/claim/cut.py") 217)])) (Array.mk []))
noncomputable def ob_37_v1 (_ : Params) : Obj := (Obj.mk (Value.type "function") none (Data.func (FuncData.mk (Str.ofString "__init__") (Str.ofString "LedgerError.__init__") (fP (tm 2 0)) (fB (tm 2 0)) (fS (tm 2 0)) 3 [] (Value.ref 30) Value.none Value.none (Value.str (Str.ofString "ledgerspeak.errors") 194) none (Value.ref 36) Value.none 0)) (Array.mk []))
noncomputable def ob_38_v1 (_ : Params) : Obj := (Obj.mk (Value.type "tuple") none (Data.seq (Array.mk []) 0) (Array.mk []))
noncomputable def ob_39_v1 (_ : Params) : Obj := (Obj.mk Value.none none (Data.fields (Array.mk [])) (Array.mk []))
noncomputable def ob_40_v1 (_ : Params) : Obj := (Obj.mk (Value.type "tuple") none (Data.seq (Array.mk [(Value.str (Str.ofString "self") 222)]) 0) (Array.mk []))
noncomputable def ob_41_v1 (_ : Params) : Obj := (Obj.mk (Value.type "tuple") none (Data.seq (Array.mk []) 0) (Array.mk []))
noncomputable def ob_42_v1 (_ : Params) : Obj := (Obj.mk Value.none none (Data.func (FuncData.mk (Str.ofString "told") (Str.ofString "LedgerError.told") (fP (tm 2 1)) (fB (tm 2 1)) (fS (tm 2 1)) 0 [] Value.none Value.none Value.none Value.none none Value.none Value.none 0)) (Array.mk []))
noncomputable def ob_43_v1 (_ : Params) : Obj := (Obj.mk (Value.type "code") none (Data.fields (Array.mk [(Value.str (Str.ofString "told") 219), (Value.str (Str.ofString "LedgerError.told") 220), (Value.str (Str.ofString "/claim/cut.py") 221), (Value.int 12 0), (Value.int 1 0), (Value.int 0 0), (Value.int 0 0), (Value.int 3 0), (Value.ref 38), (Value.bool true), (Value.int 181 0), (Value.ref 39), Value.none, (Value.ref 40), (Value.ref 41), (Value.ref 42), (Value.int 223 0), (Value.int 12 0), (Value.str (Str.ofString "/claim/cut.py") 224)])) (Array.mk []))
noncomputable def ob_44_v1 (_ : Params) : Obj := (Obj.mk (Value.type "function") none (Data.func (FuncData.mk (Str.ofString "told") (Str.ofString "LedgerError.told") (fP (tm 2 1)) (fB (tm 2 1)) (fS (tm 2 1)) 3 [] Value.none Value.none Value.none (Value.str (Str.ofString "ledgerspeak.errors") 194) none (Value.ref 43) Value.none 0)) (Array.mk []))
noncomputable def ob_45_v1 (_ : Params) : Obj := (Obj.mk (Value.type "tuple") none (Data.seq (Array.mk [(Value.str (Str.ofString "at") 226), (Value.str (Str.ofString "what") 227)]) 0) (Array.mk []))
noncomputable def ob_46_v1 (P : Params) : Obj := (Obj.mk (Value.type "dict") none (Data.dict (Array.mk [(DictEntry.mk (PyData.keyHash P (Str.ofString "__module__")) (Value.str (Str.ofString "__module__") 203) (Value.str (Str.ofString "ledgerspeak.errors") 194)), (DictEntry.mk (PyData.keyHash P (Str.ofString "__firstlineno__")) (Value.str (Str.ofString "__firstlineno__") 207) (Value.int 5 206)), (DictEntry.mk (PyData.keyHash P (Str.ofString "__init__")) (Value.str (Str.ofString "__init__") 218) (Value.ref 37)), (DictEntry.mk (PyData.keyHash P (Str.ofString "told")) (Value.str (Str.ofString "told") 225) (Value.ref 44)), (DictEntry.mk (PyData.keyHash P (Str.ofString "__static_attributes__")) (Value.str (Str.ofString "__static_attributes__") 228) (Value.ref 45)), (DictEntry.mk (PyData.keyHash P (Str.ofString "__weakref__")) (Value.str (Str.ofString "__weakref__") 230) (Value.ref 48)), (DictEntry.mk (PyData.keyHash P (Str.ofString "__doc__")) (Value.str (Str.ofString "__doc__") 231) Value.none)]) 3) (Array.mk []))
noncomputable def ob_47_v1 (_ : Params) : Obj := (Obj.mk (Value.type "type") none (Data.cls (ClassData.mk (Str.ofString "LedgerError") [(Value.type "Exception")] [(Value.ref 47), (Value.type "Exception"), (Value.type "BaseException"), (Value.type "object")] 46 (Str.ofString "LedgerError") true [] [(Value.ref 60)] false none false)) (Array.mk [(some (Value.ref 22)), none, (some (Value.str (Str.ofString "LedgerError") 196)), (some (Value.str (Str.ofString "LedgerError") 204)), (some (Value.builtin "Exception.__new__")), (some (Value.bool true))]))
noncomputable def ob_48_v1 (_ : Params) : Obj := (Obj.mk (Value.type "getset_descriptor") none (Data.fields (Array.mk [(Value.str (Str.ofString "__weakref__") 229), (Value.ref 47), (Value.builtin "ExceptionGroup.__weakref__"), Value.none])) (Array.mk []))
noncomputable def ob_49_v1 (_ : Params) : Obj := (Obj.mk (Value.type "super") none (Data.fields (Array.mk [(Value.ref 47), (Value.ref 47), (Value.ref 47)])) (Array.mk []))
noncomputable def ob_50_v1 (_ : Params) : Obj := (Obj.mk (Value.type "builtin_function_or_method") none (Data.fields (Array.mk [(Value.builtin "object.__init_subclass__"), (Value.ref 47)])) (Array.mk []))
noncomputable def ob_51_v1 (_ : Params) : Obj := (Obj.mk (Value.type "tuple") none (Data.seq (Array.mk [(Value.ref 47)]) 0) (Array.mk []))
noncomputable def ob_52_v1 (_ : Params) : Obj := (Obj.mk (Value.type "builtin_function_or_method") none (Data.fields (Array.mk [(Value.builtin "type.__prepare__"), (Value.type "type")])) (Array.mk []))
noncomputable def ob_53_v1 (P : Params) : Obj := (Obj.mk (Value.type "dict") none (Data.dict (Array.mk [(DictEntry.mk (PyData.keyHash P (Str.ofString "__module__")) (Value.str (Str.ofString "__module__") 243) (Value.str (Str.ofString "ledgerspeak.errors") 194)), (DictEntry.mk (PyData.keyHash P (Str.ofString "__qualname__")) (Value.str (Str.ofString "__qualname__") 245) (Value.str (Str.ofString "CheckFault") 244)), (DictEntry.mk (PyData.keyHash P (Str.ofString "__firstlineno__")) (Value.str (Str.ofString "__firstlineno__") 247) (Value.int 14 246)), (DictEntry.mk (PyData.keyHash P (Str.ofString "__static_attributes__")) (Value.str (Str.ofString "__static_attributes__") 248) (Value.ref 58))]) 4) (Array.mk []))
noncomputable def ob_54_v1 (_ : Params) : Obj := (Obj.mk (Value.type "tuple") none (Data.seq (Array.mk []) 0) (Array.mk []))
noncomputable def ob_55_v1 (_ : Params) : Obj := (Obj.mk Value.none none (Data.fields (Array.mk [])) (Array.mk []))
noncomputable def ob_56_v1 (_ : Params) : Obj := (Obj.mk (Value.type "code") none (Data.fields (Array.mk [(Value.str (Str.ofString "CheckFault") 238), (Value.str (Str.ofString "CheckFault") 239), (Value.str (Str.ofString "/claim/cut.py") 240), (Value.int 14 0), (Value.int 0 0), (Value.int 0 0), (Value.int 0 0), (Value.int 0 0), (Value.ref 54), (Value.bool false), (Value.int 181 0), (Value.ref 55), Value.none, Value.none, Value.none, Value.none, (Value.int 241 0), (Value.int 14 0), (Value.str (Str.ofString "/claim/cut.py") 242)])) (Array.mk []))
noncomputable def ob_57_v1 (_ : Params) : Obj := (Obj.mk (Value.type "frame") none Data.plain (Array.mk [(some (Value.ref 56)), (some (Value.ref 3)), (some (Value.ref 53)), none, (some (Value.str (Str.ofString "ledgerspeak.errors") 194)), none, (some (Value.ref 0))]))
noncomputable def ob_58_v1 (_ : Params) : Obj := (Obj.mk (Value.type "tuple") none (Data.seq (Array.mk []) 0) (Array.mk []))
noncomputable def ob_59_v1 (P : Params) : Obj := (Obj.mk (Value.type "dict") none (Data.dict (Array.mk [(DictEntry.mk (PyData.keyHash P (Str.ofString "__module__")) (Value.str (Str.ofString "__module__") 243) (Value.str (Str.ofString "ledgerspeak.errors") 194)), (DictEntry.mk (PyData.keyHash P (Str.ofString "__firstlineno__")) (Value.str (Str.ofString "__firstlineno__") 247) (Value.int 14 246)), (DictEntry.mk (PyData.keyHash P (Str.ofString "__static_attributes__")) (Value.str (Str.ofString "__static_attributes__") 248) (Value.ref 58)), (DictEntry.mk (PyData.keyHash P (Str.ofString "__doc__")) (Value.str (Str.ofString "__doc__") 249) Value.none)]) 2) (Array.mk []))
noncomputable def ob_60_v1 (_ : Params) : Obj := (Obj.mk (Value.type "type") none (Data.cls (ClassData.mk (Str.ofString "CheckFault") [(Value.ref 47)] [(Value.ref 60), (Value.ref 47), (Value.type "Exception"), (Value.type "BaseException"), (Value.type "object")] 59 (Str.ofString "CheckFault") true [] [] false none false)) (Array.mk [(some (Value.ref 51)), none, (some (Value.str (Str.ofString "CheckFault") 236)), (some (Value.str (Str.ofString "CheckFault") 244)), (some (Value.builtin "Exception.__new__")), (some (Value.bool true))]))
noncomputable def ob_61_v1 (_ : Params) : Obj := (Obj.mk (Value.type "super") none (Data.fields (Array.mk [(Value.ref 60), (Value.ref 60), (Value.ref 60)])) (Array.mk []))
noncomputable def ob_62_v1 (_ : Params) : Obj := (Obj.mk (Value.type "builtin_function_or_method") none (Data.fields (Array.mk [(Value.builtin "object.__init_subclass__"), (Value.ref 60)])) (Array.mk []))
noncomputable def ob_63_v1 (_ : Params) : Obj := (Obj.mk (Value.type "tuple") none (Data.seq (Array.mk []) 0) (Array.mk []))
noncomputable def ob_64_v1 (_ : Params) : Obj := (Obj.mk (Value.type "builtin_function_or_method") none (Data.fields (Array.mk [(Value.builtin "type.__prepare__"), (Value.type "type")])) (Array.mk []))
noncomputable def ob_65_v1 (P : Params) : Obj := (Obj.mk (Value.type "dict") none (Data.dict (Array.mk [(DictEntry.mk (PyData.keyHash P (Str.ofString "__module__")) (Value.str (Str.ofString "__module__") 263) (Value.str (Str.ofString "ledgerspeak.items") 252)), (DictEntry.mk (PyData.keyHash P (Str.ofString "__qualname__")) (Value.str (Str.ofString "__qualname__") 265) (Value.str (Str.ofString "Data") 264)), (DictEntry.mk (PyData.keyHash P (Str.ofString "__firstlineno__")) (Value.str (Str.ofString "__firstlineno__") 267) (Value.int 18 266)), (DictEntry.mk (PyData.keyHash P (Str.ofString "__init__")) (Value.str (Str.ofString "__init__") 274) (Value.ref 76)), (DictEntry.mk (PyData.keyHash P (Str.ofString "told")) (Value.str (Str.ofString "told") 281) (Value.ref 83)), (DictEntry.mk (PyData.keyHash P (Str.ofString "__static_attributes__")) (Value.str (Str.ofString "__static_attributes__") 288) (Value.ref 84))]) 6) (Array.mk []))
noncomputable def ob_66_v1 (_ : Params) : Obj := (Obj.mk (Value.type "tuple") none (Data.seq (Array.mk []) 0) (Array.mk []))
noncomputable def ob_67_v1 (_ : Params) : Obj := (Obj.mk Value.none none (Data.fields (Array.mk [(Value.int 20 0), (Value.int 4 0), (Value.ref 75), (Value.int 28 0), (Value.int 4 0), (Value.ref 82)])) (Array.mk []))
noncomputable def ob_68_v1 (_ : Params) : Obj := (Obj.mk (Value.type "code") none (Data.fields (Array.mk [(Value.str (Str.ofString "Data") 258), (Value.str (Str.ofString "Data") 259), (Value.str (Str.ofString "/claim/cut.py") 260), (Value.int 18 0), (Value.int 0 0), (Value.int 0 0), (Value.int 0 0), (Value.int 0 0), (Value.ref 66), (Value.bool false), (Value.int 181 0), (Value.ref 67), Value.none, Value.none, Value.none, Value.none, (Value.int 261 0), (Value.int 18 0), (Value.str (Str.ofString "/claim/cut.py") 262)])) (Array.mk []))
noncomputable def ob_69_v1 (_ : Params) : Obj := (Obj.mk (Value.type "frame") none Data.plain (Array.mk [(some (Value.ref 68)), (some (Value.ref 3)), (some (Value.ref 65)), none, (some (Value.str (Str.ofString "ledgerspeak.items") 252)), none, (some (Value.ref 0))]))
noncomputable def ob_70_v1 (_ : Params) : Obj := (Obj.mk (Value.type "tuple") none (Data.seq (Array.mk []) 0) (Array.mk []))
noncomputable def ob_71_v1 (_ : Params) : Obj := (Obj.mk Value.none none (Data.fields (Array.mk [])) (Array.mk []))
noncomputable def ob_72_v1 (_ : Params) : Obj := (Obj.mk (Value.type "tuple") none (Data.seq (Array.mk [(Value.str (Str.ofString "self") 271)]) 0) (Array.mk []))
noncomputable def ob_73_v1 (_ : Params) : Obj := (Obj.mk (Value.type "tuple") none (Data.seq (Array.mk []) 0) (Array.mk []))
noncomputable def ob_74_v1 (_ : Params) : Obj := (Obj.mk Value.none none (Data.func (FuncData.mk (Str.ofString "__init__") (Str.ofString "Data.__init__") (fP (tm 6 0)) (fB (tm 6 0)) (fS (tm 6 0)) 0 [] Value.none Value.none Value.none Value.none none Value.none Value.none 0)) (Array.mk []))
noncomputable def ob_75_v1 (_ : Params) : Obj := (Obj.mk (Value.type "code") none (Data.fields (Array.mk [(Value.str (Str.ofString "__init__") 268), (Value.str (Str.ofString "Data.__init__") 269), (Value.str (Str.ofString "/claim/cut.py") 270), (Value.int 20 0), (Value.int 1 0), (Value.int 0 0), (Value.int 0 0), (Value.int 3 0), (Value.ref 70), (Value.bool true), (Value.int 181 0), (Value.ref 71), Value.none, (Value.ref 72), (Value.ref 73), (Value.ref 74), (Value.int 272 0), (Value.int 20 0), (Value.str (Str.ofString "/claim/cut.py") 273)])) (Array.mk []))
noncomputable def ob_76_v1 (_ : Params) : Obj := (Obj.mk (Value.type "function") none (Data.func (FuncData.mk (Str.ofString "__init__") (Str.ofString "Data.__init__") (fP (tm 6 0)) (fB (tm 6 0)) (fS (tm 6 0)) 3 [] Value.none Value.none Value.none (Value.str (Str.ofString "ledgerspeak.items") 252) none (Value.ref 75) Value.none 0)) (Array.mk []))
noncomputable def ob_77_v1 (_ : Params) : Obj := (Obj.mk (Value.type "tuple") none (Data.seq (Array.mk []) 0) (Array.mk []))
noncomputable def ob_78_v1 (_ : Params) : Obj := (Obj.mk Value.none none (Data.fields (Array.mk [])) (Array.mk []))
noncomputable def ob_79_v1 (_ : Params) : Obj := (Obj.mk (Value.type "tuple") none (Data.seq (Array.mk [(Value.str (Str.ofString "self") 278)]) 0) (Array.mk []))
noncomputable def ob_80_v1 (_ : Params) : Obj := (Obj.mk (Value.type "tuple") none (Data.seq (Array.mk []) 0) (Array.mk []))
noncomputable def ob_81_v1 (_ : Params) : Obj := (Obj.mk Value.none none (Data.func (FuncData.mk (Str.ofString "told") (Str.ofString "Data.told") (fP (tm 6 1)) (fB (tm 6 1)) (fS (tm 2 1)) 0 [] Value.none Value.none Value.none Value.none none Value.none Value.none 0)) (Array.mk []))
noncomputable def ob_82_v1 (_ : Params) : Obj := (Obj.mk (Value.type "code") none (Data.fields (Array.mk [(Value.str (Str.ofString "told") 275), (Value.str (Str.ofString "Data.told") 276), (Value.str (Str.ofString "/claim/cut.py") 277), (Value.int 28 0), (Value.int 1 0), (Value.int 0 0), (Value.int 0 0), (Value.int 3 0), (Value.ref 77), (Value.bool true), (Value.int 181 0), (Value.ref 78), Value.none, (Value.ref 79), (Value.ref 80), (Value.ref 81), (Value.int 279 0), (Value.int 28 0), (Value.str (Str.ofString "/claim/cut.py") 280)])) (Array.mk []))
noncomputable def ob_83_v1 (_ : Params) : Obj := (Obj.mk (Value.type "function") none (Data.func (FuncData.mk (Str.ofString "told") (Str.ofString "Data.told") (fP (tm 6 1)) (fB (tm 6 1)) (fS (tm 2 1)) 3 [] Value.none Value.none Value.none (Value.str (Str.ofString "ledgerspeak.items") 252) none (Value.ref 82) Value.none 0)) (Array.mk []))
noncomputable def ob_84_v1 (_ : Params) : Obj := (Obj.mk (Value.type "tuple") none (Data.seq (Array.mk [(Value.str (Str.ofString "files") 282), (Value.str (Str.ofString "indexes") 283), (Value.str (Str.ofString "linkage") 284), (Value.str (Str.ofString "size") 285), (Value.str (Str.ofString "sorts") 286), (Value.str (Str.ofString "working") 287)]) 0) (Array.mk []))
noncomputable def ob_85_v1 (P : Params) : Obj := (Obj.mk (Value.type "dict") none (Data.dict (Array.mk [(DictEntry.mk (PyData.keyHash P (Str.ofString "__module__")) (Value.str (Str.ofString "__module__") 263) (Value.str (Str.ofString "ledgerspeak.items") 252)), (DictEntry.mk (PyData.keyHash P (Str.ofString "__firstlineno__")) (Value.str (Str.ofString "__firstlineno__") 267) (Value.int 18 266)), (DictEntry.mk (PyData.keyHash P (Str.ofString "__init__")) (Value.str (Str.ofString "__init__") 274) (Value.ref 76)), (DictEntry.mk (PyData.keyHash P (Str.ofString "told")) (Value.str (Str.ofString "told") 281) (Value.ref 83)), (DictEntry.mk (PyData.keyHash P (Str.ofString "__static_attributes__")) (Value.str (Str.ofString "__static_attributes__") 288) (Value.ref 84)), (DictEntry.mk (PyData.keyHash P (Str.ofString "__dict__")) (Value.str (Str.ofString "__dict__") 290) (Value.ref 87)), (DictEntry.mk (PyData.keyHash P (Str.ofString "__weakref__")) (Value.str (Str.ofString "__weakref__") 292) (Value.ref 88)), (DictEntry.mk (PyData.keyHash P (Str.ofString "__doc__")) (Value.str (Str.ofString "__doc__") 293) Value.none)]) 4) (Array.mk []))
noncomputable def ob_86_v1 (_ : Params) : Obj := (Obj.mk (Value.type "type") none (Data.cls (ClassData.mk (Str.ofString "Data") [(Value.type "object")] [(Value.ref 86), (Value.type "object")] 85 (Str.ofString "Data") true [] [] false none false)) (Array.mk [none, none, (some (Value.str (Str.ofString "Data") 256)), (some (Value.str (Str.ofString "Data") 264)), (some (Value.builtin "object.__new__")), (some (Value.bool true))]))
noncomputable def ob_87_v1 (_ : Params) : Obj := (Obj.mk (Value.type "getset_descriptor") none (Data.fields (Array.mk [(Value.str (Str.ofString "__dict__") 289), (Value.ref 86), (Value.builtin "function.__dict__"), (Value.builtin "function.__dict__#set")])) (Array.mk []))
noncomputable def ob_88_v1 (_ : Params) : Obj := (Obj.mk (Value.type "getset_descriptor") none (Data.fields (Array.mk [(Value.str (Str.ofString "__weakref__") 291), (Value.ref 86), (Value.builtin "ExceptionGroup.__weakref__"), Value.none])) (Array.mk []))
noncomputable def ob_89_v1 (_ : Params) : Obj := (Obj.mk (Value.type "super") none (Data.fields (Array.mk [(Value.ref 86), (Value.ref 86), (Value.ref 86)])) (Array.mk []))
noncomputable def ob_90_v1 (_ : Params) : Obj := (Obj.mk (Value.type "builtin_function_or_method") none (Data.fields (Array.mk [(Value.builtin "object.__init_subclass__"), (Value.ref 86)])) (Array.mk []))
noncomputable def ob_3_v2 (P : Params) : Obj := (Obj.mk (Value.type "dict") none (Data.dict (Array.mk [(DictEntry.mk (PyData.keyHash P (Str.ofString "__name__")) (Value.str (Str.ofString "__name__") 165) (Value.str (Str.ofString "ledgerspeak.shapes") 398)), (DictEntry.mk (PyData.keyHash P (Str.ofString "__doc__")) (Value.str (Str.ofString "__doc__") 166) Value.none), (DictEntry.mk (PyData.keyHash P (Str.ofString "__package__")) (Value.str (Str.ofString "__package__") 167) Value.none), (DictEntry.mk (PyData.keyHash P (Str.ofString "__loader__")) (Value.str (Str.ofString "__loader__") 168) (Value.builtin "__main__.__loader__#opaque")), (DictEntry.mk (PyData.keyHash P (Str.ofString "__spec__")) (Value.str (Str.ofString "__spec__") 169) Value.none), (DictEntry.mk (PyData.keyHash P (Str.ofString "__annotations__")) (Value.str (Str.ofString "__annotations__") 170) (Value.ref 6)), (DictEntry.mk (PyData.keyHash P (Str.ofString "__builtins__")) (Value.str (Str.ofString "__builtins__") 171) (Value.ref 4)), (DictEntry.mk (PyData.keyHash P (Str.ofString "__file__")) (Value.str (Str.ofString "__file__") 173) (Value.str (Str.ofString "/claim/cut.py") 172)), (DictEntry.mk (PyData.keyHash P (Str.ofString "__cached__")) (Value.str (Str.ofString "__cached__") 174) Value.none), (DictEntry.mk (PyData.keyHash P (Str.ofString "_wall")) (Value.str (Str.ofString "_wall") 193) (Value.ref 21)), (DictEntry.mk (PyData.keyHash P (Str.ofString "LedgerError")) (Value.str (Str.ofString "LedgerError") 235) (Value.ref 47)), (DictEntry.mk (PyData.keyHash P (Str.ofString "CheckFault")) (Value.str (Str.ofString "CheckFault") 251) (Value.ref 60)), (DictEntry.mk (PyData.keyHash P (Str.ofString "FILLER")) (Value.str (Str.ofString "FILLER") 255) (Value.str (Str.ofString "FILLER") 254)), (DictEntry.mk (PyData.keyHash P (Str.ofString "Data")) (Value.str (Str.ofString "Data") 295) (Value.ref 86)), (DictEntry.mk (PyData.keyHash P (Str.ofString "records")) (Value.str (Str.ofString "records") 304) (Value.ref 97)), (DictEntry.mk (PyData.keyHash P (Str.ofString "items_under")) (Value.str (Str.ofString "items_under") 314) (Value.ref 104)), (DictEntry.mk (PyData.keyHash P (Str.ofString "all_items")) (Value.str (Str.ofString "all_items") 323) (Value.ref 111)), (DictEntry.mk (PyData.keyHash P (Str.ofString "items_around")) (Value.str (Str.ofString "items_around") 332) (Value.ref 118)), (DictEntry.mk (PyData.keyHash P (Str.ofString "root_of")) (Value.str (Str.ofString "root_of") 340) (Value.ref 125)), (DictEntry.mk (PyData.keyHash P (Str.ofString "names_around")) (Value.str (Str.ofString "names_around") 346) (Value.ref 130)), (DictEntry.mk (PyData.keyHash P (Str.ofString "tables_around")) (Value.str (Str.ofString "tables_around") 352) (Value.ref 135)), (DictEntry.mk (PyData.keyHash P (Str.ofString "file_of")) (Value.str (Str.ofString "file_of") 360) (Value.ref 140)), (DictEntry.mk (PyData.keyHash P (Str.ofString "leads_through")) (Value.str (Str.ofString "leads_through") 370) (Value.ref 147)), (DictEntry.mk (PyData.keyHash P (Str.ofString "only_one")) (Value.str (Str.ofString "only_one") 378) (Value.ref 154)), (DictEntry.mk (PyData.keyHash P (Str.ofString "find_item")) (Value.str (Str.ofString "find_item") 384) (Value.ref 159)), (DictEntry.mk (PyData.keyHash P (Str.ofString "find_named")) (Value.str (Str.ofString "find_named") 397) (Value.ref 166)), (DictEntry.mk (PyData.keyHash P (Str.ofString "Shape")) (Value.str (Str.ofString "Shape") 461) (Value.ref 198))]) 27) (Array.mk []))
noncomputable def ob_12_v2 (_ : Params) : Obj := (Obj.mk Value.none none (Data.fields (Array.mk [(Value.int 1 0), (Value.int 0 0), (Value.ref 20), (Value.int 5 0), (Value.int 0 0), (Value.ref 27), (Value.int 14 0), (Value.int 0 0), (Value.ref 56), (Value.int 18 0), (Value.int 0 0), (Value.ref 68), (Value.int 30 0), (Value.int 0 0), (Value.ref 96), (Value.int 35 0), (Value.int 0 0), (Value.ref 103), (Value.int 43 0), (Value.int 0 0), (Value.ref 110), (Value.int 48 0), (Value.int 0 0), (Value.ref 117), (Value.int 55 0), (Value.int 0 0), (Value.ref 124), (Value.int 58 0), (Value.int 0 0), (Value.ref 129), (Value.int 60 0), (Value.int 0 0), (Value.ref 134), (Value.int 64 0), (Value.int 0 0), (Value.ref 139), (Value.int 70 0), (Value.int 0 0), (Value.ref 146), (Value.int 76 0), (Value.int 0 0), (Value.ref 153), (Value.int 82 0), (Value.int 0 0), (Value.ref 158), (Value.int 85 0), (Value.int 0 0), (Value.ref 165), (Value.int 94 0), (Value.int 0 0), (Value.ref 172)])) (Array.mk []))
noncomputable def ob_91_v2 (_ : Params) : Obj := (Obj.mk (Value.type "tuple") none (Data.seq (Array.mk []) 0) (Array.mk []))
noncomputable def ob_92_v2 (_ : Params) : Obj := (Obj.mk Value.none none (Data.fields (Array.mk [])) (Array.mk []))
noncomputable def ob_93_v2 (_ : Params) : Obj := (Obj.mk (Value.type "tuple") none (Data.seq (Array.mk [(Value.str (Str.ofString "data") 299), (Value.str (Str.ofString "found") 300), (Value.str (Str.ofString "name") 301)]) 0) (Array.mk []))
noncomputable def ob_94_v2 (_ : Params) : Obj := (Obj.mk (Value.type "tuple") none (Data.seq (Array.mk []) 0) (Array.mk []))
noncomputable def ob_95_v2 (_ : Params) : Obj := (Obj.mk Value.none none (Data.func (FuncData.mk (Str.ofString "records") (Str.ofString "records") (fP (ts 7)) (fB (ts 7)) (fS (ts 7)) 0 [] Value.none Value.none Value.none Value.none none Value.none Value.none 0)) (Array.mk []))
noncomputable def ob_96_v2 (_ : Params) : Obj := (Obj.mk (Value.type "code") none (Data.fields (Array.mk [(Value.str (Str.ofString "records") 296), (Value.str (Str.ofString "records") 297), (Value.str (Str.ofString "/claim/cut.py") 298), (Value.int 30 0), (Value.int 1 0), (Value.int 0 0), (Value.int 0 0), (Value.int 3 0), (Value.ref 91), (Value.bool true), (Value.int 181 0), (Value.ref 92), Value.none, (Value.ref 93), (Value.ref 94), (Value.ref 95), (Value.int 302 0), (Value.int 30 0), (Value.str (Str.ofString "/claim/cut.py") 303)])) (Array.mk []))
noncomputable def ob_97_v2 (_ : Params) : Obj := (Obj.mk (Value.type "function") none (Data.func (FuncData.mk (Str.ofString "records") (Str.ofString "records") (fP (ts 7)) (fB (ts 7)) (fS (ts 7)) 3 [] Value.none Value.none Value.none (Value.str (Str.ofString "ledgerspeak.items") 252) none (Value.ref 96) Value.none 0)) (Array.mk []))
noncomputable def ob_98_v2 (_ : Params) : Obj := (Obj.mk (Value.type "tuple") none (Data.seq (Array.mk []) 0) (Array.mk []))
noncomputable def ob_99_v2 (_ : Params) : Obj := (Obj.mk Value.none none (Data.fields (Array.mk [])) (Array.mk []))
noncomputable def ob_100_v2 (_ : Params) : Obj := (Obj.mk (Value.type "tuple") none (Data.seq (Array.mk [(Value.str (Str.ofString "item") 308), (Value.str (Str.ofString "found") 309), (Value.str (Str.ofString "line") 310), (Value.str (Str.ofString "one") 311)]) 0) (Array.mk []))
noncomputable def ob_101_v2 (_ : Params) : Obj := (Obj.mk (Value.type "tuple") none (Data.seq (Array.mk []) 0) (Array.mk []))
noncomputable def ob_102_v2 (_ : Params) : Obj := (Obj.mk Value.none none (Data.func (FuncData.mk (Str.ofString "items_under") (Str.ofString "items_under") (fP (ts 8)) (fB (ts 8)) (fS (ts 8)) 0 [] Value.none Value.none Value.none Value.none none Value.none Value.none 0)) (Array.mk []))
noncomputable def ob_103_v2 (_ : Params) : Obj := (Obj.mk (Value.type "code") none (Data.fields (Array.mk [(Value.str (Str.ofString "items_under") 305), (Value.str (Str.ofString "items_under") 306), (Value.str (Str.ofString "/claim/cut.py") 307), (Value.int 35 0), (Value.int 1 0), (Value.int 0 0), (Value.int 0 0), (Value.int 3 0), (Value.ref 98), (Value.bool true), (Value.int 181 0), (Value.ref 99), Value.none, (Value.ref 100), (Value.ref 101), (Value.ref 102), (Value.int 312 0), (Value.int 35 0), (Value.str (Str.ofString "/claim/cut.py") 313)])) (Array.mk []))
noncomputable def ob_104_v2 (_ : Params) : Obj := (Obj.mk (Value.type "function") none (Data.func (FuncData.mk (Str.ofString "items_under") (Str.ofString "items_under") (fP (ts 8)) (fB (ts 8)) (fS (ts 8)) 3 [] Value.none Value.none Value.none (Value.str (Str.ofString "ledgerspeak.items") 252) none (Value.ref 103) Value.none 0)) (Array.mk []))
noncomputable def ob_105_v2 (_ : Params) : Obj := (Obj.mk (Value.type "tuple") none (Data.seq (Array.mk []) 0) (Array.mk []))
noncomputable def ob_106_v2 (_ : Params) : Obj := (Obj.mk Value.none none (Data.fields (Array.mk [])) (Array.mk []))
noncomputable def ob_107_v2 (_ : Params) : Obj := (Obj.mk (Value.type "tuple") none (Data.seq (Array.mk [(Value.str (Str.ofString "data") 318), (Value.str (Str.ofString "found") 319), (Value.str (Str.ofString "root") 320)]) 0) (Array.mk []))
noncomputable def ob_108_v2 (_ : Params) : Obj := (Obj.mk (Value.type "tuple") none (Data.seq (Array.mk []) 0) (Array.mk []))
noncomputable def ob_109_v2 (_ : Params) : Obj := (Obj.mk Value.none none (Data.func (FuncData.mk (Str.ofString "all_items") (Str.ofString "all_items") (fP (ts 9)) (fB (ts 9)) (fS (ts 9)) 0 [] Value.none Value.none Value.none Value.none none Value.none Value.none 0)) (Array.mk []))
noncomputable def ob_110_v2 (_ : Params) : Obj := (Obj.mk (Value.type "code") none (Data.fields (Array.mk [(Value.str (Str.ofString "all_items") 315), (Value.str (Str.ofString "all_items") 316), (Value.str (Str.ofString "/claim/cut.py") 317), (Value.int 43 0), (Value.int 1 0), (Value.int 0 0), (Value.int 0 0), (Value.int 3 0), (Value.ref 105), (Value.bool true), (Value.int 181 0), (Value.ref 106), Value.none, (Value.ref 107), (Value.ref 108), (Value.ref 109), (Value.int 321 0), (Value.int 43 0), (Value.str (Str.ofString "/claim/cut.py") 322)])) (Array.mk []))
noncomputable def ob_111_v2 (_ : Params) : Obj := (Obj.mk (Value.type "function") none (Data.func (FuncData.mk (Str.ofString "all_items") (Str.ofString "all_items") (fP (ts 9)) (fB (ts 9)) (fS (ts 9)) 3 [] Value.none Value.none Value.none (Value.str (Str.ofString "ledgerspeak.items") 252) none (Value.ref 110) Value.none 0)) (Array.mk []))
noncomputable def ob_112_v2 (_ : Params) : Obj := (Obj.mk (Value.type "tuple") none (Data.seq (Array.mk []) 0) (Array.mk []))
noncomputable def ob_113_v2 (_ : Params) : Obj := (Obj.mk Value.none none (Data.fields (Array.mk [])) (Array.mk []))
noncomputable def ob_114_v2 (_ : Params) : Obj := (Obj.mk (Value.type "tuple") none (Data.seq (Array.mk [(Value.str (Str.ofString "item") 327), (Value.str (Str.ofString "found") 328), (Value.str (Str.ofString "above") 329)]) 0) (Array.mk []))
noncomputable def ob_115_v2 (_ : Params) : Obj := (Obj.mk (Value.type "tuple") none (Data.seq (Array.mk []) 0) (Array.mk []))
noncomputable def ob_116_v2 (_ : Params) : Obj := (Obj.mk Value.none none (Data.func (FuncData.mk (Str.ofString "items_around") (Str.ofString "items_around") (fP (ts 10)) (fB (ts 10)) (fS (ts 10)) 0 [] Value.none Value.none Value.none Value.none none Value.none Value.none 0)) (Array.mk []))
noncomputable def ob_117_v2 (_ : Params) : Obj := (Obj.mk (Value.type "code") none (Data.fields (Array.mk [(Value.str (Str.ofString "items_around") 324), (Value.str (Str.ofString "items_around") 325), (Value.str (Str.ofString "/claim/cut.py") 326), (Value.int 48 0), (Value.int 1 0), (Value.int 0 0), (Value.int 0 0), (Value.int 3 0), (Value.ref 112), (Value.bool true), (Value.int 181 0), (Value.ref 113), Value.none, (Value.ref 114), (Value.ref 115), (Value.ref 116), (Value.int 330 0), (Value.int 48 0), (Value.str (Str.ofString "/claim/cut.py") 331)])) (Array.mk []))
noncomputable def ob_118_v2 (_ : Params) : Obj := (Obj.mk (Value.type "function") none (Data.func (FuncData.mk (Str.ofString "items_around") (Str.ofString "items_around") (fP (ts 10)) (fB (ts 10)) (fS (ts 10)) 3 [] Value.none Value.none Value.none (Value.str (Str.ofString "ledgerspeak.items") 252) none (Value.ref 117) Value.none 0)) (Array.mk []))
noncomputable def ob_119_v2 (_ : Params) : Obj := (Obj.mk (Value.type "tuple") none (Data.seq (Array.mk []) 0) (Array.mk []))
noncomputable def ob_120_v2 (_ : Params) : Obj := (Obj.mk Value.none none (Data.fields (Array.mk [])) (Array.mk []))
noncomputable def ob_121_v2 (_ : Params) : Obj := (Obj.mk (Value.type "tuple") none (Data.seq (Array.mk [(Value.str (Str.ofString "item") 336), (Value.str (Str.ofString "around") 337)]) 0) (Array.mk []))
noncomputable def ob_122_v2 (_ : Params) : Obj := (Obj.mk (Value.type "tuple") none (Data.seq (Array.mk []) 0) (Array.mk []))
noncomputable def ob_123_v2 (_ : Params) : Obj := (Obj.mk Value.none none (Data.func (FuncData.mk (Str.ofString "root_of") (Str.ofString "root_of") (fP (ts 11)) (fB (ts 11)) (fS (ts 11)) 0 [] Value.none Value.none Value.none Value.none none Value.none Value.none 0)) (Array.mk []))
noncomputable def ob_124_v2 (_ : Params) : Obj := (Obj.mk (Value.type "code") none (Data.fields (Array.mk [(Value.str (Str.ofString "root_of") 333), (Value.str (Str.ofString "root_of") 334), (Value.str (Str.ofString "/claim/cut.py") 335), (Value.int 55 0), (Value.int 1 0), (Value.int 0 0), (Value.int 0 0), (Value.int 3 0), (Value.ref 119), (Value.bool true), (Value.int 181 0), (Value.ref 120), Value.none, (Value.ref 121), (Value.ref 122), (Value.ref 123), (Value.int 338 0), (Value.int 55 0), (Value.str (Str.ofString "/claim/cut.py") 339)])) (Array.mk []))
noncomputable def ob_125_v2 (_ : Params) : Obj := (Obj.mk (Value.type "function") none (Data.func (FuncData.mk (Str.ofString "root_of") (Str.ofString "root_of") (fP (ts 11)) (fB (ts 11)) (fS (ts 11)) 3 [] Value.none Value.none Value.none (Value.str (Str.ofString "ledgerspeak.items") 252) none (Value.ref 124) Value.none 0)) (Array.mk []))
noncomputable def ob_126_v2 (_ : Params) : Obj := (Obj.mk (Value.type "tuple") none (Data.seq (Array.mk []) 0) (Array.mk []))
noncomputable def ob_127_v2 (_ : Params) : Obj := (Obj.mk Value.none none (Data.fields (Array.mk [])) (Array.mk []))
noncomputable def ob_128_v2 (_ : Params) : Obj := (Obj.mk Value.none none (Data.func (FuncData.mk (Str.ofString "names_around") (Str.ofString "names_around") (fP (ts 12)) (fB (ts 12)) (fS (ts 12)) 0 [] Value.none Value.none Value.none Value.none none Value.none Value.none 0)) (Array.mk []))
noncomputable def ob_129_v2 (_ : Params) : Obj := (Obj.mk (Value.type "code") none (Data.fields (Array.mk [(Value.str (Str.ofString "names_around") 341), (Value.str (Str.ofString "names_around") 342), (Value.str (Str.ofString "/claim/cut.py") 343), (Value.int 58 0), (Value.int 1 0), (Value.int 0 0), (Value.int 0 0), (Value.int 3 0), (Value.ref 126), (Value.bool true), (Value.int 181 0), (Value.ref 127), Value.none, Value.none, Value.none, (Value.ref 128), (Value.int 344 0), (Value.int 58 0), (Value.str (Str.ofString "/claim/cut.py") 345)])) (Array.mk []))
noncomputable def ob_130_v2 (_ : Params) : Obj := (Obj.mk (Value.type "function") none (Data.func (FuncData.mk (Str.ofString "names_around") (Str.ofString "names_around") (fP (ts 12)) (fB (ts 12)) (fS (ts 12)) 3 [] Value.none Value.none Value.none (Value.str (Str.ofString "ledgerspeak.items") 252) none (Value.ref 129) Value.none 0)) (Array.mk []))
noncomputable def ob_131_v2 (_ : Params) : Obj := (Obj.mk (Value.type "tuple") none (Data.seq (Array.mk []) 0) (Array.mk []))
noncomputable def ob_132_v2 (_ : Params) : Obj := (Obj.mk Value.none none (Data.fields (Array.mk [])) (Array.mk []))
noncomputable def ob_133_v2 (_ : Params) : Obj := (Obj.mk Value.none none (Data.func (FuncData.mk (Str.ofString "tables_around") (Str.ofString "tables_around") (fP (ts 13)) (fB (ts 13)) (fS (ts 13)) 0 [] Value.none Value.none Value.none Value.none none Value.none Value.none 0)) (Array.mk []))
noncomputable def ob_134_v2 (_ : Params) : Obj := (Obj.mk (Value.type "code") none (Data.fields (Array.mk [(Value.str (Str.ofString "tables_around") 347), (Value.str (Str.ofString "tables_around") 348), (Value.str (Str.ofString "/claim/cut.py") 349), (Value.int 60 0), (Value.int 1 0), (Value.int 0 0), (Value.int 0 0), (Value.int 3 0), (Value.ref 131), (Value.bool true), (Value.int 181 0), (Value.ref 132), Value.none, Value.none, Value.none, (Value.ref 133), (Value.int 350 0), (Value.int 60 0), (Value.str (Str.ofString "/claim/cut.py") 351)])) (Array.mk []))
noncomputable def ob_135_v2 (_ : Params) : Obj := (Obj.mk (Value.type "function") none (Data.func (FuncData.mk (Str.ofString "tables_around") (Str.ofString "tables_around") (fP (ts 13)) (fB (ts 13)) (fS (ts 13)) 3 [] Value.none Value.none Value.none (Value.str (Str.ofString "ledgerspeak.items") 252) none (Value.ref 134) Value.none 0)) (Array.mk []))
noncomputable def ob_136_v2 (_ : Params) : Obj := (Obj.mk (Value.type "tuple") none (Data.seq (Array.mk []) 0) (Array.mk []))
noncomputable def ob_137_v2 (_ : Params) : Obj := (Obj.mk Value.none none (Data.fields (Array.mk [])) (Array.mk []))
noncomputable def ob_138_v2 (_ : Params) : Obj := (Obj.mk Value.none none (Data.func (FuncData.mk (Str.ofString "file_of") (Str.ofString "file_of") (fP (ts 15)) (fB (ts 15)) (fS (ts 15)) 0 [] Value.none Value.none Value.none Value.none none Value.none Value.none 0)) (Array.mk []))
noncomputable def ob_139_v2 (_ : Params) : Obj := (Obj.mk (Value.type "code") none (Data.fields (Array.mk [(Value.str (Str.ofString "file_of") 355), (Value.str (Str.ofString "file_of") 356), (Value.str (Str.ofString "/claim/cut.py") 357), (Value.int 64 0), (Value.int 2 0), (Value.int 0 0), (Value.int 0 0), (Value.int 3 0), (Value.ref 136), (Value.bool true), (Value.int 181 0), (Value.ref 137), Value.none, Value.none, Value.none, (Value.ref 138), (Value.int 358 0), (Value.int 64 0), (Value.str (Str.ofString "/claim/cut.py") 359)])) (Array.mk []))
noncomputable def ob_140_v2 (_ : Params) : Obj := (Obj.mk (Value.type "function") none (Data.func (FuncData.mk (Str.ofString "file_of") (Str.ofString "file_of") (fP (ts 15)) (fB (ts 15)) (fS (ts 15)) 3 [] Value.none Value.none Value.none (Value.str (Str.ofString "ledgerspeak.references") 353) none (Value.ref 139) Value.none 0)) (Array.mk []))
noncomputable def ob_141_v2 (_ : Params) : Obj := (Obj.mk (Value.type "tuple") none (Data.seq (Array.mk []) 0) (Array.mk []))
noncomputable def ob_142_v2 (_ : Params) : Obj := (Obj.mk Value.none none (Data.fields (Array.mk [])) (Array.mk []))
noncomputable def ob_143_v2 (_ : Params) : Obj := (Obj.mk (Value.type "tuple") none (Data.seq (Array.mk [(Value.str (Str.ofString "around") 364), (Value.str (Str.ofString "qualifiers") 365), (Value.str (Str.ofString "at") 366), (Value.str (Str.ofString "name") 367)]) 0) (Array.mk []))
noncomputable def ob_144_v2 (_ : Params) : Obj := (Obj.mk (Value.type "tuple") none (Data.seq (Array.mk []) 0) (Array.mk []))
noncomputable def ob_145_v2 (_ : Params) : Obj := (Obj.mk Value.none none (Data.func (FuncData.mk (Str.ofString "leads_through") (Str.ofString "leads_through") (fP (ts 16)) (fB (ts 16)) (fS (ts 16)) 0 [] Value.none Value.none Value.none Value.none none Value.none Value.none 0)) (Array.mk []))
noncomputable def ob_146_v2 (_ : Params) : Obj := (Obj.mk (Value.type "code") none (Data.fields (Array.mk [(Value.str (Str.ofString "leads_through") 361), (Value.str (Str.ofString "leads_through") 362), (Value.str (Str.ofString "/claim/cut.py") 363), (Value.int 70 0), (Value.int 2 0), (Value.int 0 0), (Value.int 0 0), (Value.int 3 0), (Value.ref 141), (Value.bool true), (Value.int 181 0), (Value.ref 142), Value.none, (Value.ref 143), (Value.ref 144), (Value.ref 145), (Value.int 368 0), (Value.int 70 0), (Value.str (Str.ofString "/claim/cut.py") 369)])) (Array.mk []))
noncomputable def ob_147_v2 (_ : Params) : Obj := (Obj.mk (Value.type "function") none (Data.func (FuncData.mk (Str.ofString "leads_through") (Str.ofString "leads_through") (fP (ts 16)) (fB (ts 16)) (fS (ts 16)) 3 [] Value.none Value.none Value.none (Value.str (Str.ofString "ledgerspeak.references") 353) none (Value.ref 146) Value.none 0)) (Array.mk []))
noncomputable def ob_148_v2 (_ : Params) : Obj := (Obj.mk (Value.type "tuple") none (Data.seq (Array.mk []) 0) (Array.mk []))
noncomputable def ob_149_v2 (_ : Params) : Obj := (Obj.mk Value.none none (Data.fields (Array.mk [])) (Array.mk []))
noncomputable def ob_150_v2 (_ : Params) : Obj := (Obj.mk (Value.type "tuple") none (Data.seq (Array.mk [(Value.str (Str.ofString "found") 374), (Value.str (Str.ofString "name") 375)]) 0) (Array.mk []))
noncomputable def ob_151_v2 (_ : Params) : Obj := (Obj.mk (Value.type "tuple") none (Data.seq (Array.mk []) 0) (Array.mk []))
noncomputable def ob_152_v2 (_ : Params) : Obj := (Obj.mk Value.none none (Data.func (FuncData.mk (Str.ofString "only_one") (Str.ofString "only_one") (fP (ts 17)) (fB (ts 17)) (fS (ts 17)) 0 [] Value.none Value.none Value.none Value.none none Value.none Value.none 0)) (Array.mk []))
noncomputable def ob_153_v2 (_ : Params) : Obj := (Obj.mk (Value.type "code") none (Data.fields (Array.mk [(Value.str (Str.ofString "only_one") 371), (Value.str (Str.ofString "only_one") 372), (Value.str (Str.ofString "/claim/cut.py") 373), (Value.int 76 0), (Value.int 2 0), (Value.int 0 0), (Value.int 0 0), (Value.int 3 0), (Value.ref 148), (Value.bool true), (Value.int 181 0), (Value.ref 149), Value.none, (Value.ref 150), (Value.ref 151), (Value.ref 152), (Value.int 376 0), (Value.int 76 0), (Value.str (Str.ofString "/claim/cut.py") 377)])) (Array.mk []))
noncomputable def ob_154_v2 (_ : Params) : Obj := (Obj.mk (Value.type "function") none (Data.func (FuncData.mk (Str.ofString "only_one") (Str.ofString "only_one") (fP (ts 17)) (fB (ts 17)) (fS (ts 17)) 3 [] Value.none Value.none Value.none (Value.str (Str.ofString "ledgerspeak.references") 353) none (Value.ref 153) Value.none 0)) (Array.mk []))
noncomputable def ob_155_v2 (_ : Params) : Obj := (Obj.mk (Value.type "tuple") none (Data.seq (Array.mk []) 0) (Array.mk []))
noncomputable def ob_156_v2 (_ : Params) : Obj := (Obj.mk Value.none none (Data.fields (Array.mk [])) (Array.mk []))
noncomputable def ob_157_v2 (_ : Params) : Obj := (Obj.mk Value.none none (Data.func (FuncData.mk (Str.ofString "find_item") (Str.ofString "find_item") (fP (ts 18)) (fB (ts 18)) (fS (ts 18)) 0 [] Value.none Value.none Value.none Value.none none Value.none Value.none 0)) (Array.mk []))
noncomputable def ob_158_v2 (_ : Params) : Obj := (Obj.mk (Value.type "code") none (Data.fields (Array.mk [(Value.str (Str.ofString "find_item") 379), (Value.str (Str.ofString "find_item") 380), (Value.str (Str.ofString "/claim/cut.py") 381), (Value.int 82 0), (Value.int 3 0), (Value.int 0 0), (Value.int 0 0), (Value.int 3 0), (Value.ref 155), (Value.bool true), (Value.int 181 0), (Value.ref 156), Value.none, Value.none, Value.none, (Value.ref 157), (Value.int 382 0), (Value.int 82 0), (Value.str (Str.ofString "/claim/cut.py") 383)])) (Array.mk []))
noncomputable def ob_159_v2 (_ : Params) : Obj := (Obj.mk (Value.type "function") none (Data.func (FuncData.mk (Str.ofString "find_item") (Str.ofString "find_item") (fP (ts 18)) (fB (ts 18)) (fS (ts 18)) 3 [] Value.none Value.none Value.none (Value.str (Str.ofString "ledgerspeak.references") 353) none (Value.ref 158) Value.none 0)) (Array.mk []))
noncomputable def ob_160_v2 (_ : Params) : Obj := (Obj.mk (Value.type "tuple") none (Data.seq (Array.mk []) 0) (Array.mk []))
noncomputable def ob_161_v2 (_ : Params) : Obj := (Obj.mk Value.none none (Data.fields (Array.mk [])) (Array.mk []))
noncomputable def ob_162_v2 (_ : Params) : Obj := (Obj.mk (Value.type "tuple") none (Data.seq (Array.mk [(Value.str (Str.ofString "data") 388), (Value.str (Str.ofString "name") 389), (Value.str (Str.ofString "qualifiers") 390), (Value.str (Str.ofString "found") 391), (Value.str (Str.ofString "item") 392), (Value.str (Str.ofString "around") 393), (Value.str (Str.ofString "named") 394)]) 0) (Array.mk []))
noncomputable def ob_163_v2 (_ : Params) : Obj := (Obj.mk (Value.type "tuple") none (Data.seq (Array.mk []) 0) (Array.mk []))
noncomputable def ob_164_v2 (_ : Params) : Obj := (Obj.mk Value.none none (Data.func (FuncData.mk (Str.ofString "find_named") (Str.ofString "find_named") (fP (ts 19)) (fB (ts 19)) (fS (ts 19)) 0 [] Value.none Value.none Value.none Value.none none Value.none Value.none 0)) (Array.mk []))
noncomputable def ob_165_v2 (_ : Params) : Obj := (Obj.mk (Value.type "code") none (Data.fields (Array.mk [(Value.str (Str.ofString "find_named") 385), (Value.str (Str.ofString "find_named") 386), (Value.str (Str.ofString "/claim/cut.py") 387), (Value.int 85 0), (Value.int 3 0), (Value.int 0 0), (Value.int 0 0), (Value.int 3 0), (Value.ref 160), (Value.bool true), (Value.int 181 0), (Value.ref 161), Value.none, (Value.ref 162), (Value.ref 163), (Value.ref 164), (Value.int 395 0), (Value.int 85 0), (Value.str (Str.ofString "/claim/cut.py") 396)])) (Array.mk []))
noncomputable def ob_166_v2 (_ : Params) : Obj := (Obj.mk (Value.type "function") none (Data.func (FuncData.mk (Str.ofString "find_named") (Str.ofString "find_named") (fP (ts 19)) (fB (ts 19)) (fS (ts 19)) 3 [] Value.none Value.none Value.none (Value.str (Str.ofString "ledgerspeak.references") 353) none (Value.ref 165) Value.none 0)) (Array.mk []))
noncomputable def ob_167_v2 (_ : Params) : Obj := (Obj.mk (Value.type "tuple") none (Data.seq (Array.mk []) 0) (Array.mk []))
noncomputable def ob_168_v2 (_ : Params) : Obj := (Obj.mk (Value.type "builtin_function_or_method") none (Data.fields (Array.mk [(Value.builtin "type.__prepare__"), (Value.type "type")])) (Array.mk []))
noncomputable def ob_169_v2 (P : Params) : Obj := (Obj.mk (Value.type "dict") none (Data.dict (Array.mk [(DictEntry.mk (PyData.keyHash P (Str.ofString "__module__")) (Value.str (Str.ofString "__module__") 407) (Value.str (Str.ofString "ledgerspeak.shapes") 398)), (DictEntry.mk (PyData.keyHash P (Str.ofString "__qualname__")) (Value.str (Str.ofString "__qualname__") 409) (Value.str (Str.ofString "Shape") 408)), (DictEntry.mk (PyData.keyHash P (Str.ofString "__firstlineno__")) (Value.str (Str.ofString "__firstlineno__") 411) (Value.int 94 410)), (DictEntry.mk (PyData.keyHash P (Str.ofString "__init__")) (Value.str (Str.ofString "__init__") 428) (Value.ref 181)), (DictEntry.mk (PyData.keyHash P (Str.ofString "told")) (Value.str (Str.ofString "told") 435) (Value.ref 188)), (DictEntry.mk (PyData.keyHash P (Str.ofString "sign_place")) (Value.str (Str.ofString "sign_place") 442) (Value.ref 195)), (DictEntry.mk (PyData.keyHash P (Str.ofString "__static_attributes__")) (Value.str (Str.ofString "__static_attributes__") 454) (Value.ref 196))]) 7) (Array.mk []))
noncomputable def ob_170_v2 (_ : Params) : Obj := (Obj.mk (Value.type "tuple") none (Data.seq (Array.mk []) 0) (Array.mk []))
noncomputable def ob_171_v2 (_ : Params) : Obj := (Obj.mk Value.none none (Data.fields (Array.mk [(Value.int 96 0), (Value.int 4 0), (Value.ref 180), (Value.int 113 0), (Value.int 4 0), (Value.ref 187), (Value.int 116 0), (Value.int 4 0), (Value.ref 194)])) (Array.mk []))
noncomputable def ob_172_v2 (_ : Params) : Obj := (Obj.mk (Value.type "code") none (Data.fields (Array.mk [(Value.str (Str.ofString "Shape") 402), (Value.str (Str.ofString "Shape") 403), (Value.str (Str.ofString "/claim/cut.py") 404), (Value.int 94 0), (Value.int 0 0), (Value.int 0 0), (Value.int 0 0), (Value.int 0 0), (Value.ref 170), (Value.bool false), (Value.int 181 0), (Value.ref 171), Value.none, Value.none, Value.none, Value.none, (Value.int 405 0), (Value.int 94 0), (Value.str (Str.ofString "/claim/cut.py") 406)])) (Array.mk []))
noncomputable def ob_173_v2 (_ : Params) : Obj := (Obj.mk (Value.type "frame") none Data.plain (Array.mk [(some (Value.ref 172)), (some (Value.ref 3)), (some (Value.ref 169)), none, (some (Value.str (Str.ofString "ledgerspeak.shapes") 398)), none, (some (Value.ref 0))]))
noncomputable def ob_174_v2 (_ : Params) : Obj := (Obj.mk (Value.type "tuple") none (Data.seq (Array.mk [Value.none, (Value.str (Str.ofString "display") 412), (Value.str (Str.ofString "trailing") 413), (Value.bool false), (Value.bool false), (Value.bool false)]) 0) (Array.mk []))
noncomputable def ob_175_v2 (_ : Params) : Obj := (Obj.mk (Value.type "tuple") none (Data.seq (Array.mk []) 0) (Array.mk []))
noncomputable def ob_176_v2 (_ : Params) : Obj := (Obj.mk Value.none none (Data.fields (Array.mk [])) (Array.mk []))
noncomputable def ob_177_v2 (_ : Params) : Obj := (Obj.mk (Value.type "tuple") none (Data.seq (Array.mk [(Value.str (Str.ofString "self") 417), (Value.str (Str.ofString "category") 418), (Value.str (Str.ofString "size") 419), (Value.str (Str.ofString "picture") 420), (Value.str (Str.ofString "usage") 421), (Value.str (Str.ofString "sign") 422), (Value.str (Str.ofString "is_separate") 423), (Value.str (Str.ofString "is_justified") 424), (Value.str (Str.ofString "is_blank_zero") 425)]) 0) (Array.mk []))
noncomputable def ob_178_v2 (_ : Params) : Obj := (Obj.mk (Value.type "tuple") none (Data.seq (Array.mk []) 0) (Array.mk []))
noncomputable def ob_179_v2 (_ : Params) : Obj := (Obj.mk Value.none none (Data.func (FuncData.mk (Str.ofString "__init__") (Str.ofString "Shape.__init__") (fP (tm 21 0)) (fB (tm 21 0)) (fS (tm 21 0)) 0 [] Value.none Value.none Value.none Value.none none Value.none Value.none 0)) (Array.mk []))
noncomputable def ob_180_v2 (_ : Params) : Obj := (Obj.mk (Value.type "code") none (Data.fields (Array.mk [(Value.str (Str.ofString "__init__") 414), (Value.str (Str.ofString "Shape.__init__") 415), (Value.str (Str.ofString "/claim/cut.py") 416), (Value.int 96 0), (Value.int 9 0), (Value.int 0 0), (Value.int 0 0), (Value.int 3 0), (Value.ref 175), (Value.bool true), (Value.int 181 0), (Value.ref 176), Value.none, (Value.ref 177), (Value.ref 178), (Value.ref 179), (Value.int 426 0), (Value.int 96 0), (Value.str (Str.ofString "/claim/cut.py") 427)])) (Array.mk []))
noncomputable def ob_181_v2 (_ : Params) : Obj := (Obj.mk (Value.type "function") none (Data.func (FuncData.mk (Str.ofString "__init__") (Str.ofString "Shape.__init__") (fP (tm 21 0)) (fB (tm 21 0)) (fS (tm 21 0)) 3 [] (Value.ref 174) Value.none Value.none (Value.str (Str.ofString "ledgerspeak.shapes") 398) none (Value.ref 180) Value.none 0)) (Array.mk []))
noncomputable def ob_182_v2 (_ : Params) : Obj := (Obj.mk (Value.type "tuple") none (Data.seq (Array.mk []) 0) (Array.mk []))
noncomputable def ob_183_v2 (_ : Params) : Obj := (Obj.mk Value.none none (Data.fields (Array.mk [])) (Array.mk []))
noncomputable def ob_184_v2 (_ : Params) : Obj := (Obj.mk (Value.type "tuple") none (Data.seq (Array.mk [(Value.str (Str.ofString "self") 432)]) 0) (Array.mk []))
noncomputable def ob_185_v2 (_ : Params) : Obj := (Obj.mk (Value.type "tuple") none (Data.seq (Array.mk []) 0) (Array.mk []))
noncomputable def ob_186_v2 (_ : Params) : Obj := (Obj.mk Value.none none (Data.func (FuncData.mk (Str.ofString "told") (Str.ofString "Shape.told") (fP (tm 21 1)) (fB (tm 21 1)) (fS (tm 2 1)) 0 [] Value.none Value.none Value.none Value.none none Value.none Value.none 0)) (Array.mk []))
noncomputable def ob_187_v2 (_ : Params) : Obj := (Obj.mk (Value.type "code") none (Data.fields (Array.mk [(Value.str (Str.ofString "told") 429), (Value.str (Str.ofString "Shape.told") 430), (Value.str (Str.ofString "/claim/cut.py") 431), (Value.int 113 0), (Value.int 1 0), (Value.int 0 0), (Value.int 0 0), (Value.int 3 0), (Value.ref 182), (Value.bool true), (Value.int 181 0), (Value.ref 183), Value.none, (Value.ref 184), (Value.ref 185), (Value.ref 186), (Value.int 433 0), (Value.int 113 0), (Value.str (Str.ofString "/claim/cut.py") 434)])) (Array.mk []))
noncomputable def ob_188_v2 (_ : Params) : Obj := (Obj.mk (Value.type "function") none (Data.func (FuncData.mk (Str.ofString "told") (Str.ofString "Shape.told") (fP (tm 21 1)) (fB (tm 21 1)) (fS (tm 2 1)) 3 [] Value.none Value.none Value.none (Value.str (Str.ofString "ledgerspeak.shapes") 398) none (Value.ref 187) Value.none 0)) (Array.mk []))
noncomputable def ob_189_v2 (_ : Params) : Obj := (Obj.mk (Value.type "tuple") none (Data.seq (Array.mk []) 0) (Array.mk []))
noncomputable def ob_190_v2 (_ : Params) : Obj := (Obj.mk Value.none none (Data.fields (Array.mk [])) (Array.mk []))
noncomputable def ob_191_v2 (_ : Params) : Obj := (Obj.mk (Value.type "tuple") none (Data.seq (Array.mk [(Value.str (Str.ofString "self") 439)]) 0) (Array.mk []))
noncomputable def ob_192_v2 (_ : Params) : Obj := (Obj.mk (Value.type "tuple") none (Data.seq (Array.mk []) 0) (Array.mk []))
noncomputable def ob_193_v2 (_ : Params) : Obj := (Obj.mk Value.none none (Data.func (FuncData.mk (Str.ofString "sign_place") (Str.ofString "Shape.sign_place") (fP (tm 21 2)) (fB (tm 21 2)) (fS (tm 2 1)) 0 [] Value.none Value.none Value.none Value.none none Value.none Value.none 0)) (Array.mk []))
noncomputable def ob_194_v2 (_ : Params) : Obj := (Obj.mk (Value.type "code") none (Data.fields (Array.mk [(Value.str (Str.ofString "sign_place") 436), (Value.str (Str.ofString "Shape.sign_place") 437), (Value.str (Str.ofString "/claim/cut.py") 438), (Value.int 116 0), (Value.int 1 0), (Value.int 0 0), (Value.int 0 0), (Value.int 3 0), (Value.ref 189), (Value.bool true), (Value.int 181 0), (Value.ref 190), Value.none, (Value.ref 191), (Value.ref 192), (Value.ref 193), (Value.int 440 0), (Value.int 116 0), (Value.str (Str.ofString "/claim/cut.py") 441)])) (Array.mk []))
noncomputable def ob_195_v2 (_ : Params) : Obj := (Obj.mk (Value.type "function") none (Data.func (FuncData.mk (Str.ofString "sign_place") (Str.ofString "Shape.sign_place") (fP (tm 21 2)) (fB (tm 21 2)) (fS (tm 2 1)) 3 [] Value.none Value.none Value.none (Value.str (Str.ofString "ledgerspeak.shapes") 398) none (Value.ref 194) Value.none 0)) (Array.mk []))
noncomputable def ob_196_v2 (_ : Params) : Obj := (Obj.mk (Value.type "tuple") none (Data.seq (Array.mk [(Value.str (Str.ofString "category") 443), (Value.str (Str.ofString "digits") 444), (Value.str (Str.ofString "is_blank_zero") 445), (Value.str (Str.ofString "is_justified") 446), (Value.str (Str.ofString "is_separate") 447), (Value.str (Str.ofString "is_signed") 448), (Value.str (Str.ofString "picture") 449), (Value.str (Str.ofString "scale") 450), (Value.str (Str.ofString "sign") 451), (Value.str (Str.ofString "size") 452), (Value.str (Str.ofString "usage") 453)]) 0) (Array.mk []))
noncomputable def ob_197_v2 (P : Params) : Obj := (Obj.mk (Value.type "dict") none (Data.dict (Array.mk [(DictEntry.mk (PyData.keyHash P (Str.ofString "__module__")) (Value.str (Str.ofString "__module__") 407) (Value.str (Str.ofString "ledgerspeak.shapes") 398)), (DictEntry.mk (PyData.keyHash P (Str.ofString "__firstlineno__")) (Value.str (Str.ofString "__firstlineno__") 411) (Value.int 94 410)), (DictEntry.mk (PyData.keyHash P (Str.ofString "__init__")) (Value.str (Str.ofString "__init__") 428) (Value.ref 181)), (DictEntry.mk (PyData.keyHash P (Str.ofString "told")) (Value.str (Str.ofString "told") 435) (Value.ref 188)), (DictEntry.mk (PyData.keyHash P (Str.ofString "sign_place")) (Value.str (Str.ofString "sign_place") 442) (Value.ref 195)), (DictEntry.mk (PyData.keyHash P (Str.ofString "__static_attributes__")) (Value.str (Str.ofString "__static_attributes__") 454) (Value.ref 196)), (DictEntry.mk (PyData.keyHash P (Str.ofString "__dict__")) (Value.str (Str.ofString "__dict__") 456) (Value.ref 199)), (DictEntry.mk (PyData.keyHash P (Str.ofString "__weakref__")) (Value.str (Str.ofString "__weakref__") 458) (Value.ref 200)), (DictEntry.mk (PyData.keyHash P (Str.ofString "__doc__")) (Value.str (Str.ofString "__doc__") 459) Value.none)]) 4) (Array.mk []))
noncomputable def ob_198_v2 (_ : Params) : Obj := (Obj.mk (Value.type "type") none (Data.cls (ClassData.mk (Str.ofString "Shape") [(Value.type "object")] [(Value.ref 198), (Value.type "object")] 197 (Str.ofString "Shape") true [] [] false none false)) (Array.mk [none, none, (some (Value.str (Str.ofString "Shape") 400)), (some (Value.str (Str.ofString "Shape") 408)), (some (Value.builtin "object.__new__")), (some (Value.bool true))]))
noncomputable def ob_199_v2 (_ : Params) : Obj := (Obj.mk (Value.type "getset_descriptor") none (Data.fields (Array.mk [(Value.str (Str.ofString "__dict__") 455), (Value.ref 198), (Value.builtin "function.__dict__"), (Value.builtin "function.__dict__#set")])) (Array.mk []))
noncomputable def ob_200_v2 (_ : Params) : Obj := (Obj.mk (Value.type "getset_descriptor") none (Data.fields (Array.mk [(Value.str (Str.ofString "__weakref__") 457), (Value.ref 198), (Value.builtin "ExceptionGroup.__weakref__"), Value.none])) (Array.mk []))
noncomputable def ob_201_v2 (_ : Params) : Obj := (Obj.mk (Value.type "super") none (Data.fields (Array.mk [(Value.ref 198), (Value.ref 198), (Value.ref 198)])) (Array.mk []))
noncomputable def ob_202_v2 (_ : Params) : Obj := (Obj.mk (Value.type "builtin_function_or_method") none (Data.fields (Array.mk [(Value.builtin "object.__init_subclass__"), (Value.ref 198)])) (Array.mk []))
noncomputable def ob_3_v3 (P : Params) : Obj := (Obj.mk (Value.type "dict") none (Data.dict (Array.mk [(DictEntry.mk (PyData.keyHash P (Str.ofString "__name__")) (Value.str (Str.ofString "__name__") 165) (Value.str (Str.ofString "ledgerspeak.needs") 501)), (DictEntry.mk (PyData.keyHash P (Str.ofString "__doc__")) (Value.str (Str.ofString "__doc__") 166) Value.none), (DictEntry.mk (PyData.keyHash P (Str.ofString "__package__")) (Value.str (Str.ofString "__package__") 167) Value.none), (DictEntry.mk (PyData.keyHash P (Str.ofString "__loader__")) (Value.str (Str.ofString "__loader__") 168) (Value.builtin "__main__.__loader__#opaque")), (DictEntry.mk (PyData.keyHash P (Str.ofString "__spec__")) (Value.str (Str.ofString "__spec__") 169) Value.none), (DictEntry.mk (PyData.keyHash P (Str.ofString "__annotations__")) (Value.str (Str.ofString "__annotations__") 170) (Value.ref 6)), (DictEntry.mk (PyData.keyHash P (Str.ofString "__builtins__")) (Value.str (Str.ofString "__builtins__") 171) (Value.ref 4)), (DictEntry.mk (PyData.keyHash P (Str.ofString "__file__")) (Value.str (Str.ofString "__file__") 173) (Value.str (Str.ofString "/claim/cut.py") 172)), (DictEntry.mk (PyData.keyHash P (Str.ofString "__cached__")) (Value.str (Str.ofString "__cached__") 174) Value.none), (DictEntry.mk (PyData.keyHash P (Str.ofString "_wall")) (Value.str (Str.ofString "_wall") 193) (Value.ref 21)), (DictEntry.mk (PyData.keyHash P (Str.ofString "LedgerError")) (Value.str (Str.ofString "LedgerError") 235) (Value.ref 47)), (DictEntry.mk (PyData.keyHash P (Str.ofString "CheckFault")) (Value.str (Str.ofString "CheckFault") 251) (Value.ref 60)), (DictEntry.mk (PyData.keyHash P (Str.ofString "FILLER")) (Value.str (Str.ofString "FILLER") 255) (Value.str (Str.ofString "FILLER") 254)), (DictEntry.mk (PyData.keyHash P (Str.ofString "Data")) (Value.str (Str.ofString "Data") 295) (Value.ref 86)), (DictEntry.mk (PyData.keyHash P (Str.ofString "records")) (Value.str (Str.ofString "records") 304) (Value.ref 97)), (DictEntry.mk (PyData.keyHash P (Str.ofString "items_under")) (Value.str (Str.ofString "items_under") 314) (Value.ref 104)), (DictEntry.mk (PyData.keyHash P (Str.ofString "all_items")) (Value.str (Str.ofString "all_items") 323) (Value.ref 111)), (DictEntry.mk (PyData.keyHash P (Str.ofString "items_around")) (Value.str (Str.ofString "items_around") 332) (Value.ref 118)), (DictEntry.mk (PyData.keyHash P (Str.ofString "root_of")) (Value.str (Str.ofString "root_of") 340) (Value.ref 125)), (DictEntry.mk (PyData.keyHash P (Str.ofString "names_around")) (Value.str (Str.ofString "names_around") 346) (Value.ref 130)), (DictEntry.mk (PyData.keyHash P (Str.ofString "tables_around")) (Value.str (Str.ofString "tables_around") 352) (Value.ref 135)), (DictEntry.mk (PyData.keyHash P (Str.ofString "file_of")) (Value.str (Str.ofString "file_of") 360) (Value.ref 140)), (DictEntry.mk (PyData.keyHash P (Str.ofString "leads_through")) (Value.str (Str.ofString "leads_through") 370) (Value.ref 147)), (DictEntry.mk (PyData.keyHash P (Str.ofString "only_one")) (Value.str (Str.ofString "only_one") 378) (Value.ref 154)), (DictEntry.mk (PyData.keyHash P (Str.ofString "find_item")) (Value.str (Str.ofString "find_item") 384) (Value.ref 159)), (DictEntry.mk (PyData.keyHash P (Str.ofString "find_named")) (Value.str (Str.ofString "find_named") 397) (Value.ref 166)), (DictEntry.mk (PyData.keyHash P (Str.ofString "Shape")) (Value.str (Str.ofString "Shape") 461) (Value.ref 198)), (DictEntry.mk (PyData.keyHash P (Str.ofString "text_shape")) (Value.str (Str.ofString "text_shape") 468) (Value.ref 209)), (DictEntry.mk (PyData.keyHash P (Str.ofString "numbered_shape")) (Value.str (Str.ofString "numbered_shape") 481) (Value.ref 216)), (DictEntry.mk (PyData.keyHash P (Str.ofString "figure_count")) (Value.str (Str.ofString "figure_count") 490) (Value.ref 223)), (DictEntry.mk (PyData.keyHash P (Str.ofString "number_shape")) (Value.str (Str.ofString "number_shape") 500) (Value.ref 230)), (DictEntry.mk (PyData.keyHash P (Str.ofString "ARITHMETIC")) (Value.str (Str.ofString "ARITHMETIC") 504) (Value.str (Str.ofString "+ - * / **") 503)), (DictEntry.mk (PyData.keyHash P (Str.ofString "INDEX_NAME")) (Value.str (Str.ofString "INDEX_NAME") 506) (Value.str (Str.ofString "index-name") 505)), (DictEntry.mk (PyData.keyHash P (Str.ofString "item_of")) (Value.str (Str.ofString "item_of") 514) (Value.ref 237)), (DictEntry.mk (PyData.keyHash P (Str.ofString "is_index_name")) (Value.str (Str.ofString "is_index_name") 522) (Value.ref 244)), (DictEntry.mk (PyData.keyHash P (Str.ofString "part_faults")) (Value.str (Str.ofString "part_faults") 532) (Value.ref 251)), (DictEntry.mk (PyData.keyHash P (Str.ofString "item_faults")) (Value.str (Str.ofString "item_faults") 543) (Value.ref 258)), (DictEntry.mk (PyData.keyHash P (Str.ofString "ref_faults")) (Value.str (Str.ofString "ref_faults") 552) (Value.ref 265)), (DictEntry.mk (PyData.keyHash P (Str.ofString "operand_faults")) (Value.str (Str.ofString "operand_faults") 560) (Value.ref 272)), (DictEntry.mk (PyData.keyHash P (Str.ofString "thing_faults")) (Value.str (Str.ofString "thing_faults") 568) (Value.ref 279)), (DictEntry.mk (PyData.keyHash P (Str.ofString "operand_shape")) (Value.str (Str.ofString "operand_shape") 577) (Value.ref 286)), (DictEntry.mk (PyData.keyHash P (Str.ofString "category_of")) (Value.str (Str.ofString "category_of") 586) (Value.ref 293)), (DictEntry.mk (PyData.keyHash P (Str.ofString "is_number_operand")) (Value.str (Str.ofString "is_number_operand") 594) (Value.ref 300)), (DictEntry.mk (PyData.keyHash P (Str.ofString "number_faults")) (Value.str (Str.ofString "number_faults") 606) (Value.ref 307)), (DictEntry.mk (PyData.keyHash P (Str.ofString "name_of")) (Value.str (Str.ofString "name_of") 613) (Value.ref 314)), (DictEntry.mk (PyData.keyHash P (Str.ofString "is_worth")) (Value.str (Str.ofString "is_worth") 620) (Value.ref 321)), (DictEntry.mk (PyData.keyHash P (Str.ofString "is_number_side")) (Value.str (Str.ofString "is_number_side") 628) (Value.ref 328)), (DictEntry.mk (PyData.keyHash P (Str.ofString "side_faults")) (Value.str (Str.ofString "side_faults") 638) (Value.ref 335))]) 48) (Array.mk []))
noncomputable def ob_12_v3 (_ : Params) : Obj := (Obj.mk Value.none none (Data.fields (Array.mk [(Value.int 1 0), (Value.int 0 0), (Value.ref 20), (Value.int 5 0), (Value.int 0 0), (Value.ref 27), (Value.int 14 0), (Value.int 0 0), (Value.ref 56), (Value.int 18 0), (Value.int 0 0), (Value.ref 68), (Value.int 30 0), (Value.int 0 0), (Value.ref 96), (Value.int 35 0), (Value.int 0 0), (Value.ref 103), (Value.int 43 0), (Value.int 0 0), (Value.ref 110), (Value.int 48 0), (Value.int 0 0), (Value.ref 117), (Value.int 55 0), (Value.int 0 0), (Value.ref 124), (Value.int 58 0), (Value.int 0 0), (Value.ref 129), (Value.int 60 0), (Value.int 0 0), (Value.ref 134), (Value.int 64 0), (Value.int 0 0), (Value.ref 139), (Value.int 70 0), (Value.int 0 0), (Value.ref 146), (Value.int 76 0), (Value.int 0 0), (Value.ref 153), (Value.int 82 0), (Value.int 0 0), (Value.ref 158), (Value.int 85 0), (Value.int 0 0), (Value.ref 165), (Value.int 94 0), (Value.int 0 0), (Value.ref 172), (Value.int 118 0), (Value.int 0 0), (Value.ref 208), (Value.int 120 0), (Value.int 0 0), (Value.ref 215), (Value.int 126 0), (Value.int 0 0), (Value.ref 222), (Value.int 132 0), (Value.int 0 0), (Value.ref 229), (Value.int 139 0), (Value.int 0 0), (Value.ref 236), (Value.int 144 0), (Value.int 0 0), (Value.ref 243), (Value.int 146 0), (Value.int 0 0), (Value.ref 250), (Value.int 154 0), (Value.int 0 0), (Value.ref 257), (Value.int 163 0), (Value.int 0 0), (Value.ref 264), (Value.int 168 0), (Value.int 0 0), (Value.ref 271), (Value.int 170 0), (Value.int 0 0), (Value.ref 278), (Value.int 172 0), (Value.int 0 0), (Value.ref 285), (Value.int 181 0), (Value.int 0 0), (Value.ref 292), (Value.int 190 0), (Value.int 0 0), (Value.ref 299), (Value.int 192 0), (Value.int 0 0), (Value.ref 306), (Value.int 204 0), (Value.int 0 0), (Value.ref 313), (Value.int 208 0), (Value.int 0 0), (Value.ref 320), (Value.int 210 0), (Value.int 0 0), (Value.ref 327), (Value.int 212 0), (Value.int 0 0), (Value.ref 334)])) (Array.mk []))
noncomputable def ob_203_v3 (_ : Params) : Obj := (Obj.mk (Value.type "tuple") none (Data.seq (Array.mk []) 0) (Array.mk []))
noncomputable def ob_204_v3 (_ : Params) : Obj := (Obj.mk Value.none none (Data.fields (Array.mk [])) (Array.mk []))
noncomputable def ob_205_v3 (_ : Params) : Obj := (Obj.mk (Value.type "tuple") none (Data.seq (Array.mk [(Value.str (Str.ofString "octets") 465)]) 0) (Array.mk []))
noncomputable def ob_206_v3 (_ : Params) : Obj := (Obj.mk (Value.type "tuple") none (Data.seq (Array.mk []) 0) (Array.mk []))
noncomputable def ob_207_v3 (_ : Params) : Obj := (Obj.mk Value.none none (Data.func (FuncData.mk (Str.ofString "text_shape") (Str.ofString "text_shape") (fP (ts 22)) (fB (ts 22)) (fS (ts 22)) 0 [] Value.none Value.none Value.none Value.none none Value.none Value.none 0)) (Array.mk []))
noncomputable def ob_208_v3 (_ : Params) : Obj := (Obj.mk (Value.type "code") none (Data.fields (Array.mk [(Value.str (Str.ofString "text_shape") 462), (Value.str (Str.ofString "text_shape") 463), (Value.str (Str.ofString "/claim/cut.py") 464), (Value.int 118 0), (Value.int 1 0), (Value.int 0 0), (Value.int 0 0), (Value.int 3 0), (Value.ref 203), (Value.bool true), (Value.int 181 0), (Value.ref 204), Value.none, (Value.ref 205), (Value.ref 206), (Value.ref 207), (Value.int 466 0), (Value.int 118 0), (Value.str (Str.ofString "/claim/cut.py") 467)])) (Array.mk []))
noncomputable def ob_209_v3 (_ : Params) : Obj := (Obj.mk (Value.type "function") none (Data.func (FuncData.mk (Str.ofString "text_shape") (Str.ofString "text_shape") (fP (ts 22)) (fB (ts 22)) (fS (ts 22)) 3 [] Value.none Value.none Value.none (Value.str (Str.ofString "ledgerspeak.shapes") 398) none (Value.ref 208) Value.none 0)) (Array.mk []))
noncomputable def ob_210_v3 (_ : Params) : Obj := (Obj.mk (Value.type "tuple") none (Data.seq (Array.mk []) 0) (Array.mk []))
noncomputable def ob_211_v3 (_ : Params) : Obj := (Obj.mk Value.none none (Data.fields (Array.mk [])) (Array.mk []))
noncomputable def ob_212_v3 (_ : Params) : Obj := (Obj.mk (Value.type "tuple") none (Data.seq (Array.mk [(Value.str (Str.ofString "category") 472), (Value.str (Str.ofString "size") 473), (Value.str (Str.ofString "usage") 474), (Value.str (Str.ofString "digits") 475), (Value.str (Str.ofString "scale") 476), (Value.str (Str.ofString "is_signed") 477), (Value.str (Str.ofString "found") 478)]) 0) (Array.mk []))
noncomputable def ob_213_v3 (_ : Params) : Obj := (Obj.mk (Value.type "tuple") none (Data.seq (Array.mk []) 0) (Array.mk []))
noncomputable def ob_214_v3 (_ : Params) : Obj := (Obj.mk Value.none none (Data.func (FuncData.mk (Str.ofString "numbered_shape") (Str.ofString "numbered_shape") (fP (ts 23)) (fB (ts 23)) (fS (ts 23)) 0 [] Value.none Value.none Value.none Value.none none Value.none Value.none 0)) (Array.mk []))
noncomputable def ob_215_v3 (_ : Params) : Obj := (Obj.mk (Value.type "code") none (Data.fields (Array.mk [(Value.str (Str.ofString "numbered_shape") 469), (Value.str (Str.ofString "numbered_shape") 470), (Value.str (Str.ofString "/claim/cut.py") 471), (Value.int 120 0), (Value.int 6 0), (Value.int 0 0), (Value.int 0 0), (Value.int 3 0), (Value.ref 210), (Value.bool true), (Value.int 181 0), (Value.ref 211), Value.none, (Value.ref 212), (Value.ref 213), (Value.ref 214), (Value.int 479 0), (Value.int 120 0), (Value.str (Str.ofString "/claim/cut.py") 480)])) (Array.mk []))
noncomputable def ob_216_v3 (_ : Params) : Obj := (Obj.mk (Value.type "function") none (Data.func (FuncData.mk (Str.ofString "numbered_shape") (Str.ofString "numbered_shape") (fP (ts 23)) (fB (ts 23)) (fS (ts 23)) 3 [] Value.none Value.none Value.none (Value.str (Str.ofString "ledgerspeak.shapes") 398) none (Value.ref 215) Value.none 0)) (Array.mk []))
noncomputable def ob_217_v3 (_ : Params) : Obj := (Obj.mk (Value.type "tuple") none (Data.seq (Array.mk []) 0) (Array.mk []))
noncomputable def ob_218_v3 (_ : Params) : Obj := (Obj.mk Value.none none (Data.fields (Array.mk [])) (Array.mk []))
noncomputable def ob_219_v3 (_ : Params) : Obj := (Obj.mk (Value.type "tuple") none (Data.seq (Array.mk [(Value.str (Str.ofString "number") 485), (Value.str (Str.ofString "count") 486), (Value.str (Str.ofString "rest") 487)]) 0) (Array.mk []))
noncomputable def ob_220_v3 (_ : Params) : Obj := (Obj.mk (Value.type "tuple") none (Data.seq (Array.mk []) 0) (Array.mk []))
noncomputable def ob_221_v3 (_ : Params) : Obj := (Obj.mk Value.none none (Data.func (FuncData.mk (Str.ofString "figure_count") (Str.ofString "figure_count") (fP (ts 24)) (fB (ts 24)) (fS (ts 24)) 0 [] Value.none Value.none Value.none Value.none none Value.none Value.none 0)) (Array.mk []))
noncomputable def ob_222_v3 (_ : Params) : Obj := (Obj.mk (Value.type "code") none (Data.fields (Array.mk [(Value.str (Str.ofString "figure_count") 482), (Value.str (Str.ofString "figure_count") 483), (Value.str (Str.ofString "/claim/cut.py") 484), (Value.int 126 0), (Value.int 1 0), (Value.int 0 0), (Value.int 0 0), (Value.int 3 0), (Value.ref 217), (Value.bool true), (Value.int 181 0), (Value.ref 218), Value.none, (Value.ref 219), (Value.ref 220), (Value.ref 221), (Value.int 488 0), (Value.int 126 0), (Value.str (Str.ofString "/claim/cut.py") 489)])) (Array.mk []))
noncomputable def ob_223_v3 (_ : Params) : Obj := (Obj.mk (Value.type "function") none (Data.func (FuncData.mk (Str.ofString "figure_count") (Str.ofString "figure_count") (fP (ts 24)) (fB (ts 24)) (fS (ts 24)) 3 [] Value.none Value.none Value.none (Value.str (Str.ofString "ledgerspeak.shapes") 398) none (Value.ref 222) Value.none 0)) (Array.mk []))
noncomputable def ob_224_v3 (_ : Params) : Obj := (Obj.mk (Value.type "tuple") none (Data.seq (Array.mk []) 0) (Array.mk []))
noncomputable def ob_225_v3 (_ : Params) : Obj := (Obj.mk Value.none none (Data.fields (Array.mk [])) (Array.mk []))
noncomputable def ob_226_v3 (_ : Params) : Obj := (Obj.mk (Value.type "tuple") none (Data.seq (Array.mk [(Value.str (Str.ofString "number") 494), (Value.str (Str.ofString "units") 495), (Value.str (Str.ofString "scale") 496), (Value.str (Str.ofString "digits") 497)]) 0) (Array.mk []))
noncomputable def ob_227_v3 (_ : Params) : Obj := (Obj.mk (Value.type "tuple") none (Data.seq (Array.mk []) 0) (Array.mk []))
noncomputable def ob_228_v3 (_ : Params) : Obj := (Obj.mk Value.none none (Data.func (FuncData.mk (Str.ofString "number_shape") (Str.ofString "number_shape") (fP (ts 25)) (fB (ts 25)) (fS (ts 25)) 0 [] Value.none Value.none Value.none Value.none none Value.none Value.none 0)) (Array.mk []))
noncomputable def ob_229_v3 (_ : Params) : Obj := (Obj.mk (Value.type "code") none (Data.fields (Array.mk [(Value.str (Str.ofString "number_shape") 491), (Value.str (Str.ofString "number_shape") 492), (Value.str (Str.ofString "/claim/cut.py") 493), (Value.int 132 0), (Value.int 1 0), (Value.int 0 0), (Value.int 0 0), (Value.int 3 0), (Value.ref 224), (Value.bool true), (Value.int 181 0), (Value.ref 225), Value.none, (Value.ref 226), (Value.ref 227), (Value.ref 228), (Value.int 498 0), (Value.int 132 0), (Value.str (Str.ofString "/claim/cut.py") 499)])) (Array.mk []))
noncomputable def ob_230_v3 (_ : Params) : Obj := (Obj.mk (Value.type "function") none (Data.func (FuncData.mk (Str.ofString "number_shape") (Str.ofString "number_shape") (fP (ts 25)) (fB (ts 25)) (fS (ts 25)) 3 [] Value.none Value.none Value.none (Value.str (Str.ofString "ledgerspeak.shapes") 398) none (Value.ref 229) Value.none 0)) (Array.mk []))
noncomputable def ob_231_v3 (_ : Params) : Obj := (Obj.mk (Value.type "tuple") none (Data.seq (Array.mk []) 0) (Array.mk []))
noncomputable def ob_232_v3 (_ : Params) : Obj := (Obj.mk Value.none none (Data.fields (Array.mk [])) (Array.mk []))
noncomputable def ob_233_v3 (_ : Params) : Obj := (Obj.mk (Value.type "tuple") none (Data.seq (Array.mk [(Value.str (Str.ofString "data") 510), (Value.str (Str.ofString "ref") 511)]) 0) (Array.mk []))
noncomputable def ob_234_v3 (_ : Params) : Obj := (Obj.mk (Value.type "tuple") none (Data.seq (Array.mk []) 0) (Array.mk []))
noncomputable def ob_235_v3 (_ : Params) : Obj := (Obj.mk Value.none none (Data.func (FuncData.mk (Str.ofString "item_of") (Str.ofString "item_of") (fP (ts 29)) (fB (ts 29)) (fS (ts 29)) 0 [] Value.none Value.none Value.none Value.none none Value.none Value.none 0)) (Array.mk []))
noncomputable def ob_236_v3 (_ : Params) : Obj := (Obj.mk (Value.type "code") none (Data.fields (Array.mk [(Value.str (Str.ofString "item_of") 507), (Value.str (Str.ofString "item_of") 508), (Value.str (Str.ofString "/claim/cut.py") 509), (Value.int 139 0), (Value.int 2 0), (Value.int 0 0), (Value.int 0 0), (Value.int 3 0), (Value.ref 231), (Value.bool true), (Value.int 181 0), (Value.ref 232), Value.none, (Value.ref 233), (Value.ref 234), (Value.ref 235), (Value.int 512 0), (Value.int 139 0), (Value.str (Str.ofString "/claim/cut.py") 513)])) (Array.mk []))
noncomputable def ob_237_v3 (_ : Params) : Obj := (Obj.mk (Value.type "function") none (Data.func (FuncData.mk (Str.ofString "item_of") (Str.ofString "item_of") (fP (ts 29)) (fB (ts 29)) (fS (ts 29)) 3 [] Value.none Value.none Value.none (Value.str (Str.ofString "ledgerspeak.needs") 501) none (Value.ref 236) Value.none 0)) (Array.mk []))
noncomputable def ob_238_v3 (_ : Params) : Obj := (Obj.mk (Value.type "tuple") none (Data.seq (Array.mk []) 0) (Array.mk []))
noncomputable def ob_239_v3 (_ : Params) : Obj := (Obj.mk Value.none none (Data.fields (Array.mk [])) (Array.mk []))
noncomputable def ob_240_v3 (_ : Params) : Obj := (Obj.mk (Value.type "tuple") none (Data.seq (Array.mk [(Value.str (Str.ofString "data") 518), (Value.str (Str.ofString "operand") 519)]) 0) (Array.mk []))
noncomputable def ob_241_v3 (_ : Params) : Obj := (Obj.mk (Value.type "tuple") none (Data.seq (Array.mk []) 0) (Array.mk []))
noncomputable def ob_242_v3 (_ : Params) : Obj := (Obj.mk Value.none none (Data.func (FuncData.mk (Str.ofString "is_index_name") (Str.ofString "is_index_name") (fP (ts 30)) (fB (ts 30)) (fS (ts 30)) 0 [] Value.none Value.none Value.none Value.none none Value.none Value.none 0)) (Array.mk []))
noncomputable def ob_243_v3 (_ : Params) : Obj := (Obj.mk (Value.type "code") none (Data.fields (Array.mk [(Value.str (Str.ofString "is_index_name") 515), (Value.str (Str.ofString "is_index_name") 516), (Value.str (Str.ofString "/claim/cut.py") 517), (Value.int 144 0), (Value.int 2 0), (Value.int 0 0), (Value.int 0 0), (Value.int 3 0), (Value.ref 238), (Value.bool true), (Value.int 181 0), (Value.ref 239), Value.none, (Value.ref 240), (Value.ref 241), (Value.ref 242), (Value.int 520 0), (Value.int 144 0), (Value.str (Str.ofString "/claim/cut.py") 521)])) (Array.mk []))
noncomputable def ob_244_v3 (_ : Params) : Obj := (Obj.mk (Value.type "function") none (Data.func (FuncData.mk (Str.ofString "is_index_name") (Str.ofString "is_index_name") (fP (ts 30)) (fB (ts 30)) (fS (ts 30)) 3 [] Value.none Value.none Value.none (Value.str (Str.ofString "ledgerspeak.needs") 501) none (Value.ref 243) Value.none 0)) (Array.mk []))
noncomputable def ob_245_v3 (_ : Params) : Obj := (Obj.mk (Value.type "tuple") none (Data.seq (Array.mk []) 0) (Array.mk []))
noncomputable def ob_246_v3 (_ : Params) : Obj := (Obj.mk Value.none none (Data.fields (Array.mk [])) (Array.mk []))
noncomputable def ob_247_v3 (_ : Params) : Obj := (Obj.mk (Value.type "tuple") none (Data.seq (Array.mk [(Value.str (Str.ofString "data") 526), (Value.str (Str.ofString "ref") 527), (Value.str (Str.ofString "found") 528), (Value.str (Str.ofString "expr") 529)]) 0) (Array.mk []))
noncomputable def ob_248_v3 (_ : Params) : Obj := (Obj.mk (Value.type "tuple") none (Data.seq (Array.mk []) 0) (Array.mk []))
noncomputable def ob_249_v3 (_ : Params) : Obj := (Obj.mk Value.none none (Data.func (FuncData.mk (Str.ofString "part_faults") (Str.ofString "part_faults") (fP (ts 31)) (fB (ts 31)) (fS (ts 31)) 0 [] Value.none Value.none Value.none Value.none none Value.none Value.none 0)) (Array.mk []))
noncomputable def ob_250_v3 (_ : Params) : Obj := (Obj.mk (Value.type "code") none (Data.fields (Array.mk [(Value.str (Str.ofString "part_faults") 523), (Value.str (Str.ofString "part_faults") 524), (Value.str (Str.ofString "/claim/cut.py") 525), (Value.int 146 0), (Value.int 2 0), (Value.int 0 0), (Value.int 0 0), (Value.int 3 0), (Value.ref 245), (Value.bool true), (Value.int 181 0), (Value.ref 246), Value.none, (Value.ref 247), (Value.ref 248), (Value.ref 249), (Value.int 530 0), (Value.int 146 0), (Value.str (Str.ofString "/claim/cut.py") 531)])) (Array.mk []))
noncomputable def ob_251_v3 (_ : Params) : Obj := (Obj.mk (Value.type "function") none (Data.func (FuncData.mk (Str.ofString "part_faults") (Str.ofString "part_faults") (fP (ts 31)) (fB (ts 31)) (fS (ts 31)) 3 [] Value.none Value.none Value.none (Value.str (Str.ofString "ledgerspeak.needs") 501) none (Value.ref 250) Value.none 0)) (Array.mk []))
noncomputable def ob_252_v3 (_ : Params) : Obj := (Obj.mk (Value.type "tuple") none (Data.seq (Array.mk []) 0) (Array.mk []))
noncomputable def ob_253_v3 (_ : Params) : Obj := (Obj.mk Value.none none (Data.fields (Array.mk [])) (Array.mk []))
noncomputable def ob_254_v3 (_ : Params) : Obj := (Obj.mk (Value.type "tuple") none (Data.seq (Array.mk [(Value.str (Str.ofString "data") 536), (Value.str (Str.ofString "ref") 537), (Value.str (Str.ofString "found") 538), (Value.str (Str.ofString "item") 539), (Value.str (Str.ofString "fault") 540)]) 0) (Array.mk []))
noncomputable def ob_255_v3 (_ : Params) : Obj := (Obj.mk (Value.type "tuple") none (Data.seq (Array.mk []) 0) (Array.mk []))
noncomputable def ob_256_v3 (_ : Params) : Obj := (Obj.mk Value.none none (Data.func (FuncData.mk (Str.ofString "item_faults") (Str.ofString "item_faults") (fP (ts 32)) (fB (ts 32)) (fS (ts 32)) 0 [] Value.none Value.none Value.none Value.none none Value.none Value.none 0)) (Array.mk []))
noncomputable def ob_257_v3 (_ : Params) : Obj := (Obj.mk (Value.type "code") none (Data.fields (Array.mk [(Value.str (Str.ofString "item_faults") 533), (Value.str (Str.ofString "item_faults") 534), (Value.str (Str.ofString "/claim/cut.py") 535), (Value.int 154 0), (Value.int 2 0), (Value.int 0 0), (Value.int 0 0), (Value.int 3 0), (Value.ref 252), (Value.bool true), (Value.int 181 0), (Value.ref 253), Value.none, (Value.ref 254), (Value.ref 255), (Value.ref 256), (Value.int 541 0), (Value.int 154 0), (Value.str (Str.ofString "/claim/cut.py") 542)])) (Array.mk []))
noncomputable def ob_258_v3 (_ : Params) : Obj := (Obj.mk (Value.type "function") none (Data.func (FuncData.mk (Str.ofString "item_faults") (Str.ofString "item_faults") (fP (ts 32)) (fB (ts 32)) (fS (ts 32)) 3 [] Value.none Value.none Value.none (Value.str (Str.ofString "ledgerspeak.needs") 501) none (Value.ref 257) Value.none 0)) (Array.mk []))
noncomputable def ob_259_v3 (_ : Params) : Obj := (Obj.mk (Value.type "tuple") none (Data.seq (Array.mk []) 0) (Array.mk []))
noncomputable def ob_260_v3 (_ : Params) : Obj := (Obj.mk Value.none none (Data.fields (Array.mk [])) (Array.mk []))
noncomputable def ob_261_v3 (_ : Params) : Obj := (Obj.mk (Value.type "tuple") none (Data.seq (Array.mk [(Value.str (Str.ofString "data") 547), (Value.str (Str.ofString "ref") 548), (Value.str (Str.ofString "found") 549)]) 0) (Array.mk []))
noncomputable def ob_262_v3 (_ : Params) : Obj := (Obj.mk (Value.type "tuple") none (Data.seq (Array.mk []) 0) (Array.mk []))
noncomputable def ob_263_v3 (_ : Params) : Obj := (Obj.mk Value.none none (Data.func (FuncData.mk (Str.ofString "ref_faults") (Str.ofString "ref_faults") (fP (ts 33)) (fB (ts 33)) (fS (ts 33)) 0 [] Value.none Value.none Value.none Value.none none Value.none Value.none 0)) (Array.mk []))
noncomputable def ob_264_v3 (_ : Params) : Obj := (Obj.mk (Value.type "code") none (Data.fields (Array.mk [(Value.str (Str.ofString "ref_faults") 544), (Value.str (Str.ofString "ref_faults") 545), (Value.str (Str.ofString "/claim/cut.py") 546), (Value.int 163 0), (Value.int 2 0), (Value.int 0 0), (Value.int 0 0), (Value.int 3 0), (Value.ref 259), (Value.bool true), (Value.int 181 0), (Value.ref 260), Value.none, (Value.ref 261), (Value.ref 262), (Value.ref 263), (Value.int 550 0), (Value.int 163 0), (Value.str (Str.ofString "/claim/cut.py") 551)])) (Array.mk []))
noncomputable def ob_265_v3 (_ : Params) : Obj := (Obj.mk (Value.type "function") none (Data.func (FuncData.mk (Str.ofString "ref_faults") (Str.ofString "ref_faults") (fP (ts 33)) (fB (ts 33)) (fS (ts 33)) 3 [] Value.none Value.none Value.none (Value.str (Str.ofString "ledgerspeak.needs") 501) none (Value.ref 264) Value.none 0)) (Array.mk []))
noncomputable def ob_266_v3 (_ : Params) : Obj := (Obj.mk (Value.type "tuple") none (Data.seq (Array.mk []) 0) (Array.mk []))
noncomputable def ob_267_v3 (_ : Params) : Obj := (Obj.mk Value.none none (Data.fields (Array.mk [])) (Array.mk []))
noncomputable def ob_268_v3 (_ : Params) : Obj := (Obj.mk (Value.type "tuple") none (Data.seq (Array.mk [(Value.str (Str.ofString "data") 556), (Value.str (Str.ofString "operand") 557)]) 0) (Array.mk []))
noncomputable def ob_269_v3 (_ : Params) : Obj := (Obj.mk (Value.type "tuple") none (Data.seq (Array.mk []) 0) (Array.mk []))
noncomputable def ob_270_v3 (_ : Params) : Obj := (Obj.mk Value.none none (Data.func (FuncData.mk (Str.ofString "operand_faults") (Str.ofString "operand_faults") (fP (ts 34)) (fB (ts 34)) (fS (ts 34)) 0 [] Value.none Value.none Value.none Value.none none Value.none Value.none 0)) (Array.mk []))
noncomputable def ob_271_v3 (_ : Params) : Obj := (Obj.mk (Value.type "code") none (Data.fields (Array.mk [(Value.str (Str.ofString "operand_faults") 553), (Value.str (Str.ofString "operand_faults") 554), (Value.str (Str.ofString "/claim/cut.py") 555), (Value.int 168 0), (Value.int 2 0), (Value.int 0 0), (Value.int 0 0), (Value.int 3 0), (Value.ref 266), (Value.bool true), (Value.int 181 0), (Value.ref 267), Value.none, (Value.ref 268), (Value.ref 269), (Value.ref 270), (Value.int 558 0), (Value.int 168 0), (Value.str (Str.ofString "/claim/cut.py") 559)])) (Array.mk []))
noncomputable def ob_272_v3 (_ : Params) : Obj := (Obj.mk (Value.type "function") none (Data.func (FuncData.mk (Str.ofString "operand_faults") (Str.ofString "operand_faults") (fP (ts 34)) (fB (ts 34)) (fS (ts 34)) 3 [] Value.none Value.none Value.none (Value.str (Str.ofString "ledgerspeak.needs") 501) none (Value.ref 271) Value.none 0)) (Array.mk []))
noncomputable def ob_273_v3 (_ : Params) : Obj := (Obj.mk (Value.type "tuple") none (Data.seq (Array.mk []) 0) (Array.mk []))
noncomputable def ob_274_v3 (_ : Params) : Obj := (Obj.mk Value.none none (Data.fields (Array.mk [])) (Array.mk []))
noncomputable def ob_275_v3 (_ : Params) : Obj := (Obj.mk (Value.type "tuple") none (Data.seq (Array.mk [(Value.str (Str.ofString "data") 564), (Value.str (Str.ofString "operand") 565)]) 0) (Array.mk []))
noncomputable def ob_276_v3 (_ : Params) : Obj := (Obj.mk (Value.type "tuple") none (Data.seq (Array.mk []) 0) (Array.mk []))
noncomputable def ob_277_v3 (_ : Params) : Obj := (Obj.mk Value.none none (Data.func (FuncData.mk (Str.ofString "thing_faults") (Str.ofString "thing_faults") (fP (ts 35)) (fB (ts 35)) (fS (ts 35)) 0 [] Value.none Value.none Value.none Value.none none Value.none Value.none 0)) (Array.mk []))
noncomputable def ob_278_v3 (_ : Params) : Obj := (Obj.mk (Value.type "code") none (Data.fields (Array.mk [(Value.str (Str.ofString "thing_faults") 561), (Value.str (Str.ofString "thing_faults") 562), (Value.str (Str.ofString "/claim/cut.py") 563), (Value.int 170 0), (Value.int 2 0), (Value.int 0 0), (Value.int 0 0), (Value.int 3 0), (Value.ref 273), (Value.bool true), (Value.int 181 0), (Value.ref 274), Value.none, (Value.ref 275), (Value.ref 276), (Value.ref 277), (Value.int 566 0), (Value.int 170 0), (Value.str (Str.ofString "/claim/cut.py") 567)])) (Array.mk []))
noncomputable def ob_279_v3 (_ : Params) : Obj := (Obj.mk (Value.type "function") none (Data.func (FuncData.mk (Str.ofString "thing_faults") (Str.ofString "thing_faults") (fP (ts 35)) (fB (ts 35)) (fS (ts 35)) 3 [] Value.none Value.none Value.none (Value.str (Str.ofString "ledgerspeak.needs") 501) none (Value.ref 278) Value.none 0)) (Array.mk []))
noncomputable def ob_280_v3 (_ : Params) : Obj := (Obj.mk (Value.type "tuple") none (Data.seq (Array.mk []) 0) (Array.mk []))
noncomputable def ob_281_v3 (_ : Params) : Obj := (Obj.mk Value.none none (Data.fields (Array.mk [])) (Array.mk []))
noncomputable def ob_282_v3 (_ : Params) : Obj := (Obj.mk (Value.type "tuple") none (Data.seq (Array.mk [(Value.str (Str.ofString "data") 572), (Value.str (Str.ofString "operand") 573), (Value.str (Str.ofString "item") 574)]) 0) (Array.mk []))
noncomputable def ob_283_v3 (_ : Params) : Obj := (Obj.mk (Value.type "tuple") none (Data.seq (Array.mk []) 0) (Array.mk []))
noncomputable def ob_284_v3 (_ : Params) : Obj := (Obj.mk Value.none none (Data.func (FuncData.mk (Str.ofString "operand_shape") (Str.ofString "operand_shape") (fP (ts 36)) (fB (ts 36)) (fS (ts 36)) 0 [] Value.none Value.none Value.none Value.none none Value.none Value.none 0)) (Array.mk []))
noncomputable def ob_285_v3 (_ : Params) : Obj := (Obj.mk (Value.type "code") none (Data.fields (Array.mk [(Value.str (Str.ofString "operand_shape") 569), (Value.str (Str.ofString "operand_shape") 570), (Value.str (Str.ofString "/claim/cut.py") 571), (Value.int 172 0), (Value.int 2 0), (Value.int 0 0), (Value.int 0 0), (Value.int 3 0), (Value.ref 280), (Value.bool true), (Value.int 181 0), (Value.ref 281), Value.none, (Value.ref 282), (Value.ref 283), (Value.ref 284), (Value.int 575 0), (Value.int 172 0), (Value.str (Str.ofString "/claim/cut.py") 576)])) (Array.mk []))
noncomputable def ob_286_v3 (_ : Params) : Obj := (Obj.mk (Value.type "function") none (Data.func (FuncData.mk (Str.ofString "operand_shape") (Str.ofString "operand_shape") (fP (ts 36)) (fB (ts 36)) (fS (ts 36)) 3 [] Value.none Value.none Value.none (Value.str (Str.ofString "ledgerspeak.needs") 501) none (Value.ref 285) Value.none 0)) (Array.mk []))
noncomputable def ob_287_v3 (_ : Params) : Obj := (Obj.mk (Value.type "tuple") none (Data.seq (Array.mk []) 0) (Array.mk []))
noncomputable def ob_288_v3 (_ : Params) : Obj := (Obj.mk Value.none none (Data.fields (Array.mk [])) (Array.mk []))
noncomputable def ob_289_v3 (_ : Params) : Obj := (Obj.mk (Value.type "tuple") none (Data.seq (Array.mk [(Value.str (Str.ofString "data") 581), (Value.str (Str.ofString "operand") 582), (Value.str (Str.ofString "shape") 583)]) 0) (Array.mk []))
noncomputable def ob_290_v3 (_ : Params) : Obj := (Obj.mk (Value.type "tuple") none (Data.seq (Array.mk []) 0) (Array.mk []))
noncomputable def ob_291_v3 (_ : Params) : Obj := (Obj.mk Value.none none (Data.func (FuncData.mk (Str.ofString "category_of") (Str.ofString "category_of") (fP (ts 37)) (fB (ts 37)) (fS (ts 37)) 0 [] Value.none Value.none Value.none Value.none none Value.none Value.none 0)) (Array.mk []))
noncomputable def ob_292_v3 (_ : Params) : Obj := (Obj.mk (Value.type "code") none (Data.fields (Array.mk [(Value.str (Str.ofString "category_of") 578), (Value.str (Str.ofString "category_of") 579), (Value.str (Str.ofString "/claim/cut.py") 580), (Value.int 181 0), (Value.int 2 0), (Value.int 0 0), (Value.int 0 0), (Value.int 3 0), (Value.ref 287), (Value.bool true), (Value.int 181 0), (Value.ref 288), Value.none, (Value.ref 289), (Value.ref 290), (Value.ref 291), (Value.int 584 0), (Value.int 181 0), (Value.str (Str.ofString "/claim/cut.py") 585)])) (Array.mk []))
noncomputable def ob_293_v3 (_ : Params) : Obj := (Obj.mk (Value.type "function") none (Data.func (FuncData.mk (Str.ofString "category_of") (Str.ofString "category_of") (fP (ts 37)) (fB (ts 37)) (fS (ts 37)) 3 [] Value.none Value.none Value.none (Value.str (Str.ofString "ledgerspeak.needs") 501) none (Value.ref 292) Value.none 0)) (Array.mk []))
noncomputable def ob_294_v3 (_ : Params) : Obj := (Obj.mk (Value.type "tuple") none (Data.seq (Array.mk []) 0) (Array.mk []))
noncomputable def ob_295_v3 (_ : Params) : Obj := (Obj.mk Value.none none (Data.fields (Array.mk [])) (Array.mk []))
noncomputable def ob_296_v3 (_ : Params) : Obj := (Obj.mk (Value.type "tuple") none (Data.seq (Array.mk [(Value.str (Str.ofString "data") 590), (Value.str (Str.ofString "operand") 591)]) 0) (Array.mk []))
noncomputable def ob_297_v3 (_ : Params) : Obj := (Obj.mk (Value.type "tuple") none (Data.seq (Array.mk []) 0) (Array.mk []))
noncomputable def ob_298_v3 (_ : Params) : Obj := (Obj.mk Value.none none (Data.func (FuncData.mk (Str.ofString "is_number_operand") (Str.ofString "is_number_operand") (fP (ts 38)) (fB (ts 38)) (fS (ts 38)) 0 [] Value.none Value.none Value.none Value.none none Value.none Value.none 0)) (Array.mk []))
noncomputable def ob_299_v3 (_ : Params) : Obj := (Obj.mk (Value.type "code") none (Data.fields (Array.mk [(Value.str (Str.ofString "is_number_operand") 587), (Value.str (Str.ofString "is_number_operand") 588), (Value.str (Str.ofString "/claim/cut.py") 589), (Value.int 190 0), (Value.int 2 0), (Value.int 0 0), (Value.int 0 0), (Value.int 3 0), (Value.ref 294), (Value.bool true), (Value.int 181 0), (Value.ref 295), Value.none, (Value.ref 296), (Value.ref 297), (Value.ref 298), (Value.int 592 0), (Value.int 190 0), (Value.str (Str.ofString "/claim/cut.py") 593)])) (Array.mk []))
noncomputable def ob_300_v3 (_ : Params) : Obj := (Obj.mk (Value.type "function") none (Data.func (FuncData.mk (Str.ofString "is_number_operand") (Str.ofString "is_number_operand") (fP (ts 38)) (fB (ts 38)) (fS (ts 38)) 3 [] Value.none Value.none Value.none (Value.str (Str.ofString "ledgerspeak.needs") 501) none (Value.ref 299) Value.none 0)) (Array.mk []))
noncomputable def ob_301_v3 (_ : Params) : Obj := (Obj.mk (Value.type "tuple") none (Data.seq (Array.mk []) 0) (Array.mk []))
noncomputable def ob_302_v3 (_ : Params) : Obj := (Obj.mk Value.none none (Data.fields (Array.mk [])) (Array.mk []))
noncomputable def ob_303_v3 (_ : Params) : Obj := (Obj.mk (Value.type "tuple") none (Data.seq (Array.mk [(Value.str (Str.ofString "data") 598), (Value.str (Str.ofString "expr") 599), (Value.str (Str.ofString "found") 600), (Value.str (Str.ofString "line") 601), (Value.str (Str.ofString "here") 602), (Value.str (Str.ofString "more") 603)]) 0) (Array.mk []))
noncomputable def ob_304_v3 (_ : Params) : Obj := (Obj.mk (Value.type "tuple") none (Data.seq (Array.mk []) 0) (Array.mk []))
noncomputable def ob_305_v3 (_ : Params) : Obj := (Obj.mk Value.none none (Data.func (FuncData.mk (Str.ofString "number_faults") (Str.ofString "number_faults") (fP (ts 39)) (fB (ts 39)) (fS (ts 39)) 0 [] Value.none Value.none Value.none Value.none none Value.none Value.none 0)) (Array.mk []))
noncomputable def ob_306_v3 (_ : Params) : Obj := (Obj.mk (Value.type "code") none (Data.fields (Array.mk [(Value.str (Str.ofString "number_faults") 595), (Value.str (Str.ofString "number_faults") 596), (Value.str (Str.ofString "/claim/cut.py") 597), (Value.int 192 0), (Value.int 2 0), (Value.int 0 0), (Value.int 0 0), (Value.int 3 0), (Value.ref 301), (Value.bool true), (Value.int 181 0), (Value.ref 302), Value.none, (Value.ref 303), (Value.ref 304), (Value.ref 305), (Value.int 604 0), (Value.int 192 0), (Value.str (Str.ofString "/claim/cut.py") 605)])) (Array.mk []))
noncomputable def ob_307_v3 (_ : Params) : Obj := (Obj.mk (Value.type "function") none (Data.func (FuncData.mk (Str.ofString "number_faults") (Str.ofString "number_faults") (fP (ts 39)) (fB (ts 39)) (fS (ts 39)) 3 [] Value.none Value.none Value.none (Value.str (Str.ofString "ledgerspeak.needs") 501) none (Value.ref 306) Value.none 0)) (Array.mk []))
noncomputable def ob_308_v3 (_ : Params) : Obj := (Obj.mk (Value.type "tuple") none (Data.seq (Array.mk []) 0) (Array.mk []))
noncomputable def ob_309_v3 (_ : Params) : Obj := (Obj.mk Value.none none (Data.fields (Array.mk [])) (Array.mk []))
noncomputable def ob_310_v3 (_ : Params) : Obj := (Obj.mk (Value.type "tuple") none (Data.seq (Array.mk [(Value.str (Str.ofString "operand") 610)]) 0) (Array.mk []))
noncomputable def ob_311_v3 (_ : Params) : Obj := (Obj.mk (Value.type "tuple") none (Data.seq (Array.mk []) 0) (Array.mk []))
noncomputable def ob_312_v3 (_ : Params) : Obj := (Obj.mk Value.none none (Data.func (FuncData.mk (Str.ofString "name_of") (Str.ofString "name_of") (fP (ts 40)) (fB (ts 40)) (fS (ts 40)) 0 [] Value.none Value.none Value.none Value.none none Value.none Value.none 0)) (Array.mk []))
noncomputable def ob_313_v3 (_ : Params) : Obj := (Obj.mk (Value.type "code") none (Data.fields (Array.mk [(Value.str (Str.ofString "name_of") 607), (Value.str (Str.ofString "name_of") 608), (Value.str (Str.ofString "/claim/cut.py") 609), (Value.int 204 0), (Value.int 1 0), (Value.int 0 0), (Value.int 0 0), (Value.int 3 0), (Value.ref 308), (Value.bool true), (Value.int 181 0), (Value.ref 309), Value.none, (Value.ref 310), (Value.ref 311), (Value.ref 312), (Value.int 611 0), (Value.int 204 0), (Value.str (Str.ofString "/claim/cut.py") 612)])) (Array.mk []))
noncomputable def ob_314_v3 (_ : Params) : Obj := (Obj.mk (Value.type "function") none (Data.func (FuncData.mk (Str.ofString "name_of") (Str.ofString "name_of") (fP (ts 40)) (fB (ts 40)) (fS (ts 40)) 3 [] Value.none Value.none Value.none (Value.str (Str.ofString "ledgerspeak.needs") 501) none (Value.ref 313) Value.none 0)) (Array.mk []))
noncomputable def ob_315_v3 (_ : Params) : Obj := (Obj.mk (Value.type "tuple") none (Data.seq (Array.mk []) 0) (Array.mk []))
noncomputable def ob_316_v3 (_ : Params) : Obj := (Obj.mk Value.none none (Data.fields (Array.mk [])) (Array.mk []))
noncomputable def ob_317_v3 (_ : Params) : Obj := (Obj.mk (Value.type "tuple") none (Data.seq (Array.mk [(Value.str (Str.ofString "expr") 617)]) 0) (Array.mk []))
noncomputable def ob_318_v3 (_ : Params) : Obj := (Obj.mk (Value.type "tuple") none (Data.seq (Array.mk []) 0) (Array.mk []))
noncomputable def ob_319_v3 (_ : Params) : Obj := (Obj.mk Value.none none (Data.func (FuncData.mk (Str.ofString "is_worth") (Str.ofString "is_worth") (fP (ts 41)) (fB (ts 41)) (fS (ts 41)) 0 [] Value.none Value.none Value.none Value.none none Value.none Value.none 0)) (Array.mk []))
noncomputable def ob_320_v3 (_ : Params) : Obj := (Obj.mk (Value.type "code") none (Data.fields (Array.mk [(Value.str (Str.ofString "is_worth") 614), (Value.str (Str.ofString "is_worth") 615), (Value.str (Str.ofString "/claim/cut.py") 616), (Value.int 208 0), (Value.int 1 0), (Value.int 0 0), (Value.int 0 0), (Value.int 3 0), (Value.ref 315), (Value.bool true), (Value.int 181 0), (Value.ref 316), Value.none, (Value.ref 317), (Value.ref 318), (Value.ref 319), (Value.int 618 0), (Value.int 208 0), (Value.str (Str.ofString "/claim/cut.py") 619)])) (Array.mk []))
noncomputable def ob_321_v3 (_ : Params) : Obj := (Obj.mk (Value.type "function") none (Data.func (FuncData.mk (Str.ofString "is_worth") (Str.ofString "is_worth") (fP (ts 41)) (fB (ts 41)) (fS (ts 41)) 3 [] Value.none Value.none Value.none (Value.str (Str.ofString "ledgerspeak.needs") 501) none (Value.ref 320) Value.none 0)) (Array.mk []))
noncomputable def ob_322_v3 (_ : Params) : Obj := (Obj.mk (Value.type "tuple") none (Data.seq (Array.mk []) 0) (Array.mk []))
noncomputable def ob_323_v3 (_ : Params) : Obj := (Obj.mk Value.none none (Data.fields (Array.mk [])) (Array.mk []))
noncomputable def ob_324_v3 (_ : Params) : Obj := (Obj.mk (Value.type "tuple") none (Data.seq (Array.mk [(Value.str (Str.ofString "data") 624), (Value.str (Str.ofString "expr") 625)]) 0) (Array.mk []))
noncomputable def ob_325_v3 (_ : Params) : Obj := (Obj.mk (Value.type "tuple") none (Data.seq (Array.mk []) 0) (Array.mk []))
noncomputable def ob_326_v3 (_ : Params) : Obj := (Obj.mk Value.none none (Data.func (FuncData.mk (Str.ofString "is_number_side") (Str.ofString "is_number_side") (fP (ts 42)) (fB (ts 42)) (fS (ts 42)) 0 [] Value.none Value.none Value.none Value.none none Value.none Value.none 0)) (Array.mk []))
noncomputable def ob_327_v3 (_ : Params) : Obj := (Obj.mk (Value.type "code") none (Data.fields (Array.mk [(Value.str (Str.ofString "is_number_side") 621), (Value.str (Str.ofString "is_number_side") 622), (Value.str (Str.ofString "/claim/cut.py") 623), (Value.int 210 0), (Value.int 2 0), (Value.int 0 0), (Value.int 0 0), (Value.int 3 0), (Value.ref 322), (Value.bool true), (Value.int 181 0), (Value.ref 323), Value.none, (Value.ref 324), (Value.ref 325), (Value.ref 326), (Value.int 626 0), (Value.int 210 0), (Value.str (Str.ofString "/claim/cut.py") 627)])) (Array.mk []))
noncomputable def ob_328_v3 (_ : Params) : Obj := (Obj.mk (Value.type "function") none (Data.func (FuncData.mk (Str.ofString "is_number_side") (Str.ofString "is_number_side") (fP (ts 42)) (fB (ts 42)) (fS (ts 42)) 3 [] Value.none Value.none Value.none (Value.str (Str.ofString "ledgerspeak.needs") 501) none (Value.ref 327) Value.none 0)) (Array.mk []))
noncomputable def ob_329_v3 (_ : Params) : Obj := (Obj.mk (Value.type "tuple") none (Data.seq (Array.mk []) 0) (Array.mk []))
noncomputable def ob_330_v3 (_ : Params) : Obj := (Obj.mk Value.none none (Data.fields (Array.mk [])) (Array.mk []))
noncomputable def ob_331_v3 (_ : Params) : Obj := (Obj.mk (Value.type "tuple") none (Data.seq (Array.mk [(Value.str (Str.ofString "data") 632), (Value.str (Str.ofString "one") 633), (Value.str (Str.ofString "other") 634), (Value.str (Str.ofString "is_kept") 635)]) 0) (Array.mk []))
noncomputable def ob_332_v3 (_ : Params) : Obj := (Obj.mk (Value.type "tuple") none (Data.seq (Array.mk []) 0) (Array.mk []))
noncomputable def ob_333_v3 (_ : Params) : Obj := (Obj.mk Value.none none (Data.func (FuncData.mk (Str.ofString "side_faults") (Str.ofString "side_faults") (fP (ts 43)) (fB (ts 43)) (fS (ts 43)) 0 [] Value.none Value.none Value.none Value.none none Value.none Value.none 0)) (Array.mk []))
noncomputable def ob_334_v3 (_ : Params) : Obj := (Obj.mk (Value.type "code") none (Data.fields (Array.mk [(Value.str (Str.ofString "side_faults") 629), (Value.str (Str.ofString "side_faults") 630), (Value.str (Str.ofString "/claim/cut.py") 631), (Value.int 212 0), (Value.int 3 0), (Value.int 0 0), (Value.int 0 0), (Value.int 3 0), (Value.ref 329), (Value.bool true), (Value.int 181 0), (Value.ref 330), Value.none, (Value.ref 331), (Value.ref 332), (Value.ref 333), (Value.int 636 0), (Value.int 212 0), (Value.str (Str.ofString "/claim/cut.py") 637)])) (Array.mk []))
noncomputable def ob_335_v3 (_ : Params) : Obj := (Obj.mk (Value.type "function") none (Data.func (FuncData.mk (Str.ofString "side_faults") (Str.ofString "side_faults") (fP (ts 43)) (fB (ts 43)) (fS (ts 43)) 3 [] Value.none Value.none Value.none (Value.str (Str.ofString "ledgerspeak.needs") 501) none (Value.ref 334) Value.none 0)) (Array.mk []))
noncomputable def ob_3_v4 (P : Params) : Obj := (Obj.mk (Value.type "dict") none (Data.dict (Array.mk [(DictEntry.mk (PyData.keyHash P (Str.ofString "__name__")) (Value.str (Str.ofString "__name__") 165) (Value.str (Str.ofString "law_pq0630_01") 677)), (DictEntry.mk (PyData.keyHash P (Str.ofString "__doc__")) (Value.str (Str.ofString "__doc__") 166) Value.none), (DictEntry.mk (PyData.keyHash P (Str.ofString "__package__")) (Value.str (Str.ofString "__package__") 167) Value.none), (DictEntry.mk (PyData.keyHash P (Str.ofString "__loader__")) (Value.str (Str.ofString "__loader__") 168) (Value.builtin "__main__.__loader__#opaque")), (DictEntry.mk (PyData.keyHash P (Str.ofString "__spec__")) (Value.str (Str.ofString "__spec__") 169) Value.none), (DictEntry.mk (PyData.keyHash P (Str.ofString "__annotations__")) (Value.str (Str.ofString "__annotations__") 170) (Value.ref 6)), (DictEntry.mk (PyData.keyHash P (Str.ofString "__builtins__")) (Value.str (Str.ofString "__builtins__") 171) (Value.ref 4)), (DictEntry.mk (PyData.keyHash P (Str.ofString "__file__")) (Value.str (Str.ofString "__file__") 173) (Value.str (Str.ofString "/claim/cut.py") 172)), (DictEntry.mk (PyData.keyHash P (Str.ofString "__cached__")) (Value.str (Str.ofString "__cached__") 174) Value.none), (DictEntry.mk (PyData.keyHash P (Str.ofString "_wall")) (Value.str (Str.ofString "_wall") 193) (Value.ref 21)), (DictEntry.mk (PyData.keyHash P (Str.ofString "LedgerError")) (Value.str (Str.ofString "LedgerError") 235) (Value.ref 47)), (DictEntry.mk (PyData.keyHash P (Str.ofString "CheckFault")) (Value.str (Str.ofString "CheckFault") 251) (Value.ref 60)), (DictEntry.mk (PyData.keyHash P (Str.ofString "FILLER")) (Value.str (Str.ofString "FILLER") 255) (Value.str (Str.ofString "FILLER") 254)), (DictEntry.mk (PyData.keyHash P (Str.ofString "Data")) (Value.str (Str.ofString "Data") 295) (Value.ref 86)), (DictEntry.mk (PyData.keyHash P (Str.ofString "records")) (Value.str (Str.ofString "records") 304) (Value.ref 97)), (DictEntry.mk (PyData.keyHash P (Str.ofString "items_under")) (Value.str (Str.ofString "items_under") 314) (Value.ref 104)), (DictEntry.mk (PyData.keyHash P (Str.ofString "all_items")) (Value.str (Str.ofString "all_items") 323) (Value.ref 111)), (DictEntry.mk (PyData.keyHash P (Str.ofString "items_around")) (Value.str (Str.ofString "items_around") 332) (Value.ref 118)), (DictEntry.mk (PyData.keyHash P (Str.ofString "root_of")) (Value.str (Str.ofString "root_of") 340) (Value.ref 125)), (DictEntry.mk (PyData.keyHash P (Str.ofString "names_around")) (Value.str (Str.ofString "names_around") 346) (Value.ref 130)), (DictEntry.mk (PyData.keyHash P (Str.ofString "tables_around")) (Value.str (Str.ofString "tables_around") 352) (Value.ref 135)), (DictEntry.mk (PyData.keyHash P (Str.ofString "file_of")) (Value.str (Str.ofString "file_of") 360) (Value.ref 140)), (DictEntry.mk (PyData.keyHash P (Str.ofString "leads_through")) (Value.str (Str.ofString "leads_through") 370) (Value.ref 147)), (DictEntry.mk (PyData.keyHash P (Str.ofString "only_one")) (Value.str (Str.ofString "only_one") 378) (Value.ref 154)), (DictEntry.mk (PyData.keyHash P (Str.ofString "find_item")) (Value.str (Str.ofString "find_item") 384) (Value.ref 159)), (DictEntry.mk (PyData.keyHash P (Str.ofString "find_named")) (Value.str (Str.ofString "find_named") 397) (Value.ref 166)), (DictEntry.mk (PyData.keyHash P (Str.ofString "Shape")) (Value.str (Str.ofString "Shape") 461) (Value.ref 198)), (DictEntry.mk (PyData.keyHash P (Str.ofString "text_shape")) (Value.str (Str.ofString "text_shape") 468) (Value.ref 209)), (DictEntry.mk (PyData.keyHash P (Str.ofString "numbered_shape")) (Value.str (Str.ofString "numbered_shape") 481) (Value.ref 216)), (DictEntry.mk (PyData.keyHash P (Str.ofString "figure_count")) (Value.str (Str.ofString "figure_count") 490) (Value.ref 223)), (DictEntry.mk (PyData.keyHash P (Str.ofString "number_shape")) (Value.str (Str.ofString "number_shape") 500) (Value.ref 230)), (DictEntry.mk (PyData.keyHash P (Str.ofString "ARITHMETIC")) (Value.str (Str.ofString "ARITHMETIC") 504) (Value.str (Str.ofString "+ - * / **") 503)), (DictEntry.mk (PyData.keyHash P (Str.ofString "INDEX_NAME")) (Value.str (Str.ofString "INDEX_NAME") 506) (Value.str (Str.ofString "index-name") 505)), (DictEntry.mk (PyData.keyHash P (Str.ofString "item_of")) (Value.str (Str.ofString "item_of") 514) (Value.ref 237)), (DictEntry.mk (PyData.keyHash P (Str.ofString "is_index_name")) (Value.str (Str.ofString "is_index_name") 522) (Value.ref 244)), (DictEntry.mk (PyData.keyHash P (Str.ofString "part_faults")) (Value.str (Str.ofString "part_faults") 532) (Value.ref 251)), (DictEntry.mk (PyData.keyHash P (Str.ofString "item_faults")) (Value.str (Str.ofString "item_faults") 543) (Value.ref 258)), (DictEntry.mk (PyData.keyHash P (Str.ofString "ref_faults")) (Value.str (Str.ofString "ref_faults") 552) (Value.ref 265)), (DictEntry.mk (PyData.keyHash P (Str.ofString "operand_faults")) (Value.str (Str.ofString "operand_faults") 560) (Value.ref 272)), (DictEntry.mk (PyData.keyHash P (Str.ofString "thing_faults")) (Value.str (Str.ofString "thing_faults") 568) (Value.ref 279)), (DictEntry.mk (PyData.keyHash P (Str.ofString "operand_shape")) (Value.str (Str.ofString "operand_shape") 577) (Value.ref 286)), (DictEntry.mk (PyData.keyHash P (Str.ofString "category_of")) (Value.str (Str.ofString "category_of") 586) (Value.ref 293)), (DictEntry.mk (PyData.keyHash P (Str.ofString "is_number_operand")) (Value.str (Str.ofString "is_number_operand") 594) (Value.ref 300)), (DictEntry.mk (PyData.keyHash P (Str.ofString "number_faults")) (Value.str (Str.ofString "number_faults") 606) (Value.ref 307)), (DictEntry.mk (PyData.keyHash P (Str.ofString "name_of")) (Value.str (Str.ofString "name_of") 613) (Value.ref 314)), (DictEntry.mk (PyData.keyHash P (Str.ofString "is_worth")) (Value.str (Str.ofString "is_worth") 620) (Value.ref 321)), (DictEntry.mk (PyData.keyHash P (Str.ofString "is_number_side")) (Value.str (Str.ofString "is_number_side") 628) (Value.ref 328)), (DictEntry.mk (PyData.keyHash P (Str.ofString "side_faults")) (Value.str (Str.ofString "side_faults") 638) (Value.ref 335)), (DictEntry.mk (PyData.keyHash P (Str.ofString "class_faults")) (Value.str (Str.ofString "class_faults") 646) (Value.ref 342)), (DictEntry.mk (PyData.keyHash P (Str.ofString "named_faults")) (Value.str (Str.ofString "named_faults") 657) (Value.ref 349)), (DictEntry.mk (PyData.keyHash P (Str.ofString "simple_faults")) (Value.str (Str.ofString "simple_faults") 665) (Value.ref 356)), (DictEntry.mk (PyData.keyHash P (Str.ofString "cond_faults")) (Value.str (Str.ofString "cond_faults") 676) (Value.ref 363)), (DictEntry.mk (PyData.keyHash P (Str.ofString "_law_many")) (Value.str (Str.ofString "_law_many") 680) (Value.int 520 679)), (DictEntry.mk (PyData.keyHash P (Str.ofString "_law_pen")) (Value.str (Str.ofString "_law_pen") 689) (Value.ref 370)), (DictEntry.mk (PyData.keyHash P (Str.ofString "_law_draw")) (Value.str (Str.ofString "_law_draw") 698) (Value.ref 377)), (DictEntry.mk (PyData.keyHash P (Str.ofString "_law_leaf")) (Value.str (Str.ofString "_law_leaf") 708) (Value.ref 384)), (DictEntry.mk (PyData.keyHash P (Str.ofString "law")) (Value.str (Str.ofString "law") 714) (Value.ref 389))]) 57) (Array.mk []))
noncomputable def ob_12_v4 (_ : Params) : Obj := (Obj.mk Value.none none (Data.fields (Array.mk [(Value.int 1 0), (Value.int 0 0), (Value.ref 20), (Value.int 5 0), (Value.int 0 0), (Value.ref 27), (Value.int 14 0), (Value.int 0 0), (Value.ref 56), (Value.int 18 0), (Value.int 0 0), (Value.ref 68), (Value.int 30 0), (Value.int 0 0), (Value.ref 96), (Value.int 35 0), (Value.int 0 0), (Value.ref 103), (Value.int 43 0), (Value.int 0 0), (Value.ref 110), (Value.int 48 0), (Value.int 0 0), (Value.ref 117), (Value.int 55 0), (Value.int 0 0), (Value.ref 124), (Value.int 58 0), (Value.int 0 0), (Value.ref 129), (Value.int 60 0), (Value.int 0 0), (Value.ref 134), (Value.int 64 0), (Value.int 0 0), (Value.ref 139), (Value.int 70 0), (Value.int 0 0), (Value.ref 146), (Value.int 76 0), (Value.int 0 0), (Value.ref 153), (Value.int 82 0), (Value.int 0 0), (Value.ref 158), (Value.int 85 0), (Value.int 0 0), (Value.ref 165), (Value.int 94 0), (Value.int 0 0), (Value.ref 172), (Value.int 118 0), (Value.int 0 0), (Value.ref 208), (Value.int 120 0), (Value.int 0 0), (Value.ref 215), (Value.int 126 0), (Value.int 0 0), (Value.ref 222), (Value.int 132 0), (Value.int 0 0), (Value.ref 229), (Value.int 139 0), (Value.int 0 0), (Value.ref 236), (Value.int 144 0), (Value.int 0 0), (Value.ref 243), (Value.int 146 0), (Value.int 0 0), (Value.ref 250), (Value.int 154 0), (Value.int 0 0), (Value.ref 257), (Value.int 163 0), (Value.int 0 0), (Value.ref 264), (Value.int 168 0), (Value.int 0 0), (Value.ref 271), (Value.int 170 0), (Value.int 0 0), (Value.ref 278), (Value.int 172 0), (Value.int 0 0), (Value.ref 285), (Value.int 181 0), (Value.int 0 0), (Value.ref 292), (Value.int 190 0), (Value.int 0 0), (Value.ref 299), (Value.int 192 0), (Value.int 0 0), (Value.ref 306), (Value.int 204 0), (Value.int 0 0), (Value.ref 313), (Value.int 208 0), (Value.int 0 0), (Value.ref 320), (Value.int 210 0), (Value.int 0 0), (Value.ref 327), (Value.int 212 0), (Value.int 0 0), (Value.ref 334), (Value.int 217 0), (Value.int 0 0), (Value.ref 341), (Value.int 221 0), (Value.int 0 0), (Value.ref 348), (Value.int 232 0), (Value.int 0 0), (Value.ref 355), (Value.int 238 0), (Value.int 0 0), (Value.ref 362), (Value.int 251 0), (Value.int 0 0), (Value.ref 369), (Value.int 256 0), (Value.int 0 0), (Value.ref 376), (Value.int 263 0), (Value.int 0 0), (Value.ref 383), (Value.int 268 0), (Value.int 0 0), (Value.ref 388)])) (Array.mk []))
noncomputable def ob_336_v4 (_ : Params) : Obj := (Obj.mk (Value.type "tuple") none (Data.seq (Array.mk []) 0) (Array.mk []))
noncomputable def ob_337_v4 (_ : Params) : Obj := (Obj.mk Value.none none (Data.fields (Array.mk [])) (Array.mk []))
noncomputable def ob_338_v4 (_ : Params) : Obj := (Obj.mk (Value.type "tuple") none (Data.seq (Array.mk [(Value.str (Str.ofString "data") 642), (Value.str (Str.ofString "operand") 643)]) 0) (Array.mk []))
noncomputable def ob_339_v4 (_ : Params) : Obj := (Obj.mk (Value.type "tuple") none (Data.seq (Array.mk []) 0) (Array.mk []))
noncomputable def ob_340_v4 (_ : Params) : Obj := (Obj.mk Value.none none (Data.func (FuncData.mk (Str.ofString "class_faults") (Str.ofString "class_faults") (fP (ts 44)) (fB (ts 44)) (fS (ts 44)) 0 [] Value.none Value.none Value.none Value.none none Value.none Value.none 0)) (Array.mk []))
noncomputable def ob_341_v4 (_ : Params) : Obj := (Obj.mk (Value.type "code") none (Data.fields (Array.mk [(Value.str (Str.ofString "class_faults") 639), (Value.str (Str.ofString "class_faults") 640), (Value.str (Str.ofString "/claim/cut.py") 641), (Value.int 217 0), (Value.int 2 0), (Value.int 0 0), (Value.int 0 0), (Value.int 3 0), (Value.ref 336), (Value.bool true), (Value.int 181 0), (Value.ref 337), Value.none, (Value.ref 338), (Value.ref 339), (Value.ref 340), (Value.int 644 0), (Value.int 217 0), (Value.str (Str.ofString "/claim/cut.py") 645)])) (Array.mk []))
noncomputable def ob_342_v4 (_ : Params) : Obj := (Obj.mk (Value.type "function") none (Data.func (FuncData.mk (Str.ofString "class_faults") (Str.ofString "class_faults") (fP (ts 44)) (fB (ts 44)) (fS (ts 44)) 3 [] Value.none Value.none Value.none (Value.str (Str.ofString "ledgerspeak.needs") 501) none (Value.ref 341) Value.none 0)) (Array.mk []))
noncomputable def ob_343_v4 (_ : Params) : Obj := (Obj.mk (Value.type "tuple") none (Data.seq (Array.mk []) 0) (Array.mk []))
noncomputable def ob_344_v4 (_ : Params) : Obj := (Obj.mk Value.none none (Data.fields (Array.mk [])) (Array.mk []))
noncomputable def ob_345_v4 (_ : Params) : Obj := (Obj.mk (Value.type "tuple") none (Data.seq (Array.mk [(Value.str (Str.ofString "data") 650), (Value.str (Str.ofString "ref") 651), (Value.str (Str.ofString "found") 652), (Value.str (Str.ofString "item") 653), (Value.str (Str.ofString "fault") 654)]) 0) (Array.mk []))
noncomputable def ob_346_v4 (_ : Params) : Obj := (Obj.mk (Value.type "tuple") none (Data.seq (Array.mk []) 0) (Array.mk []))
noncomputable def ob_347_v4 (_ : Params) : Obj := (Obj.mk Value.none none (Data.func (FuncData.mk (Str.ofString "named_faults") (Str.ofString "named_faults") (fP (ts 45)) (fB (ts 45)) (fS (ts 45)) 0 [] Value.none Value.none Value.none Value.none none Value.none Value.none 0)) (Array.mk []))
noncomputable def ob_348_v4 (_ : Params) : Obj := (Obj.mk (Value.type "code") none (Data.fields (Array.mk [(Value.str (Str.ofString "named_faults") 647), (Value.str (Str.ofString "named_faults") 648), (Value.str (Str.ofString "/claim/cut.py") 649), (Value.int 221 0), (Value.int 2 0), (Value.int 0 0), (Value.int 0 0), (Value.int 3 0), (Value.ref 343), (Value.bool true), (Value.int 181 0), (Value.ref 344), Value.none, (Value.ref 345), (Value.ref 346), (Value.ref 347), (Value.int 655 0), (Value.int 221 0), (Value.str (Str.ofString "/claim/cut.py") 656)])) (Array.mk []))
noncomputable def ob_349_v4 (_ : Params) : Obj := (Obj.mk (Value.type "function") none (Data.func (FuncData.mk (Str.ofString "named_faults") (Str.ofString "named_faults") (fP (ts 45)) (fB (ts 45)) (fS (ts 45)) 3 [] Value.none Value.none Value.none (Value.str (Str.ofString "ledgerspeak.needs") 501) none (Value.ref 348) Value.none 0)) (Array.mk []))
noncomputable def ob_350_v4 (_ : Params) : Obj := (Obj.mk (Value.type "tuple") none (Data.seq (Array.mk []) 0) (Array.mk []))
noncomputable def ob_351_v4 (_ : Params) : Obj := (Obj.mk Value.none none (Data.fields (Array.mk [])) (Array.mk []))
noncomputable def ob_352_v4 (_ : Params) : Obj := (Obj.mk (Value.type "tuple") none (Data.seq (Array.mk [(Value.str (Str.ofString "data") 661), (Value.str (Str.ofString "cond") 662)]) 0) (Array.mk []))
noncomputable def ob_353_v4 (_ : Params) : Obj := (Obj.mk (Value.type "tuple") none (Data.seq (Array.mk []) 0) (Array.mk []))
noncomputable def ob_354_v4 (_ : Params) : Obj := (Obj.mk Value.none none (Data.func (FuncData.mk (Str.ofString "simple_faults") (Str.ofString "simple_faults") (fP (ts 46)) (fB (ts 46)) (fS (ts 46)) 0 [] Value.none Value.none Value.none Value.none none Value.none Value.none 0)) (Array.mk []))
noncomputable def ob_355_v4 (_ : Params) : Obj := (Obj.mk (Value.type "code") none (Data.fields (Array.mk [(Value.str (Str.ofString "simple_faults") 658), (Value.str (Str.ofString "simple_faults") 659), (Value.str (Str.ofString "/claim/cut.py") 660), (Value.int 232 0), (Value.int 2 0), (Value.int 0 0), (Value.int 0 0), (Value.int 3 0), (Value.ref 350), (Value.bool true), (Value.int 181 0), (Value.ref 351), Value.none, (Value.ref 352), (Value.ref 353), (Value.ref 354), (Value.int 663 0), (Value.int 232 0), (Value.str (Str.ofString "/claim/cut.py") 664)])) (Array.mk []))
noncomputable def ob_356_v4 (_ : Params) : Obj := (Obj.mk (Value.type "function") none (Data.func (FuncData.mk (Str.ofString "simple_faults") (Str.ofString "simple_faults") (fP (ts 46)) (fB (ts 46)) (fS (ts 46)) 3 [] Value.none Value.none Value.none (Value.str (Str.ofString "ledgerspeak.needs") 501) none (Value.ref 355) Value.none 0)) (Array.mk []))
noncomputable def ob_357_v4 (_ : Params) : Obj := (Obj.mk (Value.type "tuple") none (Data.seq (Array.mk []) 0) (Array.mk []))
noncomputable def ob_358_v4 (_ : Params) : Obj := (Obj.mk Value.none none (Data.fields (Array.mk [])) (Array.mk []))
noncomputable def ob_359_v4 (_ : Params) : Obj := (Obj.mk (Value.type "tuple") none (Data.seq (Array.mk [(Value.str (Str.ofString "data") 669), (Value.str (Str.ofString "cond") 670), (Value.str (Str.ofString "found") 671), (Value.str (Str.ofString "line") 672), (Value.str (Str.ofString "here") 673)]) 0) (Array.mk []))
noncomputable def ob_360_v4 (_ : Params) : Obj := (Obj.mk (Value.type "tuple") none (Data.seq (Array.mk []) 0) (Array.mk []))
noncomputable def ob_361_v4 (_ : Params) : Obj := (Obj.mk Value.none none (Data.func (FuncData.mk (Str.ofString "cond_faults") (Str.ofString "cond_faults") (fP (ts 47)) (fB (ts 47)) (fS (ts 47)) 0 [] Value.none Value.none Value.none Value.none none Value.none Value.none 0)) (Array.mk []))
noncomputable def ob_362_v4 (_ : Params) : Obj := (Obj.mk (Value.type "code") none (Data.fields (Array.mk [(Value.str (Str.ofString "cond_faults") 666), (Value.str (Str.ofString "cond_faults") 667), (Value.str (Str.ofString "/claim/cut.py") 668), (Value.int 238 0), (Value.int 2 0), (Value.int 0 0), (Value.int 0 0), (Value.int 3 0), (Value.ref 357), (Value.bool true), (Value.int 181 0), (Value.ref 358), Value.none, (Value.ref 359), (Value.ref 360), (Value.ref 361), (Value.int 674 0), (Value.int 238 0), (Value.str (Str.ofString "/claim/cut.py") 675)])) (Array.mk []))
noncomputable def ob_363_v4 (_ : Params) : Obj := (Obj.mk (Value.type "function") none (Data.func (FuncData.mk (Str.ofString "cond_faults") (Str.ofString "cond_faults") (fP (ts 47)) (fB (ts 47)) (fS (ts 47)) 3 [] Value.none Value.none Value.none (Value.str (Str.ofString "ledgerspeak.needs") 501) none (Value.ref 362) Value.none 0)) (Array.mk []))
noncomputable def ob_364_v4 (_ : Params) : Obj := (Obj.mk (Value.type "tuple") none (Data.seq (Array.mk []) 0) (Array.mk []))
noncomputable def ob_365_v4 (_ : Params) : Obj := (Obj.mk Value.none none (Data.fields (Array.mk [])) (Array.mk []))
noncomputable def ob_366_v4 (_ : Params) : Obj := (Obj.mk (Value.type "tuple") none (Data.seq (Array.mk [(Value.str (Str.ofString "script") 684), (Value.str (Str.ofString "number") 685), (Value.str (Str.ofString "cell") 686)]) 0) (Array.mk []))
noncomputable def ob_367_v4 (_ : Params) : Obj := (Obj.mk (Value.type "tuple") none (Data.seq (Array.mk []) 0) (Array.mk []))
noncomputable def ob_368_v4 (_ : Params) : Obj := (Obj.mk Value.none none (Data.func (FuncData.mk (Str.ofString "_law_pen") (Str.ofString "_law_pen") (fP (ts 50)) (fB (ts 50)) (fS (ts 50)) 0 [] Value.none Value.none Value.none Value.none none Value.none Value.none 0)) (Array.mk []))
noncomputable def ob_369_v4 (_ : Params) : Obj := (Obj.mk (Value.type "code") none (Data.fields (Array.mk [(Value.str (Str.ofString "_law_pen") 681), (Value.str (Str.ofString "_law_pen") 682), (Value.str (Str.ofString "/claim/cut.py") 683), (Value.int 251 0), (Value.int 1 0), (Value.int 0 0), (Value.int 0 0), (Value.int 3 0), (Value.ref 364), (Value.bool true), (Value.int 181 0), (Value.ref 365), Value.none, (Value.ref 366), (Value.ref 367), (Value.ref 368), (Value.int 687 0), (Value.int 251 0), (Value.str (Str.ofString "/claim/cut.py") 688)])) (Array.mk []))
noncomputable def ob_370_v4 (_ : Params) : Obj := (Obj.mk (Value.type "function") none (Data.func (FuncData.mk (Str.ofString "_law_pen") (Str.ofString "_law_pen") (fP (ts 50)) (fB (ts 50)) (fS (ts 50)) 3 [] Value.none Value.none Value.none (Value.str (Str.ofString "law_pq0630_01") 677) none (Value.ref 369) Value.none 0)) (Array.mk []))
noncomputable def ob_371_v4 (_ : Params) : Obj := (Obj.mk (Value.type "tuple") none (Data.seq (Array.mk []) 0) (Array.mk []))
noncomputable def ob_372_v4 (_ : Params) : Obj := (Obj.mk Value.none none (Data.fields (Array.mk [])) (Array.mk []))
noncomputable def ob_373_v4 (_ : Params) : Obj := (Obj.mk (Value.type "tuple") none (Data.seq (Array.mk [(Value.str (Str.ofString "pen") 693), (Value.str (Str.ofString "many") 694), (Value.str (Str.ofString "digit") 695)]) 0) (Array.mk []))
noncomputable def ob_374_v4 (_ : Params) : Obj := (Obj.mk (Value.type "tuple") none (Data.seq (Array.mk []) 0) (Array.mk []))
noncomputable def ob_375_v4 (_ : Params) : Obj := (Obj.mk Value.none none (Data.func (FuncData.mk (Str.ofString "_law_draw") (Str.ofString "_law_draw") (fP (ts 51)) (fB (ts 51)) (fS (ts 51)) 0 [] Value.none Value.none Value.none Value.none none Value.none Value.none 0)) (Array.mk []))
noncomputable def ob_376_v4 (_ : Params) : Obj := (Obj.mk (Value.type "code") none (Data.fields (Array.mk [(Value.str (Str.ofString "_law_draw") 690), (Value.str (Str.ofString "_law_draw") 691), (Value.str (Str.ofString "/claim/cut.py") 692), (Value.int 256 0), (Value.int 2 0), (Value.int 0 0), (Value.int 0 0), (Value.int 3 0), (Value.ref 371), (Value.bool true), (Value.int 181 0), (Value.ref 372), Value.none, (Value.ref 373), (Value.ref 374), (Value.ref 375), (Value.int 696 0), (Value.int 256 0), (Value.str (Str.ofString "/claim/cut.py") 697)])) (Array.mk []))
noncomputable def ob_377_v4 (_ : Params) : Obj := (Obj.mk (Value.type "function") none (Data.func (FuncData.mk (Str.ofString "_law_draw") (Str.ofString "_law_draw") (fP (ts 51)) (fB (ts 51)) (fS (ts 51)) 3 [] Value.none Value.none Value.none (Value.str (Str.ofString "law_pq0630_01") 677) none (Value.ref 376) Value.none 0)) (Array.mk []))
noncomputable def ob_378_v4 (_ : Params) : Obj := (Obj.mk (Value.type "tuple") none (Data.seq (Array.mk []) 0) (Array.mk []))
noncomputable def ob_379_v4 (_ : Params) : Obj := (Obj.mk Value.none none (Data.fields (Array.mk [])) (Array.mk []))
noncomputable def ob_380_v4 (_ : Params) : Obj := (Obj.mk (Value.type "tuple") none (Data.seq (Array.mk [(Value.str (Str.ofString "at") 702), (Value.str (Str.ofString "spots") 703), (Value.str (Str.ofString "is_sum") 704), (Value.str (Str.ofString "name") 705)]) 0) (Array.mk []))
noncomputable def ob_381_v4 (_ : Params) : Obj := (Obj.mk (Value.type "tuple") none (Data.seq (Array.mk []) 0) (Array.mk []))
noncomputable def ob_382_v4 (_ : Params) : Obj := (Obj.mk Value.none none (Data.func (FuncData.mk (Str.ofString "_law_leaf") (Str.ofString "_law_leaf") (fP (ts 52)) (fB (ts 52)) (fS (ts 52)) 0 [] Value.none Value.none Value.none Value.none none Value.none Value.none 0)) (Array.mk []))
noncomputable def ob_383_v4 (_ : Params) : Obj := (Obj.mk (Value.type "code") none (Data.fields (Array.mk [(Value.str (Str.ofString "_law_leaf") 699), (Value.str (Str.ofString "_law_leaf") 700), (Value.str (Str.ofString "/claim/cut.py") 701), (Value.int 263 0), (Value.int 3 0), (Value.int 0 0), (Value.int 0 0), (Value.int 3 0), (Value.ref 378), (Value.bool true), (Value.int 181 0), (Value.ref 379), Value.none, (Value.ref 380), (Value.ref 381), (Value.ref 382), (Value.int 706 0), (Value.int 263 0), (Value.str (Str.ofString "/claim/cut.py") 707)])) (Array.mk []))
noncomputable def ob_384_v4 (_ : Params) : Obj := (Obj.mk (Value.type "function") none (Data.func (FuncData.mk (Str.ofString "_law_leaf") (Str.ofString "_law_leaf") (fP (ts 52)) (fB (ts 52)) (fS (ts 52)) 3 [] Value.none Value.none Value.none (Value.str (Str.ofString "law_pq0630_01") 677) none (Value.ref 383) Value.none 0)) (Array.mk []))
noncomputable def ob_385_v4 (_ : Params) : Obj := (Obj.mk (Value.type "tuple") none (Data.seq (Array.mk []) 0) (Array.mk []))
noncomputable def ob_386_v4 (_ : Params) : Obj := (Obj.mk Value.none none (Data.fields (Array.mk [])) (Array.mk []))
noncomputable def ob_387_v4 (_ : Params) : Obj := (Obj.mk Value.none none (Data.func (FuncData.mk (Str.ofString "law") (Str.ofString "law") (fP (ts 53)) (fB (ts 53)) (fS (ts 53)) 0 [] Value.none Value.none Value.none Value.none none Value.none Value.none 0)) (Array.mk []))
noncomputable def ob_388_v4 (_ : Params) : Obj := (Obj.mk (Value.type "code") none (Data.fields (Array.mk [(Value.str (Str.ofString "law") 709), (Value.str (Str.ofString "law") 710), (Value.str (Str.ofString "/claim/cut.py") 711), (Value.int 268 0), (Value.int 1 0), (Value.int 0 0), (Value.int 0 0), (Value.int 3 0), (Value.ref 385), (Value.bool true), (Value.int 181 0), (Value.ref 386), Value.none, Value.none, Value.none, (Value.ref 387), (Value.int 712 0), (Value.int 268 0), (Value.str (Str.ofString "/claim/cut.py") 713)])) (Array.mk []))
noncomputable def ob_389_v4 (_ : Params) : Obj := (Obj.mk (Value.type "function") none (Data.func (FuncData.mk (Str.ofString "law") (Str.ofString "law") (fP (ts 53)) (fB (ts 53)) (fS (ts 53)) 3 [] Value.none Value.none Value.none (Value.str (Str.ofString "law_pq0630_01") 677) none (Value.ref 388) Value.none 0)) (Array.mk []))
noncomputable def tree_v0 (P : Params) : BT := (.node (boot_o_0 P) (.node (boot_o_1 P) (.node (boot_o_3 P) (.node (boot_o_7 P) .nil .nil) (.node (ob_11_v0 P) .nil .nil)) (.node (boot_o_5 P) (.node (boot_o_9 P) .nil .nil) (.node (ob_13_v0 P) .nil .nil))) (.node (boot_o_2 P) (.node (boot_o_4 P) (.node (boot_o_8 P) .nil .nil) (.node (ob_12_v0 P) .nil .nil)) (.node (boot_o_6 P) (.node (boot_o_10 P) .nil .nil) (.node (ob_14_v0 P) .nil .nil))))
noncomputable abbrev st_v0 (w : World) (os : OsState) : SharedT := ⟨tree_v0 w.params, 15, (boot_heap w.params).life, Array.mk [], boot_drawn, 187, os⟩
noncomputable def tree_v1 (P : Params) : BT := (.node (boot_o_0 P) (.node (boot_o_1 P) (.node (ob_3_v1 P) (.node (boot_o_7 P) (.node (ob_15_v1 P) (.node (ob_31_v1 P) (.node (ob_63_v1 P) .nil .nil) .nil) (.node (ob_47_v1 P) (.node (ob_79_v1 P) .nil .nil) .nil)) (.node (ob_23_v1 P) (.node (ob_39_v1 P) (.node (ob_71_v1 P) .nil .nil) .nil) (.node (ob_55_v1 P) (.node (ob_87_v1 P) .nil .nil) .nil))) (.node (ob_11_v0 P) (.node (ob_19_v1 P) (.node (ob_35_v1 P) (.node (ob_67_v1 P) .nil .nil) .nil) (.node (ob_51_v1 P) (.node (ob_83_v1 P) .nil .nil) .nil)) (.node (ob_27_v1 P) (.node (ob_43_v1 P) (.node (ob_75_v1 P) .nil .nil) .nil) (.node (ob_59_v1 P) .nil .nil)))) (.node (boot_o_5 P) (.node (boot_o_9 P) (.node (ob_17_v1 P) (.node (ob_33_v1 P) (.node (ob_65_v1 P) .nil .nil) .nil) (.node (ob_49_v1 P) (.node (ob_81_v1 P) .nil .nil) .nil)) (.node (ob_25_v1 P) (.node (ob_41_v1 P) (.node (ob_73_v1 P) .nil .nil) .nil) (.node (ob_57_v1 P) (.node (ob_89_v1 P) .nil .nil) .nil))) (.node (ob_13_v0 P) (.node (ob_21_v1 P) (.node (ob_37_v1 P) (.node (ob_69_v1 P) .nil .nil) .nil) (.node (ob_53_v1 P) (.node (ob_85_v1 P) .nil .nil) .nil)) (.node (ob_29_v1 P) (.node (ob_45_v1 P) (.node (ob_77_v1 P) .nil .nil) .nil) (.node (ob_61_v1 P) .nil .nil))))) (.node (ob_2_v1 P) (.node (boot_o_4 P) (.node (boot_o_8 P) (.node (ob_16_v1 P) (.node (ob_32_v1 P) (.node (ob_64_v1 P) .nil .nil) .nil) (.node (ob_48_v1 P) (.node (ob_80_v1 P) .nil .nil) .nil)) (.node (ob_24_v1 P) (.node (ob_40_v1 P) (.node (ob_72_v1 P) .nil .nil) .nil) (.node (ob_56_v1 P) (.node (ob_88_v1 P) .nil .nil) .nil))) (.node (ob_12_v1 P) (.node (ob_20_v1 P) (.node (ob_36_v1 P) (.node (ob_68_v1 P) .nil .nil) .nil) (.node (ob_52_v1 P) (.node (ob_84_v1 P) .nil .nil) .nil)) (.node (ob_28_v1 P) (.node (ob_44_v1 P) (.node (ob_76_v1 P) .nil .nil) .nil) (.node (ob_60_v1 P) .nil .nil)))) (.node (boot_o_6 P) (.node (boot_o_10 P) (.node (ob_18_v1 P) (.node (ob_34_v1 P) (.node (ob_66_v1 P) .nil .nil) .nil) (.node (ob_50_v1 P) (.node (ob_82_v1 P) .nil .nil) .nil)) (.node (ob_26_v1 P) (.node (ob_42_v1 P) (.node (ob_74_v1 P) .nil .nil) .nil) (.node (ob_58_v1 P) (.node (ob_90_v1 P) .nil .nil) .nil))) (.node (ob_14_v0 P) (.node (ob_22_v1 P) (.node (ob_38_v1 P) (.node (ob_70_v1 P) .nil .nil) .nil) (.node (ob_54_v1 P) (.node (ob_86_v1 P) .nil .nil) .nil)) (.node (ob_30_v1 P) (.node (ob_46_v1 P) (.node (ob_78_v1 P) .nil .nil) .nil) (.node (ob_62_v1 P) .nil .nil))))))
noncomputable abbrev st_v1 (w : World) (os : OsState) : SharedT := ⟨tree_v1 w.params, 91, (boot_heap w.params).life, Array.mk [], boot_drawn, 296, os⟩
noncomputable def tree_v2 (P : Params) : BT := (.node (boot_o_0 P) (.node (boot_o_1 P) (.node (ob_3_v2 P) (.node (boot_o_7 P) (.node (ob_15_v1 P) (.node (ob_31_v1 P) (.node (ob_63_v1 P) (.node (ob_127_v2 P) .nil .nil) (.node (ob_191_v2 P) .nil .nil)) (.node (ob_95_v2 P) (.node (ob_159_v2 P) .nil .nil) .nil)) (.node (ob_47_v1 P) (.node (ob_79_v1 P) (.node (ob_143_v2 P) .nil .nil) .nil) (.node (ob_111_v2 P) (.node (ob_175_v2 P) .nil .nil) .nil))) (.node (ob_23_v1 P) (.node (ob_39_v1 P) (.node (ob_71_v1 P) (.node (ob_135_v2 P) .nil .nil) (.node (ob_199_v2 P) .nil .nil)) (.node (ob_103_v2 P) (.node (ob_167_v2 P) .nil .nil) .nil)) (.node (ob_55_v1 P) (.node (ob_87_v1 P) (.node (ob_151_v2 P) .nil .nil) .nil) (.node (ob_119_v2 P) (.node (ob_183_v2 P) .nil .nil) .nil)))) (.node (ob_11_v0 P) (.node (ob_19_v1 P) (.node (ob_35_v1 P) (.node (ob_67_v1 P) (.node (ob_131_v2 P) .nil .nil) (.node (ob_195_v2 P) .nil .nil)) (.node (ob_99_v2 P) (.node (ob_163_v2 P) .nil .nil) .nil)) (.node (ob_51_v1 P) (.node (ob_83_v1 P) (.node (ob_147_v2 P) .nil .nil) .nil) (.node (ob_115_v2 P) (.node (ob_179_v2 P) .nil .nil) .nil))) (.node (ob_27_v1 P) (.node (ob_43_v1 P) (.node (ob_75_v1 P) (.node (ob_139_v2 P) .nil .nil) .nil) (.node (ob_107_v2 P) (.node (ob_171_v2 P) .nil .nil) .nil)) (.node (ob_59_v1 P) (.node (ob_91_v2 P) (.node (ob_155_v2 P) .nil .nil) .nil) (.node (ob_123_v2 P) (.node (ob_187_v2 P) .nil .nil) .nil))))) (.node (boot_o_5 P) (.node (boot_o_9 P) (.node (ob_17_v1 P) (.node (ob_33_v1 P) (.node (ob_65_v1 P) (.node (ob_129_v2 P) .nil .nil) (.node (ob_193_v2 P) .nil .nil)) (.node (ob_97_v2 P) (.node (ob_161_v2 P) .nil .nil) .nil)) (.node (ob_49_v1 P) (.node (ob_81_v1 P) (.node (ob_145_v2 P) .nil .nil) .nil) (.node (ob_113_v2 P) (.node (ob_177_v2 P) .nil .nil) .nil))) (.node (ob_25_v1 P) (.node (ob_41_v1 P) (.node (ob_73_v1 P) (.node (ob_137_v2 P) .nil .nil) (.node (ob_201_v2 P) .nil .nil)) (.node (ob_105_v2 P) (.node (ob_169_v2 P) .nil .nil) .nil)) (.node (ob_57_v1 P) (.node (ob_89_v1 P) (.node (ob_153_v2 P) .nil .nil) .nil) (.node (ob_121_v2 P) (.node (ob_185_v2 P) .nil .nil) .nil)))) (.node (ob_13_v0 P) (.node (ob_21_v1 P) (.node (ob_37_v1 P) (.node (ob_69_v1 P) (.node (ob_133_v2 P) .nil .nil) (.node (ob_197_v2 P) .nil .nil)) (.node (ob_101_v2 P) (.node (ob_165_v2 P) .nil .nil) .nil)) (.node (ob_53_v1 P) (.node (ob_85_v1 P) (.node (ob_149_v2 P) .nil .nil) .nil) (.node (ob_117_v2 P) (.node (ob_181_v2 P) .nil .nil) .nil))) (.node (ob_29_v1 P) (.node (ob_45_v1 P) (.node (ob_77_v1 P) (.node (ob_141_v2 P) .nil .nil) .nil) (.node (ob_109_v2 P) (.node (ob_173_v2 P) .nil .nil) .nil)) (.node (ob_61_v1 P) (.node (ob_93_v2 P) (.node (ob_157_v2 P) .nil .nil) .nil) (.node (ob_125_v2 P) (.node (ob_189_v2 P) .nil .nil) .nil)))))) (.node (ob_2_v1 P) (.node (boot_o_4 P) (.node (boot_o_8 P) (.node (ob_16_v1 P) (.node (ob_32_v1 P) (.node (ob_64_v1 P) (.node (ob_128_v2 P) .nil .nil) (.node (ob_192_v2 P) .nil .nil)) (.node (ob_96_v2 P) (.node (ob_160_v2 P) .nil .nil) .nil)) (.node (ob_48_v1 P) (.node (ob_80_v1 P) (.node (ob_144_v2 P) .nil .nil) .nil) (.node (ob_112_v2 P) (.node (ob_176_v2 P) .nil .nil) .nil))) (.node (ob_24_v1 P) (.node (ob_40_v1 P) (.node (ob_72_v1 P) (.node (ob_136_v2 P) .nil .nil) (.node (ob_200_v2 P) .nil .nil)) (.node (ob_104_v2 P) (.node (ob_168_v2 P) .nil .nil) .nil)) (.node (ob_56_v1 P) (.node (ob_88_v1 P) (.node (ob_152_v2 P) .nil .nil) .nil) (.node (ob_120_v2 P) (.node (ob_184_v2 P) .nil .nil) .nil)))) (.node (ob_12_v2 P) (.node (ob_20_v1 P) (.node (ob_36_v1 P) (.node (ob_68_v1 P) (.node (ob_132_v2 P) .nil .nil) (.node (ob_196_v2 P) .nil .nil)) (.node (ob_100_v2 P) (.node (ob_164_v2 P) .nil .nil) .nil)) (.node (ob_52_v1 P) (.node (ob_84_v1 P) (.node (ob_148_v2 P) .nil .nil) .nil) (.node (ob_116_v2 P) (.node (ob_180_v2 P) .nil .nil) .nil))) (.node (ob_28_v1 P) (.node (ob_44_v1 P) (.node (ob_76_v1 P) (.node (ob_140_v2 P) .nil .nil) .nil) (.node (ob_108_v2 P) (.node (ob_172_v2 P) .nil .nil) .nil)) (.node (ob_60_v1 P) (.node (ob_92_v2 P) (.node (ob_156_v2 P) .nil .nil) .nil) (.node (ob_124_v2 P) (.node (ob_188_v2 P) .nil .nil) .nil))))) (.node (boot_o_6 P) (.node (boot_o_10 P) (.node (ob_18_v1 P) (.node (ob_34_v1 P) (.node (ob_66_v1 P) (.node (ob_130_v2 P) .nil .nil) (.node (ob_194_v2 P) .nil .nil)) (.node (ob_98_v2 P) (.node (ob_162_v2 P) .nil .nil) .nil)) (.node (ob_50_v1 P) (.node (ob_82_v1 P) (.node (ob_146_v2 P) .nil .nil) .nil) (.node (ob_114_v2 P) (.node (ob_178_v2 P) .nil .nil) .nil))) (.node (ob_26_v1 P) (.node (ob_42_v1 P) (.node (ob_74_v1 P) (.node (ob_138_v2 P) .nil .nil) (.node (ob_202_v2 P) .nil .nil)) (.node (ob_106_v2 P) (.node (ob_170_v2 P) .nil .nil) .nil)) (.node (ob_58_v1 P) (.node (ob_90_v1 P) (.node (ob_154_v2 P) .nil .nil) .nil) (.node (ob_122_v2 P) (.node (ob_186_v2 P) .nil .nil) .nil)))) (.node (ob_14_v0 P) (.node (ob_22_v1 P) (.node (ob_38_v1 P) (.node (ob_70_v1 P) (.node (ob_134_v2 P) .nil .nil) (.node (ob_198_v2 P) .nil .nil)) (.node (ob_102_v2 P) (.node (ob_166_v2 P) .nil .nil) .nil)) (.node (ob_54_v1 P) (.node (ob_86_v1 P) (.node (ob_150_v2 P) .nil .nil) .nil) (.node (ob_118_v2 P) (.node (ob_182_v2 P) .nil .nil) .nil))) (.node (ob_30_v1 P) (.node (ob_46_v1 P) (.node (ob_78_v1 P) (.node (ob_142_v2 P) .nil .nil) .nil) (.node (ob_110_v2 P) (.node (ob_174_v2 P) .nil .nil) .nil)) (.node (ob_62_v1 P) (.node (ob_94_v2 P) (.node (ob_158_v2 P) .nil .nil) .nil) (.node (ob_126_v2 P) (.node (ob_190_v2 P) .nil .nil) .nil)))))))
noncomputable abbrev st_v2 (w : World) (os : OsState) : SharedT := ⟨tree_v2 w.params, 203, (boot_heap w.params).life, Array.mk [], boot_drawn, 462, os⟩
noncomputable def tree_v3 (P : Params) : BT := (.node (boot_o_0 P) (.node (boot_o_1 P) (.node (ob_3_v3 P) (.node (boot_o_7 P) (.node (ob_15_v1 P) (.node (ob_31_v1 P) (.node (ob_63_v1 P) (.node (ob_127_v2 P) (.node (ob_255_v3 P) .nil .nil) .nil) (.node (ob_191_v2 P) (.node (ob_319_v3 P) .nil .nil) .nil)) (.node (ob_95_v2 P) (.node (ob_159_v2 P) (.node (ob_287_v3 P) .nil .nil) .nil) (.node (ob_223_v3 P) .nil .nil))) (.node (ob_47_v1 P) (.node (ob_79_v1 P) (.node (ob_143_v2 P) (.node (ob_271_v3 P) .nil .nil) .nil) (.node (ob_207_v3 P) (.node (ob_335_v3 P) .nil .nil) .nil)) (.node (ob_111_v2 P) (.node (ob_175_v2 P) (.node (ob_303_v3 P) .nil .nil) .nil) (.node (ob_239_v3 P) .nil .nil)))) (.node (ob_23_v1 P) (.node (ob_39_v1 P) (.node (ob_71_v1 P) (.node (ob_135_v2 P) (.node (ob_263_v3 P) .nil .nil) .nil) (.node (ob_199_v2 P) (.node (ob_327_v3 P) .nil .nil) .nil)) (.node (ob_103_v2 P) (.node (ob_167_v2 P) (.node (ob_295_v3 P) .nil .nil) .nil) (.node (ob_231_v3 P) .nil .nil))) (.node (ob_55_v1 P) (.node (ob_87_v1 P) (.node (ob_151_v2 P) (.node (ob_279_v3 P) .nil .nil) .nil) (.node (ob_215_v3 P) .nil .nil)) (.node (ob_119_v2 P) (.node (ob_183_v2 P) (.node (ob_311_v3 P) .nil .nil) .nil) (.node (ob_247_v3 P) .nil .nil))))) (.node (ob_11_v0 P) (.node (ob_19_v1 P) (.node (ob_35_v1 P) (.node (ob_67_v1 P) (.node (ob_131_v2 P) (.node (ob_259_v3 P) .nil .nil) .nil) (.node (ob_195_v2 P) (.node (ob_323_v3 P) .nil .nil) .nil)) (.node (ob_99_v2 P) (.node (ob_163_v2 P) (.node (ob_291_v3 P) .nil .nil) .nil) (.node (ob_227_v3 P) .nil .nil))) (.node (ob_51_v1 P) (.node (ob_83_v1 P) (.node (ob_147_v2 P) (.node (ob_275_v3 P) .nil .nil) .nil) (.node (ob_211_v3 P) .nil .nil)) (.node (ob_115_v2 P) (.node (ob_179_v2 P) (.node (ob_307_v3 P) .nil .nil) .nil) (.node (ob_243_v3 P) .nil .nil)))) (.node (ob_27_v1 P) (.node (ob_43_v1 P) (.node (ob_75_v1 P) (.node (ob_139_v2 P) (.node (ob_267_v3 P) .nil .nil) .nil) (.node (ob_203_v3 P) (.node (ob_331_v3 P) .nil .nil) .nil)) (.node (ob_107_v2 P) (.node (ob_171_v2 P) (.node (ob_299_v3 P) .nil .nil) .nil) (.node (ob_235_v3 P) .nil .nil))) (.node (ob_59_v1 P) (.node (ob_91_v2 P) (.node (ob_155_v2 P) (.node (ob_283_v3 P) .nil .nil) .nil) (.node (ob_219_v3 P) .nil .nil)) (.node (ob_123_v2 P) (.node (ob_187_v2 P) (.node (ob_315_v3 P) .nil .nil) .nil) (.node (ob_251_v3 P) .nil .nil)))))) (.node (boot_o_5 P) (.node (boot_o_9 P) (.node (ob_17_v1 P) (.node (ob_33_v1 P) (.node (ob_65_v1 P) (.node (ob_129_v2 P) (.node (ob_257_v3 P) .nil .nil) .nil) (.node (ob_193_v2 P) (.node (ob_321_v3 P) .nil .nil) .nil)) (.node (ob_97_v2 P) (.node (ob_161_v2 P) (.node (ob_289_v3 P) .nil .nil) .nil) (.node (ob_225_v3 P) .nil .nil))) (.node (ob_49_v1 P) (.node (ob_81_v1 P) (.node (ob_145_v2 P) (.node (ob_273_v3 P) .nil .nil) .nil) (.node (ob_209_v3 P) .nil .nil)) (.node (ob_113_v2 P) (.node (ob_177_v2 P) (.node (ob_305_v3 P) .nil .nil) .nil) (.node (ob_241_v3 P) .nil .nil)))) (.node (ob_25_v1 P) (.node (ob_41_v1 P) (.node (ob_73_v1 P) (.node (ob_137_v2 P) (.node (ob_265_v3 P) .nil .nil) .nil) (.node (ob_201_v2 P) (.node (ob_329_v3 P) .nil .nil) .nil)) (.node (ob_105_v2 P) (.node (ob_169_v2 P) (.node (ob_297_v3 P) .nil .nil) .nil) (.node (ob_233_v3 P) .nil .nil))) (.node (ob_57_v1 P) (.node (ob_89_v1 P) (.node (ob_153_v2 P) (.node (ob_281_v3 P) .nil .nil) .nil) (.node (ob_217_v3 P) .nil .nil)) (.node (ob_121_v2 P) (.node (ob_185_v2 P) (.node (ob_313_v3 P) .nil .nil) .nil) (.node (ob_249_v3 P) .nil .nil))))) (.node (ob_13_v0 P) (.node (ob_21_v1 P) (.node (ob_37_v1 P) (.node (ob_69_v1 P) (.node (ob_133_v2 P) (.node (ob_261_v3 P) .nil .nil) .nil) (.node (ob_197_v2 P) (.node (ob_325_v3 P) .nil .nil) .nil)) (.node (ob_101_v2 P) (.node (ob_165_v2 P) (.node (ob_293_v3 P) .nil .nil) .nil) (.node (ob_229_v3 P) .nil .nil))) (.node (ob_53_v1 P) (.node (ob_85_v1 P) (.node (ob_149_v2 P) (.node (ob_277_v3 P) .nil .nil) .nil) (.node (ob_213_v3 P) .nil .nil)) (.node (ob_117_v2 P) (.node (ob_181_v2 P) (.node (ob_309_v3 P) .nil .nil) .nil) (.node (ob_245_v3 P) .nil .nil)))) (.node (ob_29_v1 P) (.node (ob_45_v1 P) (.node (ob_77_v1 P) (.node (ob_141_v2 P) (.node (ob_269_v3 P) .nil .nil) .nil) (.node (ob_205_v3 P) (.node (ob_333_v3 P) .nil .nil) .nil)) (.node (ob_109_v2 P) (.node (ob_173_v2 P) (.node (ob_301_v3 P) .nil .nil) .nil) (.node (ob_237_v3 P) .nil .nil))) (.node (ob_61_v1 P) (.node (ob_93_v2 P) (.node (ob_157_v2 P) (.node (ob_285_v3 P) .nil .nil) .nil) (.node (ob_221_v3 P) .nil .nil)) (.node (ob_125_v2 P) (.node (ob_189_v2 P) (.node (ob_317_v3 P) .nil .nil) .nil) (.node (ob_253_v3 P) .nil .nil))))))) (.node (ob_2_v1 P) (.node (boot_o_4 P) (.node (boot_o_8 P) (.node (ob_16_v1 P) (.node (ob_32_v1 P) (.node (ob_64_v1 P) (.node (ob_128_v2 P) (.node (ob_256_v3 P) .nil .nil) .nil) (.node (ob_192_v2 P) (.node (ob_320_v3 P) .nil .nil) .nil)) (.node (ob_96_v2 P) (.node (ob_160_v2 P) (.node (ob_288_v3 P) .nil .nil) .nil) (.node (ob_224_v3 P) .nil .nil))) (.node (ob_48_v1 P) (.node (ob_80_v1 P) (.node (ob_144_v2 P) (.node (ob_272_v3 P) .nil .nil) .nil) (.node (ob_208_v3 P) .nil .nil)) (.node (ob_112_v2 P) (.node (ob_176_v2 P) (.node (ob_304_v3 P) .nil .nil) .nil) (.node (ob_240_v3 P) .nil .nil)))) (.node (ob_24_v1 P) (.node (ob_40_v1 P) (.node (ob_72_v1 P) (.node (ob_136_v2 P) (.node (ob_264_v3 P) .nil .nil) .nil) (.node (ob_200_v2 P) (.node (ob_328_v3 P) .nil .nil) .nil)) (.node (ob_104_v2 P) (.node (ob_168_v2 P) (.node (ob_296_v3 P) .nil .nil) .nil) (.node (ob_232_v3 P) .nil .nil))) (.node (ob_56_v1 P) (.node (ob_88_v1 P) (.node (ob_152_v2 P) (.node (ob_280_v3 P) .nil .nil) .nil) (.node (ob_216_v3 P) .nil .nil)) (.node (ob_120_v2 P) (.node (ob_184_v2 P) (.node (ob_312_v3 P) .nil .nil) .nil) (.node (ob_248_v3 P) .nil .nil))))) (.node (ob_12_v3 P) (.node (ob_20_v1 P) (.node (ob_36_v1 P) (.node (ob_68_v1 P) (.node (ob_132_v2 P) (.node (ob_260_v3 P) .nil .nil) .nil) (.node (ob_196_v2 P) (.node (ob_324_v3 P) .nil .nil) .nil)) (.node (ob_100_v2 P) (.node (ob_164_v2 P) (.node (ob_292_v3 P) .nil .nil) .nil) (.node (ob_228_v3 P) .nil .nil))) (.node (ob_52_v1 P) (.node (ob_84_v1 P) (.node (ob_148_v2 P) (.node (ob_276_v3 P) .nil .nil) .nil) (.node (ob_212_v3 P) .nil .nil)) (.node (ob_116_v2 P) (.node (ob_180_v2 P) (.node (ob_308_v3 P) .nil .nil) .nil) (.node (ob_244_v3 P) .nil .nil)))) (.node (ob_28_v1 P) (.node (ob_44_v1 P) (.node (ob_76_v1 P) (.node (ob_140_v2 P) (.node (ob_268_v3 P) .nil .nil) .nil) (.node (ob_204_v3 P) (.node (ob_332_v3 P) .nil .nil) .nil)) (.node (ob_108_v2 P) (.node (ob_172_v2 P) (.node (ob_300_v3 P) .nil .nil) .nil) (.node (ob_236_v3 P) .nil .nil))) (.node (ob_60_v1 P) (.node (ob_92_v2 P) (.node (ob_156_v2 P) (.node (ob_284_v3 P) .nil .nil) .nil) (.node (ob_220_v3 P) .nil .nil)) (.node (ob_124_v2 P) (.node (ob_188_v2 P) (.node (ob_316_v3 P) .nil .nil) .nil) (.node (ob_252_v3 P) .nil .nil)))))) (.node (boot_o_6 P) (.node (boot_o_10 P) (.node (ob_18_v1 P) (.node (ob_34_v1 P) (.node (ob_66_v1 P) (.node (ob_130_v2 P) (.node (ob_258_v3 P) .nil .nil) .nil) (.node (ob_194_v2 P) (.node (ob_322_v3 P) .nil .nil) .nil)) (.node (ob_98_v2 P) (.node (ob_162_v2 P) (.node (ob_290_v3 P) .nil .nil) .nil) (.node (ob_226_v3 P) .nil .nil))) (.node (ob_50_v1 P) (.node (ob_82_v1 P) (.node (ob_146_v2 P) (.node (ob_274_v3 P) .nil .nil) .nil) (.node (ob_210_v3 P) .nil .nil)) (.node (ob_114_v2 P) (.node (ob_178_v2 P) (.node (ob_306_v3 P) .nil .nil) .nil) (.node (ob_242_v3 P) .nil .nil)))) (.node (ob_26_v1 P) (.node (ob_42_v1 P) (.node (ob_74_v1 P) (.node (ob_138_v2 P) (.node (ob_266_v3 P) .nil .nil) .nil) (.node (ob_202_v2 P) (.node (ob_330_v3 P) .nil .nil) .nil)) (.node (ob_106_v2 P) (.node (ob_170_v2 P) (.node (ob_298_v3 P) .nil .nil) .nil) (.node (ob_234_v3 P) .nil .nil))) (.node (ob_58_v1 P) (.node (ob_90_v1 P) (.node (ob_154_v2 P) (.node (ob_282_v3 P) .nil .nil) .nil) (.node (ob_218_v3 P) .nil .nil)) (.node (ob_122_v2 P) (.node (ob_186_v2 P) (.node (ob_314_v3 P) .nil .nil) .nil) (.node (ob_250_v3 P) .nil .nil))))) (.node (ob_14_v0 P) (.node (ob_22_v1 P) (.node (ob_38_v1 P) (.node (ob_70_v1 P) (.node (ob_134_v2 P) (.node (ob_262_v3 P) .nil .nil) .nil) (.node (ob_198_v2 P) (.node (ob_326_v3 P) .nil .nil) .nil)) (.node (ob_102_v2 P) (.node (ob_166_v2 P) (.node (ob_294_v3 P) .nil .nil) .nil) (.node (ob_230_v3 P) .nil .nil))) (.node (ob_54_v1 P) (.node (ob_86_v1 P) (.node (ob_150_v2 P) (.node (ob_278_v3 P) .nil .nil) .nil) (.node (ob_214_v3 P) .nil .nil)) (.node (ob_118_v2 P) (.node (ob_182_v2 P) (.node (ob_310_v3 P) .nil .nil) .nil) (.node (ob_246_v3 P) .nil .nil)))) (.node (ob_30_v1 P) (.node (ob_46_v1 P) (.node (ob_78_v1 P) (.node (ob_142_v2 P) (.node (ob_270_v3 P) .nil .nil) .nil) (.node (ob_206_v3 P) (.node (ob_334_v3 P) .nil .nil) .nil)) (.node (ob_110_v2 P) (.node (ob_174_v2 P) (.node (ob_302_v3 P) .nil .nil) .nil) (.node (ob_238_v3 P) .nil .nil))) (.node (ob_62_v1 P) (.node (ob_94_v2 P) (.node (ob_158_v2 P) (.node (ob_286_v3 P) .nil .nil) .nil) (.node (ob_222_v3 P) .nil .nil)) (.node (ob_126_v2 P) (.node (ob_190_v2 P) (.node (ob_318_v3 P) .nil .nil) .nil) (.node (ob_254_v3 P) .nil .nil))))))))
noncomputable abbrev st_v3 (w : World) (os : OsState) : SharedT := ⟨tree_v3 w.params, 336, (boot_heap w.params).life, Array.mk [], boot_drawn, 639, os⟩
noncomputable def tree_v4 (P : Params) : BT := (.node (boot_o_0 P) (.node (boot_o_1 P) (.node (ob_3_v4 P) (.node (boot_o_7 P) (.node (ob_15_v1 P) (.node (ob_31_v1 P) (.node (ob_63_v1 P) (.node (ob_127_v2 P) (.node (ob_255_v3 P) .nil .nil) (.node (ob_383_v4 P) .nil .nil)) (.node (ob_191_v2 P) (.node (ob_319_v3 P) .nil .nil) .nil)) (.node (ob_95_v2 P) (.node (ob_159_v2 P) (.node (ob_287_v3 P) .nil .nil) .nil) (.node (ob_223_v3 P) (.node (ob_351_v4 P) .nil .nil) .nil))) (.node (ob_47_v1 P) (.node (ob_79_v1 P) (.node (ob_143_v2 P) (.node (ob_271_v3 P) .nil .nil) .nil) (.node (ob_207_v3 P) (.node (ob_335_v3 P) .nil .nil) .nil)) (.node (ob_111_v2 P) (.node (ob_175_v2 P) (.node (ob_303_v3 P) .nil .nil) .nil) (.node (ob_239_v3 P) (.node (ob_367_v4 P) .nil .nil) .nil)))) (.node (ob_23_v1 P) (.node (ob_39_v1 P) (.node (ob_71_v1 P) (.node (ob_135_v2 P) (.node (ob_263_v3 P) .nil .nil) .nil) (.node (ob_199_v2 P) (.node (ob_327_v3 P) .nil .nil) .nil)) (.node (ob_103_v2 P) (.node (ob_167_v2 P) (.node (ob_295_v3 P) .nil .nil) .nil) (.node (ob_231_v3 P) (.node (ob_359_v4 P) .nil .nil) .nil))) (.node (ob_55_v1 P) (.node (ob_87_v1 P) (.node (ob_151_v2 P) (.node (ob_279_v3 P) .nil .nil) .nil) (.node (ob_215_v3 P) (.node (ob_343_v4 P) .nil .nil) .nil)) (.node (ob_119_v2 P) (.node (ob_183_v2 P) (.node (ob_311_v3 P) .nil .nil) .nil) (.node (ob_247_v3 P) (.node (ob_375_v4 P) .nil .nil) .nil))))) (.node (ob_11_v0 P) (.node (ob_19_v1 P) (.node (ob_35_v1 P) (.node (ob_67_v1 P) (.node (ob_131_v2 P) (.node (ob_259_v3 P) .nil .nil) (.node (ob_387_v4 P) .nil .nil)) (.node (ob_195_v2 P) (.node (ob_323_v3 P) .nil .nil) .nil)) (.node (ob_99_v2 P) (.node (ob_163_v2 P) (.node (ob_291_v3 P) .nil .nil) .nil) (.node (ob_227_v3 P) (.node (ob_355_v4 P) .nil .nil) .nil))) (.node (ob_51_v1 P) (.node (ob_83_v1 P) (.node (ob_147_v2 P) (.node (ob_275_v3 P) .nil .nil) .nil) (.node (ob_211_v3 P) (.node (ob_339_v4 P) .nil .nil) .nil)) (.node (ob_115_v2 P) (.node (ob_179_v2 P) (.node (ob_307_v3 P) .nil .nil) .nil) (.node (ob_243_v3 P) (.node (ob_371_v4 P) .nil .nil) .nil)))) (.node (ob_27_v1 P) (.node (ob_43_v1 P) (.node (ob_75_v1 P) (.node (ob_139_v2 P) (.node (ob_267_v3 P) .nil .nil) .nil) (.node (ob_203_v3 P) (.node (ob_331_v3 P) .nil .nil) .nil)) (.node (ob_107_v2 P) (.node (ob_171_v2 P) (.node (ob_299_v3 P) .nil .nil) .nil) (.node (ob_235_v3 P) (.node (ob_363_v4 P) .nil .nil) .nil))) (.node (ob_59_v1 P) (.node (ob_91_v2 P) (.node (ob_155_v2 P) (.node (ob_283_v3 P) .nil .nil) .nil) (.node (ob_219_v3 P) (.node (ob_347_v4 P) .nil .nil) .nil)) (.node (ob_123_v2 P) (.node (ob_187_v2 P) (.node (ob_315_v3 P) .nil .nil) .nil) (.node (ob_251_v3 P) (.node (ob_379_v4 P) .nil .nil) .nil)))))) (.node (boot_o_5 P) (.node (boot_o_9 P) (.node (ob_17_v1 P) (.node (ob_33_v1 P) (.node (ob_65_v1 P) (.node (ob_129_v2 P) (.node (ob_257_v3 P) .nil .nil) (.node (ob_385_v4 P) .nil .nil)) (.node (ob_193_v2 P) (.node (ob_321_v3 P) .nil .nil) .nil)) (.node (ob_97_v2 P) (.node (ob_161_v2 P) (.node (ob_289_v3 P) .nil .nil) .nil) (.node (ob_225_v3 P) (.node (ob_353_v4 P) .nil .nil) .nil))) (.node (ob_49_v1 P) (.node (ob_81_v1 P) (.node (ob_145_v2 P) (.node (ob_273_v3 P) .nil .nil) .nil) (.node (ob_209_v3 P) (.node (ob_337_v4 P) .nil .nil) .nil)) (.node (ob_113_v2 P) (.node (ob_177_v2 P) (.node (ob_305_v3 P) .nil .nil) .nil) (.node (ob_241_v3 P) (.node (ob_369_v4 P) .nil .nil) .nil)))) (.node (ob_25_v1 P) (.node (ob_41_v1 P) (.node (ob_73_v1 P) (.node (ob_137_v2 P) (.node (ob_265_v3 P) .nil .nil) .nil) (.node (ob_201_v2 P) (.node (ob_329_v3 P) .nil .nil) .nil)) (.node (ob_105_v2 P) (.node (ob_169_v2 P) (.node (ob_297_v3 P) .nil .nil) .nil) (.node (ob_233_v3 P) (.node (ob_361_v4 P) .nil .nil) .nil))) (.node (ob_57_v1 P) (.node (ob_89_v1 P) (.node (ob_153_v2 P) (.node (ob_281_v3 P) .nil .nil) .nil) (.node (ob_217_v3 P) (.node (ob_345_v4 P) .nil .nil) .nil)) (.node (ob_121_v2 P) (.node (ob_185_v2 P) (.node (ob_313_v3 P) .nil .nil) .nil) (.node (ob_249_v3 P) (.node (ob_377_v4 P) .nil .nil) .nil))))) (.node (ob_13_v0 P) (.node (ob_21_v1 P) (.node (ob_37_v1 P) (.node (ob_69_v1 P) (.node (ob_133_v2 P) (.node (ob_261_v3 P) .nil .nil) (.node (ob_389_v4 P) .nil .nil)) (.node (ob_197_v2 P) (.node (ob_325_v3 P) .nil .nil) .nil)) (.node (ob_101_v2 P) (.node (ob_165_v2 P) (.node (ob_293_v3 P) .nil .nil) .nil) (.node (ob_229_v3 P) (.node (ob_357_v4 P) .nil .nil) .nil))) (.node (ob_53_v1 P) (.node (ob_85_v1 P) (.node (ob_149_v2 P) (.node (ob_277_v3 P) .nil .nil) .nil) (.node (ob_213_v3 P) (.node (ob_341_v4 P) .nil .nil) .nil)) (.node (ob_117_v2 P) (.node (ob_181_v2 P) (.node (ob_309_v3 P) .nil .nil) .nil) (.node (ob_245_v3 P) (.node (ob_373_v4 P) .nil .nil) .nil)))) (.node (ob_29_v1 P) (.node (ob_45_v1 P) (.node (ob_77_v1 P) (.node (ob_141_v2 P) (.node (ob_269_v3 P) .nil .nil) .nil) (.node (ob_205_v3 P) (.node (ob_333_v3 P) .nil .nil) .nil)) (.node (ob_109_v2 P) (.node (ob_173_v2 P) (.node (ob_301_v3 P) .nil .nil) .nil) (.node (ob_237_v3 P) (.node (ob_365_v4 P) .nil .nil) .nil))) (.node (ob_61_v1 P) (.node (ob_93_v2 P) (.node (ob_157_v2 P) (.node (ob_285_v3 P) .nil .nil) .nil) (.node (ob_221_v3 P) (.node (ob_349_v4 P) .nil .nil) .nil)) (.node (ob_125_v2 P) (.node (ob_189_v2 P) (.node (ob_317_v3 P) .nil .nil) .nil) (.node (ob_253_v3 P) (.node (ob_381_v4 P) .nil .nil) .nil))))))) (.node (ob_2_v1 P) (.node (boot_o_4 P) (.node (boot_o_8 P) (.node (ob_16_v1 P) (.node (ob_32_v1 P) (.node (ob_64_v1 P) (.node (ob_128_v2 P) (.node (ob_256_v3 P) .nil .nil) (.node (ob_384_v4 P) .nil .nil)) (.node (ob_192_v2 P) (.node (ob_320_v3 P) .nil .nil) .nil)) (.node (ob_96_v2 P) (.node (ob_160_v2 P) (.node (ob_288_v3 P) .nil .nil) .nil) (.node (ob_224_v3 P) (.node (ob_352_v4 P) .nil .nil) .nil))) (.node (ob_48_v1 P) (.node (ob_80_v1 P) (.node (ob_144_v2 P) (.node (ob_272_v3 P) .nil .nil) .nil) (.node (ob_208_v3 P) (.node (ob_336_v4 P) .nil .nil) .nil)) (.node (ob_112_v2 P) (.node (ob_176_v2 P) (.node (ob_304_v3 P) .nil .nil) .nil) (.node (ob_240_v3 P) (.node (ob_368_v4 P) .nil .nil) .nil)))) (.node (ob_24_v1 P) (.node (ob_40_v1 P) (.node (ob_72_v1 P) (.node (ob_136_v2 P) (.node (ob_264_v3 P) .nil .nil) .nil) (.node (ob_200_v2 P) (.node (ob_328_v3 P) .nil .nil) .nil)) (.node (ob_104_v2 P) (.node (ob_168_v2 P) (.node (ob_296_v3 P) .nil .nil) .nil) (.node (ob_232_v3 P) (.node (ob_360_v4 P) .nil .nil) .nil))) (.node (ob_56_v1 P) (.node (ob_88_v1 P) (.node (ob_152_v2 P) (.node (ob_280_v3 P) .nil .nil) .nil) (.node (ob_216_v3 P) (.node (ob_344_v4 P) .nil .nil) .nil)) (.node (ob_120_v2 P) (.node (ob_184_v2 P) (.node (ob_312_v3 P) .nil .nil) .nil) (.node (ob_248_v3 P) (.node (ob_376_v4 P) .nil .nil) .nil))))) (.node (ob_12_v4 P) (.node (ob_20_v1 P) (.node (ob_36_v1 P) (.node (ob_68_v1 P) (.node (ob_132_v2 P) (.node (ob_260_v3 P) .nil .nil) (.node (ob_388_v4 P) .nil .nil)) (.node (ob_196_v2 P) (.node (ob_324_v3 P) .nil .nil) .nil)) (.node (ob_100_v2 P) (.node (ob_164_v2 P) (.node (ob_292_v3 P) .nil .nil) .nil) (.node (ob_228_v3 P) (.node (ob_356_v4 P) .nil .nil) .nil))) (.node (ob_52_v1 P) (.node (ob_84_v1 P) (.node (ob_148_v2 P) (.node (ob_276_v3 P) .nil .nil) .nil) (.node (ob_212_v3 P) (.node (ob_340_v4 P) .nil .nil) .nil)) (.node (ob_116_v2 P) (.node (ob_180_v2 P) (.node (ob_308_v3 P) .nil .nil) .nil) (.node (ob_244_v3 P) (.node (ob_372_v4 P) .nil .nil) .nil)))) (.node (ob_28_v1 P) (.node (ob_44_v1 P) (.node (ob_76_v1 P) (.node (ob_140_v2 P) (.node (ob_268_v3 P) .nil .nil) .nil) (.node (ob_204_v3 P) (.node (ob_332_v3 P) .nil .nil) .nil)) (.node (ob_108_v2 P) (.node (ob_172_v2 P) (.node (ob_300_v3 P) .nil .nil) .nil) (.node (ob_236_v3 P) (.node (ob_364_v4 P) .nil .nil) .nil))) (.node (ob_60_v1 P) (.node (ob_92_v2 P) (.node (ob_156_v2 P) (.node (ob_284_v3 P) .nil .nil) .nil) (.node (ob_220_v3 P) (.node (ob_348_v4 P) .nil .nil) .nil)) (.node (ob_124_v2 P) (.node (ob_188_v2 P) (.node (ob_316_v3 P) .nil .nil) .nil) (.node (ob_252_v3 P) (.node (ob_380_v4 P) .nil .nil) .nil)))))) (.node (boot_o_6 P) (.node (boot_o_10 P) (.node (ob_18_v1 P) (.node (ob_34_v1 P) (.node (ob_66_v1 P) (.node (ob_130_v2 P) (.node (ob_258_v3 P) .nil .nil) (.node (ob_386_v4 P) .nil .nil)) (.node (ob_194_v2 P) (.node (ob_322_v3 P) .nil .nil) .nil)) (.node (ob_98_v2 P) (.node (ob_162_v2 P) (.node (ob_290_v3 P) .nil .nil) .nil) (.node (ob_226_v3 P) (.node (ob_354_v4 P) .nil .nil) .nil))) (.node (ob_50_v1 P) (.node (ob_82_v1 P) (.node (ob_146_v2 P) (.node (ob_274_v3 P) .nil .nil) .nil) (.node (ob_210_v3 P) (.node (ob_338_v4 P) .nil .nil) .nil)) (.node (ob_114_v2 P) (.node (ob_178_v2 P) (.node (ob_306_v3 P) .nil .nil) .nil) (.node (ob_242_v3 P) (.node (ob_370_v4 P) .nil .nil) .nil)))) (.node (ob_26_v1 P) (.node (ob_42_v1 P) (.node (ob_74_v1 P) (.node (ob_138_v2 P) (.node (ob_266_v3 P) .nil .nil) .nil) (.node (ob_202_v2 P) (.node (ob_330_v3 P) .nil .nil) .nil)) (.node (ob_106_v2 P) (.node (ob_170_v2 P) (.node (ob_298_v3 P) .nil .nil) .nil) (.node (ob_234_v3 P) (.node (ob_362_v4 P) .nil .nil) .nil))) (.node (ob_58_v1 P) (.node (ob_90_v1 P) (.node (ob_154_v2 P) (.node (ob_282_v3 P) .nil .nil) .nil) (.node (ob_218_v3 P) (.node (ob_346_v4 P) .nil .nil) .nil)) (.node (ob_122_v2 P) (.node (ob_186_v2 P) (.node (ob_314_v3 P) .nil .nil) .nil) (.node (ob_250_v3 P) (.node (ob_378_v4 P) .nil .nil) .nil))))) (.node (ob_14_v0 P) (.node (ob_22_v1 P) (.node (ob_38_v1 P) (.node (ob_70_v1 P) (.node (ob_134_v2 P) (.node (ob_262_v3 P) .nil .nil) .nil) (.node (ob_198_v2 P) (.node (ob_326_v3 P) .nil .nil) .nil)) (.node (ob_102_v2 P) (.node (ob_166_v2 P) (.node (ob_294_v3 P) .nil .nil) .nil) (.node (ob_230_v3 P) (.node (ob_358_v4 P) .nil .nil) .nil))) (.node (ob_54_v1 P) (.node (ob_86_v1 P) (.node (ob_150_v2 P) (.node (ob_278_v3 P) .nil .nil) .nil) (.node (ob_214_v3 P) (.node (ob_342_v4 P) .nil .nil) .nil)) (.node (ob_118_v2 P) (.node (ob_182_v2 P) (.node (ob_310_v3 P) .nil .nil) .nil) (.node (ob_246_v3 P) (.node (ob_374_v4 P) .nil .nil) .nil)))) (.node (ob_30_v1 P) (.node (ob_46_v1 P) (.node (ob_78_v1 P) (.node (ob_142_v2 P) (.node (ob_270_v3 P) .nil .nil) .nil) (.node (ob_206_v3 P) (.node (ob_334_v3 P) .nil .nil) .nil)) (.node (ob_110_v2 P) (.node (ob_174_v2 P) (.node (ob_302_v3 P) .nil .nil) .nil) (.node (ob_238_v3 P) (.node (ob_366_v4 P) .nil .nil) .nil))) (.node (ob_62_v1 P) (.node (ob_94_v2 P) (.node (ob_158_v2 P) (.node (ob_286_v3 P) .nil .nil) .nil) (.node (ob_222_v3 P) (.node (ob_350_v4 P) .nil .nil) .nil)) (.node (ob_126_v2 P) (.node (ob_190_v2 P) (.node (ob_318_v3 P) .nil .nil) .nil) (.node (ob_254_v3 P) (.node (ob_382_v4 P) .nil .nil) .nil))))))))
noncomputable abbrev st_v4 (w : World) (os : OsState) : SharedT := ⟨tree_v4 w.params, 390, (boot_heap w.params).life, Array.mk [], boot_drawn, 715, os⟩
noncomputable def heap_f (P : Params) : Heap := ⟨Array.mk [boot_o_0 P, boot_o_1 P, ob_2_v1 P, ob_3_v4 P, boot_o_4 P, boot_o_5 P, boot_o_6 P, boot_o_7 P, boot_o_8 P, boot_o_9 P, boot_o_10 P, ob_11_v0 P, ob_12_v4 P, ob_13_v0 P, ob_14_v0 P, ob_15_v1 P, ob_16_v1 P, ob_17_v1 P, ob_18_v1 P, ob_19_v1 P, ob_20_v1 P, ob_21_v1 P, ob_22_v1 P, ob_23_v1 P, ob_24_v1 P, ob_25_v1 P, ob_26_v1 P, ob_27_v1 P, ob_28_v1 P, ob_29_v1 P, ob_30_v1 P, ob_31_v1 P, ob_32_v1 P, ob_33_v1 P, ob_34_v1 P, ob_35_v1 P, ob_36_v1 P, ob_37_v1 P, ob_38_v1 P, ob_39_v1 P, ob_40_v1 P, ob_41_v1 P, ob_42_v1 P, ob_43_v1 P, ob_44_v1 P, ob_45_v1 P, ob_46_v1 P, ob_47_v1 P, ob_48_v1 P, ob_49_v1 P, ob_50_v1 P, ob_51_v1 P, ob_52_v1 P, ob_53_v1 P, ob_54_v1 P, ob_55_v1 P, ob_56_v1 P, ob_57_v1 P, ob_58_v1 P, ob_59_v1 P, ob_60_v1 P, ob_61_v1 P, ob_62_v1 P, ob_63_v1 P, ob_64_v1 P, ob_65_v1 P, ob_66_v1 P, ob_67_v1 P, ob_68_v1 P, ob_69_v1 P, ob_70_v1 P, ob_71_v1 P, ob_72_v1 P, ob_73_v1 P, ob_74_v1 P, ob_75_v1 P, ob_76_v1 P, ob_77_v1 P, ob_78_v1 P, ob_79_v1 P, ob_80_v1 P, ob_81_v1 P, ob_82_v1 P, ob_83_v1 P, ob_84_v1 P, ob_85_v1 P, ob_86_v1 P, ob_87_v1 P, ob_88_v1 P, ob_89_v1 P, ob_90_v1 P, ob_91_v2 P, ob_92_v2 P, ob_93_v2 P, ob_94_v2 P, ob_95_v2 P, ob_96_v2 P, ob_97_v2 P, ob_98_v2 P, ob_99_v2 P, ob_100_v2 P, ob_101_v2 P, ob_102_v2 P, ob_103_v2 P, ob_104_v2 P, ob_105_v2 P, ob_106_v2 P, ob_107_v2 P, ob_108_v2 P, ob_109_v2 P, ob_110_v2 P, ob_111_v2 P, ob_112_v2 P, ob_113_v2 P, ob_114_v2 P, ob_115_v2 P, ob_116_v2 P, ob_117_v2 P, ob_118_v2 P, ob_119_v2 P, ob_120_v2 P, ob_121_v2 P, ob_122_v2 P, ob_123_v2 P, ob_124_v2 P, ob_125_v2 P, ob_126_v2 P, ob_127_v2 P, ob_128_v2 P, ob_129_v2 P, ob_130_v2 P, ob_131_v2 P, ob_132_v2 P, ob_133_v2 P, ob_134_v2 P, ob_135_v2 P, ob_136_v2 P, ob_137_v2 P, ob_138_v2 P, ob_139_v2 P, ob_140_v2 P, ob_141_v2 P, ob_142_v2 P, ob_143_v2 P, ob_144_v2 P, ob_145_v2 P, ob_146_v2 P, ob_147_v2 P, ob_148_v2 P, ob_149_v2 P, ob_150_v2 P, ob_151_v2 P, ob_152_v2 P, ob_153_v2 P, ob_154_v2 P, ob_155_v2 P, ob_156_v2 P, ob_157_v2 P, ob_158_v2 P, ob_159_v2 P, ob_160_v2 P, ob_161_v2 P, ob_162_v2 P, ob_163_v2 P, ob_164_v2 P, ob_165_v2 P, ob_166_v2 P, ob_167_v2 P, ob_168_v2 P, ob_169_v2 P, ob_170_v2 P, ob_171_v2 P, ob_172_v2 P, ob_173_v2 P, ob_174_v2 P, ob_175_v2 P, ob_176_v2 P, ob_177_v2 P, ob_178_v2 P, ob_179_v2 P, ob_180_v2 P, ob_181_v2 P, ob_182_v2 P, ob_183_v2 P, ob_184_v2 P, ob_185_v2 P, ob_186_v2 P, ob_187_v2 P, ob_188_v2 P, ob_189_v2 P, ob_190_v2 P, ob_191_v2 P, ob_192_v2 P, ob_193_v2 P, ob_194_v2 P, ob_195_v2 P, ob_196_v2 P, ob_197_v2 P, ob_198_v2 P, ob_199_v2 P, ob_200_v2 P, ob_201_v2 P, ob_202_v2 P, ob_203_v3 P, ob_204_v3 P, ob_205_v3 P, ob_206_v3 P, ob_207_v3 P, ob_208_v3 P, ob_209_v3 P, ob_210_v3 P, ob_211_v3 P, ob_212_v3 P, ob_213_v3 P, ob_214_v3 P, ob_215_v3 P, ob_216_v3 P, ob_217_v3 P, ob_218_v3 P, ob_219_v3 P, ob_220_v3 P, ob_221_v3 P, ob_222_v3 P, ob_223_v3 P, ob_224_v3 P, ob_225_v3 P, ob_226_v3 P, ob_227_v3 P, ob_228_v3 P, ob_229_v3 P, ob_230_v3 P, ob_231_v3 P, ob_232_v3 P, ob_233_v3 P, ob_234_v3 P, ob_235_v3 P, ob_236_v3 P, ob_237_v3 P, ob_238_v3 P, ob_239_v3 P, ob_240_v3 P, ob_241_v3 P, ob_242_v3 P, ob_243_v3 P, ob_244_v3 P, ob_245_v3 P, ob_246_v3 P, ob_247_v3 P, ob_248_v3 P, ob_249_v3 P, ob_250_v3 P, ob_251_v3 P, ob_252_v3 P, ob_253_v3 P, ob_254_v3 P, ob_255_v3 P, ob_256_v3 P, ob_257_v3 P, ob_258_v3 P, ob_259_v3 P, ob_260_v3 P, ob_261_v3 P, ob_262_v3 P, ob_263_v3 P, ob_264_v3 P, ob_265_v3 P, ob_266_v3 P, ob_267_v3 P, ob_268_v3 P, ob_269_v3 P, ob_270_v3 P, ob_271_v3 P, ob_272_v3 P, ob_273_v3 P, ob_274_v3 P, ob_275_v3 P, ob_276_v3 P, ob_277_v3 P, ob_278_v3 P, ob_279_v3 P, ob_280_v3 P, ob_281_v3 P, ob_282_v3 P, ob_283_v3 P, ob_284_v3 P, ob_285_v3 P, ob_286_v3 P, ob_287_v3 P, ob_288_v3 P, ob_289_v3 P, ob_290_v3 P, ob_291_v3 P, ob_292_v3 P, ob_293_v3 P, ob_294_v3 P, ob_295_v3 P, ob_296_v3 P, ob_297_v3 P, ob_298_v3 P, ob_299_v3 P, ob_300_v3 P, ob_301_v3 P, ob_302_v3 P, ob_303_v3 P, ob_304_v3 P, ob_305_v3 P, ob_306_v3 P, ob_307_v3 P, ob_308_v3 P, ob_309_v3 P, ob_310_v3 P, ob_311_v3 P, ob_312_v3 P, ob_313_v3 P, ob_314_v3 P, ob_315_v3 P, ob_316_v3 P, ob_317_v3 P, ob_318_v3 P, ob_319_v3 P, ob_320_v3 P, ob_321_v3 P, ob_322_v3 P, ob_323_v3 P, ob_324_v3 P, ob_325_v3 P, ob_326_v3 P, ob_327_v3 P, ob_328_v3 P, ob_329_v3 P, ob_330_v3 P, ob_331_v3 P, ob_332_v3 P, ob_333_v3 P, ob_334_v3 P, ob_335_v3 P, ob_336_v4 P, ob_337_v4 P, ob_338_v4 P, ob_339_v4 P, ob_340_v4 P, ob_341_v4 P, ob_342_v4 P, ob_343_v4 P, ob_344_v4 P, ob_345_v4 P, ob_346_v4 P, ob_347_v4 P, ob_348_v4 P, ob_349_v4 P, ob_350_v4 P, ob_351_v4 P, ob_352_v4 P, ob_353_v4 P, ob_354_v4 P, ob_355_v4 P, ob_356_v4 P, ob_357_v4 P, ob_358_v4 P, ob_359_v4 P, ob_360_v4 P, ob_361_v4 P, ob_362_v4 P, ob_363_v4 P, ob_364_v4 P, ob_365_v4 P, ob_366_v4 P, ob_367_v4 P, ob_368_v4 P, ob_369_v4 P, ob_370_v4 P, ob_371_v4 P, ob_372_v4 P, ob_373_v4 P, ob_374_v4 P, ob_375_v4 P, ob_376_v4 P, ob_377_v4 P, ob_378_v4 P, ob_379_v4 P, ob_380_v4 P, ob_381_v4 P, ob_382_v4 P, ob_383_v4 P, ob_384_v4 P, ob_385_v4 P, ob_386_v4 P, ob_387_v4 P, ob_388_v4 P, ob_389_v4 P], (boot_heap P).life⟩
noncomputable def part_1 : List Stmt := body0.take 7
noncomputable def part_2 : List Stmt := (body0.drop 7).take 15
noncomputable def part_3 : List Stmt := (body0.drop 22).take 22
noncomputable def part_4 : List Stmt := (body0.drop 44)
theorem parts0 : body0 = part_1 ++ (part_2 ++ (part_3 ++ (part_4 ++ []))) := by kernel_rfl
theorem run_0 (w : World) (os : OsState) : topGo treeTable PySem.Challenge.pw_pq0630_01 w 11 ann0 12 ⟨boot_heap w.params, Array.mk [], boot_drawn, boot_toks, os⟩ (topStub PySem.Challenge.pw_pq0630_01) = some ((st_v0 w os).abs, ⟨denote treeTable code0, code0, pos0, [topFrame pos0]⟩) := by kernel_rfl
theorem run_b (w : World) (os : OsState) : segRun treeTable PySem.Challenge.pw_pq0630_01 w 11 ann0 1 1 (st_v0 w os).abs (blockOf body0 env0 code0 pos0 [topFrame pos0]) = some (.next, (st_v0 w os).abs, code0, pos0) := by kernel_rfl
theorem run_1 (w : World) (os : OsState) : segRunT treeTable PySem.Challenge.pw_pq0630_01 w 11 ann0 1 793 (st_v0 w os) (piecesOf part_1 env0 code0 ⟨0, 0, 0, 0⟩ [topFrame pos0]) = some (.next, st_v1 w os, code0, ⟨18, 0, 29, 16⟩) := by
  rw [PySem.W.Fast.te10110043849684766642, PySem.W.Fast.te14364793385576792824]
  kernel_rfl
theorem run_2 (w : World) (os : OsState) : segRunT treeTable PySem.Challenge.pw_pq0630_01 w 11 ann0 1 679 (st_v1 w os) (piecesOf part_2 env0 code0 ⟨18, 0, 29, 16⟩ [topFrame pos0]) = some (.next, st_v2 w os, code0, ⟨94, 0, 117, 16⟩) := by
  rw [PySem.W.Fast.te10110043849684766642, PySem.W.Fast.te14364793385576792824]
  kernel_rfl
theorem run_3 (w : World) (os : OsState) : segRunT treeTable PySem.Challenge.pw_pq0630_01 w 11 ann0 1 617 (st_v2 w os) (piecesOf part_3 env0 code0 ⟨94, 0, 117, 16⟩ [topFrame pos0]) = some (.next, st_v3 w os, code0, ⟨212, 0, 216, 35⟩) := by
  rw [PySem.W.Fast.te10110043849684766642, PySem.W.Fast.te14364793385576792824]
  kernel_rfl
theorem run_4 (w : World) (os : OsState) : segRunT treeTable PySem.Challenge.pw_pq0630_01 w 11 ann0 1 265 (st_v3 w os) (piecesOf part_4 env0 code0 ⟨212, 0, 216, 35⟩ [topFrame pos0]) = some (.next, st_v4 w os, code0, ⟨268, 0, 282, 72⟩) := by
  rw [PySem.W.Fast.te10110043849684766642, PySem.W.Fast.te14364793385576792824]
  kernel_rfl
noncomputable abbrev sF (w : World) (os : OsState) : Shared := ⟨heap_f w.params, Array.mk [], boot_drawn, 715, os⟩
theorem run_f (w : World) (os : OsState) : topRun treeTable PySem.Challenge.pw_pq0630_01 w 11 ann0 2 (st_v4 w os).abs ⟨doneF .next, code0, ⟨268, 0, 282, 72⟩, [topFrame pos0]⟩ = some (sF w os) := by kernel_rfl
theorem run_gen {tb : String → Option Builtin} {p : Program} {w : World} {n₀ : Nat} {ann : Option Value} {env : Env} {q : Pos} {b : List Stmt} {np nb n1 n2 n3 n4 nf : Nat} {sz r : Shared} {s0 s1 s2 s3 s4 : SharedT} {t : Thread} {l1 l2 l3 l4 : List Stmt} {c : Code} {pz p0 p1 p2 p3 p4 : Pos}
    (hb : b = l1 ++ (l2 ++ (l3 ++ (l4 ++ [])))) (hc : c = .body b env)
    (h0 : topGo tb p w n₀ ann np sz t = some (s0.abs, ⟨denote tb c, c, pz, [topFrame q]⟩))
    (hk : segRun tb p w n₀ ann 1 nb s0.abs (blockOf b env c pz [topFrame q]) = some (.next, s0.abs, c, p0))
    (h1 : segRunT tb p w n₀ ann 1 n1 s0 (piecesOf l1 env c p0 [topFrame q]) = some (.next, s1, c, p1))
    (h2 : segRunT tb p w n₀ ann 1 n2 s1 (piecesOf l2 env c p1 [topFrame q]) = some (.next, s2, c, p2))
    (h3 : segRunT tb p w n₀ ann 1 n3 s2 (piecesOf l3 env c p2 [topFrame q]) = some (.next, s3, c, p3))
    (h4 : segRunT tb p w n₀ ann 1 n4 s3 (piecesOf l4 env c p3 [topFrame q]) = some (.next, s4, c, p4))
    (hf : topRun tb p w n₀ ann nf s4.abs ⟨doneF .next, c, p4, [topFrame q]⟩ = some r) : topRun tb p w n₀ ann (np + (nb + (n1 + (n2 + (n3 + (n4 + (nf))))))) sz t = some r := by
  subst hc
  refine go_top h0 (piece_block hk ?_)
  have k := piece_app (segRun_of h1) (piece_app (segRun_of h2) (piece_app (segRun_of h3) (piece_app (segRun_of h4) (piece_nil hf))))
  rw [← hb] at k
  exact k
theorem ran (w : World) (os : OsState) : topRun treeTable PySem.Challenge.pw_pq0630_01 w 11 ann0 (12 + (1 + (793 + (679 + (617 + (265 + (2))))))) ⟨boot_heap w.params, Array.mk [], boot_drawn, boot_toks, os⟩ (topStub PySem.Challenge.pw_pq0630_01) = some (sF w os) := run_gen parts0 rfl (run_0 w os) (run_b w os) (run_1 w os) (run_2 w os) (run_3 w os) (run_4 w os) (run_f w os)
theorem size0 (w : World) : ((boot_heap w.params).isNs mainGlobals && (Array.mk [] : Array GenState).size == 0, (boot_heap w.params).objs.size, (boot_heap w.params).nsMap mainGlobals "__annotations__") = (true, 11, ann0) := by kernel_rfl
theorem look_kept (w : World) (os : OsState) : (staticsOk (importedModules PySem.Challenge.pw_pq0630_01.main.body) (boot_heap w.params) (heap_f w.params) && namesBound PySem.Challenge.pw_pq0630_01 (heap_f w.params) && gensDone (sF w os) && laidKept (boot_heap w.params) (heap_f w.params)) = true := by
  rw [PySem.W.Fast.te5923862056798008813]
  kernel_rfl
theorem look_seen (w : World) (os : OsState) : seen ((recsOf hd.view_39).map (·.name)) (ownsOf hd.view_39) [] { sF w os with gens := #[] } = expectedOf hd.view_39 := by
  unfold expectedOf
  rw [PySem.W.Fast.te3399658132070893891, PySem.W.Fast.te5991557255702980513, PySem.W.Fast.te5160383126252970620]
  kernel_rfl
theorem look_tabs (w : World) (os : OsState) : tabsOk hd.view_39 (sF w os) = true := by
  rw [PySem.W.Fast.te479339242167458305]
  kernel_rfl
theorem look_blt (w : World) (os : OsState) : (sF w os).heap.bltView = bltViewBooted := by
  kernel_rfl
theorem look_acc (w : World) (os : OsState) : ((sF w os).heap.accountedOkI (importedModules PySem.Challenge.pw_pq0630_01.main.body) && (sF w os).heap.isNs mainGlobals && (sF w os).heap.isNs builtinsNs && tablesOk hd.view_39 (sF w os).heap && (fun s => xlAt hd.view_39 [] s && recOk (RowW.records (OpenRow.toRowW (OpenLaw.row PySem.Challenge.rw_pq0630_01))) s) (sF w os) && (sF w os).gens.size == 0) = true := by
  rw [PySem.W.Fast.te14722251495701143533, PySem.W.Fast.te10994771534591457954, PySem.W.Fast.te5923862056798008813]
  kernel_rfl
theorem look_keys (w : World) (os : OsState) : (sF w os).heap.keysOk (looseW hd.view_39 [PySem.Str.ofString "LedgerError"]) ((recsOf hd.view_39).map (·.name)) ((litsOf hd.view_39).map (·.1)) ((clssOf hd.view_39 (looseW hd.view_39 [PySem.Str.ofString "LedgerError"])).map (·.name)) = true := by
  rw [PySem.W.Fast.te10880121769531294198, PySem.W.Fast.te821141287760084731, PySem.W.Fast.te3399658132070893891, PySem.W.Fast.te7409074990110511671, PySem.W.Fast.te13664370479719496447]
  kernel_rfl
theorem look_pin (w : World) (os : OsState) : pinSeenD hd.view_39 (drecsOf hd.view_39) (sF w os) = pinGoodD (drecsOf hd.view_39) := by
  rw [PySem.W.Fast.te16090120013241838585, PySem.W.Fast.te3247288618530077131]
  kernel_rfl
theorem look_ple (w : World) (os : OsState) : plainSeenE hd.view_39 (looseW hd.view_39 [PySem.Str.ofString "LedgerError"]) (sF w os) = plainGoodE hd.view_39 (looseW hd.view_39 [PySem.Str.ofString "LedgerError"]) := by
  unfold plainGoodE
  rw [PySem.W.Fast.te821141287760084731, PySem.W.Fast.te2386780881361962483, PySem.W.Fast.te210736558901404530]
  kernel_rfl
theorem look_pld (w : World) (os : OsState) : plainSeenD hd.view_39 [PySem.Str.ofString "LedgerError"] (sF w os) = plainGoodD hd.view_39 [PySem.Str.ofString "LedgerError"] := by
  unfold plainGoodD
  rw [PySem.W.Fast.te11698064438423848299, PySem.W.Fast.te4354255287344443571]
  kernel_rfl
theorem look_wide (w : World) (os : OsState) : wideSeen hd.view_39 (sF w os) = wideGood hd.view_39 := by
  unfold wideGood
  rw [PySem.W.Fast.te7317090234206586261, PySem.W.Fast.te694669760492028198]
  kernel_rfl
theorem look_cls (w : World) (os : OsState) : clsSeenW hd.view_39 [PySem.Str.ofString "LedgerError"] (sF w os) = clsGoodW hd.view_39 [PySem.Str.ofString "LedgerError"] := by
  unfold clsGoodW
  rw [PySem.W.Fast.te7369524293546568484, PySem.W.Fast.te1571739515156823405]
  kernel_rfl
/-- the looks, joined -/
theorem seen_of {q : Program} {loose : List Str} {mods : List Str} {Xt : Shared → Bool} {s : Shared}
    (a2 : seen ((recsOf q).map (·.name)) (ownsOf q) [] { s with gens := #[] } = expectedOf q) (b1 : tabsOk q s = true) (b2 : s.heap.bltView = bltViewBooted)
    (b3 : (s.heap.accountedOkI mods && s.heap.isNs mainGlobals && s.heap.isNs builtinsNs && tablesOk q s.heap && Xt s && s.gens.size == 0) = true)
    (d1 : s.heap.keysOk (looseW q loose) ((recsOf q).map (·.name)) ((litsOf q).map (·.1)) ((clssOf q (looseW q loose)).map (·.name)) = true) (d2 : pinSeenD q (drecsOf q) s = pinGoodD (drecsOf q))
    (d3 : plainSeenE q (looseW q loose) s = plainGoodE q (looseW q loose)) (d4 : plainSeenD q loose s = plainGoodD q loose) (d5 : wideSeen q s = wideGood q) (d6 : clsSeenW q loose s = clsGoodW q loose) :
    openSeen q loose mods Xt true s = openGood q loose := by
  unfold openSeen openGood
  simp only [Bool.and_eq_true] at b3
  obtain ⟨⟨⟨⟨⟨x1, x2⟩, x3⟩, x4⟩, x5⟩, x6⟩ := b3
  refine Prod.ext a2 (Prod.ext b2 (Prod.ext ?_ (Prod.ext b1 (Prod.ext d2 (Prod.ext d3 (Prod.ext d4 (Prod.ext d5 d6)))))))
  simp only [Bool.and_eq_true, if_true]
  exact ⟨⟨⟨⟨⟨⟨d1, x1⟩, x2⟩, x3⟩, x4⟩, x5⟩, x6⟩
theorem left_lit {p q : Program} {loose : List Str} {Xt : Shared → Bool} {α : Type} {Yf : Shared → α} {Ya : World → α} {N : Nat} {H₀ H₁ : Params → Heap} {gs₀ gs₁ : Array GenState} {d₀ d₁ : Drawn} {k₀ k₁ : Nat} {m₀ : Nat} {ann : Option Value} {M : Nat}
    (open_ : ∀ w : World, (fencedOpening treeTable p w N).map (fun s => (s.heap, s.gens, s.drawn, s.toks)) = some (H₀ w.params, gs₀, d₀, k₀))
    (size : ∀ w : World, ((H₀ w.params).isNs mainGlobals && gs₀.size == 0, (H₀ w.params).objs.size, (H₀ w.params).nsMap mainGlobals "__annotations__") = (true, m₀, ann))
    (run : ∀ (w : World) (os : OsState), topRun treeTable p w m₀ ann M ⟨H₀ w.params, gs₀, d₀, k₀, os⟩ (topStub p) = some ⟨H₁ w.params, gs₁, d₁, k₁, os⟩) (le : Nat.ble M N = true)
    (h1 : ∀ (w : World) (os : OsState), (staticsOk (importedModules p.main.body) (H₀ w.params) (H₁ w.params) && namesBound p (H₁ w.params) && gensDone ⟨H₁ w.params, gs₁, d₁, k₁, os⟩ && laidKept (H₀ w.params) (H₁ w.params)) = true)
    (h2 : ∀ (w : World) (os : OsState), openSeen q loose (importedModules p.main.body) Xt true ⟨H₁ w.params, gs₁, d₁, k₁, os⟩ = openGood q loose)
    (h3 : ∀ (w : World) (os : OsState), Yf ⟨H₁ w.params, gs₁, d₁, k₁, os⟩ = Ya w) : LeftO p q loose Xt Yf Ya N :=
  LeftO.of_pieces open_ size run le (fun w => funext fun os => Prod.ext (h1 w os) (Prod.ext (h2 w os) (h3 w os)))
theorem head_seen (w : World) (os : OsState) : openSeen hd.view_39 [PySem.Str.ofString "LedgerError"] (importedModules PySem.Challenge.pw_pq0630_01.main.body) (fun s => xlAt hd.view_39 [] s && recOk (RowW.records (OpenRow.toRowW (OpenLaw.row PySem.Challenge.rw_pq0630_01))) s) true (sF w os) = openGood hd.view_39 [PySem.Str.ofString "LedgerError"] :=
  seen_of (look_seen w os) (look_tabs w os) (look_blt w os) (look_acc w os) (look_keys w os) (look_pin w os) (look_ple w os) (look_pld w os) (look_wide w os) (look_cls w os)
theorem said_sre : sreFenced PySem.Challenge.pw_pq0630_01.main = true := by
  rw [PySem.W.Fast.te11788848310118352699]
  kernel_rfl
theorem said_names : namesResolve PySem.Challenge.pw_pq0630_01 = true := by
  rw [PySem.W.Fast.te8377067652309620493]
  kernel_rfl
theorem said_vars : readsOut PySem.Challenge.pw_pq0630_01 PySem.Challenge.pw_pq0630_01.main.body "vars" = false := by
  rw [PySem.W.Fast.te13343964577679436407]
  kernel_rfl
theorem said_dir : readsOut PySem.Challenge.pw_pq0630_01 PySem.Challenge.pw_pq0630_01.main.body "dir" = false := by
  rw [PySem.W.Fast.te13343964577679436407]
  kernel_rfl
theorem said_locals : readsOut PySem.Challenge.pw_pq0630_01 PySem.Challenge.pw_pq0630_01.main.body "locals" = false := by
  rw [PySem.W.Fast.te13343964577679436407]
  kernel_rfl
theorem said_bare : (["vars", "dir", "locals"] : List Str).filter (readsOut PySem.Challenge.pw_pq0630_01 PySem.Challenge.pw_pq0630_01.main.body) = [] := by
  simp only [List.filter_cons, List.filter_nil, said_vars, said_dir, said_locals, Bool.false_eq_true, if_false]
theorem said_road : noRoadLSs { strict := !(importedModules PySem.Challenge.pw_pq0630_01.main.body).all cThrough.contains, foot := none, bare := (["vars", "dir", "locals"] : List Str).filter (readsOut PySem.Challenge.pw_pq0630_01 PySem.Challenge.pw_pq0630_01.main.body) } PySem.Challenge.pw_pq0630_01.main.body = true := by
  rw [said_bare, PySem.W.Fast.te8326940854005059898]
  kernel_rfl
theorem said_meet : (namesMeet PySem.Challenge.pw_pq0630_01 PySem.Challenge.pw_pq0630_01.main.body fun _ n => attrL n) = true := by
  rw [PySem.W.Fast.te17119622794617984870]
  kernel_rfl
theorem said_look : looksOpen PySem.Challenge.pw_pq0630_01 = true := by
  unfold looksOpen
  exact look_both (look_both (look_both (look_both (look_both said_sre (by kernel_rfl)) said_names) (by kernel_rfl)) said_road) said_meet
theorem said_row : (PySem.Challenge.rw_pq0630_01.row).wellSaid = true := by
  unfold OpenRow.wellSaid OpenRow.partSaid
  exact look_both (look_both (look_both (look_both (look_both (look_both (look_both (look_both (look_both (look_both (look_both (look_both (look_both (look_both (look_both said_look (by kernel_rfl)) (by kernel_rfl)) (by kernel_rfl)) (by kernel_rfl)) (by kernel_rfl)) (by kernel_rfl)) (by kernel_rfl)) (by kernel_rfl)) (by kernel_rfl)) (by kernel_rfl)) (by kernel_rfl)) (by kernel_rfl)) (by kernel_rfl)) (by kernel_rfl)) (by kernel_rfl)
theorem said_a : (namesMeet (PySem.Challenge.rw_pq0630_01).prog (PySem.Challenge.rw_pq0630_01).above (fun _ n => !(PySem.Challenge.rw_pq0630_01).own.contains n)) = true := by
  rw [PySem.W.Fast.te17119622794617984870]
  kernel_rfl
theorem said_f : noRoadLSs { strict := true, foot := some (PySem.Challenge.rw_pq0630_01).bound', writes := (PySem.Challenge.rw_pq0630_01).writes, may := (PySem.Challenge.rw_pq0630_01).may } (PySem.Challenge.rw_pq0630_01).footing = true := by
  rw [PySem.W.Fast.te8326940854005059898]
  kernel_rfl
theorem said_m : (namesMeet (PySem.Challenge.rw_pq0630_01).prog (PySem.Challenge.rw_pq0630_01).footing (fun sc n => (!(["type", "isinstance", "issubclass", "getattr", "hasattr"] : List Str).contains n || sc.names.lookup n == some .globalImplicit) &&
    ((PySem.Challenge.rw_pq0630_01).may != some n || sc.kind == .module || sc.names.lookup n == some .globalImplicit))) = true := by
  rw [PySem.W.Fast.te17119622794617984870]
  kernel_rfl
theorem said_x : (namesMeet (PySem.Challenge.rw_pq0630_01).prog (PySem.Challenge.rw_pq0630_01).footing fun sc n => sc.kind == .module || sc.names.lookup n != some .globalExplicit) = true := by
  rw [PySem.W.Fast.te17119622794617984870]
  kernel_rfl
theorem said_b : ((PySem.Challenge.rw_pq0630_01).bound'.all (fun n => !builtinNamed n || (PySem.Challenge.rw_pq0630_01).about == [n] || !(PySem.Challenge.rw_pq0630_01).reads n)) = true := by kernel_rfl
theorem said_c : noClassBlock (PySem.Challenge.rw_pq0630_01).prog (PySem.Challenge.rw_pq0630_01).footing = true := by
  rw [PySem.W.Fast.te8179353310426384613]
  kernel_rfl
theorem said_l : (PySem.Challenge.rw_pq0630_01).footing.all footLine = true := by
  rw [PySem.W.Fast.te10501279942588096481]
  kernel_rfl
theorem said_i : (PySem.Challenge.rw_pq0630_01).namesIt = true := by
  rw [PySem.W.Fast.te16286561074155671207]
  kernel_rfl
theorem said0 : OpenLaw.wellSaid PySem.Challenge.rw_pq0630_01 = true := by
  unfold OpenLaw.wellSaid
  exact look_both (look_both (look_both (look_both (look_both (look_both (look_both (look_both (look_both (look_both (look_both (look_both (look_both (look_both (look_both (look_both (look_both (look_both said_row (by kernel_rfl)) said_l) said_c) (by kernel_rfl)) (by kernel_rfl)) said_f) (by kernel_rfl)) said_i) (by kernel_rfl)) said_b) (by kernel_rfl)) (by kernel_rfl)) said_m) (by kernel_rfl)) (by kernel_rfl)) (by kernel_rfl)) said_a) said_x
end Ahead
local macro_rules | `(tactic| o_law) => `(tactic| refine holds_law Ahead.said0 fun said => ?_)
local macro_rules | `(tactic| o_head $H) => `(tactic| (refine holds_open (q := hd.view_39) (loose := [PySem.Str.ofString "LedgerError"]) (Xt := fun s => xlAt hd.view_39 [] s && recOk (RowW.records (OpenRow.toRowW (OpenLaw.row PySem.Challenge.rw_pq0630_01))) s) (XP := XL hd.view_39 []) (Yf := Hook.obs $H) (Ya := Hook.val $H) (YP := Hook.says $H) (N := 4826) (Ahead.left_lit (p := PySem.Challenge.pw_pq0630_01) (H₀ := boot_heap) (H₁ := Ahead.heap_f) Ahead.opened Ahead.size0 Ahead.ran (by decide +kernel) Ahead.look_kept Ahead.head_seen ?hl) (Hook.of $H) (Hook.keeps $H) (fun s e => xl_of s (Bool.and_eq_true_iff.mp e).1) XL.keeps (by rfl) (by rfl) (by rfl) (fun s e => recFacts_of (Bool.and_eq_true_iff.mp e).2) (by rfl) (by first | assumption | decide +kernel) (by decide +kernel) ⟨rfl, rfl, rfl, rfl, rfl, by decide +kernel⟩ ?hw ?hc; (case hl => (intro w os; kernel_rfl))))
open_top hd for PySem.Challenge.rw_pq0630_01

theorem walk_off : True := by
  w_top off
  exact True.intro
theorem names_ok : PySem.W.namesOk hd.view_39 (looseW hd.view_39 [PySem.Str.ofString "LedgerError"]) (namesW hd.view_39 [PySem.Str.ofString "LedgerError"]) = true := by kernel_rfl
theorem imports_none : PyProof.Rows.importsNone hd.view_39 = true := by kernel_rfl
end
open PySem PySem.W PyProof.Rows PySem.Calls PySem.Spec
section
open PySem PySem.W PyProof.Rows PySem.Calls
abbrev aroundOf (dp un : Nat) (gd : Option (List Code)) (env : Env) (outer : List Env) : Around := { handled := none, depth := dp, frames := some (env :: outer), guards := gd, units := un }
abbrev topOf (mean : ExcName → Option Value) (mg mb : Str → Option Value) (h : Heap) : Prop := Top hd.view_39 (looseW hd.view_39 [Str.ofString "LedgerError"]) mean mg mb h
/-- a def's contract: the ledger it is handed (sub), what it hands back and what it leaves of the ledger (Post); every other object of the heap stands as it stood -/
def TellC (w : World) (f : Addr) (dd du : Nat) (vs : List Value) (sub : List (Addr × Obj)) (Rd : Heap → Prop) (Post : List (Addr × Obj) → Value → Prop) : Prop :=
  ∀ (mean : ExcName → Option Value) (mg mb : Str → Option Value) (dp un : Nat) (gd : Option (List Code)) (env : Env) (outer : List Env) (A₀ : Around) (base h₀ : Heap) (L : Addr) (m : Str → Option Value) (s : Shared)
    (Q E : Value → Shared → Prop),
    Below A₀ base outer h₀ → Fr h₀ L s.heap m → (hd.heap_1 w.params).In h₀ → News h₀ L s.heap sub → topOf mean mg mb h₀ → env.frame = some L → env.scope.kind = .function →
    Rd (hideAll s.heap (sub.map (·.1))) → dp + dd < recursionLimit → un + du < cLine →
    (∀ r news' h' tk', Fr h₀ L h' m → News h₀ L h' news' → Post news' r →
      (∀ b o, s.heap.get? b = some o → b ∉ sub.map (·.1) → h'.get? b = some o) →
      (∀ p ∈ news', ∀ b o, s.heap.get? b = some o → b ∉ sub.map (·.1) → p.1 ≠ b) → Q r { s with heap := h', toks := tk' }) →
    wpAny (model PySem.Challenge.rw_pq0630_01.row.prog w) (aroundOf dp un gd env outer) (call (.ref f) vs) Q E s
/-- the end of a called body -/
def EndC (g : Heap) (s : Shared) (Post : List (Addr × Obj) → Value → Prop) (v : Value) (s' : Shared) : Prop :=
  ∃ L' m' news' h' tk', s' = { s with heap := h', toks := tk' } ∧ Fr g L' h' m' ∧ News g L' h' news' ∧ Post news' v
theorem endC {g : Heap} {s : Shared} {Post : List (Addr × Obj) → Value → Prop} {v : Value} {L' : Addr} {m' : Str → Option Value} {news' : List (Addr × Obj)} {h' : Heap} {tk' : Nat}
    (F : Fr g L' h' m') (N : News g L' h' news') (p : Post news' v) : EndC g s Post v { s with heap := h', toks := tk' } := ⟨L', m', news', h', tk', rfl, F, N, p⟩
theorem endC_sub {g : Heap} {s : Shared} {Post : List (Addr × Obj) → Value → Prop} {v : Value} {L' : Addr} {m' : Str → Option Value} {news' : List (Addr × Obj)} {h' : Heap} {tk' : Nat} (some' : List (Addr × Obj))
    (F : Fr g L' h' m') (N : News g L' h' news') (hs : ∀ p ∈ some', p ∈ news') (p : Post some' v) : EndC g s Post v { s with heap := h', toks := tk' } := ⟨L', m', some', h', tk', rfl, F, fun q hq => N q (hs q hq), p⟩
theorem tellC_of {w : World} {f : Addr} {dd du : Nat} {vs : List Value} {sub : List (Addr × Obj)} {Rd : Heap → Prop} {Post : List (Addr × Obj) → Value → Prop}
    {name qual : Str} {params : Arguments} {body : List Stmt} {scope : Scope} {dV kV doc pm cdv ct oc : Value} {an od : Option Addr} {osl : Array (Option Value)} {binds : List (Str × Value)}
    (ho : (hd.heap_1 w.params).lookup f = some ⟨oc, od, .func (fnOf name qual params body scope dV kV doc pm an cdv ct), osl⟩) (hcd : codeIn (hd.heap_1 w.params) cdv qual = true)
    (hdd : 0 < dd) (hbind : ∀ s, BindsTo s (fnOf name qual params body scope dV kV doc pm an cdv ct) ⟨vs, []⟩ binds) (hloc : ∀ y ∈ binds, scope.names.lookup y.1 = some .local)
    (hco : scope.isCoroutine = false) (hgen : scope.isGenerator = false) (hk : scope.kind = .function) (hcell : ∀ x ∈ scope.names, x.2 ≠ .cell)
    (h : ∀ (mean : ExcName → Option Value) (mg mb : Str → Option Value) (dp un : Nat) (gd : Option (List Code)) (env : Env) (outer : List Env) (base g : Heap) (L' : Addr) (h₁ : Heap) (s : Shared),
      Fr g L' h₁ (fun y => binds.reverse.lookup y) → News g L' h₁ sub → Below (aroundOf dp un gd env outer) base (env :: outer) g → (hd.heap_1 w.params).In g → Top hd.view_39 (looseW hd.view_39 [Str.ofString "LedgerError"]) mean mg mb g → (∀ p ∈ sub, p.1 < L') → Rd g →
      dp + dd < recursionLimit → un + du < cLine →
      wpAny (model PySem.Challenge.rw_pq0630_01.row.prog w) ((aroundOf dp un gd env outer).deeper (envOf qual scope L' f cdv)) (execs body (envOf qual scope L' f cdv))
        (fun fl s' => EndC g s Post (match fl with | .ret v => v | _ => .none) s') (fun _ _ => False) { s with heap := h₁, toks := s.toks + binds.length }) :
    TellC w f dd du vs sub Rd Post := by
  intro mean mg mb dp un gd env outer A₀ base h₀ L m s Q E B F X N T hf hke hR hdp hun hret
  refine wpAny_call ?_
  obtain ⟨FG, BG, st, _⟩ := groundX (A := aroundOf dp un gd env outer) (R := fun r s' => match r with | .ok (.ret v) => Q v s' | .ok _ => False | .error e => E e s') B F N rfl hf hke
  refine codeAny_call_def (fd := fnOf name qual params body scope dV kV doc pm an cdv ct) (body := body) (binds := binds) (by show dp < recursionLimit; omega) ((X.keeps F.keep) _ _ ho) rfl (T.nolimit.keeps F.keep) (codeRec_of (X.keeps F.keep) hcd) rfl (hbind s) hcell hloc (fun h₁ hns hk₁ => ?_) hco hgen hk
  have hg : ∀ b o, s.heap.get? b = some o → b ∉ sub.map (·.1) → (hideAll s.heap (sub.map (·.1))).get? b = some o := fun b o e n => hideAll_get _ e n
  refine wpAny_mono (h mean mg mb dp un gd env outer base _ s.heap.objs.size h₁ s ⟨hns, fun b o e => hk₁ b o (of_hideAll _ e), Nat.le_of_eq (hideAll_size _ _)⟩
    (fun p hp => ⟨hk₁ _ _ (N p hp).1, Nat.ne_of_lt (Heap.lt_size (N p hp).1), hideAll_none _ (List.mem_map_of_mem hp)⟩) BG (X.keeps st) (T.keeps st) (fun p hp => Heap.lt_size (N p hp).1) hR hdp hun) (fun fl s' hl => ?_) (fun _ _ x => x.elim)
  obtain ⟨L', m', news', h', tk', rfl, F', N', hp⟩ := hl
  obtain ⟨oL, es, ep, hLg, hLd, hLk, hLf⟩ := FG.ns
  refine hret _ news' h' tk' ⟨⟨oL, es, ep, F'.keep L oL hLg, hLd, hLk, hLf⟩, fun b o e => F'.keep b o (st b o e), F.above⟩ (fun p hp => ⟨(N' p hp).1, fun q => ?_, ?_⟩) hp (fun b o e n => F'.keep b o (hg b o e n)) (fun p hp b o e n q => ?_)
  · have := (N' p hp).2.2; rw [q, hLg] at this; cases this
  · cases q : h₀.get? p.1 with
    | none => rfl
    | some o => have := (N' p hp).2.2; rw [st _ _ q] at this; cases this
  · have := (N' p hp).2.2
    rw [q, hg b o e n] at this
    cases this
/-- using it, the ledger's rest kept: what is handed in, what came of it, and the rest apart from it -/
theorem tellC_use {w : World} {f : Addr} {dd du : Nat} {vs : List Value} {sub : List (Addr × Obj)} {Rd : Heap → Prop} {Post : List (Addr × Obj) → Value → Prop} (C : TellC w f dd du vs sub Rd Post)
    {mean : ExcName → Option Value} {mg mb : Str → Option Value} {dp un : Nat} {gd : Option (List Code)} {env : Env} {outer : List Env} {A₀ : Around} {base h₀ : Heap} {L : Addr} {m : Str → Option Value} {s : Shared} {big : List (Addr × Obj)}
    {Q E : Value → Shared → Prop} (B : Below A₀ base outer h₀) (F : Fr h₀ L s.heap m) (X : (hd.heap_1 w.params).In h₀) (N : News h₀ L s.heap big) (T : topOf mean mg mb h₀) (hf : env.frame = some L) (hk : env.scope.kind = .function)
    (rest : List (Addr × Obj)) (hs : ∀ p ∈ sub, p ∈ big) (hr : ∀ p ∈ rest, p ∈ big) (hd : ∀ p ∈ rest, p.1 ∉ sub.map (·.1)) (hR : Rd (hideAll s.heap (sub.map (·.1)))) (hdp : dp + dd < recursionLimit) (hun : un + du < cLine)
    (h : ∀ r news' h' tk', Fr h₀ L h' m → News h₀ L h' (news' ++ rest) → Post news' r → (∀ p ∈ news', ∀ q ∈ rest, p.1 ≠ q.1) → Q r { s with heap := h', toks := tk' }) :
    wpAny (model PySem.Challenge.rw_pq0630_01.row.prog w) (aroundOf dp un gd env outer) (call (.ref f) vs) Q E s := by
  refine C mean mg mb dp un gd env outer A₀ base h₀ L m s Q E B F X (fun p hp => N p (hs p hp)) T hf hk hR hdp hun fun r news' h' tk' F' N' hp hkeep hoff => ?_
  refine h r news' h' tk' F' (fun p hp => ?_) hp fun p hp q hq => hoff p hp q.1 q.2 (N q (hr q hq)).1 (hd q hq)
  rcases List.mem_append.mp hp with hp | hp
  · exact N' p hp
  · exact ⟨hkeep _ _ (N p (hr p hp)).1 (hd p hp), (N p (hr p hp)).2⟩
/-- using it where what is handed in stands behind the call as it stood -/
theorem tellC_ro {w : World} {f : Addr} {dd du : Nat} {vs : List Value} {sub : List (Addr × Obj)} {Rd : Heap → Prop} {P : List (Addr × Obj) → Value → Prop} (C : TellC w f dd du vs sub Rd (fun news' r => ∃ tl, news' = tl ++ sub ∧ P tl r))
    {mean : ExcName → Option Value} {mg mb : Str → Option Value} {dp un : Nat} {gd : Option (List Code)} {env : Env} {outer : List Env} {A₀ : Around} {base h₀ : Heap} {L : Addr} {m : Str → Option Value} {s : Shared} {big : List (Addr × Obj)}
    {Q E : Value → Shared → Prop} (B : Below A₀ base outer h₀) (F : Fr h₀ L s.heap m) (X : (hd.heap_1 w.params).In h₀) (N : News h₀ L s.heap big) (T : topOf mean mg mb h₀) (hf : env.frame = some L) (hk : env.scope.kind = .function)
    (hs : ∀ p ∈ sub, p ∈ big) (hR : Rd (hideAll s.heap (sub.map (·.1)))) (hdp : dp + dd < recursionLimit) (hun : un + du < cLine)
    (h : ∀ r tl h' tk', Fr h₀ L h' m → News h₀ L h' (tl ++ big) → P tl r → (∀ p ∈ tl, ∀ q ∈ big, q.1 ∉ sub.map (·.1) → p.1 ≠ q.1) → Q r { s with heap := h', toks := tk' }) :
    wpAny (model PySem.Challenge.rw_pq0630_01.row.prog w) (aroundOf dp un gd env outer) (call (.ref f) vs) Q E s := by
  refine C mean mg mb dp un gd env outer A₀ base h₀ L m s Q E B F X (fun p hp => N p (hs p hp)) T hf hk hR hdp hun fun r news' h' tk' F' N' hp hkeep hoff => ?_
  obtain ⟨tl, rfl, hP⟩ := hp
  refine h r tl h' tk' F' (fun p hp => ?_) hP fun p hp q hq hn => hoff p (List.mem_append_left _ hp) q.1 q.2 (N q hq).1 hn
  rcases List.mem_append.mp hp with hp | hp
  · exact N' p (List.mem_append_left _ hp)
  · by_cases hn : p.1 ∈ sub.map (·.1)
    · obtain ⟨q, hq, e⟩ := List.mem_map.mp hn
      have h1 := (N q (hs q hq)).1
      rw [e, (N p hp).1] at h1
      have : p = q := Prod.ext e.symm (Option.some.inj h1)
      rw [this]
      exact N' q (List.mem_append_right _ hq)
    · exact ⟨hkeep _ _ (N p hp).1 hn, (N p hp).2⟩
/-- a tuple of the ledger -/
abbrev tupO (vs : List Value) (n : Nat) : Obj := { cls := .type "tuple", data := .seq vs.toArray n }
/-- what Data() makes -/
structure DataAt where
  D : Addr
  d : Addr
  l1 : Addr
  l2 : Addr
  l3 : Addr
  df : Addr
  dx : Addr
  of' : Obj
  ox : Obj
  t1 : Tok
  t2 : Tok
  t3 : Tok
  t4 : Tok
  t5 : Tok
  t6 : Tok
  t7 : Tok
abbrev ent (w : World) (x : PySem.Str) (t : Tok) (v : Value) : DictEntry := { hash := PyData.keyHash w.params x, key := .str x t, val := v }
abbrev dataLed (w : World) (x : DataAt) : List (Addr × Obj) :=
  [(x.dx, x.ox), (x.l3, listOf #[] 0), (x.df, x.of'), (x.l2, listOf #[] 0), (x.l1, listOf #[] 0), (x.D, instObj 86 x.d),
    (x.d, dictOf [ent w (Str.ofString "working") x.t1 (.ref x.l1), ent w (Str.ofString "linkage") x.t2 (.ref x.l2), ent w (Str.ofString "files") x.t3 (.ref x.df), ent w (Str.ofString "sorts") x.t4 (.ref x.l3),
      ent w (Str.ofString "size") x.t5 (.int 0 x.t6), ent w (Str.ofString "indexes") x.t7 (.ref x.dx)] 6)]
structure DataOk (w : World) (x : DataAt) : Prop where
  a1 : (x.df == sysModules) = false
  a2 : Obj.IsDictOf (PySem.strKind PySem.Challenge.rw_pq0630_01.row.prog w) x.of' []
  a3 : Obj.IsDictOf (intKind PySem.Challenge.rw_pq0630_01.row.prog w) x.of' []
  b1 : (x.dx == sysModules) = false
  b2 : Obj.IsDictOf (PySem.strKind PySem.Challenge.rw_pq0630_01.row.prog w) x.ox []
  b3 : Obj.IsDictOf (intKind PySem.Challenge.rw_pq0630_01.row.prog w) x.ox []
end
section
open PySem PySem.W PyProof.Rows PySem.Calls
section
variable {prog : Program} {w : World} {A : Around} {E : Value → Shared → Prop} {s : Shared} {env : Env} {h₀ : Heap} {x : PySem.Str} {body : List Stmt} {Q : Flow → Shared → Prop} {m : PySem.Str → Option Value} {news : List (Addr × Obj)}
theorem iterU_tuple_nil {t : Addr} {n : Nat} (hh : A.handled = none) (F : Fr h₀ env.locals s.heap m) (N : News h₀ env.locals s.heap news) (hm : (t, tupO [] n) ∈ news)
    (done : ∀ h tk, Fr h₀ env.locals h m → News h₀ env.locals h news → Q .next { s with heap := h, toks := tk }) :
    wpAny (model prog w) A (pyIter (.ref t)) (fun it s₂ => LoopAtU prog w A h₀ env x body Q E it s₂) E s := by
  have ht : IsTup s.heap t #[] := News.isTup N hm
  have htL : t ≠ env.locals := (N _ hm).2.1
  have ht' : s.heap.IsTuple t #[] := ht
  refine wpAny_pyIter_tuple ht' ?_
  have hlt : t < s.heap.objs.size := by obtain ⟨o, ho, _⟩ := ht; exact Heap.lt_size ho
  have hne : t ≠ s.heap.objs.size := Nat.ne_of_lt hlt
  have W := Walks.tuple (prog := prog) (w := w) hh s.heap.objs.size t hne #[]
  have hnew := next_is_new F
  refine ⟨_, _, _, 0, _, _, m, news, fun _ m' n' => m' = m ∧ n' = news, rfl, W, ?_, ?_, ?_, ⟨⟨_, Heap.get?_push_size _ rfl, rfl, rfl⟩, ?_⟩, F.push _, (fun p hp => ⟨Heap.get?_push_of_some _ (N p hp).1, (N p hp).2⟩), ⟨rfl, rfl⟩, ?_, ?_⟩
  · intro hmm
    rcases List.mem_cons.mp hmm with e | hmm
    · exact absurd F.ns.lt (e ▸ Nat.lt_irrefl _)
    · exact htL (List.mem_singleton.mp hmm).symm
  · intro b hb
    rw [List.mem_singleton.mp hb]
    exact hnew
  · intro p hp hI
    exact absurd (Heap.lt_size (N p hp).1) ((List.mem_singleton.mp hI) ▸ Nat.lt_irrefl _)
  · obtain ⟨o, ho, r⟩ := ht
    exact ⟨o, Heap.get?_push_of_some _ ho, r⟩
  · intro i v m₁ news₁ s₁ own hi
    exact absurd hi (Nat.not_lt_zero _)
  · rintro h' tk m' news' F' N' _ ⟨rfl, rfl⟩
    exact done h' tk F' N'
theorem iterV_tuple_nil {t : Addr} {n : Nat} (hh : A.handled = none) (F : Fr h₀ env.locals s.heap m) (N : News h₀ env.locals s.heap news) (hm : (t, tupO [] n) ∈ news)
    (done : ∀ h tk, Fr h₀ env.locals h m → News h₀ env.locals h news → Q .next { s with heap := h, toks := tk }) :
    wpAny (model prog w) A (pyIter (.ref t)) (fun it s₂ => LoopAtV prog w A h₀ env x body Q E it s₂) E s := by
  have ht : IsTup s.heap t #[] := News.isTup N hm
  have htL : t ≠ env.locals := (N _ hm).2.1
  have ht' : s.heap.IsTuple t #[] := ht
  refine wpAny_pyIter_tuple ht' ?_
  have hlt : t < s.heap.objs.size := by obtain ⟨o, ho, _⟩ := ht; exact Heap.lt_size ho
  have hne : t ≠ s.heap.objs.size := Nat.ne_of_lt hlt
  have W := Walks.tuple (prog := prog) (w := w) hh s.heap.objs.size t hne #[]
  have hnew := next_is_new F
  refine ⟨_, _, _, 0, _, _, m, news, fun _ m' n' => m' = m ∧ n' = news, rfl, W, ?_, ?_, ?_, ⟨⟨_, Heap.get?_push_size _ rfl, rfl, rfl⟩, ?_⟩, F.push _, (fun p hp => ⟨Heap.get?_push_of_some _ (N p hp).1, (N p hp).2⟩), ⟨rfl, rfl⟩, ?_, ?_⟩
  · intro hmm
    rcases List.mem_cons.mp hmm with e | hmm
    · exact absurd F.ns.lt (e ▸ Nat.lt_irrefl _)
    · exact htL (List.mem_singleton.mp hmm).symm
  · intro b hb
    rw [List.mem_singleton.mp hb]
    exact hnew
  · intro p hp hI
    exact absurd (Heap.lt_size (N p hp).1) ((List.mem_singleton.mp hI) ▸ Nat.lt_irrefl _)
  · obtain ⟨o, ho, r⟩ := ht
    exact ⟨o, Heap.get?_push_of_some _ ho, r⟩
  · intro i v m₁ news₁ s₁ own _ hi
    exact absurd hi (Nat.not_lt_zero _)
  · rintro h' tk m' news' F' N' _ ⟨rfl, rfl⟩
    exact done h' tk F' N'
theorem iterV_dict_nil {d : Addr} {o : Obj} (hh : A.handled = none) (F : Fr h₀ env.locals s.heap m) (N : News h₀ env.locals s.heap news) (hm : (d, o) ∈ news) (hd : o.IsDictOf (PySem.strKind prog w) []) (lo : (d == sysModules) = false)
    (done : ∀ h tk, Fr h₀ env.locals h m → News h₀ env.locals h news → Q .next { s with heap := h, toks := tk }) :
    wpAny (model prog w) A (pyIter (.ref d)) (fun it s₂ => LoopAtV prog w A h₀ env x body Q E it s₂) E s := by
  obtain ⟨ep, ha⟩ := KdkAt.of hd
  have hD := ha.dictAt (N _ hm).1
  have hL : d ≠ env.locals := (N _ hm).2.1
  refine wpAny_pyIter_dict lo hD ?_
  have hlt : d < s.heap.objs.size := Heap.lt_size (N _ hm).1
  have hne : d ≠ s.heap.objs.size := Nat.ne_of_lt hlt
  have W := Walks.dictKeys (prog := prog) (w := w) (knd := PySem.strKind prog w) hh s.heap.objs.size d hne [] ep
  have hnew := next_is_new F
  refine ⟨_, _, _, 0, _, _, m, news, fun _ m' n' => m' = m ∧ n' = news, rfl, W, ?_, ?_, ?_, ⟨⟨_, Heap.get?_push_size _ rfl, rfl, rfl⟩, ?_⟩, F.push _, (fun p hp => ⟨Heap.get?_push_of_some _ (N p hp).1, (N p hp).2⟩), ⟨rfl, rfl⟩, ?_, ?_⟩
  · intro hmm
    rcases List.mem_cons.mp hmm with e | hmm
    · exact absurd F.ns.lt (e ▸ Nat.lt_irrefl _)
    · exact hL (List.mem_singleton.mp hmm).symm
  · intro b hb
    rw [List.mem_singleton.mp hb]
    exact hnew
  · intro p hp hI
    exact absurd (Heap.lt_size (N p hp).1) ((List.mem_singleton.mp hI) ▸ Nat.lt_irrefl _)
  · exact hD.at' fun o' e => Heap.get?_push_of_some _ e
  · intro i v m₁ news₁ s₁ own _ hi
    exact absurd hi (Nat.not_lt_zero _)
  · rintro h' tk m' news' F' N' _ ⟨rfl, rfl⟩
    exact done h' tk F' N'
end
end
section
open PySem PySem.W PyProof.Rows PySem.Calls PySem.Spec
open PyProof.Rows.LCg
section
variable {prog : Program} {w : World} {A : Around} {E : Value → Shared → Prop} {s : Shared} {h₀ : Heap} {L : Addr} {m : PySem.Str → Option Value} {env : Env}
/-- a list comprehension over nothing: its block -/
theorem block_nil {elt iter target : Expr} {ifs : List Expr} {scope : Scope} {cl : List (PySem.Str × Addr)} {pos : Pos} {s₂ : Shared} {I ax : Addr} {news : List (Addr × Obj)} {RR : Value → Addr → Result → Shared → Prop}
    (hh : A.handled = none) (hne : ax ≠ I) (hcell : ∀ y ∈ scope.names, y.2 ≠ .cell) (hkind : scope.kind = .function) (hst : s₂.heap.IsListIter I ax 0 ∧ s₂.heap.IsList ax #[])
    (F : Fr h₀ L s₂.heap m) (N : News h₀ L s₂.heap news) (hIL : L ≠ I) (hI₀ : h₀.get? I = none) (off : ∀ p ∈ news, p.1 ≠ I)
    (ht : ∀ it v, letOwnedTupleGo target it v = pure ())
    (hRR : ∀ D C h tk m', Fr h₀ L h m → News h₀ L h ((D, lst []) :: news) → (∀ p ∈ news, p.1 ≠ D) → h.Ns C m' → h₀.get? C = none → h₀.get? D = none → C ≠ L → D ≠ L → C ≠ D → (∀ p ∈ news, p.1 ≠ C) → RR (.ref D) C (.ok .next) { s₂ with heap := h, toks := tk }) :
    wpAny (model prog w) A (newList []) (fun acc s₃ => wpAny (model prog w) A (newFunctionEnv scope env.globals cl [] env.qual none .none (some env)) (fun cenv s₄ =>
      codeAny (model prog w) A (.compStart (.ListComp elt [⟨target, iter, ifs, 0⟩] scope pos) 0 (.ref I) acc { cenv with scope := relabel scope env }) (RR acc cenv.locals) s₄) E s₃) E s₂ := by
  have W := Walks.list (prog := prog) (w := w) hh I ax hne #[]
  refine wpAny_newObj_type (wpAny_newFunctionEnv hcell (by intro y hy; simp at hy) (fun h₁ hns₁ hsb₁ => ?_) hkind)
  dsimp only at hns₁ hsb₁ ⊢
  generalize hH2 : s₂.heap.push { cls := .type "list", dict := none, data := .seq ([] : List Value).toArray } = H2 at hns₁ hsb₁ ⊢
  have hC : H2.objs.size = s₂.heap.objs.size + 1 := by rw [← hH2, Heap.size_push]
  have hDC : s₂.heap.objs.size ≠ H2.objs.size := by rw [hC]; exact Nat.ne_of_lt (Nat.lt_succ_self _)
  have below : ∀ b, b < s₂.heap.objs.size → b ≠ H2.objs.size ∧ b ≠ s₂.heap.objs.size := fun b hb => ⟨by rw [hC]; exact Nat.ne_of_lt (Nat.lt_succ_of_lt hb), Nat.ne_of_lt hb⟩
  have hIlt : I < s₂.heap.objs.size := by obtain ⟨_, e, _⟩ := hst.1; exact Heap.lt_size e
  have old : ∀ b o, s₂.heap.get? b = some o → h₁.get? b = some o := fun b o e => hsb₁.extBut b o (below b (Heap.lt_size e)).1 (Heap.get?_push_of_some _ (hH2 ▸ Heap.get?_push_of_some _ e))
  have hacc : h₁.get? s₂.heap.objs.size = some (lst []) := hsb₁.extBut _ _ hDC (Heap.get?_push_of_some _ (hH2 ▸ Heap.get?_push_size _ rfl))
  have hst₁ : h₁.IsListIter I ax 0 ∧ h₁.IsList ax #[] := W.frame 0 _ _ hst fun b _ o e => old b o e
  have fresh : ∀ a, s₂.heap.objs.size ≤ a → s₂.heap.get? a = none := fun a ha => by
    cases e : s₂.heap.get? a with
    | none => rfl
    | some o' => exact absurd (Heap.lt_size e) (Nat.not_lt.mpr ha)
  have fresh₀ : ∀ a, s₂.heap.objs.size ≤ a → h₀.get? a = none := fun a ha => by
    cases e : h₀.get? a with
    | none => rfl
    | some o' => have := F.keep a o' e; rw [fresh a ha] at this; cases this
  have hD₀ : h₀.get? s₂.heap.objs.size = none := fresh₀ _ (Nat.le_refl _)
  have hC₀ : h₀.get? H2.objs.size = none := fresh₀ _ (by rw [hC]; exact Nat.le_succ _)
  have hLlt : L < s₂.heap.objs.size := F.ns.lt
  have hDL : s₂.heap.objs.size ≠ L := Ne.symm (below L hLlt).2
  have hCL : H2.objs.size ≠ L := Ne.symm (below L hLlt).1
  have hCI : I ≠ H2.objs.size := (below I hIlt).1
  have hDI : I ≠ s₂.heap.objs.size := (below I hIlt).2
  have F₁ : Fr h₀ L h₁ m := F.keeps old
  have N₁ : News h₀ L h₁ ((s₂.heap.objs.size, lst []) :: news) := fun p hp => by
    rcases List.mem_cons.mp hp with rfl | hp
    · exact ⟨hacc, hDL, hD₀⟩
    · exact ⟨old _ _ (N p hp).1, (N p hp).2⟩
  have loop : ∀ s₃ : Shared, s₃ = { s₂ with heap := h₁, toks := s₂.toks + ([] : List (PySem.Str × Value)).length } →
      codeAny (model prog w) A (.compLoop (.ListComp elt [⟨target, iter, ifs, 0⟩] scope pos) 0 (.ref I) (.ref s₂.heap.objs.size) (compEnvC scope cl H2.objs.size env))
        (RR (.ref s₂.heap.objs.size) H2.objs.size) s₃ := by
    rintro s₃ rfl
    refine codeAny_compLoop_tests (fun _ s' => s' = { s₂ with heap := h₁, toks := s₂.toks + ([] : List (PySem.Str × Value)).length }) ?_ 0 rfl (fun v => ht _ v)
    rintro k s' rfl
    refine W.done _ _ _ hst₁ fun h₂ tk₂ hk₂ => ?_
    refine hRR _ _ h₂ tk₂ _ (fr_but F₁ hk₂ hIL hI₀) (news_but N₁ hk₂ fun p hp => ?_) (fun p hp => (below _ (Heap.lt_size (N p hp).1)).2) (hns₁.at' fun o e => hk₂ _ o (by simpa using Ne.symm hCI) e) hC₀ hD₀ hCL hDL (Ne.symm hDC)
      (fun p hp => (below _ (Heap.lt_size (N p hp).1)).1)
    rcases List.mem_cons.mp hp with rfl | hp
    · exact Ne.symm hDI
    · exact off p hp
  exact codeAny_compStart_list (loop _ rfl) (W.self 0 _ _ _ hst₁ (loop _ rfl))
/-- what the source of a comprehension over nothing must be -/
def SrcNil (A : Around) (h₀ : Heap) (L : Addr) (m : PySem.Str → Option Value) (Fin : Shared → List (Addr × Obj) → Prop) (xv : Value) (s₁ : Shared) : Prop :=
  ∃ ax n news, xv = .ref ax ∧ A.handled = none ∧ Fr h₀ L s₁.heap m ∧ News h₀ L s₁.heap news ∧ (ax, listOf #[] n) ∈ news ∧ Fin s₁ news
theorem srcNil {Fin : Shared → List (Addr × Obj) → Prop} {ax : Addr} {n : Nat} {news : List (Addr × Obj)} {s₁ : Shared} (hh : A.handled = none) (F : Fr h₀ L s₁.heap m) (N : News h₀ L s₁.heap news) (hm : (ax, listOf #[] n) ∈ news) (h : Fin s₁ news) :
    SrcNil A h₀ L m Fin (.ref ax) s₁ := ⟨ax, n, news, rfl, hh, F, N, hm, h⟩
theorem compNil_E {elt iter target : Expr} {ifs : List Expr} {scope : Scope} {cl : List (PySem.Str × Addr)} {pos : Pos} {Q : Value → Shared → Prop}
    (_F₀ : Fr h₀ L s.heap m) (hclos : closureFor scope env = pure cl) (hcell : ∀ y ∈ scope.names, y.2 ≠ .cell) (hkind : scope.kind = .function)
    (hnames : ∀ y ∈ scope.names, y.2 = .local → scope.names.lookup y.1 = some .local)
    (h : wpAny (model prog w) A (eval iter env) (SrcNil A h₀ L m (fun s₁ news => ∀ D h tk, Fr h₀ L h m → News h₀ L h ((D, lst []) :: news) → (∀ p ∈ news, p.1 ≠ D) → Q (.ref D) { s₁ with heap := h, toks := tk })) E s)
    (ht : ∀ it v, letOwnedTupleGo target it v = pure ()) (hs : ∀ x, foldedSetIterable iter env x = pure x := by intro _; rfl) :
    wpAny (model prog w) A (eval (.ListComp elt [⟨target, iter, ifs, 0⟩] scope pos) env) Q E s := by
  rw [eval_ListComp]
  refine wpAny_comprehension_free (use := none) rfl hs hclos hkind hnames (wpAny_mono h (fun xv s₁ h₁ => ?_) fun _ _ e => e)
  obtain ⟨ax, n, news, rfl, hh, F, N, hm, fin⟩ := h₁
  have hl : s₁.heap.IsList ax #[] := News.isList N hm
  have hlt : ax < s₁.heap.objs.size := by obtain ⟨_, e, _⟩ := hl; exact Heap.lt_size e
  refine wpAny_pyIter_list hl ?_
  have up : ∀ b o, s₁.heap.get? b = some o → (s₁.heap.push { cls := .type "list_iterator", data := .fields #[.ref ax, .int 0 0] }).get? b = some o := fun b o e => Heap.get?_push_of_some _ e
  refine block_nil hh (Nat.ne_of_lt hlt) hcell hkind ⟨⟨_, Heap.get?_push_size _ rfl, rfl, rfl⟩, hl.push _⟩ (F.keeps up) (N.grown up) (Nat.ne_of_lt F.ns.lt) (next_is_new F) (fun p hp => Nat.ne_of_lt (Heap.lt_size (N p hp).1)) ht ?_
  intro D C h tk m' F' N' o1 hn hC₀ hD₀ hCL hDL hCD offC
  refine ⟨m', hn, fun h'' hs'' => fin D h'' tk (F'.change hs'' hCL hC₀) (fun p hp => ?_) o1⟩
  refine ⟨hs''.extBut _ _ ?_ (N' p hp).1, (N' p hp).2⟩
  rcases List.mem_cons.mp hp with rfl | hp
  · exact Ne.symm hCD
  · exact offC p hp
theorem compNil_A {elt iter target : Expr} {ifs : List Expr} {y : PySem.Str} {py : Pos} {scope : Scope} {cl : List (PySem.Str × Addr)} {pos spos : Pos} {Q : Flow → Shared → Prop} (_F₀ : Fr h₀ L s.heap m) (hLe : env.locals = L)
    (hsw : swapsWith (.ListComp elt [⟨target, iter, ifs, 0⟩] scope pos) (some (.Name y py)) spos.line env = pure true)
    (hclos : closureFor scope env = pure cl) (hcell : ∀ z ∈ scope.names, z.2 ≠ .cell) (hkind : scope.kind = .function)
    (hnames : ∀ z ∈ scope.names, z.2 = .local → scope.names.lookup z.1 = some .local)
    (hy : env.kindOf y = some .local) (hp : (env.scope.kind == .class || (env.scope.kind == .module && env.locals != env.globals)) = false)
    (h : wpAny (model prog w) A (eval iter env) (SrcNil A h₀ L m (fun s₁ news => ∀ D h tk, Fr h₀ L h (fun z => if z = y then some (.ref D) else m z) → News h₀ L h ((D, lst []) :: news) → (∀ p ∈ news, p.1 ≠ D) → Q .next { s₁ with heap := h, toks := tk })) E s)
    (ht : ∀ it v, letOwnedTupleGo target it v = pure ()) (hs : ∀ x, foldedSetIterable iter env x = pure x := by intro _; rfl) :
    wpAny (model prog w) A (exec (.Assign [.Name y py] (.ListComp elt [⟨target, iter, ifs, 0⟩] scope pos) spos) env) Q E s := by
  subst hLe
  rw [exec_Assign_Name_used _ _ _ _ hsw]
  refine wpAny_bind (wpAny_standAt (wpAny_bind ?_))
  show wpAny _ A (do let _ ← comprehension (.ListComp elt [⟨target, iter, ifs, 0⟩] scope pos) scope env _ (newList []) false (eval iter env) (some (assign (.Name y py) env))) _ _ s
  refine wpAny_bind (wpAny_mono (wpAny_comprehension_free (use := some (assign (.Name y py) env)) (Q := fun _ s' => Q .next s') rfl hs hclos hkind hnames
    (wpAny_mono h (fun xv s₁ h₁ => ?_) fun _ _ e => e)) (fun _ s' hq => wpAny_pure (wpAny_pure hq)) fun _ _ e => e)
  obtain ⟨ax, n, news, rfl, hh, F, N, hm, fin⟩ := h₁
  have hl : s₁.heap.IsList ax #[] := News.isList N hm
  have hlt : ax < s₁.heap.objs.size := by obtain ⟨_, e, _⟩ := hl; exact Heap.lt_size e
  refine wpAny_pyIter_list hl ?_
  have up : ∀ b o, s₁.heap.get? b = some o → (s₁.heap.push { cls := .type "list_iterator", data := .fields #[.ref ax, .int 0 0] }).get? b = some o := fun b o e => Heap.get?_push_of_some _ e
  refine block_nil hh (Nat.ne_of_lt hlt) hcell hkind ⟨⟨_, Heap.get?_push_size _ rfl, rfl, rfl⟩, hl.push _⟩ (F.keeps up) (N.grown up) (Nat.ne_of_lt F.ns.lt) (next_is_new F) (fun p hp => Nat.ne_of_lt (Heap.lt_size (N p hp).1)) ht ?_
  intro D C h' tk m' F' N' o1 hn hC₀ hD₀ hCL hDL hCD offC
  show wpAny _ A (assign (.Name y py) env (.ref D)) _ _ _
  refine wpAny_assign_Name (wpAny_storeName_local hy F'.ns (fun h₂ hn₂ hs₂ => ?_) hp)
  have hL₀ : h₀.get? env.locals = none := Heap.get?_none_of_le F'.above
  have F₂ : Fr h₀ env.locals h₂ (fun z => if z = y then some (.ref D) else m z) := ⟨hn₂, fun b o e => hs₂.extBut b o (fun q => by rw [q, hL₀] at e; cases e) (F'.keep b o e), F'.above⟩
  refine ⟨m', hn.sameBut hs₂ hCL, fun h'' hs'' => fin D h'' _ (F₂.change hs'' hCL hC₀) (fun p hp => ?_) o1⟩
  have z : h₂.get? p.1 = some p.2 := hs₂.extBut _ _ (N' p hp).2.1 (N' p hp).1
  refine ⟨hs''.extBut _ _ ?_ z, (N' p hp).2⟩
  rcases List.mem_cons.mp hp with rfl | hp
  · exact Ne.symm hCD
  · exact offC p hp
end
end
section
open PySem PySem.W PyProof.Rows PySem.Calls PySem.Spec
section
variable {prog : Program} {w : World} {A : Around} {E : Value → Shared → Prop} {R : Result → Shared → Prop} {h : Heap} {g : Array GenState} {d : Drawn} {t : Nat} {os : OsState}
variable {nm q : PySem.Str} {C N : Addr} {bs bm bmB : List Value} {hdct : Bool} {sn : List PySem.Str} {sub : List Value} {ab : Bool} {col : Option Bool} {dd : Option Addr} {k0 k1 k2 k3 k5 : Option Value} {B newId initId : String}
theorem excNew_check (F : ExcBaseFacts B newId initId bmB) (hB : bm.contains (.type B) = true) {rest : List Value} {Q : Unit → Shared → Prop} {M : Model}
    (hC : h.get? C = some (excClassObj nm q C N bs bm hdct sn sub ab col dd k0 k1 k2 k3 k5 newId)) (hq : Q () ⟨h, g, d, t, os⟩) :
    wpAny M A (checkBuiltinCall newId ⟨.ref C :: rest, []⟩) Q E ⟨h, g, d, t, os⟩ := by
  have hcont : (Value.ref C :: bm).contains (.type B) = true := by rw [List.contains_cons, hB, Bool.or_true]
  have hstar := F.noStar
  simp only [checkBuiltinCall, F.newKind, F.newSplit, F.newRow]
  repeat (first | refine wpAny_loadPart_at hC ?_ | (refine wpAny_isSubtype_exc hC ?_; rw [hcont]) | refine wpAny_staticBase_exc hC ?_ | refine wpAny_madeBy_exc hC ?_ | simp only [bne_self_eq_false, Bool.false_eq_true, if_false] | wp_step)
  exact hq
theorem excNew_code (F : ExcBaseFacts B newId initId bmB) (hB : bm.contains (.type B) = true) (hA : bm.contains (.type "AttributeError") = false) (hN : bm.contains (.type "NameError") = false) {rest : List Value}
    (hC : h.get? C = some (excClassObj nm q C N bs bm hdct sn sub ab col dd k0 k1 k2 k3 k5 newId))
    (hq : R (.ok (.ret (.ref (h.objs.size + 1)))) ⟨(h.push { cls := .type "tuple", data := .seq rest.toArray }).push
      { cls := .ref C, data := .fields #[.ref h.objs.size, .none, .none, .none, .bool false, .none] }, g, d, t, os⟩) (hrest : rest.length ≤ sizeLine) :
    codeAny (model prog w) A (.builtin newId ⟨.ref C :: rest, []⟩) R ⟨h, g, d, t, os⟩ := by
  have hends := F.ends
  have hcB : (Value.ref C :: bm).contains (.type B) = true := by rw [List.contains_cons, hB, Bool.or_true]
  have hcA : (Value.ref C :: bm).contains (.type "AttributeError") = false := by rw [List.contains_cons, hA]; rfl
  have hcN : (Value.ref C :: bm).contains (.type "NameError") = false := by rw [List.contains_cons, hN]; rfl
  refine codeAny_builtinAt F.entry ?_
  unfold Builtin.«BaseException.__new__»
  refine PySem.wpAt_bind ?_
  show PySem.wpAt _ _ _ (stack >>= _) _ _ _
  refine PySem.wpAt_bind (PySem.wpAt_stack fun p below => PySem.wpAt_of_wpAny ?_)
  wp_walk
  refine PySem.wpAt_of_wpAny ?_
  rw [F.owner]
  repeat (first | with_reducible refine wpAny_madeHere_exc F.canon hC ?_ | with_reducible refine wpAny_loadPart_at hC ?_ | (with_reducible refine wpAny_isSubtype_exc hC ?_; first | rw [hcB] | rw [hcA] | rw [hcN]) | wp_step)
  show R _ _
  rw [Heap.size_push]
  exact hq
/-- an own exception class whose __init__ is a def of the text: what its call does, up to that def -/
theorem excMake (F : ExcBaseFacts B newId initId bmB) (hB : bm.contains (.type B) = true) (hA : bm.contains (.type "AttributeError") = false) (hN : bm.contains (.type "NameError") = false) {rest : List Value} {init : Value} {Q : Value → Shared → Prop}
    (hC : h.get? C = some (excClassObj nm q C N bs bm hdct sn sub ab col dd k0 k1 k2 k3 k5 newId)) (hrest : rest.length ≤ sizeLine)
    (hi : Looks (model prog w) h (typeLookup (.ref C) "__init__") (some init)) (hb : ∀ self, Looks (model prog w) h (bindSpecial init self) (init, [self]))
    (hq : codeAny (model prog w) (A.under (.builtin "type.__call__" ⟨.ref C :: rest, []⟩)) (.call init ⟨.ref (h.objs.size + 1) :: rest, []⟩)
      (InitBack (h.objs.size + 1) fun r s' => match r with | .ok (.ret v) => Q v s' | .ok _ => False | .error e => E e s')
      ⟨(h.push { cls := .type "tuple", data := .seq rest.toArray }).push { cls := .ref C, data := .fields #[.ref h.objs.size, .none, .none, .none, .bool false, .none] }, g, d, t, os⟩) :
    wpAny (model prog w) A (call (.ref C) rest) Q E ⟨h, g, d, t, os⟩ := by
  have f1 := tc_lookup
  have f2 := tc_bind (.ref C)
  have hT : (⟨h, g, d, t, os⟩ : Shared).TypeIs (.ref C) "type" := ⟨_, hC, rfl⟩
  refine wpAny_call (codeAny_of_tree ?_)
  show wpAny _ _ (callAny (.ref C) _) _ _ _
  repeat (any_goals (first | assumption | with_reducible refine wpAny_loadPart_at hC ?_ | wp_step))
  refine ⟨rfl, ?_⟩
  refine codeAny_call_builtin_at (Code.quiet_builtin _ (by decide +kernel)) entry_typeCall (wpAny_check_type_call_sub hC ?_)
  repeat (first | with_reducible refine wpAny_loadPart_at hC ?_ | with_reducible refine wpAny_madeBy_exc hC ?_ | wp_step)
  refine codeAny_call_builtin_code (Code.quiet_builtin _ F.quiet) (excNew_check (rest := rest) F hB hC ?_)
  refine excNew_code (rest := rest) F hB hA hN hC ?_ hrest
  show wpAny _ _ _ _ _ _
  have k : ∀ b o, h.get? b = some o → ((h.push { cls := .type "tuple", data := .seq rest.toArray }).push { cls := .ref C, data := .fields #[.ref h.objs.size, .none, .none, .none, .bool false, .none] }).get? b = some o :=
    fun b o e => Heap.get?_push_of_some _ (Heap.get?_push_of_some _ e)
  have hC₁ := k _ _ hC
  have hget : ((h.push { cls := .type "tuple", data := .seq rest.toArray }).push
      { cls := .ref C, data := .fields #[.ref h.objs.size, .none, .none, .none, .bool false, .none] }).get? (h.objs.size + 1) = some
      { cls := .ref C, data := .fields #[.ref h.objs.size, .none, .none, .none, .bool false, .none] } := by heap_get
  have hcC : (Value.ref C :: bm).contains (.ref C) = true := by simp
  have t1 : Looks (model prog w) ((h.push { cls := .type "tuple", data := .seq rest.toArray }).push { cls := .ref C, data := .fields #[.ref h.objs.size, .none, .none, .none, .bool false, .none] }) (typeOf (.ref (h.objs.size + 1))) (.ref C) := (Looks.ld hget).andThen .now
  have s1 : Looks (model prog w) ((h.push { cls := .type "tuple", data := .seq rest.toArray }).push { cls := .ref C, data := .fields #[.ref h.objs.size, .none, .none, .none, .bool false, .none] }) (isSubtype (.ref C) (.ref C)) true := by
    intro A' Q' E' s' k' q'
    obtain ⟨h', g', d', t', os'⟩ := s'
    refine wpAny_isSubtype_exc (k' _ _ hC₁) ?_
    rw [hcC]; exact q'
  have i1 := hi.keeps k
  have b1 := (hb (.ref (h.objs.size + 1))).keeps k
  unfold isInstance callSpecial? specialOf
  repeat (first | with_reducible refine wpAny_call ?_ | lk)
  refine codeAny_mono hq fun r s' z => ?_
  rcases r with e | (v | _ | _ | _) <;> first | exact z | exact z.elim | skip
  obtain ⟨rfl, z⟩ := z
  exact wpAny_pure (wpAny_pure z)
end
end
section
open PySem PySem.W PyProof.Rows PySem.Calls PySem.Spec
/-- an own exception with a dict of its own, on its way: where it stands, and that its dict is still its own -/
structure FlyD (base : Heap) (l : List Env) (e : Addr) (cls : Value) (dd : Addr) (fl : Value) (h : Heap) : Prop where
  stays : base.StaysIn h
  new : base.get? e = none
  frames : h.FunFrames base l
  there : ∃ oe vs T oT ts, h.get? e = some oe ∧ (oe.cls = cls ∧ oe.dict = some dd) ∧ oe.data = .fields vs ∧ vs[1]? = some (.ref T) ∧ base.get? T = none ∧ T ≠ e ∧ h.get? T = some oT ∧ oT.data = .fields ts ∧ ts[3]? = some fl
theorem dict_mapFields (o : Obj) (f : Array Value → Array Value) : (o.mapFields f).dict = o.dict := by
  obtain ⟨c, d, x, s⟩ := o
  cases x <;> rfl
section
variable {M : Model} {A : Around} {E : Value → Shared → Prop} {s : Shared} {base : Heap} {env : Env} {outer : List Env} {L e dd : Addr} {cls : Value}
theorem flyD_entry {oe : Obj} {vs : Array Value} {head : Value} {hadNext : Bool} {Q : Unit → Shared → Prop}
    (hfr : A.frames = some (env :: outer)) (hl : s.heap.FunFrames base (env :: outer)) (hf : env.frame = some L)
    (he : s.heap.get? e = some oe) (hkb : base.StaysIn s.heap) (hen : base.get? e = none) (hd : oe.data = .fields vs) (hsz : 1 < vs.size) (hdd : oe.dict = some dd)
    (h : ∀ h', FlyD base (env :: outer) e oe.cls dd (rawInt L) h' → s.heap.UpToSlots h' → Q () { s with heap := h' }) :
    wpAny M A (do let a ← frameOf env; let pl ← entryPlaceOf L hadNext; let b ← EntryCells.newEntry head a .none (rawInt L) .none pl; setField (.ref e) 1 b) Q E s := by
  have hene : e ∉ (env :: outer).filterMap (·.frame) := fun hm => by
    obtain ⟨_, o, ho, hnf⟩ := hl.mem hm
    rw [he] at ho; injection ho with ho; subst ho; exact hnf vs hd
  refine wpAny_bind (wpAny_frameOf_fun hfr hl hf fun h₁ hs₁ => ?_)
  refine wpAny_bind (wpAny_entryPlaceOf fun pl hpl => ?_)
  unfold EntryCells.newEntry newFields
  refine wpAny_bind (wpAny_newObj_type ?_ (hpl.sizeOk5 _ _ _ _ _))
  have he₁ : h₁.get? e = some oe := (hs₁.2.1 e hene).trans he
  have kb₁ : base.StaysIn h₁ := fun b o hbo => (hs₁.2.1 b fun hm => by rw [(hl.mem hm).1] at hbo; cases hbo).trans (hkb b o hbo)
  have he₂ := Heap.get?_push_of_some (h := h₁) { cls := .type "traceback", dict := none, data := .fields ([head, .ref L, .none, rawInt L, .none] ++ (if pl.isEmpty then List.replicate 6 Value.none else pl)).toArray } he₁
  have hTe : h₁.objs.size ≠ e := Nat.ne_of_gt (Heap.lt_size he₁)
  have hd₃ := Obj.data_mapFields hd (·.setIfInBounds 1 (Value.ref h₁.objs.size))
  have he₃ := Heap.get?_update_self (Obj.mapFields (·.setIfInBounds 1 (Value.ref h₁.objs.size))) he₂ (Obj.isFreed_of_fields hd₃)
  have hT₃ := (Heap.get?_update_other (h₁.push { cls := .type "traceback", dict := none, data := .fields ([head, .ref L, .none, rawInt L, .none] ++ (if pl.isEmpty then List.replicate 6 Value.none else pl)).toArray })
    (Obj.mapFields (·.setIfInBounds 1 (Value.ref h₁.objs.size))) (Ne.symm hTe)).trans (Heap.get?_push_size h₁ rfl)
  have keep : ∀ b o, b ≠ e → h₁.get? b = some o →
      ((h₁.push { cls := .type "traceback", dict := none, data := .fields ([head, .ref L, .none, rawInt L, .none] ++ (if pl.isEmpty then List.replicate 6 Value.none else pl)).toArray }).update e (Obj.mapFields (·.setIfInBounds 1 (Value.ref h₁.objs.size)))).get? b = some o :=
    fun b o hbe hb => by
      rw [Heap.get?_update_other _ _ (Ne.symm hbe)]
      exact Heap.get?_push_of_some _ hb
  have noRecord : ∀ b o, s.heap.get? b = some o → (∀ vs, o.data ≠ .fields vs) → b ≠ e := fun b o hb hnf q => by
    rw [q, he] at hb; injection hb with hb; subst hb; exact hnf vs hd
  refine wpAny_setField he₂ hd hsz (h _ ⟨fun b o hbo => keep b o (fun q => by rw [q, hen] at hbo; cases hbo) (kb₁ b o hbo), hen, hl.of_keeps fun b o hb hnf => ?_, ?_⟩ fun b o hb hnf => ?_)
  · obtain ⟨sl, hs⟩ := hs₁.2.2 b o hb
    exact ⟨_, keep b _ (noRecord b o hb hnf) hs, rfl⟩
  · exact ⟨_, _, h₁.objs.size, _, _, he₃, ⟨Obj.cls_mapFields _ _, (dict_mapFields _ _).trans hdd⟩, hd₃, by simp [hsz], kb₁.fresh, hTe, hT₃, rfl, by first | (simp; done) | (rcases hpl with rfl | ⟨_, _, _, _, _, _, _, rfl⟩ <;> simp)⟩
  · obtain ⟨sl, hs⟩ := hs₁.2.2 b o hb
    exact ⟨sl, keep b _ (noRecord b o hb hnf) hs⟩
/-- the flight's mark is taken off: all else stands -/
theorem flyD_land {l : List Env} {fl : Value} {Q : Unit → Shared → Prop} (x : FlyD base l e cls dd fl s.heap)
    (h : ∀ h', FlyD base l e cls dd .none h' → s.heap.UpToSlots h' → Q () { s with heap := h' }) : wpAny M A (setFlight (.ref e) none) Q E s := by
  obtain ⟨hkb, hen, hl, oe, vs, T, oT, ts, he, hcls, hd, h1, hnT, hTe, hT, hdT, h3⟩ := x
  have hsz3 : 3 < ts.size := (Array.getElem?_eq_some_iff.mp h3).1
  have other : ∀ b, b ≠ T → (s.heap.update T (Obj.mapFields (·.setIfInBounds 3 ((none : Option Addr).elim Value.none fun f => rawInt f)))).get? b = s.heap.get? b :=
    fun b hb => Heap.get?_update_other _ _ (Ne.symm hb)
  have noRecord : ∀ b o, s.heap.get? b = some o → (∀ vs, o.data ≠ .fields vs) → b ≠ T := fun b o hb hnf q => by
    rw [q, hT] at hb; injection hb with hb; subst hb; exact hnf ts hdT
  unfold setFlight
  refine wpAny_bind (wpAny_field he hd h1 ?_)
  rw [if_pos (show (Value.ref T != Value.none) = true from by simp)]
  refine wpAny_setField hT hdT hsz3 (h _ ⟨fun b o hbo => (other b fun q => by rw [q, hnT] at hbo; cases hbo).trans (hkb b o hbo), hen,
    hl.of_keeps fun b o hb hnf => ⟨o, (other b (noRecord b o hb hnf)).trans hb, rfl⟩, ?_⟩ fun b o hb hnf => ⟨o.slots, (other b (noRecord b o hb hnf)).trans hb⟩)
  exact ⟨oe, vs, T, _, _, (other e (Ne.symm hTe)).trans he, hcls, hd, h1, hnT, hTe, Heap.get?_update_self _ hT (Obj.isFreed_of_fields (Obj.data_mapFields hdT _)), Obj.data_mapFields hdT _, by simp [hsz3]⟩
/-- a frame on the way is noted -/
theorem flyD_look {Q : Unit → Shared → Prop} (hfr : A.frames = some (env :: outer)) (hf : env.frame = some L) (x : FlyD base (env :: outer) e cls dd .none s.heap)
    (h : ∀ h', FlyD base (env :: outer) e cls dd (rawInt L) h' → s.heap.UpToSlots h' → Q () { s with heap := h' }) : wpAny M A (noteFrame (.ref e) env) Q E s := by
  obtain ⟨hkb, hen, hl, oe, vs, T, oT, ts, he, ⟨hcls, hdd⟩, hd, h1, hnT, hTe, hT, hdT, h3⟩ := x
  subst hcls
  unfold noteFrame
  simp only [hf]
  refine wpAny_bind (wpAny_field he hd h1 ?_)
  rw [if_pos (show (Value.ref T != Value.none) = true from by simp)]
  refine wpAny_bind (wpAny_field hT hdT h3 ?_)
  rw [if_neg (show ¬ ((Value.none == rawInt L) = true) from by simp [rawInt])]
  refine wpAny_bind (wpAny_setField hT hdT (Array.getElem?_eq_some_iff.mp h3).1 ?_)
  have other : ∀ b, b ≠ T → (s.heap.update T (Obj.mapFields (·.setIfInBounds 3 Value.none))).get? b = s.heap.get? b := fun b hb => Heap.get?_update_other _ _ (Ne.symm hb)
  have noRecord : ∀ b o, s.heap.get? b = some o → (∀ vs, o.data ≠ .fields vs) → b ≠ T := fun b o hb hnf q => by
    rw [q, hT] at hb; injection hb with hb; subst hb; exact hnf ts hdT
  refine flyD_entry hfr (hl.of_keeps fun b o hb hnf => ⟨o, (other b (noRecord b o hb hnf)).trans hb, rfl⟩) hf ((other e (Ne.symm hTe)).trans he)
    (fun b o hbo => (other b fun q => by rw [q, hnT] at hbo; cases hbo).trans (hkb b o hbo)) hen hd (Array.getElem?_eq_some_iff.mp h1).1 hdd
    fun h' x1 x2 => h h' x1 fun b o hb hnf => x2 b o ((other b (noRecord b o hb hnf)).trans hb) hnf
theorem flyD_pop {h : Heap} {fl : Value} (x : FlyD base (env :: outer) e cls dd fl h) : FlyD base outer e cls dd fl h := ⟨x.stays, x.new, x.frames.2.2, x.there⟩
/-- it leaves a frame that has called what raised it -/
theorem flyD_leave {Q : Unit → Shared → Prop} (hfr : A.frames = some (env :: outer)) (hf : env.frame = some L) (x : FlyD base (env :: outer) e cls dd .none s.heap)
    (h : ∀ h', FlyD base outer e cls dd .none h' → s.heap.UpToSlots h' → Q () { s with heap := h' }) : wpAny M A (leaving env (.ref e)) Q E s := by
  unfold leaving
  refine wpAny_bind (flyD_look hfr hf x fun h₁ x₁ u₁ => flyD_land x₁ fun h₂ x₂ u₂ => h h₂ (flyD_pop x₂) (u₁.trans u₂))
/-- it leaves the frame that raised it -/
theorem flyD_first {oe : Obj} {vs : Array Value} {Q : Unit → Shared → Prop} (hfr : A.frames = some (env :: outer)) (hf : env.frame = some L) (hl : s.heap.FunFrames base (env :: outer))
    (he : s.heap.get? e = some oe) (hkb : base.StaysIn s.heap) (hen : base.get? e = none) (hd : oe.data = .fields vs) (h1 : vs[1]? = some .none) (hdd : oe.dict = some dd)
    (h : ∀ h', FlyD base outer e oe.cls dd .none h' → s.heap.UpToSlots h' → Q () { s with heap := h' }) : wpAny M A (leaving env (.ref e)) Q E s := by
  unfold leaving noteFrame
  simp only [hf]
  refine wpAny_bind (wpAny_bind (wpAny_field he hd h1 ?_))
  rw [if_neg (by decide)]
  refine flyD_entry hfr hl hf he hkb hen hd (Array.getElem?_eq_some_iff.mp h1).1 hdd fun h₁ x₁ u₁ => flyD_land x₁ fun h₂ x₂ u₂ => h h₂ (flyD_pop x₂) (u₁.trans u₂)
end
end
section
open PySem PySem.W PyProof.Rows PySem.Calls PySem.Spec PySem.Builtin PySem.Builtin.ObjectAttr
/-- an own exception, as its class's __new__ leaves it -/
abbrev excO (C : Addr) (dd : Option Addr) (t : Addr) : Obj := { cls := .ref C, dict := dd, data := .fields #[.ref t, .none, .none, .none, .bool false, .none] }
/-- the class's facts that the rules ask, read off the written part -/
def excClsIn (K : Frag) (C : Addr) : Bool := match K.lookup C with
  | some ⟨.type "type", _, .cls cd, sl⟩ => (match cd.mro, sl.toList with
    | .ref C' :: bm, [_, _, _, _, some (.builtin n), _] => C' == C && n == "Exception.__new__" && !cd.hasDel && cd.hasDict && bm.contains (.type "Exception") && bm.contains (.type "BaseException") && bm.contains (.type "object") && !bm.contains (.type "AttributeError") && !bm.contains (.type "NameError") &&
        (match bm with | .ref _ :: r => r == [.type "Exception", .type "BaseException", .type "object"] | _ => false)
    | _, _ => false)
  | _ => false
section
variable {prog : Program} {w : World} {A : Around} {E : Value → Shared → Prop} {s : Shared} {K : Frag} {C x L : Addr} {h₀ : Heap} {m : PySem.Str → Option Value} {news news' : List (Addr × Obj)}
theorem excCls (X : K.In s.heap) (e : excClsIn K C = true) :
    ∃ nm q N bs bm sn sub ab col dd k0 k1 k2 k3 k5, s.heap.get? C = some (excClassObj nm q C N bs (.ref bm :: [.type "Exception", .type "BaseException", .type "object"]) true sn sub ab col dd k0 k1 k2 k3 k5 "Exception.__new__") ∧
      clsIn K C = some { name := nm, bases := bs, mro := .ref C :: .ref bm :: [.type "Exception", .type "BaseException", .type "object"], ns := N, qualname := q, hasDict := true, slotNames := sn, subclasses := sub, abstract := ab, collection := col, hasDel := false } := by
  unfold excClsIn at e
  split at e
  · rename_i dd cd sl ho
    split at e
    · rename_i C' bm k0 k1 k2 k3 n k5 hm hs
      simp only [Bool.and_eq_true, beq_iff_eq, Bool.not_eq_true'] at e
      obtain ⟨⟨⟨⟨⟨⟨⟨⟨⟨rfl, rfl⟩, hdel⟩, hdict⟩, e1⟩, e2⟩, e3⟩, e4⟩, e5⟩, e6⟩ := e
      split at e6
      · rename_i b r
        have e7 : r = [.type "Exception", .type "BaseException", .type "object"] := beq_iff_eq.mp e6
        subst e7
        obtain ⟨nm, bs, mro, ns, qn, hd, sn, sub, ab, col, del⟩ := cd
        dsimp only at hm hdel hdict
        subst hm hdel hdict
        have hsl : sl = #[k0, k1, k2, k3, some (.builtin "Exception.__new__"), k5] := by
          obtain ⟨l⟩ := sl
          simp only at hs
          rw [hs]
        subst hsl
        exact ⟨nm, qn, ns, bs, b, sn, sub, ab, col, dd, k0, k1, k2, k3, k5, X _ _ ho, by unfold clsIn; rw [ho]⟩
      · cases e6
    · cases e
  · cases e
/-- the call of such a class, up to its __init__ -/
theorem excMakeK {rest : List Value} {fI : Addr} {Q : Value → Shared → Prop} (F : Fr h₀ L s.heap m) (X₀ : K.In h₀) (N : News h₀ L s.heap news) (e : excClsIn K C = true) (hi : findIn K (.ref C) "__init__" = some (some (.ref fI)))
    (hf : typeIn K (.ref fI) = some (.type "function")) (hrest : rest.length ≤ sizeLine)
    (h : ∀ x t h', Fr h₀ L h' m → News h₀ L h' ((x, excO C none t) :: (t, { cls := .type "tuple", data := .seq rest.toArray }) :: news) → (∀ p ∈ news, p.1 < t) → t < x →
      codeAny (model prog w) (A.under (.builtin "type.__call__" ⟨.ref C :: rest, []⟩)) (.call (.ref fI) ⟨.ref x :: rest, []⟩) (InitBack x fun r s' => match r with | .ok (.ret v) => Q v s' | .ok _ => False | .error e => E e s') { s with heap := h' }) :
    wpAny (model prog w) A (call (.ref C) rest) Q E s := by
  have X := X₀.keeps F.keep
  obtain ⟨nm, q, N', bs, bm, sn, sub, ab, col, dd, k0, k1, k2, k3, k5, hC, hcl⟩ := excCls X e
  obtain ⟨hh, g, d, t, os⟩ := s
  refine excMake PySem.F.excBase_Exception (by rfl) (by rfl) (by rfl) hC hrest (looks_findIn X hi) (fun self => bind_fn X self hf) ?_
  have N₁ := (N.push F { cls := .type "tuple", data := .seq rest.toArray }).push (F.push _) { cls := .ref C, data := .fields #[.ref hh.objs.size, .none, .none, .none, .bool false, .none] }
  rw [Heap.size_push] at N₁
  exact h _ hh.objs.size _ ((F.push _).push _) N₁ (fun p hp => Heap.lt_size (N p hp).1) (Nat.lt_succ_self _)
/-- Exception.__init__ -/
theorem excInit {x : Addr} {dd : Option Addr} {t : Addr} {v : Value} {g : Obj → List (Addr × Obj)} {Q : Value → Shared → Prop} (F : Fr h₀ L s.heap m) (X₀ : K.In h₀) (N : News h₀ L s.heap news) (e : excClsIn K C = true)
    (U : UpdF x (excO C dd t) news g)
    (h : ∀ h' t', Fr h₀ L h' m → News h₀ L h' ((t', { cls := .type "tuple", data := .seq #[v] }) :: g (excO C dd t')) → (∀ p ∈ news, p.1 < t') → Q .none { s with heap := h' }) :
    wpAny (model prog w) A (call (.builtin "Exception.__init__") [.ref x, v]) Q E s := by
  have X := X₀.keeps F.keep
  obtain ⟨nm, q, N', bs, bm, sn, sub, ab, col, dc, k0, k1, k2, k3, k5, hC, hcl⟩ := excCls X e
  obtain ⟨pre, post, rfl, hg, a, b⟩ := U.split
  have hx := N (x, excO C dd t) (List.mem_append_right _ (.head _))
  obtain ⟨hh, gg, d, tk, os⟩ := s
  have FB := PySem.F.excBase_Exception
  have hcB : (Value.ref C :: .ref bm :: [.type "Exception", .type "BaseException", .type "object"]).contains (.type "Exception") = true := by simp
  refine wpAny_call (codeAny_call_builtin FB.init.plain FB.initEntry ?_)
  have hshort := FB.noStar
  simp only [checkBuiltinCall, FB.initKind, FB.initSplit, FB.initRow]
  repeat (first | (with_reducible refine wpAny_loadPart_at hx.1 ?_) | with_reducible refine wpAny_loadPart_at hC ?_ | (refine wpAny_isSubtype_exc hC ?_; rw [hcB]) | wp_step)
  have hx₁ := Heap.get?_push_of_some { cls := .type "tuple", data := .seq #[v] } hx.1
  have hxs : x ≠ hh.objs.size := Nat.ne_of_lt (Heap.lt_size hx.1)
  wp_walk
  have N₁ := N.push F { cls := .type "tuple", data := .seq #[v] }
  obtain ⟨F₂, N₂⟩ := news_upd (o := excO C dd t) (o' := excO C dd hh.objs.size) (f := Obj.mapFields fun x => x.setIfInBounds 0 (Value.ref hh.objs.size)) (pre := (hh.objs.size, { cls := .type "tuple", data := .seq #[v] }) :: pre) (F.push { cls := .type "tuple", data := .seq #[v] }) N₁
    (fun p hp => by
      rcases List.mem_cons.mp hp with rfl | hp
      · exact Ne.symm hxs
      · exact a p hp) b rfl rfl
  exact h _ hh.objs.size F₂ (by rw [hg]; exact N₂) fun p hp => Heap.lt_size (N p hp).1
theorem excTaker {M : Model} {h : Heap} {name : PySem.Str} (X : K.In h) (ht : takerIn K C name = some none) : ∃ attr, findIn K (.ref C) name = some attr ∧ Looks M h (storeTaker? attr) none := by
  obtain ⟨attr, ha, hr⟩ := Option.bind_eq_some_iff.mp ht
  refine ⟨attr, ha, ?_⟩
  cases attr with
  | none => exact .now
  | some a =>
    obtain ⟨b, hb, hr⟩ := Option.map_eq_some_iff.mp hr
    refine (looks_takesIn X hb).andThen ?_
    cases b with
    | true => cases hr
    | false => exact .now
/-- self.name = v of such an exception, up to where it is laid -/
theorem excStore {ox : Obj} {od : Option Obj} {name : PySem.Str} {v : Value} {Q : Unit → Shared → Prop} (X : K.In s.heap) (I : InstAt s.heap x ox C od) (e : excClsIn K C = true)
    (hs : findIn K (.ref C) "__setattr__" = some (some (.builtin "object.__setattr__"))) (ht : takerIn K C name = some none)
    (h : ∀ b, wpAny (model prog w) A.in1 (storeInOwnDict (.ref x) (.ref C) (.str name s.toks) name v b)
      (fun fin s' => match fin with | .done (.ret _) => Q () s' | _ => False) (fun e s' => E e s') { s with toks := s.toks + 1 }) :
    wpAny (model prog w) A (setAttr (.ref x) name v) Q E s := by
  obtain ⟨nm, q, N', bs, bm, sn, sub, ab, col, dc, k0, k1, k2, k3, k5, hC, hcl⟩ := excCls X e
  refine set_plain X I hs ?_
  have SF := PySem.F.store_object
  have sub : Looks (model prog w) s.heap (isInstance (.ref x) (.type "object")) true := I.type.andThen (looks_mroIn X (by unfold mroIn; rw [hcl, Option.bind_some]; rfl))
  obtain ⟨attr, ha, L3⟩ := excTaker (M := model prog w) X ht
  have hm : Looks (model prog w) s.heap (mroOf (.ref C)) (.ref C :: .ref bm :: [.type "Exception", .type "BaseException", .type "object"]) := (looks_clsIn X hcl).andThen .now
  have L0 := I.type (M := model prog w)
  have L1 := looks_findIn (M := model prog w) X ha
  obtain ⟨hh, g, d, tk, os⟩ := s
  refine codeAny_call_builtin SF.slot.plain SF.entry (@check_slot (model prog w) _ _ ⟨hh, g, d, tk + 1, os⟩ "object.__setattr__" "object" "__setattr__" (.ref x) [.str name tk, v] [] _ SF.kind SF.split sub (SF.args (.ref x) (.str name tk) v) ?_)
  rw [osa_eq, refuse_eq]
  refine wpAny_bind (wpAny_bind (L0.at (wpAny_bind (hm.at ?_))))
  rw [refuseLoop_ref, refuseLoop_ref, PySem.F.store_Exception.passes]
  refine wpAny_pure (wpAny_bind (L0.at (wpAny_bind (L1.at (wpAny_bind (L3.at ?_))))))
  refine wpAny_mono (h attr.isSome) (fun fin s' z => ?_) fun _ _ z => z
  rcases fin with (_ | _ | _ | _) | _ <;> first | exact z | exact z.elim
/-- a name is laid in a dict of the ledger -/
theorem excLay {dx : Addr} {es es' : List DictEntry} {n n' : Nat} {name : PySem.Str} {tk : Tok} {v : Value} {Q : Fin → Shared → Prop} (F : Fr h₀ L s.heap m) (N : News h₀ L s.heap news) (U : Upd dx (dictOf es n) (dictOf es' n') news news') (hl : (getL name es).isSome = true)
    (e : (putL name (PyData.keyHash w.params name) (.str name s.toks) v es, putN name es n) = (es', n')) (hz : es'.length ≤ 1000)
    (h : ∀ h', Fr h₀ L h' m → News h₀ L h' news' → Q (.done (.ret .none)) { s with heap := h', toks := s.toks + 1 }) :
    wpAny (model prog w) A (storeInDict dx (.str name tk) name v) Q E s := by
  obtain ⟨pre, post, rfl, rfl, h1, h2⟩ := U.split
  obtain ⟨e1, e2⟩ := Prod.mk.inj e
  have ep : Obj.putName name (PyData.keyHash w.params name) (.str name s.toks) v (dictOf es n) = dictOf es' n' := by rw [putName_dict, e1, e2]
  obtain ⟨U1, U2⟩ := news_upd (f := Obj.putName name (PyData.keyHash w.params name) (.str name s.toks) v) F N h1 h2 ep rfl
  have D := (N (dx, dictOf es n) (by simp)).1
  have D' := (U2 (dx, dictOf es' n') (by simp)).1
  unfold storeInDict newKeyGuard
  refine wpAny_bind (wpAny_pure (wpAny_bind ?_))
  unfold nsSet
  refine wpAny_bind (wpAny_bind (wpAny_askSetting (wpAny_pure (wpAny_bind (wpAny_mkText (wpAny_bind (wpAny_loadPart D ?_)))))))
  have c : (!es.toArray.any (·.key.isStr name) && es.toArray.any (·.refKey)) = false := by
    unfold getL at hl
    rw [List.any_toArray, List.any_toArray]
    split at hl
    · rename_i en he
      rw [List.any_eq_true.mpr ⟨en, List.mem_of_find?_eq_some he, List.find?_some he⟩]; rfl
    · split at hl
      · cases hl
      · rename_i z; rw [Bool.not_eq_true] at z; rw [z, Bool.and_false]
  dsimp only
  rw [aRefKeyMayBeTheName_at, c]
  refine wpAny_updatePart D ?_
  refine wpAny_bind (wpAny_lookBehind D' (pastItsLine_dict (by rw [List.size_toArray, sizeLine_eq]; omega)) ?_)
  exact wpAny_pure (h _ U1 U2)
/-- its first attribute makes its dict -/
theorem excSet1 {t : Addr} {name : PySem.Str} {v : Value} {g : Obj → List (Addr × Obj)} {Q : Unit → Shared → Prop} (F : Fr h₀ L s.heap m) (X₀ : K.In h₀) (N : News h₀ L s.heap news) (e : excClsIn K C = true)
    (hs : findIn K (.ref C) "__setattr__" = some (some (.builtin "object.__setattr__"))) (ht : takerIn K C name = some none) (U : UpdF x (excO C none t) news g)
    (h : ∀ h' dx, Fr h₀ L h' m → News h₀ L h' ((dx, dictOf [ent w name (s.toks + 1) v] 1) :: g (excO C (some dx) t)) → (∀ p ∈ news, p.1 < dx) → Q () { s with heap := h', toks := s.toks + 2 }) :
    wpAny (model prog w) A (setAttr (.ref x) name v) Q E s := by
  have X := X₀.keeps F.keep
  obtain ⟨pre, post, rfl, hg, a, b⟩ := U.split
  have hx := N (x, excO C none t) (List.mem_append_right _ (.head _))
  have I : InstAt s.heap x (excO C none t) C none := ⟨hx.1, rfl, rfl, trivial⟩
  refine excStore X I e hs ht fun bb => ?_
  obtain ⟨nm, q, N', bs, bm, sn, sub, ab, col, dc, k0, k1, k2, k3, k5, hC, hcl⟩ := excCls X e
  obtain ⟨hh, gg, d, tk, os⟩ := s
  have Lc := looks_clsIn (M := model prog w) X hcl
  refine wpAny_bind (wpAny_pure (wpAny_bind (wpAny_bind (wpAny_loadPart hx.1 (wpAny_bind (Lc.at ?_))))))
  show wpAny _ _ (alloc { cls := .type "dict", data := .dict #[] } >>= fun d => update x (fun o => { o with dict := some d }) >>= fun _ => dictMade (.ref C) x d) _ _ _
  have hxs : x ≠ hh.objs.size := Nat.ne_of_lt (Heap.lt_size hx.1)
  have N₁ := N.push F { cls := .type "dict", data := .dict #[] }
  obtain ⟨F₂, N₂⟩ := news_upd (o := excO C none t) (o' := excO C (some hh.objs.size) t) (f := fun o => { o with dict := some hh.objs.size }) (pre := (hh.objs.size, { cls := .type "dict", data := .dict #[] }) :: pre) (F.push { cls := .type "dict", data := .dict #[] }) N₁
    (fun p hp => by
      rcases List.mem_cons.mp hp with rfl | hp
      · exact Ne.symm hxs
      · exact a p hp) b rfl rfl
  refine wpAny_bind (wpAny_alloc (wpAny_bind (wpAny_update (Heap.get?_push_of_some _ hx.1) ?_)))
  refine wpAny_pure ?_
  refine excLay (es := []) (n := 0) (es' := [ent w name (tk + 1) v]) (n' := 1) F₂ N₂ (Upd.head fun p hp => ?_) rfl (by rfl) (by simp) fun h' F' N' => ?_
  · rcases List.mem_append.mp hp with hp | hp
    · exact Nat.ne_of_lt (Heap.lt_size (N p (List.mem_append_left _ hp)).1)
    · rcases List.mem_cons.mp hp with rfl | hp
      · exact hxs
      · exact Nat.ne_of_lt (Heap.lt_size (N p (List.mem_append_right _ (.tail _ hp))).1)
  · exact h h' hh.objs.size F' (by rw [hg]; exact N') fun p hp => Heap.lt_size (N p hp).1
/-- a further attribute -/
theorem excSet2 {dx t : Addr} {es es' : List DictEntry} {n n' : Nat} {name : PySem.Str} {v : Value} {Q : Unit → Shared → Prop} (F : Fr h₀ L s.heap m) (X₀ : K.In h₀) (N : News h₀ L s.heap news) (e : excClsIn K C = true)
    (hs : findIn K (.ref C) "__setattr__" = some (some (.builtin "object.__setattr__"))) (ht : takerIn K C name = some none) (hx : (x, excO C (some dx) t) ∈ news) (U : Upd dx (dictOf es n) (dictOf es' n') news news') (hl : (getL name es).isSome = true)
    (ep : (putL name (PyData.keyHash w.params name) (.str name (s.toks + 1)) v es, putN name es n) = (es', n')) (hz : es'.length ≤ 1000)
    (h : ∀ h', Fr h₀ L h' m → News h₀ L h' news' → Q () { s with heap := h', toks := s.toks + 2 }) :
    wpAny (model prog w) A (setAttr (.ref x) name v) Q E s := by
  have X := X₀.keeps F.keep
  have hdx : (dx, dictOf es n) ∈ news := by
    obtain ⟨pre, post, rfl, _⟩ := U.split
    exact List.mem_append_right _ (.head _)
  have I : InstAt s.heap x (excO C (some dx) t) C (some (dictOf es n)) := ⟨(N _ hx).1, rfl, rfl, (N _ hdx).1⟩
  refine excStore X I e hs ht fun bb => ?_
  obtain ⟨nm, q, N', bs, bm, sn, sub, ab, col, dc, k0, k1, k2, k3, k5, hC, hcl⟩ := excCls X e
  obtain ⟨hh, gg, d, tk, os⟩ := s
  have Lc := looks_clsIn (M := model prog w) X hcl
  refine wpAny_bind (wpAny_pure (wpAny_bind (wpAny_bind (wpAny_loadPart (N _ hx).1 (wpAny_bind (Lc.at ?_))))))
  refine wpAny_pure (a := some dx) ?_
  exact excLay F N U hl ep hz fun h' F' N' => h h' F' N'
/-- an attribute of its own is read -/
theorem excGet {ox : Obj} {od : Obj} {name : PySem.Str} {v : Value} {expr : Bool} {Q : Value → Shared → Prop} (X : K.In s.heap) (I : InstAt s.heap x ox C (some od)) (e : excClsIn K C = true)
    (hga : findIn K (.ref C) "__getattribute__" = some (some (.builtin "BaseException.__getattribute__"))) (hgt : findIn K (.ref C) "__getattr__" = some none) (hf : findObj K C (some od) name = some (.value v)) (hh : handedIn v = true)
    (h : Q v { s with toks := s.toks + 1 }) : wpAny (model prog w) A (getAttr (.ref x) name expr) Q E s := by
  obtain ⟨nm, q, N', bs, bm, sn, sub, ab, col, dc, k0, k1, k2, k3, k5, hC, hcl⟩ := excCls X e
  have L0 := I.type (M := model prog w)
  have L1 := looks_findIn (M := model prog w) X hga
  have L2 := looks_findIn (M := model prog w) X hgt
  have L3 := looks_find (M := model prog w) X I hf
  have L4 : Looks (model prog w) s.heap (isInstance (.ref x) (.type "BaseException")) true := I.type.andThen (looks_mroIn X (by unfold mroIn; rw [hcl, Option.bind_some]; rfl))
  have hx := I.at_
  have hcl' := I.cls
  obtain ⟨hp, g, d, tk, os⟩ := s
  have FB := PySem.F.attrBase_Exception
  have f3 := FB.ga.bind (.ref x)
  have hx0 : (expr && onTheHeap (Value.builtin "BaseException.__getattribute__")) = false := by cases expr <;> rfl
  have hx2 : (Value.builtin "BaseException.__getattribute__" == Value.builtin "object.__getattribute__") = false := by decide +kernel
  have hx1 : (onTheHeap (Value.ref C) && Value.builtin "BaseException.__getattribute__" == Value.builtin "object.__getattribute__") = false := by rw [hx2]; rfl
  unfold getAttr getAttrBy
  refine wpAny_bind (wpAny_mkText (wpAny_holding (wpAny_bind (L0.at (wpAny_bind (L1.at ?_))))))
  dsimp only
  rw [hx1]
  rw [if_neg (by decide)]
  unfold getAttrByItsOwn hookBefore callGetattribute
  rw [hx0]
  refine wpAny_bind (L2.at (wpAny_bind (wpAny_attempt (wpAny_holding ?_))))
  rw [if_neg (by decide)]
  unfold boundAndCalled
  rw [f3]
  refine wpAny_bind (wpAny_pure (wpAny_call ?_))
  show codeAny _ _ (.call (.builtin "BaseException.__getattribute__") ⟨[.ref x, .str name tk], []⟩) _ _
  have hk : builtinKind "BaseException.__getattribute__" = some .slot := by decide +kernel
  have hsp : splitId "BaseException.__getattribute__" = some ("BaseException", "__getattribute__") := by decide +kernel
  refine codeAny_call_builtin FB.ga.plain PySem.F.entry_bexc_ga (@check_slot (model prog w) _ _ ⟨hp, g, d, tk + 1, os⟩ "BaseException.__getattribute__" "BaseException" "__getattribute__" (.ref x) [.str name tk] [] _ hk hsp L4 (PySem.F.args_bexc_ga _ _) ?_)
  have hs : slotArgs "__getattribute__" 1 ⟨[Value.ref x, Value.str name tk], []⟩ = pure (Value.ref x, [Value.str name tk]) := by rfl
  have ha : attrName (Value.str name tk) = pure name := by rfl
  unfold Builtin.«object.__getattribute__»
  rw [hs]
  refine wpAny_bind (wpAny_pure ?_)
  dsimp only
  rw [ha]
  refine wpAny_bind (wpAny_pure (wpAny_bind (L0.at (wpAny_bind (L3.at ?_)))))
  refine wpAny_pure ?_
  show wpAny _ _ (handedOut v) _ _ _
  rw [handedOut_of hh]
  exact wpAny_pure h
/-- raise of such an exception's call -/
theorem excRaise {call' : Expr} {env : Env} {pos : Pos} {Q : Flow → Shared → Prop} (hh : A.handled = none)
    (h : wpAny (model prog w) A (eval call' env) (fun v s₁ => ∃ e C oe vs, v = .ref e ∧ K.In s₁.heap ∧ excClsIn K C = true ∧ s₁.heap.get? e = some oe ∧ oe.cls = .ref C ∧ oe.data = .fields vs ∧ vs[1]? = some .none ∧ E (.ref e) s₁) E s) :
    wpAny (model prog w) A (exec (.Raise (some call') none pos) env) Q E s := by
  show wpAny _ A (do standAt pos; raiseStmt env (some (do let v ← eval call' env; standAt pos; pure v)) none) Q E s
  refine wpAny_bind (wpAny_standAt ?_)
  unfold raiseStmt
  dsimp only
  refine wpAny_bind (wpAny_bind (wpAny_mono h (fun v s₁ h₁ => wpAny_bind (wpAny_standAt (wpAny_pure ?_))) fun _ _ x => x))
  obtain ⟨a, C, ob, vs, rfl, X, hc, ha, hcls, hd, h1, hE⟩ := h₁
  obtain ⟨nm, q, N', bs, bm, sn, sub, ab, col, dc, k0, k1, k2, k3, k5, hC, hcl⟩ := excCls X hc
  have hcB : (Value.ref C :: .ref bm :: [.type "Exception", .type "BaseException", .type "object"]).contains (.type "BaseException") = true := by simp
  have hnt : ∀ {Q' : Bool → Shared → Prop}, Q' false s₁ → wpAny (model prog w) A (isType (.ref a)) Q' E s₁ := by
    intro Q' hq
    simp only [isType, loadHead]
    refine wpAny_bind (wpAny_loadPart ha ?_)
    rw [hd]; exact wpAny_pure hq
  have Lt : Looks (model prog w) s₁.heap (typeOf (.ref a)) (.ref C) := hcls ▸ (Looks.ld ha).andThen .now
  have Li : Looks (model prog w) s₁.heap (isInstance (.ref a) (.type "BaseException")) true := Lt.andThen (looks_mroIn X (by unfold mroIn; rw [hcl, Option.bind_some]; rfl))
  refine wpAny_bind (wpAny_pure ?_)
  dsimp only
  refine wpAny_bind (wpAny_holding ?_)
  unfold excFromValue isExcClass
  refine wpAny_bind (wpAny_bind (hnt ?_))
  simp only [Bool.false_eq_true, if_false]
  refine wpAny_pure ?_
  simp only [Bool.false_eq_true, if_false]
  refine wpAny_bind (Li.here ?_)
  simp only [if_true]
  refine wpAny_pure ?_
  refine wpAny_bind (hnt ?_)
  simp only [Bool.false_eq_true, if_false]
  unfold raisedInstance
  have Lc : Looks (model prog w) s₁.heap (typeOf (.ref C)) (.type "type") := (Looks.ld hC).andThen .now
  refine wpAny_bind (wpAny_bind (Lt.here (wpAny_bind (Lc.here ?_))))
  rw [if_pos (by decide)]
  refine wpAny_pure ?_
  unfold setFlight raiseNew
  refine wpAny_bind (wpAny_bind (wpAny_field ha hd h1 ?_))
  rw [if_neg (by decide)]
  refine wpAny_pure (wpAny_bind (wpAny_handled ?_))
  rw [hh]
  first
    | exact wpAny_throw hE
    | exact wpAny_bind (wpAny_pure (wpAny_throw hE))
end
end
section
open PySem PySem.W PyProof.Rows PySem.Calls PySem.Spec
/-- such an exception on its way, the ledger of where it was raised still standing -/
def RaisedD (base : Heap) (l : List Env) (e C dd : Addr) (news : List (Addr × Obj)) (h : Heap) : Prop :=
  ∃ B, base.StaysIn B ∧ (∀ q ∈ news, B.get? q.1 = some q.2 ∧ base.get? q.1 = none) ∧ FlyD B l e (.ref C) dd .none h
section
variable {M : Model} {A : Around} {E : Value → Shared → Prop} {s' : Shared} {base g g₂ : Heap} {env : Env} {outer : List Env} {L e C dd : Addr} {m : PySem.Str → Option Value} {Q : Unit → Shared → Prop} {news : List (Addr × Obj)}
end
section
variable {prog : Program} {w : World} {A₀ : Around} {E : Value → Shared → Prop} {s' : Shared} {h₀ h : Heap} {outer : List Env} {L a e dd C : Addr} {m : PySem.Str → Option Value} {name : PySem.Str} {scope : Scope} {cd : Value}
  {n : PySem.Str} {b₀ : Stmt} {suite : List Stmt} {pos np : Pos} {rest : List ExceptHandler} {Q : Flow → Shared → Prop} {news : List (Addr × Obj)} {KF : Frag}
  {p : Program} {loose : List PySem.Str} {mean : ExcName → Option Value} {mg mb : PySem.Str → Option Value} {x : PySem.Str}
end
end
section
open PySem PySem.W PyProof.Rows PySem.Calls PySem.Spec
theorem ex60 (w : World) : excClsIn (hd.heap_1 w.params) 60 = true := by rfl
theorem name_len {x y : PySem.Str} (hx : x.length ≤ 1000) (hy : y.length ≤ 1000) : x.length + y.length ≤ sizeLine := by rw [sizeLine_eq]; omega
section
variable {prog : Program} {w : World} {A : Around} {E : Value → Shared → Prop} {s : Shared} {K : Frag} {C x L : Addr} {h₀ : Heap} {m : PySem.Str → Option Value} {news : List (Addr × Obj)}
def RaiseD (K : Frag) (E : Value → Shared → Prop) (v : Value) (s₁ : Shared) : Prop :=
  ∃ e C oe vs, v = .ref e ∧ K.In s₁.heap ∧ excClsIn K C = true ∧ s₁.heap.get? e = some oe ∧ oe.cls = .ref C ∧ oe.data = .fields vs ∧ vs[1]? = some .none ∧ E (.ref e) s₁
theorem raiseD {dd : Option Addr} {t : Addr} (F : Fr h₀ L s.heap m) (X : K.In h₀) (N : News h₀ L s.heap news) (e : excClsIn K C = true) (hm : (x, excO C dd t) ∈ news) (h : E (.ref x) s) : RaiseD K E (.ref x) s :=
  ⟨x, C, _, _, rfl, X.keeps F.keep, e, (N _ hm).1, rfl, rfl, rfl, h⟩
end
end
section
open PySem PySem.W PyProof.Rows PySem.Calls PySem.Spec
/-- such an exception on its way, the ledger and the ground of where it was raised still standing -/
def RaisedDS (base G : Heap) (l : List Env) (e C dd : Addr) (news : List (Addr × Obj)) (h : Heap) : Prop :=
  ∃ B, base.StaysIn B ∧ (∀ b o, G.get? b = some o → b ∉ l.filterMap (·.frame) → B.get? b = some o) ∧ (∀ q ∈ news, B.get? q.1 = some q.2 ∧ G.get? q.1 = none ∧ base.get? q.1 = none) ∧ FlyD B l e (.ref C) dd .none h
/-- an entry struck out of a ledger -/
inductive Out (d : Addr) (o : Obj) : List (Addr × Obj) → List (Addr × Obj) → Prop
  | head {r} : (∀ p ∈ r, p.1 ≠ d) → Out d o ((d, o) :: r) r
  | tail {p r r'} : p.1 ≠ d → Out d o r r' → Out d o (p :: r) (p :: r')
theorem Out.mem {d : Addr} {o : Obj} : ∀ {l l' : List (Addr × Obj)}, Out d o l l' → (d, o) ∈ l ∧ (∀ q ∈ l', q ∈ l) ∧ ∀ q ∈ l', q.1 ≠ d
  | _, _, .head h => ⟨.head _, fun _ hq => .tail _ hq, h⟩
  | _, _, .tail hn r => ⟨.tail _ r.mem.1, fun q hq => by
      rcases List.mem_cons.mp hq with rfl | hq
      · exact .head _
      · exact .tail _ (r.mem.2.1 q hq), fun q hq => by
      rcases List.mem_cons.mp hq with rfl | hq
      · exact hn
      · exact r.mem.2.2 q hq⟩
section
variable {M : Model} {A : Around} {E : Value → Shared → Prop} {s' : Shared} {base g G : Heap} {env : Env} {outer : List Env} {L e C dd : Addr} {m : PySem.Str → Option Value} {Q : Unit → Shared → Prop} {news : List (Addr × Obj)}
theorem frame_mem {b : Addr} (hf : env.frame = some L) (hm : b ∈ (env :: outer).filterMap (·.frame)) : b = L ∨ b ∈ outer.filterMap (·.frame) := by
  obtain ⟨en, he, hfr⟩ := List.mem_filterMap.mp hm
  rcases List.mem_cons.mp he with rfl | he
  · exact .inl (Option.some.inj (hfr.symm.trans hf))
  · exact .inr (List.mem_filterMap.mpr ⟨en, he, hfr⟩)
theorem leaveDS_first {oe : Obj} {vs : Array Value} {sub : List (Addr × Obj)} (K : Below A base outer g) (F : Fr g L s'.heap m) (N : News g L s'.heap news) (hf : env.frame = some L) (hk : env.scope.kind = .function)
    (O : Out e oe news sub) (hcls : oe.cls = .ref C) (hd : oe.data = .fields vs) (h1 : vs[1]? = some .none) (hdd : oe.dict = some dd)
    (hQ : ∀ h', RaisedDS base g outer e C dd sub h' → g.UpToSlots h' → Q () { s' with heap := h' }) : wpAny M (A.deeper env) (leaving env (.ref e)) Q E s' := by
  obtain ⟨hm, hs, hne⟩ := O.mem
  have K' := pushX (env := env) K F hf hk
  have he := N _ hm
  have hbe : base.get? e = none := fresh_of_stays K.stays he.2.2
  have hin : ∀ en ∈ (env :: outer), ∀ b, en.frame = some b → b ∈ e :: (env :: outer).filterMap (·.frame) := fun en hen b hb => .tail _ (List.mem_filterMap.mpr ⟨en, hen, hb⟩)
  have st : base.StaysIn (hideAll s'.heap (e :: (env :: outer).filterMap (·.frame))) := fun b o q => hideAll_get _ (K'.stays b o q) fun hm' => by
    rcases List.mem_cons.mp hm' with rfl | hm'
    · rw [hbe] at q; cases q
    · rw [(K'.frames.mem hm').1] at q; cases q
  have sg : ∀ b o, g.get? b = some o → b ∉ outer.filterMap (·.frame) → (hideAll s'.heap (e :: (env :: outer).filterMap (·.frame))).get? b = some o := fun b o q nm => hideAll_get _ (F.keep b o q) fun hm' => by
    rcases List.mem_cons.mp hm' with rfl | hm'
    · rw [he.2.2] at q; cases q
    · rcases frame_mem hf hm' with z | z
      · rw [z, kts_self F] at q; cases q
      · exact nm z
  have hl : ∀ q ∈ sub, (hideAll s'.heap (e :: (env :: outer).filterMap (·.frame))).get? q.1 = some q.2 ∧ g.get? q.1 = none ∧ base.get? q.1 = none := fun q hq => by
    have hqn := N q (hs q hq)
    refine ⟨hideAll_get _ hqn.1 fun hm' => ?_, hqn.2.2, fresh_of_stays K.stays hqn.2.2⟩
    rcases List.mem_cons.mp hm' with h | hm'
    · exact hne q hq h
    · obtain ⟨en, hen, hfr⟩ := List.mem_filterMap.mp hm'
      rcases List.mem_cons.mp hen with rfl | hen
      · exact hqn.2.1 (Option.some.inj (hfr.symm.trans hf))
      · obtain ⟨o, ho, _⟩ := (K.frames.mem (List.mem_filterMap.mpr ⟨en, hen, hfr⟩)).2
        rw [hqn.2.2] at ho; cases ho
  refine flyD_first (base := hideAll s'.heap (e :: (env :: outer).filterMap (·.frame))) K'.stack hf (funFrames_hide K'.frames hin) he.1 (fun b o q => of_hideAll _ q) (hideAll_none _ (.head _)) hd h1 hdd fun h' x u => ?_
  exact hQ h' ⟨_, st, sg, hl, hcls ▸ x⟩ ((Heap.UpToSlots.of_keeps F.keep).trans u)
theorem leaveDS_on (K : Below A base outer g) (F : Fr g L G m) (R : RaisedDS base G (env :: outer) e C dd news s'.heap) (hsm : G.UpToSlots s'.heap) (hf : env.frame = some L)
    (hQ : ∀ h', RaisedDS base g outer e C dd news h' → g.UpToSlots h' → Q () { s' with heap := h' }) : wpAny M (A.deeper env) (leaving env (.ref e)) Q E s' := by
  obtain ⟨B, hB, hBG, hl, hfl⟩ := R
  refine flyD_leave (Around.frames_deeper K.stack) hf hfl fun h' x u => hQ h' ⟨B, hB, fun b o q nm => hBG b o (F.keep b o q) fun hm => ?_, fun q hq => ⟨(hl q hq).1, kts_none F.keep (hl q hq).2.1, (hl q hq).2.2⟩, x⟩
    ((Heap.UpToSlots.of_keeps F.keep).trans (hsm.trans u))
  rcases frame_mem hf hm with z | z
  · rw [z, kts_self F] at q; cases q
  · exact nm z
end
section
variable {prog : Program} {w : World} {A₀ : Around} {E : Value → Shared → Prop} {s' : Shared} {base g g₀ G : Heap} {outer : List Env} {L a e dd C : Addr} {m : PySem.Str → Option Value} {name : PySem.Str} {scope : Scope} {cd : Value}
  {n : PySem.Str} {b₀ : Stmt} {suite : List Stmt} {pos np : Pos} {rest : List ExceptHandler} {Q : Flow → Shared → Prop} {news : List (Addr × Obj)} {KF : Frag}
  {p : Program} {loose : List PySem.Str} {mean : ExcName → Option Value} {mg mb : PySem.Str → Option Value} {x : PySem.Str}
theorem caughtDS (R : RaisedDS base G (envOf name scope L a cd :: outer) e C dd news s'.heap) (F : Fr g L G m) (K : Below A₀ base outer g) (hsm : G.UpToSlots s'.heap) (XB : KF.In base) (TB : Top p loose mean mg mb base)
    (D : KtsDicts (outer.filterMap (·.frame)) g) (T0 : KtsTurn (outer.filterMap (·.frame)) g₀ g) (ex : nsIn KF mainGlobals x = some (some (.ref C))) (q : excClsIn KF C = true)
    (k : ∀ h' g' oe vs tk, KtsTurn (outer.filterMap (·.frame)) g₀ g' → Fr g' L h' (fun y => if y = n then some (.ref e) else m y) → News g' L h' ((e, oe) :: news) → oe.cls = .ref C → oe.dict = some dd → oe.data = .fields vs →
      Below A₀ base outer g' → KF.In g' → Top p loose mean mg mb g' → KtsDicts (outer.filterMap (·.frame)) g' →
      wpAny (model prog w) ((A₀.deeper (envOf name scope L a cd)).mark (some (.ref e))) (execs (b₀ :: suite) (envOf name scope L a cd))
        (fun f s₄ => wpAny (model prog w) (A₀.deeper (envOf name scope L a cd)) (do bindName (envOf name scope L a cd) n .none; unbindBehindTheSuite (envOf name scope L a cd) n pos) (fun _ s₅ => Q f s₅) E s₄)
        (AsSuiteRaised (model prog w) ((A₀.deeper (envOf name scope L a cd)).mark (some (.ref e))) (envOf name scope L a cd) n pos (notedBy (model prog w) ((A₀.deeper (envOf name scope L a cd)).mark (some (.ref e))) (envOf name scope L a cd) (cameBackBy (model prog w) (A₀.deeper (envOf name scope L a cd)) (envOf name scope L a cd) E)))
        { s' with heap := h', toks := tk })
    (hk : scope.kind = .function := by rfl) (hlo : (envOf name scope L a cd).kindOf n = some .local := by rfl) (hx : (envOf name scope L a cd).kindOf x = some .globalImplicit := by rfl) (hd : (x == ("__debug__" : PySem.Str)) = false := by decide) :
    wpAny (model prog w) (A₀.deeper (envOf name scope L a cd)) (noteFrame (.ref e) (envOf name scope L a cd))
      (fun _ s₂ => wpAny (model prog w) (A₀.deeper (envOf name scope L a cd)) (setFlight (.ref e) none) (fun _ s₃ =>
        wpAny (model prog w) (A₀.deeper (envOf name scope L a cd)) (handleBy (.ref e) (envOf name scope L a cd) (.ExceptHandler (some (.Name x np)) (some n) (b₀ :: suite) pos :: rest)) Q E s₃) E s₂) E s' := by
  obtain ⟨B, hB, hBG, hl, hfl⟩ := R
  have hL : B.get? L = none := by
    obtain ⟨_, ⟨L', _, hf, hn', _⟩, _⟩ := hfl.frames
    obtain rfl : L = L' := Option.some.inj hf
    exact hn'
  refine flyD_look (Around.frames_deeper K.stack) rfl hfl fun h₄ hheld₄ hsm₄ => ?_
  refine flyD_land hheld₄ fun h₅ hheld hsm₅' => ?_
  have hsm₅ := hsm₄.trans hsm₅'
  obtain ⟨g₅, T₅, F₅, K₅⟩ := kts_ground K F hBG hheld.stays (hsm.trans hsm₅)
  have X₅ : KF.In g₅ := XB.keeps K₅.stays
  have P₅ : TopRead p loose mg mb g₅ := topRead_of (TB.keeps K₅.stays)
  obtain ⟨ob, _, _, _, _, hob, hobc, _⟩ := hheld.there
  refine wpAny_handleBy_cons (codeAny_handlers_test (name_K F₅ X₅ P₅ ex ?_ hk hx hd)) (by intro q; cases q)
  obtain ⟨nm, qq, N', bs, bm, sn, sub, ab, col, dc, k0, k1, k2, k3, k5, hC, hcl⟩ := excCls (s := { s' with heap := h₅ }) (X₅.keeps F₅.keep) q
  refine wpAny_excMatches_sub_self hC hob hobc.1 (by simp) (codeAny_handlers_suite_as ?_)
  refine flyD_land hheld fun h₆ hfl₆ hsm₆ => ?_
  obtain ⟨g₆, T₆, F₆, K₆⟩ := kts_ground K F hBG hfl₆.stays ((hsm.trans hsm₅).trans hsm₆)
  obtain ⟨oe, vs, _, _, _, hoe, ⟨hoec, hoedd⟩, hoed, _⟩ := hfl₆.there
  have ne₆ : g₆.get? e = none := T₆.none_ _ (kts_fresh F hBG hfl₆.new fun o ho m => by
    obtain ⟨_, o', ho', hd⟩ := K.frames.mem m
    rw [ho] at ho'
    cases ho'
    obtain ⟨sl, hs⟩ := ((hsm.trans hsm₅).trans hsm₆) _ _ (F.keep _ _ ho) hd
    rw [hoe] at hs
    cases hs
    exact hd _ hoed)
  have heL : e ≠ L := fun q => by
    obtain ⟨o, es, ep, ho, hdd, _⟩ := F₆.ns
    rw [q, ho] at hoe
    cases hoe
    rw [hdd] at hoed; cases hoed
  have N₆ : News g₆ L h₆ ((e, oe) :: news) := fun p hp => by
    rcases List.mem_cons.mp hp with rfl | hp
    · exact ⟨hoe, heL, ne₆⟩
    · exact ⟨hfl₆.stays _ _ (hl p hp).1, (fun z => by have := (hl p hp).1; rw [z, hL] at this; cases this), T₆.none_ _ (kts_none F.keep (hl p hp).2.1)⟩
  refine stN F₆ N₆ (fun h₇ F₇ N₇ => ?_) hk hlo
  exact k h₇ g₆ oe vs _ (T0.trans T₆) F₇ N₇ hoec hoedd hoed K₆ (XB.keeps K₆.stays) (TB.keeps K₆.stays) (D.turn T₆)
theorem excRaise' {h₀ : Heap} {call' : Expr} {env : Env} {pos : Pos} {s : Shared} {A : Around} (hh : A.handled = none) (_X : KF.In h₀)
    (h : wpAny (model prog w) A (eval call' env) (RaiseD KF E) E s) : wpAny (model prog w) A (exec (.Raise (some call') none pos) env) Q E s := excRaise (K := KF) hh h
theorem metaExc : typeOf (.type "Exception") = pure (.type "type") := by rfl
theorem excSet2' {h₀ : Heap} {t x : Addr} {es es' : List DictEntry} {k k' : Nat} {nm : PySem.Str} {v : Value} {s : Shared} {A : Around} {news' : List (Addr × Obj)} {Q : Unit → Shared → Prop} (F : Fr h₀ L s.heap m) (X₀ : KF.In h₀) (N : News h₀ L s.heap news) (hx : (x, excO C (some dd) t) ∈ news) (_hd : (dd, dictOf es k) ∈ news) (e : excClsIn KF C = true)
    (hs : findIn KF (.ref C) "__setattr__" = some (some (.builtin "object.__setattr__"))) (ht : takerIn KF C nm = some none) (hl : (getL nm es).isSome = true)
    (ep : (putL nm (PyData.keyHash w.params nm) (.str nm (s.toks + 1)) v es, putN nm es k) = (es', k')) (U : Upd dd (dictOf es k) (dictOf es' k') news news') (hz : es'.length ≤ 1000)
    (h : ∀ h', Fr h₀ L h' m → News h₀ L h' news' → Q () { s with heap := h', toks := s.toks + 2 }) :
    wpAny (model prog w) A (setAttr (.ref x) nm v) Q E s := excSet2 F X₀ N e hs ht hx U hl ep hz h
theorem excGet' {h₀ : Heap} {x : Addr} {oe : Obj} {vs : Array Value} {es : List DictEntry} {k : Nat} {nm : PySem.Str} {attr : Option Value} {v : Value} {s : Shared} {A : Around} {expr : Bool} {Q : Value → Shared → Prop} (F : Fr h₀ L s.heap m) (X₀ : KF.In h₀) (N : News h₀ L s.heap news) (c1 : oe.cls = .ref C) (c2 : oe.dict = some dd) (c3 : oe.data = .fields vs)
    (hx : (x, oe) ∈ news) (hd : (dd, dictOf es k) ∈ news) (e : excClsIn KF C = true)
    (hga : findIn KF (.ref C) "__getattribute__" = some (some (.builtin "BaseException.__getattribute__"))) (hgt : findIn KF (.ref C) "__getattr__" = some none)
    (hh : hasDictIn KF C = true) (ha : findIn KF (.ref C) nm = some attr) (hn : noGet KF attr = true) (hl : getL nm es = some (some v)) (ho : handedIn v = true)
    (h : Q v { s with toks := s.toks + 1 }) : wpAny (model prog w) A (getAttr (.ref x) nm expr) Q E s := by
  obtain ⟨oc, od, odt, osl⟩ := oe
  dsimp only at c1 c2 c3
  subst c1 c2 c3
  exact excGet (od := dictOf es k) (X₀.keeps F.keep) ⟨(N _ hx).1, rfl, rfl, (N _ hd).1⟩ e hga hgt (findObj_own hh ha hn hl) ho h
end
end
section
open PySem PySem.W PyProof.Rows PySem.Calls PySem.Spec
/-- a def's contract, where the frames below may be turned (an exception caught within): the ledger it is handed (sub), what it hands back and what it leaves of the ledger (Post); every other object stands, but for the frames' slots -/
def TellS (w : World) (f : Addr) (dd du : Nat) (vs : List Value) (sub : List (Addr × Obj)) (Post : List (Addr × Obj) → Value → Prop) : Prop :=
  ∀ (mean : ExcName → Option Value) (mg mb : PySem.Str → Option Value) (dp un : Nat) (gd : Option (List Code)) (env : Env) (outer : List Env) (A₀ : Around) (base h₀ : Heap) (L : Addr) (m : PySem.Str → Option Value) (s : Shared)
    (Q E : Value → Shared → Prop),
    Below A₀ base outer h₀ → Fr h₀ L s.heap m → (hd.heap_1 w.params).In base → News h₀ L s.heap sub → topOf mean mg mb base → KtsDicts (outer.filterMap (·.frame)) h₀ → env.frame = some L → env.scope.kind = .function →
    dp + dd < recursionLimit → un + du < cLine →
    (∀ r news' g' h' tk', KtsTurn (outer.filterMap (·.frame)) h₀ g' → Below A₀ base outer g' → Fr g' L h' m → News g' L h' news' → KtsDicts (outer.filterMap (·.frame)) g' → Post news' r →
      (∀ b o, s.heap.get? b = some o → b ∉ sub.map (·.1) → b ≠ L → b ∉ outer.filterMap (·.frame) → h'.get? b = some o) →
      (∀ p ∈ news', ∀ b o, s.heap.get? b = some o → b ∉ sub.map (·.1) → p.1 ≠ b) → Q r { s with heap := h', toks := tk' }) →
    wpAny (model PySem.Challenge.rw_pq0630_01.row.prog w) (aroundOf dp un gd env outer) (call (.ref f) vs) Q E s
/-- the end of a called body -/
def EndS (fs : List Addr) (g : Heap) (s : Shared) (Post : List (Addr × Obj) → Value → Prop) (v : Value) (s' : Shared) : Prop :=
  ∃ g' L' m' news' h' tk', s' = { s with heap := h', toks := tk' } ∧ KtsTurn fs g g' ∧ Fr g' L' h' m' ∧ News g' L' h' news' ∧ Post news' v
theorem endS {fs : List Addr} {g g' : Heap} {s : Shared} {Post : List (Addr × Obj) → Value → Prop} {v : Value} {L' : Addr} {m' : PySem.Str → Option Value} {all : List (Addr × Obj)} {h' : Heap} {tk' : Nat} (news' : List (Addr × Obj))
    (T : KtsTurn fs g g') (F : Fr g' L' h' m') (N : News g' L' h' all) (hs : ∀ p ∈ news', p ∈ all) (p : Post news' v) : EndS fs g s Post v { s with heap := h', toks := tk' } := ⟨g', L', m', news', h', tk', rfl, T, F, fun q hq => N q (hs q hq), p⟩
theorem tellS_of {w : World} {f : Addr} {dd du : Nat} {vs : List Value} {sub : List (Addr × Obj)} {Post : List (Addr × Obj) → Value → Prop}
    {name qual : PySem.Str} {params : Arguments} {body : List Stmt} {scope : Scope} {dV kV doc pm cdv ct oc : Value} {an od : Option Addr} {osl : Array (Option Value)} {binds : List (PySem.Str × Value)}
    (ho : (hd.heap_1 w.params).lookup f = some ⟨oc, od, .func (fnOf name qual params body scope dV kV doc pm an cdv ct), osl⟩) (hcd : codeIn (hd.heap_1 w.params) cdv qual = true)
    (hdd : 0 < dd) (hbind : ∀ s, BindsTo s (fnOf name qual params body scope dV kV doc pm an cdv ct) ⟨vs, []⟩ binds) (hloc : ∀ y ∈ binds, scope.names.lookup y.1 = some .local)
    (hco : scope.isCoroutine = false) (hgen : scope.isGenerator = false) (hk : scope.kind = .function) (hcell : ∀ x ∈ scope.names, x.2 ≠ .cell)
    (h : ∀ (mean : ExcName → Option Value) (mg mb : PySem.Str → Option Value) (dp un : Nat) (gd : Option (List Code)) (env : Env) (outer : List Env) (base g : Heap) (L' : Addr) (h₁ : Heap) (s : Shared),
      Fr g L' h₁ (fun y => binds.reverse.lookup y) → News g L' h₁ sub → Below (aroundOf dp un gd env outer) base (env :: outer) g → (hd.heap_1 w.params).In g → Top hd.view_39 (looseW hd.view_39 [Str.ofString "LedgerError"]) mean mg mb g →
      (hd.heap_1 w.params).In base → Top hd.view_39 (looseW hd.view_39 [Str.ofString "LedgerError"]) mean mg mb base → KtsDicts ((env :: outer).filterMap (·.frame)) g → (∀ p ∈ sub, p.1 < L') → dp + dd < recursionLimit → un + du < cLine →
      wpAny (model PySem.Challenge.rw_pq0630_01.row.prog w) ((aroundOf dp un gd env outer).deeper (envOf qual scope L' f cdv)) (execs body (envOf qual scope L' f cdv))
        (fun fl s' => EndS ((env :: outer).filterMap (·.frame)) g s Post (match fl with | .ret v => v | _ => .none) s') (fun _ _ => False) { s with heap := h₁, toks := s.toks + binds.length }) :
    TellS w f dd du vs sub Post := by
  intro mean mg mb dp un gd env outer A₀ base h₀ L m s Q E B F XB N TB D hf hke hdp hun hret
  refine wpAny_call ?_
  have X₀ : (hd.heap_1 w.params).In h₀ := XB.keeps B.stays
  have T₀ : topOf mean mg mb h₀ := TB.keeps B.stays
  obtain ⟨FG, BG, st, _⟩ := groundX (A := aroundOf dp un gd env outer) (R := fun r s' => match r with | .ok (.ret v) => Q v s' | .ok _ => False | .error e => E e s') B F N rfl hf hke
  have X := X₀.keeps F.keep
  obtain ⟨oL, es, ep, hLg, hLd, hLk, hLf⟩ := FG.ns
  have nL₀ : h₀.get? L = none := kts_self F
  refine codeAny_call_def (fd := fnOf name qual params body scope dV kV doc pm an cdv ct) (body := body) (binds := binds) (by show dp < recursionLimit; omega) (X _ _ ho) rfl (T₀.nolimit.keeps F.keep) (codeRec_of X hcd) rfl (hbind s) hcell hloc (fun h₁ hns hk₁ => ?_) hco hgen hk
  have hg : ∀ b o, s.heap.get? b = some o → b ∉ sub.map (·.1) → (hideAll s.heap (sub.map (·.1))).get? b = some o := fun b o e n => hideAll_get _ e n
  refine wpAny_mono (h mean mg mb dp un gd env outer base _ s.heap.objs.size h₁ s ⟨hns, fun b o e => hk₁ b o (of_hideAll _ e), Nat.le_of_eq (hideAll_size _ _)⟩
    (fun p hp => ⟨hk₁ _ _ (N p hp).1, Nat.ne_of_lt (Heap.lt_size (N p hp).1), hideAll_none _ (List.mem_map_of_mem hp)⟩) BG (X₀.keeps st) (T₀.keeps st) XB TB (fun b hb => by
      rcases frame_mem hf hb with rfl | hb
      · exact ⟨oL, es, ep, hLg, hLd⟩
      · obtain ⟨o, es', n', ho', hd'⟩ := D b hb
        exact ⟨o, es', n', st b o ho', hd'⟩) (fun p hp => Heap.lt_size (N p hp).1) hdp hun) (fun fl s' hl => ?_) (fun _ _ x => x.elim)
  obtain ⟨g', L', m', news', h', tk', rfl, T', F', N', hp⟩ := hl
  obtain ⟨sl, hs⟩ := T'.up hLg
  obtain ⟨T₁, S₁⟩ := kts_turn_at (h := h') (fs := outer.filterMap (·.frame)) (g := h₀)
    (fun b hb => by
      obtain ⟨_, o, ho', _⟩ := B.frames.mem hb
      exact ⟨o, ho'⟩)
    (fun b o e nmem => F'.keep b o (T'.other b o (st b o e) (fun q => by
      rcases frame_mem hf q with z | z
      · rw [z, nL₀] at e
        cases e
      · exact nmem z)))
    (fun b o e hm => by
      obtain ⟨sl', hs'⟩ := T'.up (st b o e)
      exact ⟨sl', F'.keep _ _ hs'⟩)
  have B₃ : Below A₀ base outer (ktsHeap h' (outer.filterMap (·.frame)) h₀) := ⟨B.stack, fun b o e => T₁.other b o (B.stays b o e) (fun hm => by
    rw [(B.frames.mem hm).1] at e
    cases e), B.frames.of_keeps fun b o e _ => by
      obtain ⟨sl, hs⟩ := T₁.up e
      exact ⟨_, hs, rfl⟩⟩
  refine hret _ news' _ h' tk' T₁ B₃ ⟨⟨_, es, ep, F'.keep _ _ hs, hLd, hLk, hLf⟩, S₁, by rw [T₁.size]; exact F.above⟩ (fun p hp => ⟨(N' p hp).1, fun q => ?_, ?_⟩) (D.turn T₁) hp (fun b o e n nL nf => F'.keep b o (T'.other b o (hg b o e n) fun q => ?_)) (fun p hp b o e n q => ?_)
  · have := (N' p hp).2.2; rw [q, hs] at this; cases this
  · refine T₁.none_ _ ?_
    cases q : h₀.get? p.1 with
    | none => rfl
    | some o =>
      obtain ⟨sl', hs'⟩ := T'.up (st _ _ q)
      have := (N' p hp).2.2; rw [hs'] at this; cases this
  · rcases frame_mem hf q with z | z
    · exact nL z
    · exact nf z
  · have := (N' p hp).2.2
    obtain ⟨sl', hs'⟩ := T'.up (hg b o e n)
    rw [q, hs'] at this
    cases this
/-- using it where what is handed in stands behind the call as it stood -/
theorem tellS_ro {w : World} {f : Addr} {dd du : Nat} {vs : List Value} {sub : List (Addr × Obj)} {P : List (Addr × Obj) → Value → Prop} (C : TellS w f dd du vs sub (fun news' r => ∃ tl, news' = tl ++ sub ∧ P tl r))
    {mean : ExcName → Option Value} {mg mb : PySem.Str → Option Value} {dp un : Nat} {gd : Option (List Code)} {env : Env} {outer : List Env} {A₀ : Around} {base g₀ h₀ : Heap} {L : Addr} {m : PySem.Str → Option Value} {s : Shared} {big : List (Addr × Obj)}
    {Q E : Value → Shared → Prop} (B : Below A₀ base outer h₀) (F : Fr h₀ L s.heap m) (XB : (hd.heap_1 w.params).In base) (TB : topOf mean mg mb base) (N : News h₀ L s.heap big) (D : KtsDicts (outer.filterMap (·.frame)) h₀)
    (T0 : KtsTurn (outer.filterMap (·.frame)) g₀ h₀) (hf : env.frame = some L) (hk : env.scope.kind = .function) (hs : ∀ p ∈ sub, p ∈ big) (hdp : dp + dd < recursionLimit) (hun : un + du < cLine)
    (h : ∀ r tl g' h' tk', KtsTurn (outer.filterMap (·.frame)) g₀ g' → Below A₀ base outer g' → (hd.heap_1 w.params).In g' → topOf mean mg mb g' → Fr g' L h' m → News g' L h' (tl ++ big) → KtsDicts (outer.filterMap (·.frame)) g' → P tl r →
      (∀ p ∈ tl, ∀ q ∈ big, q.1 ∉ sub.map (·.1) → p.1 ≠ q.1) → Q r { s with heap := h', toks := tk' }) :
    wpAny (model PySem.Challenge.rw_pq0630_01.row.prog w) (aroundOf dp un gd env outer) (call (.ref f) vs) Q E s := by
  refine C mean mg mb dp un gd env outer A₀ base h₀ L m s Q E B F XB (fun p hp => N p (hs p hp)) TB D hf hk hdp hun fun r news' g' h' tk' T' B' F' N' D' hp hkeep hoff => ?_
  obtain ⟨tl, rfl, hP⟩ := hp
  refine h r tl g' h' tk' (T0.trans T') B' (XB.keeps B'.stays) (TB.keeps B'.stays) F' (fun p hp => ?_) D' hP fun p hp q hq hn => hoff p (List.mem_append_left _ hp) q.1 q.2 (N q hq).1 hn
  rcases List.mem_append.mp hp with hp | hp
  · exact N' p (List.mem_append_left _ hp)
  · by_cases hn : p.1 ∈ sub.map (·.1)
    · obtain ⟨q, hq, e⟩ := List.mem_map.mp hn
      have h1 := (N q (hs q hq)).1
      rw [e, (N p hp).1] at h1
      have : p = q := Prod.ext e.symm (Option.some.inj h1)
      rw [this]
      exact N' q (List.mem_append_right _ hq)
    · have z := N p hp
      refine ⟨hkeep _ _ z.1 hn z.2.1 fun hm => ?_, z.2.1, T'.none_ _ z.2.2⟩
      obtain ⟨_, o, ho, _⟩ := B.frames.mem hm
      rw [z.2.2] at ho; cases ho
theorem tellS_weaken {w : World} {f : Addr} {dd du : Nat} {vs : List Value} {sub : List (Addr × Obj)} {Post Post2 : List (Addr × Obj) → Value → Prop} (C : TellS w f dd du vs sub Post)
    (h : ∀ news' r, Post news' r → ∃ news'', (∀ p ∈ news'', p ∈ news') ∧ Post2 news'' r) : TellS w f dd du vs sub Post2 := by
  intro mean mg mb dp un gd env outer A₀ base h₀ L m s Q E B F XB N TB D hf hk hdp hun hret
  refine C mean mg mb dp un gd env outer A₀ base h₀ L m s Q E B F XB N TB D hf hk hdp hun fun r news' g' h' tk' T' B' F' N' D' hp hkeep hoff => ?_
  obtain ⟨news'', hs, hp2⟩ := h news' r hp
  exact hret r news'' g' h' tk' T' B' F' (fun p hp => N' p (hs p hp)) D' hp2 hkeep fun p hp => hoff p (hs p hp)
end
section
open PySem PySem.W PyProof.Rows PySem.Calls PySem.Spec
/-- where the walk is to stop -/
def StopAt (p : Prop) : Prop := p
theorem stopAt {p : Prop} (h : StopAt p) : p := h
theorem ite_no {b : Bool} {P Q : Prop} (h : b = false) (q : Q) : if b = true then P else Q := by rw [h]; exact q
theorem ite_yes {b : Bool} {P Q : Prop} (h : b = true) (p : P) : if b = true then P else Q := by rw [h]; exact p
/-- a ledger's part that is not written out -/
def IsRest (_ : List (Addr × Obj)) : Prop := True
theorem lt_rest {rest news : List (Addr × Obj)} {d : Addr} (_ : IsRest rest) (h : ∀ p ∈ news, p.1 < d) (hs : ∀ p ∈ rest, p ∈ news) : ∀ p ∈ rest, p.1 < d := fun p hp => h p (hs p hp)
theorem k_rest {P : Prop} {rest news : List (Addr × Obj)} {d : Addr} (_ : IsRest rest) (h : ∀ p ∈ news, p.1 < d) (hs : ∀ p ∈ rest, p ∈ news) (k : (∀ p ∈ rest, p.1 < d) → P) : P := k fun p hp => h p (hs p hp)
theorem ne_rest {rest : List (Addr × Obj)} {d : Addr} (h : ∀ p ∈ rest, p.1 < d) : ∀ p ∈ rest, p.1 ≠ d := fun p hp => Nat.ne_of_lt (h p hp)
section
variable {prog : Program} {w : World} {A : Around} {E : Value → Shared → Prop} {s : Shared} {h₀ : Heap} {L D b : Addr} {m : PySem.Str → Option Value} {news news' : List (Addr × Obj)} {st : List Value} {v x y : Value} {k k2 : Nat}
theorem pop_L {Q : Value → Shared → Prop} (F : Fr h₀ L s.heap m) (N : News h₀ L s.heap news) (hz : (st ++ [v]).length ≤ 1000000) (U : Upd D (listOf (st ++ [v]).toArray k) (listOf st.toArray (k + 1)) news news')
    (h : ∀ h', Fr h₀ L h' m → News h₀ L h' news' → Q v { s with heap := h' }) : wpAny (model prog w) A (call (.builtin "list.pop") [.ref D]) Q E s :=
  kl_pop F N (by simpa using kpa_last v st) U (by rw [sizeLine_eq]; simp only [List.toList_toArray]; omega) h
theorem append_L {Q : Value → Shared → Prop} (F : Fr h₀ L s.heap m) (N : News h₀ L s.heap news) (hz : st.length ≤ 1000000) (U : Upd D (listOf st.toArray k) (listOf (st ++ [x]).toArray (k + 1)) news news')
    (h : ∀ h', Fr h₀ L h' m → News h₀ L h' news' → Q .none { s with heap := h' }) : wpAny (model prog w) A (call (.builtin "list.append") [.ref D, x]) Q E s :=
  append_K (its := st.toArray) (n := k) (hsz := by rw [sizeLine_eq]; simp only [List.size_toArray]; omega) F N (by rw [List.push_toArray]; exact U) h
theorem extend_L {its2 : List Value} {Q : Value → Shared → Prop} (F : Fr h₀ L s.heap m) (N : News h₀ L s.heap news) (hb : (b, listOf its2.toArray k2) ∈ news) (hne : its2.length ≠ 0) (hz : st.length ≤ 1000000) (hz2 : its2.length ≤ 1000000)
    (U : Upd D (listOf st.toArray k) (listOf (st ++ its2).toArray (k + 1)) news news')
    (h : ∀ h', Fr h₀ L h' m → News h₀ L h' news' → Q .none { s with heap := h' }) : wpAny (model prog w) A (call (.builtin "list.extend") [.ref D, .ref b]) Q E s := by
  refine kl_extend F N hb (l := st ++ its2) (by simp) (by simpa using hne) U ?_ (by rw [sizeLine_eq]; simp only [List.toList_toArray]; omega) (by rw [sizeLine_eq]; simp only [List.size_toArray]; omega) h
  have : Builtin.List.listTooLong (st.toArray.size + its2.toArray.size) = false := by
    unfold Builtin.List.listTooLong
    simp only [List.size_toArray, decide_eq_false_iff_not]
    rw [sizeLine_eq]
    omega
  rw [this, Bool.and_false]
  decide
theorem ne_nil_L {Q : Value → Shared → Prop} {r : Bool} (N : News h₀ L s.heap news) (hu : A.units < cLine) (ha : (D, listOf st.toArray k) ∈ news) (hb : (b, listOf #[] k2) ∈ news) (hr : (!st.isEmpty) = r)
    (h : Q (.bool r) s) : wpAny (model prog w) A (compareOp .NotEq (.ref D) (.ref b)) Q E s := by
  subst hr
  have la : s.heap.IsList D st.toArray := News.isList N ha
  have lb : s.heap.IsList b #[] := News.isList N hb
  cases st with
  | nil => exact EqBoolInt.of_rcne (SeqAt.RcNeAt.lists (e := fun _ => true) la lb rfl hu (fun j h1 => absurd h1 (Nat.not_lt_zero _))) h
  | cons x r => exact EqBoolInt.of_rcne (SeqAt.RcNeAt.lists_lengths la lb (by simp) hu) h
end
section
variable {prog : Program} {w : World} {A A₀ : Around} {E : Value → Shared → Prop} {s : Shared} {base g g₀ : Heap} {L : Addr} {env : Env} {outer : List Env} {m : PySem.Str → Option Value} {news : List (Addr × Obj)}
/-- one more turn, or the end -/
def StepS (A₀ : Around) (base : Heap) (outer : List Env) (g₀ : Heap) (L : Addr) (s : Shared) (J : Nat → (PySem.Str → Option Value) → List (Addr × Obj) → Prop) (Q : Flow → Shared → Prop) (n : Nat) (f : Flow) (s₃ : Shared) : Prop :=
  match f with
  | .next | .cont => ∃ g' h' tk m₂ news₂ n', s₃ = { s with heap := h', toks := tk } ∧ KtsTurn (outer.filterMap (·.frame)) g₀ g' ∧ Below A₀ base outer g' ∧ Fr g' L h' m₂ ∧ News g' L h' news₂ ∧ KtsDicts (outer.filterMap (·.frame)) g' ∧ n' < n ∧ J n' m₂ news₂
  | .brk => Q .next s₃
  | .ret v => Q (.ret v) s₃
theorem whileS {test : Expr} {body : List Stmt} {pos : Pos} (J : Nat → (PySem.Str → Option Value) → List (Addr × Obj) → Prop) {n₀ : Nat} {Q : Flow → Shared → Prop}
    (T : KtsTurn (outer.filterMap (·.frame)) g₀ g) (B : Below A₀ base outer g) (F : Fr g L s.heap m) (N : News g L s.heap news) (D : KtsDicts (outer.filterMap (·.frame)) g) (hJ : J n₀ m news)
    (turn : ∀ n g₁ m₁ news₁ h₁ tk₁, KtsTurn (outer.filterMap (·.frame)) g₀ g₁ → Below A₀ base outer g₁ → Fr g₁ L h₁ m₁ → News g₁ L h₁ news₁ → KtsDicts (outer.filterMap (·.frame)) g₁ → J n m₁ news₁ →
      wpAny (model prog w) A (isTrue test env (eval test env)) (fun b s₂ =>
        if b = true then wpAny (model prog w) A (execs body env) (StepS A₀ base outer g₀ L s J Q n) E s₂ else Q .next s₂) E { s with heap := h₁, toks := tk₁ })
    (hE : PassesOwn (model prog w) A env E := by passes_own) :
    wpAny (model prog w) A (exec (.While test body [] pos) env) Q E s := by
  refine wpAny_While (codeAny_whileLoop (fun n s' => ∃ g₁ h₁ tk₁ m₁ news₁, s' = { s with heap := h₁, toks := tk₁ } ∧ KtsTurn (outer.filterMap (·.frame)) g₀ g₁ ∧ Below A₀ base outer g₁ ∧ Fr g₁ L h₁ m₁ ∧ News g₁ L h₁ news₁ ∧ KtsDicts (outer.filterMap (·.frame)) g₁ ∧ J n m₁ news₁) ?_ n₀
    ⟨g, s.heap, s.toks, m, news, rfl, T, B, F, N, D, hJ⟩)
  rintro n s' ⟨g₁, h₁, tk₁, m₁, news₁, rfl, T₁, B₁, F₁, N₁, D₁, J₁⟩
  refine wpAny_mono (turn n g₁ m₁ news₁ h₁ tk₁ T₁ B₁ F₁ N₁ D₁ J₁) (fun b s₂ h₂ => ?_) hE
  cases b with
  | false =>
    simp only [Bool.false_eq_true, if_false] at h₂ ⊢
    exact wpAny_execs_nil h₂
  | true =>
    simp only [if_true] at h₂ ⊢
    refine wpAny_mono h₂ (fun f s₃ h₃ => ?_) hE
    cases f with
    | next =>
      obtain ⟨g', h', tk, m₂, news₂, n', rfl, T₂, B₂, F₂, N₂, D₂, hn, J₂⟩ := h₃
      exact ⟨n', hn, g', h', tk, m₂, news₂, rfl, T₂, B₂, F₂, N₂, D₂, J₂⟩
    | cont =>
      obtain ⟨g', h', tk, m₂, news₂, n', rfl, T₂, B₂, F₂, N₂, D₂, hn, J₂⟩ := h₃
      exact ⟨n', hn, g', h', tk, m₂, news₂, rfl, T₂, B₂, F₂, N₂, D₂, J₂⟩
    | brk => exact h₃
    | ret v => exact h₃
end
end
section
open PySem PySem.W PyProof.Rows PySem.Calls PySem.Spec
/-- a sum's tree -/
inductive Tree where
  | text (name : PySem.Str)
  | ref (name : PySem.Str)
  | neg (t : Tree)
  | bin (word : PySem.Str) (l r : Tree)
def Tree.size : Tree → Nat
  | .text _ => 1
  | .ref _ => 1
  | .neg t => t.size + 1
  | .bin _ l r => l.size + r.size + 1
def Tree.names : Tree → List PySem.Str
  | .text n => [n]
  | .ref n => [n]
  | .neg t => t.names
  | .bin _ l r => l.names ++ r.names
theorem Tree.size_pos : ∀ t : Tree, 0 < t.size
  | .text _ => Nat.zero_lt_one
  | .ref _ => Nat.zero_lt_one
  | .neg t => Nat.succ_pos _
  | .bin _ _ _ => Nat.succ_pos _
abbrev sumWords : List PySem.Str := [Str.ofString "+", Str.ofString "-", Str.ofString "*", Str.ofString "/", Str.ofString "**"]
/-- the ledger bears it -/
inductive TreeIn (N : List (Addr × Obj)) : Value → Tree → Prop
  | text {a : Addr} {t bt : Tok} {n : Nat} : (a, tupO [.str (Str.ofString "text") t, .bytes #[49] bt] n) ∈ N → TreeIn N (.ref a) (.text (Str.ofString "a literal"))
  | ref {a b c : Addr} {t1 t2 : Tok} {n n1 n2 : Nat} {name : PySem.Str} : name.length ≤ 1000 → (a, tupO [.str (Str.ofString "ref") t1, .str name t2, .ref b, .ref c, .none] n) ∈ N → (b, tupO [] n1) ∈ N → (c, tupO [] n2) ∈ N → TreeIn N (.ref a) (.ref name)
  | neg {a : Addr} {t : Tok} {n : Nat} {v : Value} {T : Tree} : (a, tupO [.str (Str.ofString "neg") t, v] n) ∈ N → TreeIn N v T → TreeIn N (.ref a) (.neg T)
  | bin {a : Addr} {t : Tok} {n : Nat} {x y : Value} {word : PySem.Str} {T U : Tree} : word ∈ sumWords → (a, tupO [.str word t, x, y] n) ∈ N → TreeIn N x T → TreeIn N y U → TreeIn N (.ref a) (.bin word T U)
theorem TreeIn.mono {N N' : List (Addr × Obj)} {v : Value} {T : Tree} (h : TreeIn N v T) (hs : ∀ p ∈ N, p ∈ N') : TreeIn N' v T := by
  induction h with
  | text hm => exact .text (hs _ hm)
  | ref hl h1 h2 h3 => exact .ref hl (hs _ h1) (hs _ h2) (hs _ h3)
  | neg hm _ ih => exact .neg (hs _ hm) ih
  | bin hw hm _ _ ih1 ih2 => exact .bin hw (hs _ hm) ih1 ih2
/-- a stack of them -/
inductive StackIn (R : List (Addr × Obj) → Value → Tree → Prop) (N : List (Addr × Obj)) : List Value → List Tree → Prop
  | nil : StackIn R N [] []
  | snoc {vs : List Value} {ts : List Tree} {v : Value} {t : Tree} : StackIn R N vs ts → R N v t → StackIn R N (vs ++ [v]) (ts ++ [t])
/-- what it needs of the relation -/
def Mono (R : List (Addr × Obj) → Value → Tree → Prop) : Prop := ∀ (N N' : List (Addr × Obj)) (v : Value) (T : Tree), R N v T → (∀ p ∈ N, p ∈ N') → R N' v T
theorem StackIn.mono {R : List (Addr × Obj) → Value → Tree → Prop} (hR : Mono R) {N N' : List (Addr × Obj)} {vs : List Value} {ts : List Tree} (h : StackIn R N vs ts) (hs : ∀ p ∈ N, p ∈ N') : StackIn R N' vs ts := by
  induction h with
  | nil => exact .nil
  | snoc _ ht ih => exact .snoc ih (hR _ _ _ _ ht hs)
/-- what has been found: pairs -/
inductive PairsIn (N : List (Addr × Obj)) : List Value → List PySem.Str → Prop
  | nil : PairsIn N [] []
  | snoc {vs : List Value} {ns : List PySem.Str} {P : Addr} {a : PySem.Str} {t1 t2 : Tok} {n : Nat} {name : PySem.Str} : PairsIn N vs ns → (P, tupO [.str a t1, .str name t2] n) ∈ N → PairsIn N (vs ++ [.ref P]) (ns ++ [name])
theorem PairsIn.mono {N N' : List (Addr × Obj)} {vs : List Value} {ts : List PySem.Str} (h : PairsIn N vs ts) (hs : ∀ p ∈ N, p ∈ N') : PairsIn N' vs ts := by
  induction h with
  | nil => exact .nil
  | snoc _ ht ih => exact .snoc ih (hs _ ht)
def sizes (ts : List Tree) : Nat := (ts.map Tree.size).sum
def namesOf (ts : List Tree) : List PySem.Str := (ts.reverse.map Tree.names).flatten
theorem sizes_snoc (ts : List Tree) (t : Tree) : sizes (ts ++ [t]) = sizes ts + t.size := by simp [sizes]
theorem namesOf_snoc (ts : List Tree) (t : Tree) : namesOf (ts ++ [t]) = t.names ++ namesOf ts := by simp [namesOf]
theorem StackIn.len {R : List (Addr × Obj) → Value → Tree → Prop} {N : List (Addr × Obj)} {vs : List Value} {ts : List Tree} (h : StackIn R N vs ts) : vs.length ≤ sizes ts := by
  induction h with
  | nil => exact Nat.le_refl _
  | @snoc _ _ _ t _ _ ih =>
    rw [sizes_snoc, List.length_append, List.length_singleton]
    have := t.size_pos
    omega
theorem PairsIn.len {N : List (Addr × Obj)} {vs : List Value} {ts : List PySem.Str} (h : PairsIn N vs ts) : vs.length = ts.length := by
  induction h with
  | nil => rfl
  | snoc _ _ ih => rw [List.length_append, List.length_append, ih]; rfl
theorem Tree.names_len : ∀ t : Tree, t.names.length ≤ t.size
  | .text _ => Nat.le_refl _
  | .ref _ => Nat.le_refl _
  | .neg t => Nat.le_succ_of_le t.names_len
  | .bin _ l r => by
    have := l.names_len
    have := r.names_len
    simp only [Tree.names, Tree.size, List.length_append]
    omega
/-- a list of pairs, ahead of the ledger as it stood -/
def PostNF (names : List PySem.Str) (sub news' : List (Addr × Obj)) (r : Value) : Prop :=
  ∃ Z fs k, r = .ref Z ∧ (Z, listOf (fs : List Value).toArray k) ∈ news' ∧ PairsIn news' fs names ∧ ∀ p ∈ sub, p ∈ news'
abbrev condWords : List PySem.Str := [Str.ofString "and", Str.ofString "or"]
/-- the ledger bears it, a condition -/
inductive CondIn (N : List (Addr × Obj)) : Value → Tree → Prop
  | text {a b c : Addr} {t1 t2 t3 : Tok} {n n2 : Nat} : (a, tupO [.str (Str.ofString "class") t1, .str (Str.ofString "NUMERIC") t2, .ref b] n) ∈ N → (b, tupO [.str (Str.ofString "neg") t3, .ref c] n2) ∈ N → CondIn N (.ref a) (.text (Str.ofString "an expression"))
  | ref {a b c d : Addr} {t1 t2 t3 t4 : Tok} {n n1 n2 n3 : Nat} {name : PySem.Str} : name.length ≤ 1000 → (a, tupO [.str (Str.ofString "sign") t1, .str (Str.ofString "ZERO") t2, .ref b] n) ∈ N →
      (b, tupO [.str (Str.ofString "ref") t3, .str name t4, .ref c, .ref d, .none] n1) ∈ N → (c, tupO [] n2) ∈ N → (d, tupO [] n3) ∈ N → CondIn N (.ref a) (.ref name)
  | neg {a : Addr} {t : Tok} {n : Nat} {v : Value} {T : Tree} : (a, tupO [.str (Str.ofString "not") t, v] n) ∈ N → CondIn N v T → CondIn N (.ref a) (.neg T)
  | bin {a : Addr} {t : Tok} {n : Nat} {x y : Value} {word : PySem.Str} {T U : Tree} : word ∈ condWords → (a, tupO [.str word t, x, y] n) ∈ N → CondIn N x T → CondIn N y U → CondIn N (.ref a) (.bin word T U)
theorem CondIn.mono {N N' : List (Addr × Obj)} {v : Value} {T : Tree} (h : CondIn N v T) (hs : ∀ p ∈ N, p ∈ N') : CondIn N' v T := by
  induction h with
  | text h1 h2 => exact .text (hs _ h1) (hs _ h2)
  | ref hl h1 h2 h3 h4 => exact .ref hl (hs _ h1) (hs _ h2) (hs _ h3) (hs _ h4)
  | neg hm _ ih => exact .neg (hs _ hm) ih
  | bin hw hm _ _ ih1 ih2 => exact .bin hw (hs _ hm) ih1 ih2
theorem treeMono : Mono TreeIn := fun _ _ _ _ h hs => h.mono hs
theorem condMono : Mono CondIn := fun _ _ _ _ h hs => h.mono hs
end
section
open PySem PySem.W PyProof.Rows PySem.Calls PySem.Spec
/-- number_faults between its turns -/
def JNF (R : List (Addr × Obj) → Value → Tree → Prop) (m₀ : PySem.Str → Option Value) (data nodes : List (Addr × Obj)) (T : Tree) (l f : Addr) (n : Nat) (m : PySem.Str → Option Value) (news : List (Addr × Obj)) : Prop :=
  ∃ st fs ts dn k1 k2 rest, n = sizes ts ∧ StackIn R rest st ts ∧ PairsIn rest fs dn ∧ dn ++ namesOf ts = T.names ∧ sizes ts ≤ 100000 ∧ (∀ p ∈ nodes, p ∈ rest) ∧ (∀ p ∈ rest, p.1 ≠ l) ∧ (∀ p ∈ rest, p.1 ≠ f) ∧
    (∀ y, y ≠ Str.ofString "more" → y ≠ Str.ofString "here" → m y = m₀ y) ∧ news = (l, listOf (st : List Value).toArray k1) :: (f, listOf (fs : List Value).toArray k2) :: (data ++ rest)
theorem newsTail {h₀ h : Heap} {L : Addr} {p : Addr × Obj} {news : List (Addr × Obj)} (N : News h₀ L h (p :: news)) : News h₀ L h news := fun q hq => N q (List.mem_cons_of_mem _ hq)
theorem sub_tail {nodes rest all : List (Addr × Obj)} (h : ∀ p ∈ nodes, p ∈ rest) (ha : ∀ p ∈ rest, p ∈ all) : ∀ p ∈ nodes, p ∈ all := fun p hp => ha p (h p hp)
theorem mCases {m m₀ : PySem.Str → Option Value} {a b : PySem.Str} (h : ∀ y, y ≠ a → y ≠ b → m y = m₀ y) : ∃ x z, m = fun y => if y = a then x else if y = b then z else m₀ y := by
  refine ⟨m a, m b, funext fun y => ?_⟩
  by_cases h1 : y = a
  · rw [if_pos h1, h1]
  · rw [if_neg h1]
    by_cases h2 : y = b
    · rw [if_pos h2, h2]
    · rw [if_neg h2]; exact h y h1 h2
section
variable {R : List (Addr × Obj) → Value → Tree → Prop} {A₀ : Around} {base g g₀ : Heap} {outer : List Env} {L l f : Addr} {s : Shared} {Q : Flow → Shared → Prop} {h' : Heap} {tk : Nat} {m m₀ : PySem.Str → Option Value} {all data nodes rest : List (Addr × Obj)} {T : Tree} {n : Nat}
  {st fs : List Value} {ts : List Tree} {dn : List PySem.Str} {k1 k2 : Nat}
theorem jnf_start {v : Value} (hT : R nodes v T) (hsz : T.size ≤ 100000) (hl : ∀ p ∈ nodes, p.1 ≠ l) (hf : ∀ p ∈ nodes, p.1 ≠ f) :
    JNF R m data nodes T l f (sizes [T]) m ((l, listOf [v].toArray k1) :: (f, listOf [].toArray k2) :: (data ++ nodes)) :=
  ⟨[v], [], [T], [], k1, k2, nodes, rfl, .snoc .nil hT, .nil, by simp [namesOf], by simpa [sizes] using hsz, fun _ hp => hp, hl, hf, fun _ _ _ => rfl, rfl⟩
theorem step_nf (T1 : KtsTurn (outer.filterMap (·.frame)) g₀ g) (B : Below A₀ base outer g) (F : Fr g L h' m) (N : News g L h' all) (D : KtsDicts (outer.filterMap (·.frame)) g)
    (hst : StackIn R rest st ts) (hfs : PairsIn rest fs dn) (hn : sizes ts < n) (hnm : dn ++ namesOf ts = T.names) (hsz : n ≤ 100000) (hsub : ∀ p ∈ nodes, p ∈ rest) (hl : ∀ p ∈ rest, p.1 ≠ l) (hf : ∀ p ∈ rest, p.1 ≠ f)
    (hm : ∀ y, y ≠ Str.ofString "more" → y ≠ Str.ofString "here" → m y = m₀ y) (hs : ∀ p ∈ (l, listOf st.toArray k1) :: (f, listOf fs.toArray k2) :: (data ++ rest), p ∈ all) :
    StepS A₀ base outer g₀ L s (JNF R m₀ data nodes T l f) Q n .next { s with heap := h', toks := tk } :=
  ⟨g, h', tk, m, _, sizes ts, rfl, T1, B, F, fun p hp => N p (hs p hp), D, hn, st, fs, ts, dn, k1, k2, rest, rfl, hst, hfs, hnm, by omega, hsub, hl, hf, hm, rfl⟩
theorem step_nf_pair (hR : Mono R) {P : Addr} {a name : PySem.Str} {t1 t2 : Tok} {n0 : Nat} (T1 : KtsTurn (outer.filterMap (·.frame)) g₀ g) (B : Below A₀ base outer g) (F : Fr g L h' m) (N : News g L h' all) (D : KtsDicts (outer.filterMap (·.frame)) g)
    (hf0 : (f, listOf (fs ++ [Value.ref P]).toArray k2) ∈ all) (hP : (P, tupO [.str a t1, .str name t2] n0) ∈ all) (hP1 : P ≠ l) (hP2 : P ≠ f)
    (hst : StackIn R rest st ts) (hfs : PairsIn rest fs dn) (hn : sizes ts < n) (hnm : (dn ++ [name]) ++ namesOf ts = T.names) (hsz : n ≤ 100000) (hsub : ∀ p ∈ nodes, p ∈ rest) (hl : ∀ p ∈ rest, p.1 ≠ l) (hf : ∀ p ∈ rest, p.1 ≠ f)
    (hm : ∀ y, y ≠ Str.ofString "more" → y ≠ Str.ofString "here" → m y = m₀ y) (hs : ∀ p ∈ (l, listOf st.toArray k1) :: (data ++ rest), p ∈ all) :
    StepS A₀ base outer g₀ L s (JNF R m₀ data nodes T l f) Q n .next { s with heap := h', toks := tk } := by
  have up : ∀ p ∈ rest, p ∈ (P, tupO [.str a t1, .str name t2] n0) :: rest := fun p hp => .tail _ hp
  refine step_nf (rest := (P, tupO [.str a t1, .str name t2] n0) :: rest) (fs := fs ++ [Value.ref P]) (k1 := k1) (k2 := k2) T1 B F N D (hst.mono hR up) ((hfs.mono up).snoc (.head _)) hn hnm hsz (fun p hp => up p (hsub p hp)) ?_ ?_ hm ?_
  · exact List.forall_mem_cons.mpr ⟨hP1, hl⟩
  · exact List.forall_mem_cons.mpr ⟨hP2, hf⟩
  · intro p hp
    rcases List.mem_cons.mp hp with rfl | hp
    · exact hs _ (.head _)
    · rcases List.mem_cons.mp hp with rfl | hp
      · exact hf0
      · rcases List.mem_append.mp hp with hp | hp
        · exact hs p (.tail _ (List.mem_append_left _ hp))
        · rcases List.mem_cons.mp hp with rfl | hp
          · exact hP
          · exact hs p (.tail _ (List.mem_append_right _ hp))
end
theorem endS_nf {names : List PySem.Str} {sub : List (Addr × Obj)} {frs : List Addr} {g g' : Heap} {s : Shared} {f : Addr} {fs : List Value} {k : Nat} {L' : Addr} {m' : PySem.Str → Option Value} {all : List (Addr × Obj)} {h' : Heap} {tk' : Nat}
    (T : KtsTurn frs g g') (F : Fr g' L' h' m') (N : News g' L' h' all) (h1 : (f, listOf fs.toArray k) ∈ all) (h2 : PairsIn all fs names) (hs : ∀ p ∈ sub, p ∈ all) :
    EndS frs g s (PostNF names sub) (.ref f) { s with heap := h', toks := tk' } := endS all T F N (fun _ hp => hp) ⟨f, fs, k, rfl, h1, h2, hs⟩
section
variable {prog : Program} {w : World} {A : Around} {E : Value → Shared → Prop} {s : Shared} {h₀ : Heap} {L D b : Addr} {news : List (Addr × Obj)} {st : List Value} {v x : Value} {k k2 : Nat}
theorem ne_nil_snoc {Q : Value → Shared → Prop} (N : News h₀ L s.heap news) (hu : A.units < cLine) (ha : (D, listOf (st ++ [v]).toArray k) ∈ news) (hb : (b, listOf #[] k2) ∈ news)
    (h : Q (.bool true) s) : wpAny (model prog w) A (compareOp .NotEq (.ref D) (.ref b)) Q E s := ne_nil_L N hu ha hb (by simp) h
theorem ne_nil_cons {Q : Value → Shared → Prop} (N : News h₀ L s.heap news) (hu : A.units < cLine) (ha : (D, listOf (x :: st).toArray k) ∈ news) (hb : (b, listOf #[] k2) ∈ news)
    (h : Q (.bool true) s) : wpAny (model prog w) A (compareOp .NotEq (.ref D) (.ref b)) Q E s := ne_nil_L N hu ha hb (by simp) h
theorem ne_nil_nil {Q : Value → Shared → Prop} (N : News h₀ L s.heap news) (hu : A.units < cLine) (ha : (D, listOf #[] k) ∈ news) (hb : (b, listOf #[] k2) ∈ news)
    (h : Q (.bool false) s) : wpAny (model prog w) A (compareOp .NotEq (.ref D) (.ref b)) Q E s := ne_nil_L (st := []) N hu ha hb (by simp) h
end
end
section
open PySem PySem.W PyProof.Rows PySem.Calls PySem.Spec PySem.SeqAt
theorem tuple_eq_first (l b : Addr) (items items2 : Array Value) (n n2 : Nat) (dd dd2 : Option Addr) (sl sl2 : Array (Option Value)) (x y : Value) (zs : List (Value × Value)) (hZ : items.toList.zip items2.toList = (x, y) :: zs) :
    Meets (Builtin.«tuple.__eq__» ⟨[.ref l, .ref b], []⟩)
      (fun A R s => s.heap.get? l = some { cls := .type "tuple", dict := dd, data := .seq items n, slots := sl } ∧ s.heap.get? b = some { cls := .type "tuple", dict := dd2, data := .seq items2 n2, slots := sl2 } ∧
        EqAt A.in1 s x y false ∧ R (.ok (.ret (.bool false))) s) :=
  .of_wp fun prog w A R s h => by
    obtain ⟨hp, g, d, tk, os⟩ := s; obtain ⟨hl, hb, he, h⟩ := h
    have f2 := AutoSeq1.sub_tuple_tuple
    wp_walk using wpAny_loadPart' hl, wpAny_loadPart' hb, wpAny_forIn_list _ (fun rest b s' => b.1 = none ∧ s' = ⟨hp, g, d, tk, os⟩ ∧ rest = (x, y) :: zs) _
    case turn =>
      rintro ⟨y', x'⟩ rest b s' ⟨hb', rfl, hz⟩
      injection hz with hyx hrest
      injection hyx with e1 e2
      subst e1 e2
      refine wpAny_bind (he prog w _ _ ?_)
      wp_walk
      exact ⟨_, rfl, h⟩
    case fin =>
      rintro ⟨b1, b2⟩ s' ⟨hb', rfl, hz⟩
      cases hz
    case h =>
      exact ⟨rfl, rfl, hZ⟩
section
variable {prog : Program} {w : World} {A : Around} {E : Value → Shared → Prop} {s : Shared} {h₀ : Heap} {L l b : Addr} {news : List (Addr × Obj)} {x y : Value} {xs ys : List Value} {n n2 : Nat}
theorem eq_tup_first {Q : Value → Shared → Prop} (N : News h₀ L s.heap news) (ha : (l, tupO (x :: xs) n) ∈ news) (hb : (b, tupO (y :: ys) n2) ∈ news) (he : EqAt A.in1 s x y false) (hu : A.units < cLine) (h : Q (.bool false) s) :
    wpAny (model prog w) A (compareOp .Eq (.ref l) (.ref b)) Q E s :=
  richCompare_meets_room (op := .Eq) ⟨_, (N _ ha).1, rfl⟩ ⟨_, (N _ hb).1, rfl⟩ PySem.F.slot_tuple_eq PySem.F.entry_tuple_eq (PySem.F.args_tuple_eq_2 _ _) (tuple_eq_first l b _ _ n n2 none none #[] #[] x y (xs.zip ys) (by simp))
    ⟨(N _ ha).1, (N _ hb).1, he, show Value.bool false ≠ Value.notImplemented ∧ Q (.bool false) s from ⟨(fun x => nomatch x), h⟩⟩ hu
theorem eqAt_str {a b : PySem.Str} {t u : Tok} {A : Around} (h : (a == b) = false) : EqAt A s (.str a t) (.str b u) false := h ▸ EqAt.str_str a t b u
end
end
section
open PySem PySem.W PyProof.Rows
@[reducible] def LtC (x : Addr) : List (Addr × Obj) → Prop
  | [] => True
  | [p] => p.1 < x
  | p :: q :: r => p.1 < x ∧ LtC x (q :: r)
theorem allNe {x : Addr} : ∀ {l : List (Addr × Obj)}, LtC x l → ∀ p ∈ l, p.1 ≠ x
  | [], _ => fun _ hp => nomatch hp
  | [p], h => fun q hq => by rcases List.mem_cons.mp hq with rfl | hq; exact Nat.ne_of_lt h; exact nomatch hq
  | p :: q :: r, h => fun y hy => by
    rcases List.mem_cons.mp hy with rfl | hy
    · exact Nat.ne_of_lt h.1
    · exact allNe h.2 y hy
theorem allLtOf {x : Addr} : ∀ {l : List (Addr × Obj)}, LtC x l → ∀ p ∈ l, p.1 < x
  | [], _ => fun _ hp => nomatch hp
  | [p], h => fun q hq => by rcases List.mem_cons.mp hq with rfl | hq; exact h; exact nomatch hq
  | p :: q :: r, h => fun y hy => by
    rcases List.mem_cons.mp hy with rfl | hy
    · exact h.1
    · exact allLtOf h.2 y hy
theorem allNe2 {t x : Addr} {o : Obj} {l : List (Addr × Obj)} (h : t < x) (g : LtC t l) : ∀ p ∈ (t, o) :: l, p.1 ≠ x := fun y hy => by
  rcases List.mem_cons.mp hy with rfl | hy
  · exact Nat.ne_of_lt h
  · exact Nat.ne_of_lt (Nat.lt_trans (allLtOf g y hy) h)
theorem ltOf2 {a t x : Addr} (h : a < t) (g : t < x) : a < x := Nat.lt_trans h g
example (a b c x : Nat) (o o' : Obj) (h : a < x ∧ b < x ∧ c < x) : ∀ p ∈ [(a, o), (b, o'), (c, o)], p.1 ≠ x := by
  exact allNe (by with_reducible assumption)
end
local macro_rules | `(tactic| k_ne) => `(tactic| (refine neN ?_; (try dsimp only); first | with_reducible assumption | exact Ne.symm (by with_reducible assumption) | exact Nat.ne_of_lt (by with_reducible assumption) | exact Nat.ne_of_gt (by with_reducible assumption) | exact Nat.ne_of_lt (And.left (by with_reducible assumption)) | exact Nat.ne_of_gt (And.left (by with_reducible assumption)) | exact Nat.ne_of_lt (And.left (And.right (by with_reducible assumption))) | exact Nat.ne_of_gt (And.left (And.right (by with_reducible assumption))) | exact Nat.ne_of_lt (And.right (by with_reducible assumption)) | exact Nat.ne_of_gt (And.right (by with_reducible assumption)) | exact Nat.ne_of_lt (And.left (And.right (And.right (by with_reducible assumption)))) | exact Nat.ne_of_gt (And.left (And.right (And.right (by with_reducible assumption)))) | exact Nat.ne_of_lt (And.right (And.right (by with_reducible assumption))) | exact Nat.ne_of_gt (And.right (And.right (by with_reducible assumption))) | exact Nat.ne_of_lt (And.left (And.right (And.right (And.right (by with_reducible assumption))))) | exact Nat.ne_of_gt (And.left (And.right (And.right (And.right (by with_reducible assumption))))) | exact Nat.ne_of_lt (And.right (And.right (And.right (by with_reducible assumption)))) | exact Nat.ne_of_gt (And.right (And.right (And.right (by with_reducible assumption)))) | exact Nat.ne_of_lt (And.left (And.right (And.right (And.right (And.right (by with_reducible assumption)))))) | exact Nat.ne_of_gt (And.left (And.right (And.right (And.right (And.right (by with_reducible assumption)))))) | exact Nat.ne_of_lt (And.right (And.right (And.right (And.right (by with_reducible assumption))))) | exact Nat.ne_of_gt (And.right (And.right (And.right (And.right (by with_reducible assumption))))) | exact Nat.ne_of_lt (And.left (And.right (And.right (And.right (And.right (And.right (by with_reducible assumption))))))) | exact Nat.ne_of_gt (And.left (And.right (And.right (And.right (And.right (And.right (by with_reducible assumption))))))) | exact Nat.ne_of_lt (And.right (And.right (And.right (And.right (And.right (by with_reducible assumption)))))) | exact Nat.ne_of_gt (And.right (And.right (And.right (And.right (And.right (by with_reducible assumption)))))) | exact Nat.ne_of_lt (And.left (And.right (And.right (And.right (And.right (And.right (And.right (by with_reducible assumption)))))))) | exact Nat.ne_of_gt (And.left (And.right (And.right (And.right (And.right (And.right (And.right (by with_reducible assumption)))))))) | exact Nat.ne_of_lt (And.right (And.right (And.right (And.right (And.right (And.right (by with_reducible assumption))))))) | exact Nat.ne_of_gt (And.right (And.right (And.right (And.right (And.right (And.right (by with_reducible assumption))))))) | exact Nat.ne_of_lt (And.left (And.right (And.right (And.right (And.right (And.right (And.right (And.right (by with_reducible assumption))))))))) | exact Nat.ne_of_gt (And.left (And.right (And.right (And.right (And.right (And.right (And.right (And.right (by with_reducible assumption))))))))) | exact Nat.ne_of_lt (And.right (And.right (And.right (And.right (And.right (And.right (And.right (by with_reducible assumption)))))))) | exact Nat.ne_of_gt (And.right (And.right (And.right (And.right (And.right (And.right (And.right (by with_reducible assumption)))))))) | exact Nat.ne_of_lt (And.left (And.right (And.right (And.right (And.right (And.right (And.right (And.right (And.right (by with_reducible assumption)))))))))) | exact Nat.ne_of_gt (And.left (And.right (And.right (And.right (And.right (And.right (And.right (And.right (And.right (by with_reducible assumption)))))))))) | exact Nat.ne_of_lt (And.right (And.right (And.right (And.right (And.right (And.right (And.right (And.right (by with_reducible assumption))))))))) | exact Nat.ne_of_gt (And.right (And.right (And.right (And.right (And.right (And.right (And.right (And.right (by with_reducible assumption))))))))) | exact Nat.ne_of_lt (And.left (And.right (And.right (And.right (And.right (And.right (And.right (And.right (And.right (And.right (by with_reducible assumption))))))))))) | exact Nat.ne_of_gt (And.left (And.right (And.right (And.right (And.right (And.right (And.right (And.right (And.right (And.right (by with_reducible assumption))))))))))) | exact Nat.ne_of_lt (And.right (And.right (And.right (And.right (And.right (And.right (And.right (And.right (And.right (by with_reducible assumption)))))))))) | exact Nat.ne_of_gt (And.right (And.right (And.right (And.right (And.right (And.right (And.right (And.right (And.right (by with_reducible assumption)))))))))) | exact Nat.ne_of_lt (And.left (And.right (And.right (And.right (And.right (And.right (And.right (And.right (And.right (And.right (And.right (by with_reducible assumption)))))))))))) | exact Nat.ne_of_gt (And.left (And.right (And.right (And.right (And.right (And.right (And.right (And.right (And.right (And.right (And.right (by with_reducible assumption)))))))))))) | exact Nat.ne_of_lt (And.right (And.right (And.right (And.right (And.right (And.right (And.right (And.right (And.right (And.right (by with_reducible assumption))))))))))) | exact Nat.ne_of_gt (And.right (And.right (And.right (And.right (And.right (And.right (And.right (And.right (And.right (And.right (by with_reducible assumption))))))))))) | exact Nat.ne_of_lt (And.left (And.right (And.right (And.right (And.right (And.right (And.right (And.right (And.right (And.right (And.right (And.right (by with_reducible assumption))))))))))))) | exact Nat.ne_of_gt (And.left (And.right (And.right (And.right (And.right (And.right (And.right (And.right (And.right (And.right (And.right (And.right (by with_reducible assumption))))))))))))) | exact Nat.ne_of_lt (And.right (And.right (And.right (And.right (And.right (And.right (And.right (And.right (And.right (And.right (And.right (by with_reducible assumption)))))))))))) | exact Nat.ne_of_gt (And.right (And.right (And.right (And.right (And.right (And.right (And.right (And.right (And.right (And.right (And.right (by with_reducible assumption)))))))))))) | exact Nat.ne_of_lt (And.left (And.right (And.right (And.right (And.right (And.right (And.right (And.right (And.right (And.right (And.right (And.right (And.right (by with_reducible assumption)))))))))))))) | exact Nat.ne_of_gt (And.left (And.right (And.right (And.right (And.right (And.right (And.right (And.right (And.right (And.right (And.right (And.right (And.right (by with_reducible assumption)))))))))))))) | exact Nat.ne_of_lt (And.right (And.right (And.right (And.right (And.right (And.right (And.right (And.right (And.right (And.right (And.right (And.right (by with_reducible assumption))))))))))))) | exact Nat.ne_of_gt (And.right (And.right (And.right (And.right (And.right (And.right (And.right (And.right (And.right (And.right (And.right (And.right (by with_reducible assumption))))))))))))) | exact Nat.ne_of_lt (And.left (And.right (And.right (And.right (And.right (And.right (And.right (And.right (And.right (And.right (And.right (And.right (And.right (And.right (by with_reducible assumption))))))))))))))) | exact Nat.ne_of_gt (And.left (And.right (And.right (And.right (And.right (And.right (And.right (And.right (And.right (And.right (And.right (And.right (And.right (And.right (by with_reducible assumption))))))))))))))) | exact Nat.ne_of_lt (And.right (And.right (And.right (And.right (And.right (And.right (And.right (And.right (And.right (And.right (And.right (And.right (And.right (by with_reducible assumption)))))))))))))) | exact Nat.ne_of_gt (And.right (And.right (And.right (And.right (And.right (And.right (And.right (And.right (And.right (And.right (And.right (And.right (And.right (by with_reducible assumption)))))))))))))) | exact Nat.ne_of_lt (And.left (And.right (And.right (And.right (And.right (And.right (And.right (And.right (And.right (And.right (And.right (And.right (And.right (And.right (And.right (by with_reducible assumption)))))))))))))))) | exact Nat.ne_of_gt (And.left (And.right (And.right (And.right (And.right (And.right (And.right (And.right (And.right (And.right (And.right (And.right (And.right (And.right (And.right (by with_reducible assumption)))))))))))))))) | exact Nat.ne_of_lt (And.right (And.right (And.right (And.right (And.right (And.right (And.right (And.right (And.right (And.right (And.right (And.right (And.right (And.right (by with_reducible assumption))))))))))))))) | exact Nat.ne_of_gt (And.right (And.right (And.right (And.right (And.right (And.right (And.right (And.right (And.right (And.right (And.right (And.right (And.right (And.right (by with_reducible assumption))))))))))))))) | exact Nat.ne_of_lt (And.left (And.right (And.right (And.right (And.right (And.right (And.right (And.right (And.right (And.right (And.right (And.right (And.right (And.right (And.right (And.right (by with_reducible assumption))))))))))))))))) | exact Nat.ne_of_gt (And.left (And.right (And.right (And.right (And.right (And.right (And.right (And.right (And.right (And.right (And.right (And.right (And.right (And.right (And.right (And.right (by with_reducible assumption))))))))))))))))) | exact Nat.ne_of_lt (And.right (And.right (And.right (And.right (And.right (And.right (And.right (And.right (And.right (And.right (And.right (And.right (And.right (And.right (And.right (by with_reducible assumption)))))))))))))))) | exact Nat.ne_of_gt (And.right (And.right (And.right (And.right (And.right (And.right (And.right (And.right (And.right (And.right (And.right (And.right (And.right (And.right (And.right (by with_reducible assumption)))))))))))))))) | exact Nat.ne_of_lt (And.left (And.right (And.right (And.right (And.right (And.right (And.right (And.right (And.right (And.right (And.right (And.right (And.right (And.right (And.right (And.right (And.right (by with_reducible assumption)))))))))))))))))) | exact Nat.ne_of_gt (And.left (And.right (And.right (And.right (And.right (And.right (And.right (And.right (And.right (And.right (And.right (And.right (And.right (And.right (And.right (And.right (And.right (by with_reducible assumption)))))))))))))))))) | exact Nat.ne_of_lt (And.right (And.right (And.right (And.right (And.right (And.right (And.right (And.right (And.right (And.right (And.right (And.right (And.right (And.right (And.right (And.right (by with_reducible assumption))))))))))))))))) | exact Nat.ne_of_gt (And.right (And.right (And.right (And.right (And.right (And.right (And.right (And.right (And.right (And.right (And.right (And.right (And.right (And.right (And.right (And.right (by with_reducible assumption))))))))))))))))) | exact Nat.ne_of_lt (And.left (And.right (And.right (And.right (And.right (And.right (And.right (And.right (And.right (And.right (And.right (And.right (And.right (And.right (And.right (And.right (And.right (And.right (by with_reducible assumption))))))))))))))))))) | exact Nat.ne_of_gt (And.left (And.right (And.right (And.right (And.right (And.right (And.right (And.right (And.right (And.right (And.right (And.right (And.right (And.right (And.right (And.right (And.right (And.right (by with_reducible assumption))))))))))))))))))) | exact Nat.ne_of_lt (And.right (And.right (And.right (And.right (And.right (And.right (And.right (And.right (And.right (And.right (And.right (And.right (And.right (And.right (And.right (And.right (And.right (by with_reducible assumption)))))))))))))))))) | exact Nat.ne_of_gt (And.right (And.right (And.right (And.right (And.right (And.right (And.right (And.right (And.right (And.right (And.right (And.right (And.right (And.right (And.right (And.right (And.right (by with_reducible assumption)))))))))))))))))) | exact Nat.ne_of_lt (And.left (And.right (And.right (And.right (And.right (And.right (And.right (And.right (And.right (And.right (And.right (And.right (And.right (And.right (And.right (And.right (And.right (And.right (And.right (by with_reducible assumption)))))))))))))))))))) | exact Nat.ne_of_gt (And.left (And.right (And.right (And.right (And.right (And.right (And.right (And.right (And.right (And.right (And.right (And.right (And.right (And.right (And.right (And.right (And.right (And.right (And.right (by with_reducible assumption)))))))))))))))))))) | exact Nat.ne_of_lt (And.right (And.right (And.right (And.right (And.right (And.right (And.right (And.right (And.right (And.right (And.right (And.right (And.right (And.right (And.right (And.right (And.right (And.right (by with_reducible assumption))))))))))))))))))) | exact Nat.ne_of_gt (And.right (And.right (And.right (And.right (And.right (And.right (And.right (And.right (And.right (And.right (And.right (And.right (And.right (And.right (And.right (And.right (And.right (And.right (by with_reducible assumption))))))))))))))))))) | exact Nat.ne_of_lt (And.left (And.right (And.right (And.right (And.right (And.right (And.right (And.right (And.right (And.right (And.right (And.right (And.right (And.right (And.right (And.right (And.right (And.right (And.right (And.right (by with_reducible assumption))))))))))))))))))))) | exact Nat.ne_of_gt (And.left (And.right (And.right (And.right (And.right (And.right (And.right (And.right (And.right (And.right (And.right (And.right (And.right (And.right (And.right (And.right (And.right (And.right (And.right (And.right (by with_reducible assumption))))))))))))))))))))) | exact Nat.ne_of_lt (And.right (And.right (And.right (And.right (And.right (And.right (And.right (And.right (And.right (And.right (And.right (And.right (And.right (And.right (And.right (And.right (And.right (And.right (And.right (by with_reducible assumption)))))))))))))))))))) | exact Nat.ne_of_gt (And.right (And.right (And.right (And.right (And.right (And.right (And.right (And.right (And.right (And.right (And.right (And.right (And.right (And.right (And.right (And.right (And.right (And.right (And.right (by with_reducible assumption)))))))))))))))))))) | exact Nat.ne_of_lt (And.left (And.right (And.right (And.right (And.right (And.right (And.right (And.right (And.right (And.right (And.right (And.right (And.right (And.right (And.right (And.right (And.right (And.right (And.right (And.right (And.right (by with_reducible assumption)))))))))))))))))))))) | exact Nat.ne_of_gt (And.left (And.right (And.right (And.right (And.right (And.right (And.right (And.right (And.right (And.right (And.right (And.right (And.right (And.right (And.right (And.right (And.right (And.right (And.right (And.right (And.right (by with_reducible assumption)))))))))))))))))))))) | exact Nat.ne_of_lt (And.right (And.right (And.right (And.right (And.right (And.right (And.right (And.right (And.right (And.right (And.right (And.right (And.right (And.right (And.right (And.right (And.right (And.right (And.right (And.right (by with_reducible assumption))))))))))))))))))))) | exact Nat.ne_of_gt (And.right (And.right (And.right (And.right (And.right (And.right (And.right (And.right (And.right (And.right (And.right (And.right (And.right (And.right (And.right (And.right (And.right (And.right (And.right (And.right (by with_reducible assumption))))))))))))))))))))) | exact Nat.ne_of_lt (And.left (And.right (And.right (And.right (And.right (And.right (And.right (And.right (And.right (And.right (And.right (And.right (And.right (And.right (And.right (And.right (And.right (And.right (And.right (And.right (And.right (And.right (by with_reducible assumption))))))))))))))))))))))) | exact Nat.ne_of_gt (And.left (And.right (And.right (And.right (And.right (And.right (And.right (And.right (And.right (And.right (And.right (And.right (And.right (And.right (And.right (And.right (And.right (And.right (And.right (And.right (And.right (And.right (by with_reducible assumption))))))))))))))))))))))) | exact Nat.ne_of_lt (And.right (And.right (And.right (And.right (And.right (And.right (And.right (And.right (And.right (And.right (And.right (And.right (And.right (And.right (And.right (And.right (And.right (And.right (And.right (And.right (And.right (by with_reducible assumption)))))))))))))))))))))) | exact Nat.ne_of_gt (And.right (And.right (And.right (And.right (And.right (And.right (And.right (And.right (And.right (And.right (And.right (And.right (And.right (And.right (And.right (And.right (And.right (And.right (And.right (And.right (And.right (by with_reducible assumption)))))))))))))))))))))) | exact Nat.ne_of_lt (And.left (And.right (And.right (And.right (And.right (And.right (And.right (And.right (And.right (And.right (And.right (And.right (And.right (And.right (And.right (And.right (And.right (And.right (And.right (And.right (And.right (And.right (And.right (by with_reducible assumption)))))))))))))))))))))))) | exact Nat.ne_of_gt (And.left (And.right (And.right (And.right (And.right (And.right (And.right (And.right (And.right (And.right (And.right (And.right (And.right (And.right (And.right (And.right (And.right (And.right (And.right (And.right (And.right (And.right (And.right (by with_reducible assumption)))))))))))))))))))))))) | exact Nat.ne_of_lt (And.right (And.right (And.right (And.right (And.right (And.right (And.right (And.right (And.right (And.right (And.right (And.right (And.right (And.right (And.right (And.right (And.right (And.right (And.right (And.right (And.right (And.right (by with_reducible assumption))))))))))))))))))))))) | exact Nat.ne_of_gt (And.right (And.right (And.right (And.right (And.right (And.right (And.right (And.right (And.right (And.right (And.right (And.right (And.right (And.right (And.right (And.right (And.right (And.right (And.right (And.right (And.right (And.right (by with_reducible assumption))))))))))))))))))))))) | exact Nat.ne_of_lt (And.left (And.right (And.right (And.right (And.right (And.right (And.right (And.right (And.right (And.right (And.right (And.right (And.right (And.right (And.right (And.right (And.right (And.right (And.right (And.right (And.right (And.right (And.right (And.right (by with_reducible assumption))))))))))))))))))))))))) | exact Nat.ne_of_gt (And.left (And.right (And.right (And.right (And.right (And.right (And.right (And.right (And.right (And.right (And.right (And.right (And.right (And.right (And.right (And.right (And.right (And.right (And.right (And.right (And.right (And.right (And.right (And.right (by with_reducible assumption))))))))))))))))))))))))) | exact Nat.ne_of_lt (And.right (And.right (And.right (And.right (And.right (And.right (And.right (And.right (And.right (And.right (And.right (And.right (And.right (And.right (And.right (And.right (And.right (And.right (And.right (And.right (And.right (And.right (And.right (by with_reducible assumption)))))))))))))))))))))))) | exact Nat.ne_of_gt (And.right (And.right (And.right (And.right (And.right (And.right (And.right (And.right (And.right (And.right (And.right (And.right (And.right (And.right (And.right (And.right (And.right (And.right (And.right (And.right (And.right (And.right (And.right (by with_reducible assumption)))))))))))))))))))))))) | exact Nat.ne_of_lt (And.left (And.right (And.right (And.right (And.right (And.right (And.right (And.right (And.right (And.right (And.right (And.right (And.right (And.right (And.right (And.right (And.right (And.right (And.right (And.right (And.right (And.right (And.right (And.right (And.right (by with_reducible assumption)))))))))))))))))))))))))) | exact Nat.ne_of_gt (And.left (And.right (And.right (And.right (And.right (And.right (And.right (And.right (And.right (And.right (And.right (And.right (And.right (And.right (And.right (And.right (And.right (And.right (And.right (And.right (And.right (And.right (And.right (And.right (And.right (by with_reducible assumption)))))))))))))))))))))))))) | exact Nat.ne_of_lt (And.right (And.right (And.right (And.right (And.right (And.right (And.right (And.right (And.right (And.right (And.right (And.right (And.right (And.right (And.right (And.right (And.right (And.right (And.right (And.right (And.right (And.right (And.right (And.right (by with_reducible assumption))))))))))))))))))))))))) | exact Nat.ne_of_gt (And.right (And.right (And.right (And.right (And.right (And.right (And.right (And.right (And.right (And.right (And.right (And.right (And.right (And.right (And.right (And.right (And.right (And.right (And.right (And.right (And.right (And.right (And.right (And.right (by with_reducible assumption))))))))))))))))))))))))) | exact Nat.ne_of_lt (And.left (And.right (And.right (And.right (And.right (And.right (And.right (And.right (And.right (And.right (And.right (And.right (And.right (And.right (And.right (And.right (And.right (And.right (And.right (And.right (And.right (And.right (And.right (And.right (And.right (And.right (by with_reducible assumption))))))))))))))))))))))))))) | exact Nat.ne_of_gt (And.left (And.right (And.right (And.right (And.right (And.right (And.right (And.right (And.right (And.right (And.right (And.right (And.right (And.right (And.right (And.right (And.right (And.right (And.right (And.right (And.right (And.right (And.right (And.right (And.right (And.right (by with_reducible assumption))))))))))))))))))))))))))) | exact Nat.ne_of_lt (And.right (And.right (And.right (And.right (And.right (And.right (And.right (And.right (And.right (And.right (And.right (And.right (And.right (And.right (And.right (And.right (And.right (And.right (And.right (And.right (And.right (And.right (And.right (And.right (And.right (by with_reducible assumption)))))))))))))))))))))))))) | exact Nat.ne_of_gt (And.right (And.right (And.right (And.right (And.right (And.right (And.right (And.right (And.right (And.right (And.right (And.right (And.right (And.right (And.right (And.right (And.right (And.right (And.right (And.right (And.right (And.right (And.right (And.right (And.right (by with_reducible assumption)))))))))))))))))))))))))) | exact Nat.ne_of_lt (And.left (And.right (And.right (And.right (And.right (And.right (And.right (And.right (And.right (And.right (And.right (And.right (And.right (And.right (And.right (And.right (And.right (And.right (And.right (And.right (And.right (And.right (And.right (And.right (And.right (And.right (And.right (by with_reducible assumption)))))))))))))))))))))))))))) | exact Nat.ne_of_gt (And.left (And.right (And.right (And.right (And.right (And.right (And.right (And.right (And.right (And.right (And.right (And.right (And.right (And.right (And.right (And.right (And.right (And.right (And.right (And.right (And.right (And.right (And.right (And.right (And.right (And.right (And.right (by with_reducible assumption)))))))))))))))))))))))))))) | exact Nat.ne_of_lt (And.right (And.right (And.right (And.right (And.right (And.right (And.right (And.right (And.right (And.right (And.right (And.right (And.right (And.right (And.right (And.right (And.right (And.right (And.right (And.right (And.right (And.right (And.right (And.right (And.right (And.right (by with_reducible assumption))))))))))))))))))))))))))) | exact Nat.ne_of_gt (And.right (And.right (And.right (And.right (And.right (And.right (And.right (And.right (And.right (And.right (And.right (And.right (And.right (And.right (And.right (And.right (And.right (And.right (And.right (And.right (And.right (And.right (And.right (And.right (And.right (And.right (by with_reducible assumption))))))))))))))))))))))))))) | exact Nat.ne_of_lt (And.left (And.right (And.right (And.right (And.right (And.right (And.right (And.right (And.right (And.right (And.right (And.right (And.right (And.right (And.right (And.right (And.right (And.right (And.right (And.right (And.right (And.right (And.right (And.right (And.right (And.right (And.right (And.right (by with_reducible assumption))))))))))))))))))))))))))))) | exact Nat.ne_of_gt (And.left (And.right (And.right (And.right (And.right (And.right (And.right (And.right (And.right (And.right (And.right (And.right (And.right (And.right (And.right (And.right (And.right (And.right (And.right (And.right (And.right (And.right (And.right (And.right (And.right (And.right (And.right (And.right (by with_reducible assumption))))))))))))))))))))))))))))) | exact Nat.ne_of_lt (And.right (And.right (And.right (And.right (And.right (And.right (And.right (And.right (And.right (And.right (And.right (And.right (And.right (And.right (And.right (And.right (And.right (And.right (And.right (And.right (And.right (And.right (And.right (And.right (And.right (And.right (And.right (by with_reducible assumption)))))))))))))))))))))))))))) | exact Nat.ne_of_gt (And.right (And.right (And.right (And.right (And.right (And.right (And.right (And.right (And.right (And.right (And.right (And.right (And.right (And.right (And.right (And.right (And.right (And.right (And.right (And.right (And.right (And.right (And.right (And.right (And.right (And.right (And.right (by with_reducible assumption)))))))))))))))))))))))))))) | omega))
local macro_rules | `(tactic| k_all) => `(tactic| first | exact List.forall_mem_nil _ | exact allNe (by with_reducible assumption) | exact allNe2 (by with_reducible assumption) (by with_reducible assumption) | (refine' List.forall_mem_cons.mpr ⟨?a, ?b⟩; (case a => k_ne); (case b => k_all)))

local macro_rules | `(tactic| k_room) => `(tactic| ((try simp only [depth_under_make, depth_under_kw, depth_in1, depth_deeper, depth_caller]); (try dsimp only [ktrTop]); (have hrl9 : recursionLimit = 1000 := rfl); omega))
local macro_rules | `(tactic| k_units) => `(tactic| ((have hcL9 := cLine_is); (try simp only [units_in1, units_deeper, Around.mark_units, units_caller]); (try dsimp only [ktrTop]); omega))
local macro_rules | `(tactic| walk_at "subscriptTail") => `(tactic| (k_here; (with_reducible show wpAny _ _ (subscriptTail _ _ (Value.ref _) (Value.int _ _)) _ _ _); k_dflt (refine' item_tupleT ?t ?a ?b ?c ?d ?_; (case t => exact News.isTup (by k_asm) (by k_mem)); (case a => decide); (case b => decide); (case c => rfl); (case d => rfl); k_whole)))
local macro_rules | `(tactic| walk_at "pyIter ref") => `(tactic| (k_here; (with_reducible show wpAny _ _ (pyIter (Value.ref _)) (fun it s₂ => LoopAtU _ _ _ _ _ _ _ _ _ it s₂) _ _); k_dflt (refine' iterU_tuple_nil ?hh ?F ?N ?m ?_; (case hh => rfl); (case F => k_asm); (case N => k_asm); (case m => k_mem)); intro h' tk F' N'; (try dsimp only)))
local macro_rules | `(tactic| walk_at "pyIter ref") => `(tactic| (k_here; (with_reducible show wpAny _ _ (pyIter (Value.ref _)) (fun it s₂ => LoopAtV _ _ _ _ _ _ _ _ _ it s₂) _ _); k_dflt (refine' iterV_tuple_nil ?hh ?F ?N ?m ?_; (case hh => rfl); (case F => k_asm); (case N => k_asm); (case m => k_mem)); intro h' tk F' N'; (try dsimp only)))
local macro_rules | `(tactic| walk_at "SrcNil") => `(tactic| (k_here; k_dflt (refine' srcNil ?hh ?F ?N ?m ?_; (case hh => rfl); (case F => k_asm); (case N => k_asm); (case m => k_mem)); intro D' h' tk F' N' o'; (try dsimp only)))
local macro_rules | `(tactic| walk_at "exec Assign cons ListComp") => `(tactic| (k_here; (with_reducible show wpAny _ _ (exec (Stmt.Assign _ (Expr.ListComp _ [Comprehension.mk _ (Expr.Call (Expr.Name (Str.ofString "all_items") _) _ _ _) _ _] _ _) _) _) _ _ _); k_dflt (refine compNil_A (by k_asm) (by rfl) (by with_unfolding_all rfl) (by with_unfolding_all rfl) (by decide) (by rfl) (by decide) (by rfl) (by rfl) ?_ (by intro _ _; rfl))))
local macro_rules | `(tactic| walk_at "eval ListComp") => `(tactic| (k_here; (with_reducible show wpAny _ _ (eval (Expr.ListComp _ [Comprehension.mk _ (Expr.Name (Str.ofString "alike") _) _ _] _ _) _) _ _ _); k_dflt (refine compNil_E (by k_asm) (by with_unfolding_all rfl) (by decide) (by rfl) (by decide) ?_ (by intro _ _; rfl))))
local macro_rules | `(tactic| walk_at "pyIter ref") => `(tactic| (k_here; (with_reducible show wpAny _ _ (pyIter (Value.ref _)) (fun it s₂ => LoopAtV _ _ _ _ _ _ _ _ _ it s₂) _ _); k_dflt (refine' iterV_dict_nil ?hh ?F ?N ?m ?o ?l ?_; (case hh => rfl); (case F => k_asm); (case N => k_asm); (case m => k_mem); (case o => assumption); (case l => assumption)); intro h' tk F' N'; (try dsimp only)))
local macro_rules | `(tactic| walk_at "binaryOp Add str str") => `(tactic| (k_here; (with_reducible show wpAny _ _ (binaryOp Operator.Add (Value.str _ _) (Value.str _ _)) _ _ _); (refine' PyProof.Rows.add_str ?q ?z; (case z => exact name_len (by decide +kernel) (by assumption))); intro t' tk'; (try dsimp only)))
local macro_rules | `(tactic| walk_at "call ref") => `(tactic| (k_here; (with_reducible show wpAny _ _ (call (Value.ref 60) _) _ _ _); (try dsimp only [List.nil_append, List.cons_append]); k_dflt (refine' excMakeK ?F ?X ?N ?e ?hi ?hf ?hr ?_; (case F => k_asm); (case X => k_asm); (case N => k_asm); (case e => exact ex60 _); (case hi => k_is); (case hf => k_is); (case hr => exact Nat.le_trans (Nat.le_refl 1) (by rw [sizeLine_eq]; decide)); k_whole); intro x' t' h' F' N' l1 l2; (try k_lt l1); (try k_lt2 l2); (try k_sweep); k_dflt k_enter))
local macro_rules | `(tactic| walk_at "exec Raise some none") => `(tactic| (k_here; k_dflt (refine' excRaise' ?h ?X ?_; (case h => rfl); (case X => k_asm); k_whole)))
local macro_rules | `(tactic| walk_at "RaiseD") => `(tactic| (k_here; k_dflt (refine' raiseD ?F ?X ?N ?e ?m ?_; (case F => k_asm); (case X => k_asm); (case N => k_asm); (case m => k_mem); (case e => exact ex60 _); k_whole)))
local macro_rules | `(tactic| walk_at "setAttr ref") => `(tactic| (k_here; k_dflt (first
  | (refine' excSet1 ?F ?X ?N ?e ?hs ?ht ?U ?_; (case F => k_asm); (case X => k_asm); (case N => k_asm); (case U => k_updF); (case e => exact ex60 _); (case hs => k_is); (case ht => k_is); k_whole; intro h' dx' F' N' l1; (try dsimp only); (try k_lt l1); (try k_sweep))
  | (refine' excSet2' ?F ?X ?N ?hx ?hd ?e ?hs ?ht ?hl ?ep ?U ?hz ?_; (case F => k_asm); (case X => k_asm); (case N => k_asm); (case hx => k_mem); (case hd => k_mem); (case e => exact ex60 _); (case hs => k_is); (case ht => k_is); (case hl => k_get); (case ep => k_put); (case U => k_upd); (case hz => exact Nat.le_of_ble_eq_true rfl); k_whole; intro h' F' N'; (try k_sweep)))))
local macro_rules | `(tactic| walk_at "getMethod type:Exception") => `(tactic| (k_here; refine' method_type ?F ?X ?m (by decide +kernel) ?e ?h ?_; (case F => k_asm); (case X => k_asm); (case m => exact metaExc); (case e => k_dflt k_is); (case h => k_handed)))
local macro_rules | `(tactic| walk_at "call builtin:Exception.__init__") => `(tactic| (k_here; k_dflt (refine' excInit ?F ?X ?N ?e ?U ?_; (case F => k_asm); (case X => k_asm); (case N => k_asm); (case U => k_updF); (case e => exact ex60 _); k_whole; intro h' t' F' N' l1; (try dsimp only); (try k_lt l1); (try k_sweep))))
local macro_rules | `(tactic| walk_at "leaving ref") => `(tactic| (k_here; k_dflt (first
  | (refine' leaveDS_first ?K ?F ?N ?hf ?hk ?O ?hcls ?hd ?h1 ?hdd ?_; (case K => assumption); (case F => k_asm); (case N => k_asm); (case hf => exact rfl); (case hk => exact rfl); (case O => k_upd); (case hcls => exact rfl); (case hd => exact rfl); (case h1 => exact rfl); (case hdd => exact rfl); k_whole; intro h' R' U'; (try dsimp only at R' U' ⊢))
  | (refine' leaveDS_on ?K ?F ?R ?U ?hf ?_; (case R => assumption); (case F => assumption); (case K => assumption); (case U => assumption); (case hf => exact rfl); k_whole; intro h' R' U'; (try dsimp only at R' U' ⊢)))))
local macro_rules | `(tactic| walk_at "noteFrame ref") => `(tactic| (k_here; k_dflt (refine' caughtDS ?R ?F ?K ?U ?XB ?TB ?D ?T0 ?ex ?q ?_; (case R => assumption); (case F => assumption); (case K => assumption); (case U => assumption); (case XB => assumption); (case TB => assumption); (case D => assumption); (case T0 => first | assumption | exact KtsTurn.refl); (case ex => k_is); (case q => exact ex60 _); k_whole); intro h' g' oe vs tk' T' F' N' c1' c2' c3' K' X' P' D'; (try k_lift K'); (try k_sweep)))
local macro_rules | `(tactic| k_upd) => `(tactic| first | (refine' Out.head ?a; (case a => k_all)) | (refine' Out.tail ?a ?b; (case a => k_ne); (case b => k_upd)))
local macro_rules | `(tactic| walk_at "getAttr ref") => `(tactic| (k_here; (with_reducible show wpAny _ _ (getAttr (Value.ref _) (Str.ofString "what") _) _ _ _); k_dflt (refine' excGet' ?F ?X ?N ?c1 ?c2 ?c3 ?hx ?hd ?e ?hga ?hgt ?hh ?ha ?hn ?hl ?ho ?_; (case F => k_asm); (case X => k_asm); (case N => k_asm); (case c1 => assumption); (case c2 => assumption); (case c3 => assumption); (case hx => k_mem); (case hd => k_mem); (case e => exact ex60 _); (case hga => k_is); (case hgt => k_is); (case hh => k_is); (case ha => k_is); (case hn => k_is); (case hl => k_get); (case ho => k_handed); k_whole)))
local macro_rules | `(tactic| k_updF) => `(tactic| first | exact List.forall_mem_nil _ | (refine' List.forall_mem_cons.mpr ⟨?a, ?b⟩; (case a => k_mem); (case b => k_updF)))
section
open PySem PySem.W PyProof.Rows PySem.Calls PySem.Spec
/-- a list with one pair in it, ahead of the ledger as it stood -/
def OnePair (name : PySem.Str) (t2 : Tok) (tl : List (Addr × Obj)) (r : Value) : Prop :=
  ∃ Z P s1 t k n0, r = .ref Z ∧ tl = [(Z, listOf #[.ref P] k), (P, tupO [.str s1 t, .str name t2] n0)]
def PostPair (name : PySem.Str) (t2 : Tok) (sub news' : List (Addr × Obj)) (r : Value) : Prop := ∃ tl, news' = tl ++ sub ∧ OnePair name t2 tl r
theorem endS_pair {name : PySem.Str} {t2 : Tok} {sub : List (Addr × Obj)} {fs : List Addr} {g g' : Heap} {s : Shared} {Z P : Addr} {s1 : PySem.Str} {t : Tok} {k n0 : Nat} {L' : Addr} {m' : PySem.Str → Option Value} {all : List (Addr × Obj)} {h' : Heap} {tk' : Nat}
    (T : KtsTurn fs g g') (F : Fr g' L' h' m') (N : News g' L' h' all) (h1 : (Z, listOf #[.ref P] k) ∈ all) (h2 : (P, tupO [.str s1 t, .str name t2] n0) ∈ all) (hs : ∀ p ∈ sub, p ∈ all) :
    EndS fs g s (PostPair name t2 sub) (.ref Z) { s with heap := h', toks := tk' } :=
  endS _ T F N (fun p hp => by
    rcases List.mem_cons.mp hp with rfl | hp
    · exact h1
    · rcases List.mem_cons.mp hp with rfl | hp
      · exact h2
      · exact hs p hp) ⟨[_, _], rfl, _, _, _, _, _, _, rfl, rfl⟩
theorem item_faults_T (w : World) (x : DataAt) (ok : DataOk w x) (R a b : Addr) (name : PySem.Str) (hnm : name.length ≤ 1000) (t1 t2 : Tok) (n n1 n2 : Nat) :
  TellS w 258 40 200 [.ref x.D, .ref R] (dataLed w x ++ [(R, tupO [.str (Str.ofString "ref") t1, .str name t2, .ref a, .ref b, .none] n), (a, tupO [] n1), (b, tupO [] n2)])
    (PostPair name t2 (dataLed w x ++ [(R, tupO [.str (Str.ofString "ref") t1, .str name t2, .ref a, .ref b, .none] n), (a, tupO [] n1), (b, tupO [] n2)])) := by
  have fi : PySem.Challenge.rw_pq0630_01.Holds → hd.heap_1 = hd.heap_1 := by k_fill; intro _; rfl
  clear fi
  obtain ⟨D, d, l1, l2, l3, df, dx, of', ox, s1, s2, s3, s4, s5, s6, s7⟩ := x
  obtain ⟨a1, a2, a3, b1, b2, b3⟩ := ok
  simp only [dataLed, ent, List.cons_append, List.nil_append] at *
  refine' tellS_of ?ho ?hcd ?hdd ?hb ?hl ?a ?b ?c ?d ?h
  case ho => k_is
  case hcd => k_is
  case hdd => decide
  case hb => intro s; exact BindsTo.of_eq rfl
  case hl => exact locs rfl
  case a => exact rfl
  case b => exact rfl
  case c => exact rfl
  case d => decide
  case h =>
    intro mean mg mb dp un gd env outer base g L' h₁ s F N B X T XB TB DD hlt hdp hun
    (try k_lt hlt)
    dsimp only
    k_steps
    refine' endS_pair ?z9t ?z9f ?z9m ?z9a ?z9b ?z9s
    case z9t => assumption
    case z9f => k_asm
    case z9m => k_asm
    case z9a => k_mem
    case z9b => k_mem
    case z9s => (try dsimp only [List.cons_append, List.nil_append]); k_updF
end
local macro_rules | `(tactic| walk_at "ite") => `(tactic| first | (refine ite_no (by decide +kernel) ?_) | (refine ite_yes (by decide +kernel) ?_))
section
open PySem PySem.W PyProof.Rows PySem.Calls PySem.Spec
theorem pen_step (n k : Int) (h : 0 ≤ n) : 0 ≤ n * 1039 + (if k < 0 then -k else k).fmod (10 ^ Int.toNat 40) + 3 * 10 ^ Int.toNat 41 * (if decide (k < 0) = true then 1 else 0) := by
  have h1 : 0 ≤ (if k < 0 then -k else k).fmod (10 ^ Int.toNat 40) := Int.fmod_nonneg_of_pos _ (Int.pow_pos (by decide))
  have h2 : (0 : Int) ≤ 3 * 10 ^ Int.toNat 41 * (if decide (k < 0) = true then 1 else 0) := by
    refine Int.mul_nonneg (Int.mul_nonneg (by decide) (Int.pow_nonneg (by decide))) ?_
    split <;> decide
  omega
theorem pen_T (w : World) (l : Addr) (vs : List Value) (ns : List Int) (hi : IntsAre vs ns) (hlen : ns.length ≤ 63) :
  TellC w 370 20 100 [.ref l] [] (fun g => g.IsList l vs.toArray)
    (fun news' r => ∃ p a b t1 t2 k, news' = [(p, listOf #[.int a t1, .int b t2] k)] ∧ r = .ref p ∧ 0 ≤ a ∧ 0 ≤ b ∧ b ≤ 63) := by
  have fi : PySem.Challenge.rw_pq0630_01.Holds → hd.heap_1 = hd.heap_1 := by k_fill; intro _; rfl
  clear fi
  refine' tellC_of (binds := [(Str.ofString "script", .ref l)]) ?ho ?hcd ?hdd ?hb ?hl ?a ?b ?c ?d ?h
  case ho => k_is
  case hcd => k_is
  case hdd => decide
  case hb => intro s; exact BindsTo.of_eq rfl
  case hl => exact locs rfl
  case a => exact rfl
  case b => exact rfl
  case c => exact rfl
  case d => decide
  case h =>
    intro mean mg mb dp un gd env outer base g L' h₁ s F N B X TT hlt hl hdp hun
    (try k_lt hlt)
    have hlv := hi.length
    (k_with "pyIter ref" => k_state (fun pre n => 0 ≤ n) "number")
    (k_with "state" => first | exact pen_step _ _ (by assumption) | exact Int.le_refl 0)
    k_steps
    refine endC_sub [_] (by k_asm) (by k_asm) (List.forall_mem_cons.mpr ⟨.head _, List.forall_mem_nil _⟩) ⟨_, _, _, _, _, _, rfl, rfl, by assumption, Int.natCast_nonneg _, ?_⟩
    have := List.length_take_le 40 ns
    omega
end
section
open PySem PySem.W PyProof.Rows PySem.Calls PySem.Spec
/-- what a leaf is -/
def LeafPost (R : List (Addr × Obj) → Value → Tree → Prop) (sub news' : List (Addr × Obj)) (r : Value) : Prop :=
  ∃ A v nm tk n T, r = .ref A ∧ (A, tupO [v, .str nm tk] n) ∈ news' ∧ R news' v T ∧ T.names = [nm] ∧ T.size = 1 ∧ ∀ p ∈ sub, p ∈ news'
theorem endC_leaf {R : List (Addr × Obj) → Value → Tree → Prop} {A : Addr} {v : Value} {nm : PySem.Str} {tk : Tok} {n : Nat} {T : Tree} {sub : List (Addr × Obj)} {g : Heap} {s : Shared} {L' : Addr} {m' : PySem.Str → Option Value} {all : List (Addr × Obj)} {h' : Heap} {tk' : Nat}
    (F : Fr g L' h' m') (N : News g L' h' all) (hA : (A, tupO [v, .str nm tk] n) ∈ all) (hr : R all v T) (hn : T.names = [nm]) (hz : T.size = 1) (hs : ∀ p ∈ sub, p ∈ all) :
    EndC g s (LeafPost R sub) (.ref A) { s with heap := h', toks := tk' } := endC F N ⟨A, v, nm, tk, n, T, rfl, hA, hr, hn, hz, hs⟩
theorem name_short {n : Int} (h : 0 ≤ n ∧ n < 520) : (Str.ofString "N-" ++ Str.ofString (toString n)).length ≤ 1000 := by
  rw [PySem.Str.length_append]
  have h1 : (Str.ofString "N-").length = 2 := by decide +kernel
  have h2 := PyProof.Rows.toString_length_le (v := n) h.1 (k := 3) (by decide) (by omega)
  omega
theorem leaf_sum (w : World) (p : Addr) (at' a b c : Int) (t t1 t2 t3 : Tok) (k : Nat) (ha : 0 ≤ at' ∧ at' < 520) :
  TellC w 384 20 100 [.int at' t, .ref p, .bool true] [(p, listOf #[.int a t1, .int b t2, .int c t3] k)] (fun _ => True)
    (LeafPost TreeIn [(p, listOf #[.int a t1, .int b t2, .int c t3] k)]) := by
  have fi : PySem.Challenge.rw_pq0630_01.Holds → hd.heap_1 = hd.heap_1 := by k_fill; intro _; rfl
  clear fi
  refine' tellC_of (binds := [(Str.ofString "at", .int at' t), (Str.ofString "spots", .ref p), (Str.ofString "is_sum", .bool true)]) ?ho ?hcd ?hdd ?hb ?hl ?a ?b ?c ?d ?h
  case ho => k_is
  case hcd => k_is
  case hdd => decide
  case hb => intro s; exact BindsTo.of_eq rfl
  case hl => exact locs rfl
  case a => exact rfl
  case b => exact rfl
  case c => exact rfl
  case d => decide
  case h =>
    intro mean mg mb dp un gd env outer base g L' h₁ s F N B X TT hlt _ hdp hun
    (try k_lt hlt)
    k_steps
    · refine' endC_leaf ?z9f ?z9n ?z9a ?z9r ?z9e ?z9z ?z9s
      case z9f => k_asm
      case z9n => k_asm
      case z9a => k_mem
      case z9r => exact TreeIn.ref (name_short ha) (by k_mem) (by k_mem) (by k_mem)
      case z9e => rfl
      case z9z => rfl
      case z9s => k_updF
    · refine' endC_leaf ?z9f ?z9n ?z9a ?z9r ?z9e ?z9z ?z9s
      case z9f => k_asm
      case z9n => k_asm
      case z9a => k_mem
      case z9r => exact TreeIn.text (by k_mem)
      case z9e => rfl
      case z9z => rfl
      case z9s => k_updF
theorem leaf_cond (w : World) (p : Addr) (at' a b c : Int) (t t1 t2 t3 : Tok) (k : Nat) (ha : 0 ≤ at' ∧ at' < 520) :
  TellC w 384 20 100 [.int at' t, .ref p, .bool false] [(p, listOf #[.int a t1, .int b t2, .int c t3] k)] (fun _ => True)
    (LeafPost CondIn [(p, listOf #[.int a t1, .int b t2, .int c t3] k)]) := by
  have fi : PySem.Challenge.rw_pq0630_01.Holds → hd.heap_1 = hd.heap_1 := by k_fill; intro _; rfl
  clear fi
  refine' tellC_of (binds := [(Str.ofString "at", .int at' t), (Str.ofString "spots", .ref p), (Str.ofString "is_sum", .bool false)]) ?ho ?hcd ?hdd ?hb ?hl ?a ?b ?c ?d ?h
  case ho => k_is
  case hcd => k_is
  case hdd => decide
  case hb => intro s; exact BindsTo.of_eq rfl
  case hl => exact locs rfl
  case a => exact rfl
  case b => exact rfl
  case c => exact rfl
  case d => decide
  case h =>
    intro mean mg mb dp un gd env outer base g L' h₁ s F N B X TT hlt _ hdp hun
    (try k_lt hlt)
    k_steps
    · refine' endC_leaf ?z9f ?z9n ?z9a ?z9r ?z9e ?z9z ?z9s
      case z9f => k_asm
      case z9n => k_asm
      case z9a => k_mem
      case z9r => exact CondIn.ref (name_short ha) (by k_mem) (by k_mem) (by k_mem) (by k_mem)
      case z9e => rfl
      case z9z => rfl
      case z9s => k_updF
    · refine' endC_leaf ?z9f ?z9n ?z9a ?z9r ?z9e ?z9z ?z9s
      case z9f => k_asm
      case z9n => k_asm
      case z9a => k_mem
      case z9r => exact CondIn.text (by k_mem) (by k_mem)
      case z9e => rfl
      case z9z => rfl
      case z9s => k_updF
end
section
local macro_rules | `(tactic| walk_at "binaryOp Pow int int") => `(tactic| (refine pow_int_small (by decide) (by decide) (by (simp [List.getD]; omega)) ?_))
section
open PySem PySem.W PyProof.Rows PySem.Calls PySem.Spec
/-- what a draw leaves and hands back -/
def PenPost (p : Addr) (b many : Int) (news' : List (Addr × Obj)) (r : Value) : Prop :=
  ∃ a' b' t1' t2' k' dg t, news' = [(p, listOf #[.int a' t1', .int b' t2'] k')] ∧ r = .int dg t ∧ 0 ≤ dg ∧ dg < many ∧ 0 ≤ a' ∧ 0 ≤ b' ∧ b' ≤ b + 1
theorem draw_T (w : World) (p : Addr) (a b many : Int) (t1 t2 t3 : Tok) (k : Nat) (ha : 0 ≤ a) (hb : 0 ≤ b ∧ b ≤ 1000) (hm : 1 ≤ many ∧ many ≤ 1000) :
  TellC w 377 20 100 [.ref p, .int many t3] [(p, listOf #[.int a t1, .int b t2] k)] (fun _ => True) (PenPost p b many) := by
  have fi : PySem.Challenge.rw_pq0630_01.Holds → hd.heap_1 = hd.heap_1 := by k_fill; intro _; rfl
  clear fi
  refine' tellC_of (binds := [(Str.ofString "pen", .ref p), (Str.ofString "many", .int many t3)]) ?ho ?hcd ?hdd ?hb ?hl ?a ?b ?c ?d ?h
  case ho => k_is
  case hcd => k_is
  case hdd => decide
  case hb => intro s; exact BindsTo.of_eq rfl
  case hl => exact locs rfl
  case a => exact rfl
  case b => exact rfl
  case c => exact rfl
  case d => decide
  case h =>
    intro mean mg mb dp un gd env outer base g L' h₁ s F N B X TT hlt _ hdp hun
    (try k_lt hlt)
    k_steps
    all_goals (try dsimp only)
    · refine endC (by k_asm) (by k_asm) ⟨_, _, _, _, _, _, _, rfl, rfl, Int.fmod_nonneg_of_pos _ (by omega), Int.fmod_lt_of_pos _ (by omega), Int.fdiv_nonneg ?_ (by omega), ?_, ?_⟩
      · show 0 ≤ (2711 * (b + 1) + 3001) ^ 11
        exact Int.pow_nonneg (by omega)
      · show 0 ≤ b + 1
        omega
      · show b + 1 ≤ b + 1
        omega
    · refine endC (by k_asm) (by k_asm) ⟨_, _, _, _, _, _, _, rfl, rfl, Int.fmod_nonneg_of_pos _ (by omega), Int.fmod_lt_of_pos _ (by omega), Int.fdiv_nonneg ?_ (by omega), hb.1, by omega⟩
      show 0 ≤ a
      exact ha
end
end
local macro_rules | `(tactic| k_mem) => `(tactic| assumption)
local macro_rules | `(tactic| k_all) => `(tactic| first | assumption | exact ne_rest (by assumption))
local macro_rules | `(tactic| k_lt $h) => `(tactic| ((try (refine' k_rest ?z9r $h ?z9s ?_; (case z9r => assumption); (case z9s => (intro p hp; repeat (first | exact hp | refine List.mem_cons_of_mem _ ?_))); intro hAl9)); replace $h := allLt_of $h; simp only [AllLt, and_true] at $h:ident))
local macro_rules | `(tactic| walk_at "exec While Compare") => `(tactic| refine stopAt ?_)
local macro_rules | `(tactic| walk_at "call ref") => `(tactic| ((with_reducible show wpAny _ _ (call (Value.ref 258) _) _ _ _); refine stopAt ?_))
local macro_rules | `(tactic| walk_at "compareOp NotEq ref ref") => `(tactic| (k_here; (with_reducible show wpAny _ _ (compareOp CmpOp.NotEq (Value.ref _) (Value.ref _)) _ _ _); k_dflt (first
  | (refine' ne_nil_snoc ?z9n ?z9u ?z9a ?z9b ?_; (case z9n => k_asm); (case z9a => k_mem); (case z9b => k_mem); (case z9u => k_units); k_whole)
  | (refine' ne_nil_nil ?z9n ?z9u ?z9a ?z9b ?_; (case z9n => k_asm); (case z9a => k_mem); (case z9b => k_mem); (case z9u => k_units); k_whole)
  | (refine' ne_nil_cons ?z9n ?z9u ?z9a ?z9b ?_; (case z9n => k_asm); (case z9a => k_mem); (case z9b => k_mem); (case z9u => k_units); k_whole))))
local macro_rules | `(tactic| walk_at "call builtin:list.pop") => `(tactic| (k_here; k_dflt (refine' pop_L ?z9f ?z9n ?z9z ?z9u ?_; (case z9f => k_asm); (case z9n => k_asm); (case z9u => k_upd); (case z9z => assumption); k_whole); intro h' F' N'; (try k_sweep)))
local macro_rules | `(tactic| walk_at "call builtin:list.append") => `(tactic| (k_here; k_dflt (refine' append_L ?z9f ?z9n ?z9z ?z9u ?_; (case z9f => k_asm); (case z9n => k_asm); (case z9u => k_upd); (case z9z => assumption); k_whole); intro h' F' N'; (try k_sweep)))
local macro_rules | `(tactic| walk_at "call builtin:list.extend") => `(tactic| (k_here; k_dflt (refine' extend_L ?z9f ?z9n ?z9b ?z9e ?z9z ?z9y ?z9u ?_; (case z9f => k_asm); (case z9n => k_asm); (case z9b => k_mem); (case z9e => (simp; done)); (case z9u => k_upd); (case z9z => assumption); (case z9y => exact Nat.le_of_ble_eq_true rfl); k_whole); intro h' F' N'; (try k_sweep)))
local macro_rules | `(tactic| k_updF) => `(tactic| first | exact List.forall_mem_nil _ | (refine' List.forall_mem_cons.mpr ⟨?a, ?b⟩; (case a => k_mem); (case b => k_updF)) | (refine' sub_tail ?a ?b; (case a => with_reducible assumption); (case b => k_updF)) | (intro p hp; repeat (first | exact hp | refine List.mem_cons_of_mem _ ?_)))
local macro_rules | `(tactic| walk_at "compareOp Eq ref ref") => `(tactic| (k_here; (with_reducible show wpAny _ _ (compareOp CmpOp.Eq (Value.ref _) (Value.ref _)) _ _ _); k_dflt (refine' eq_tup_first ?z9n ?z9a ?z9b ?z9e ?z9u ?_; (case z9n => k_asm); (case z9a => k_mem); (case z9b => k_mem); (case z9e => exact eqAt_str (by decide +kernel)); (case z9u => k_units); k_whole)))
section
open PySem PySem.W PyProof.Rows PySem.Calls PySem.Spec
theorem endC_ro {g : Heap} {s : Shared} {sub all : List (Addr × Obj)} {P : List (Addr × Obj) → Value → Prop} {v : Value} {L' : Addr} {m' : PySem.Str → Option Value} {h' : Heap} {tk' : Nat}
    (F : Fr g L' h' m') (N : News g L' h' all) (hs : ∀ p ∈ sub, p ∈ all) (p : P [] v) : EndC g s (fun news' r => ∃ tl, news' = tl ++ sub ∧ P tl r) v { s with heap := h', toks := tk' } :=
  endC_sub sub F N hs ⟨[], rfl, p⟩
theorem isnum_T (w : World) (D a : Addr) (t bt : Tok) (n : Nat) :
  TellC w 300 20 100 [.ref D, .ref a] [(a, tupO [.str (Str.ofString "text") t, .bytes #[49] bt] n)] (fun _ => True) (fun news' r => ∃ tl, news' = tl ++ [(a, tupO [.str (Str.ofString "text") t, .bytes #[49] bt] n)] ∧ tl = [] ∧ r = .bool false) := by
  have fi : PySem.Challenge.rw_pq0630_01.Holds → hd.heap_1 = hd.heap_1 := by k_fill; intro _; rfl
  clear fi
  refine' tellC_of (binds := [(Str.ofString "data", .ref D), (Str.ofString "operand", .ref a)]) ?ho ?hcd ?hdd ?hb ?hl ?a ?b ?c ?d ?h
  case ho => k_is
  case hcd => k_is
  case hdd => decide
  case hb => intro s; exact BindsTo.of_eq rfl
  case hl => exact locs rfl
  case a => exact rfl
  case b => exact rfl
  case c => exact rfl
  case d => decide
  case h =>
    intro mean mg mb dp un gd env outer base g L' h₁ s F N B X TT hlt _ hdp hun
    (try k_lt hlt)
    k_steps
    refine' endC_ro ?z9f ?z9n ?z9s ?z9p
    case z9f => k_asm
    case z9n => k_asm
    case z9s => k_updF
    case z9p => exact ⟨rfl, by rfl⟩
theorem nameof_T (w : World) (a : Addr) (t bt : Tok) (n : Nat) :
  TellC w 314 20 100 [.ref a] [(a, tupO [.str (Str.ofString "text") t, .bytes #[49] bt] n)] (fun _ => True) (fun news' r => ∃ tl, news' = tl ++ [(a, tupO [.str (Str.ofString "text") t, .bytes #[49] bt] n)] ∧ tl = [] ∧ ∃ t', r = .str (Str.ofString "a literal") t') := by
  have fi : PySem.Challenge.rw_pq0630_01.Holds → hd.heap_1 = hd.heap_1 := by k_fill; intro _; rfl
  clear fi
  refine' tellC_of (binds := [(Str.ofString "operand", .ref a)]) ?ho ?hcd ?hdd ?hb ?hl ?a ?b ?c ?d ?h
  case ho => k_is
  case hcd => k_is
  case hdd => decide
  case hb => intro s; exact BindsTo.of_eq rfl
  case hl => exact locs rfl
  case a => exact rfl
  case b => exact rfl
  case c => exact rfl
  case d => decide
  case h =>
    intro mean mg mb dp un gd env outer base g L' h₁ s F N B X TT hlt _ hdp hun
    (try k_lt hlt)
    k_steps
    refine' endC_ro ?z9f ?z9n ?z9s ?z9p
    case z9f => k_asm
    case z9n => k_asm
    case z9s => k_updF
    case z9p => exact ⟨rfl, _, rfl⟩
end
section
local macro_rules | `(tactic| walk_at "call ref") => `(tactic| ((first | (with_reducible show wpAny _ _ (call (Value.ref 300) _) _ _ _) | (with_reducible show wpAny _ _ (call (Value.ref 314) _) _ _ _)); refine stopAt ?_))
section
open PySem PySem.W PyProof.Rows PySem.Calls PySem.Spec
theorem nf_T (w : World) (x : DataAt) (ok : DataOk w x) (nodes : List (Addr × Obj)) (v : Value) (T : Tree) (hT : TreeIn nodes v T) (hsz : T.size ≤ 100000) :
  TellS w 307 100 300 [.ref x.D, v] (dataLed w x ++ nodes) (PostNF T.names (dataLed w x ++ nodes)) := by
  have fi : PySem.Challenge.rw_pq0630_01.Holds → hd.heap_1 = hd.heap_1 := by k_fill; intro _; rfl
  clear fi
  have itemT := fun R a b name hnm t1 t2 n n1 n2 => item_faults_T w x ok R a b name hnm t1 t2 n n1 n2
  obtain ⟨D, d, l1, l2, l3, df, dx, of', ox, s1, s2, s3, s4, s5, s6, s7⟩ := x
  obtain ⟨a1, a2, a3, b1, b2, b3⟩ := ok
  simp only [dataLed, ent, List.cons_append, List.nil_append] at *
  refine' tellS_of (binds := [(Str.ofString "data", .ref D), (Str.ofString "expr", v)]) ?ho ?hcd ?hdd ?hb ?hl ?a ?b ?c ?d ?h
  case ho => k_is
  case hcd => k_is
  case hdd => decide
  case hb => intro s; exact BindsTo.of_eq rfl
  case hl => exact locs rfl
  case a => exact rfl
  case b => exact rfl
  case c => exact rfl
  case d => decide
  case h =>
    intro mean mg mb dp un gd env outer base g L' h₁ s F N B X TT XB TB DD hlt hdp hun
    have hR : IsRest nodes := trivial
    (try k_lt hlt)
    (try dsimp only)
    k_steps
    show wpAny _ _ _ _ _ _
    refine' whileS (g₀ := g) (JNF TreeIn _ [(dx, ox), (l3, listOf #[] 0), (df, of'), (l2, listOf #[] 0), (l1, listOf #[] 0), (D, instObj 86 d), (d, dictOf [ent w (Str.ofString "working") s1 (.ref l1), ent w (Str.ofString "linkage") s2 (.ref l2), ent w (Str.ofString "files") s3 (.ref df), ent w (Str.ofString "sorts") s4 (.ref l3), ent w (Str.ofString "size") s5 (.int 0 s6), ent w (Str.ofString "indexes") s7 (.ref dx)] 6)] nodes T _ _) ?z9t ?z9b ?z9f ?z9n ?z9d ?z9j ?z9w ?z9e
    case z9t => exact KtsTurn.refl
    case z9b => assumption
    case z9f => k_asm
    case z9d => assumption
    case z9n => exact newsTail (by k_asm)
    case z9j => refine' jnf_start hT hsz ?_ ?_ <;> k_all
    case z9e => passes_own
    case z9w =>
      clear hR
      intro n g₁ m₁ news₁ h₂ tk₂ T₁ B₁ F₁ N₁ D₁ hJ
      obtain ⟨st, fs, ts, dn, k1, k2, rest, rfl, hst, hfs, hnm, hsz', hsub, hl, hf, hm, rfl⟩ := hJ
      obtain ⟨mo, he, rfl⟩ := mCases hm
      clear hm
      have hR : IsRest rest := trivial
      have X₁ : (hd.heap_1 w.params).In g₁ := XB.keeps B₁.stays
      have TT₁ : Top hd.view_39 (looseW hd.view_39 [Str.ofString "LedgerError"]) mean mg mb g₁ := TB.keeps B₁.stays
      have hfl := hfs.len
      have hdl : dn.length ≤ 100000 := by
        have e := congrArg List.length hnm
        rw [List.length_append] at e
        have := T.names_len
        omega
      have hfs1 : fs.length ≤ 1000000 := by omega
      have hvl := hst.len
      have hst1 : st.length ≤ 1000000 := by omega
      simp only [ent, List.cons_append, List.nil_append] at *
      (try k_fold)
      cases hst with
      | nil =>
        k_steps
        (try dsimp only)
        refine' endS_nf ?z9t ?z9f ?z9n ?z9a ?z9b ?z9c
        case z9f => k_asm
        case z9t => assumption
        case z9n => k_asm
        case z9a => k_mem
        case z9b =>
          have e : dn = T.names := by simpa [namesOf] using hnm
          rw [← e]
          refine hfs.mono ?_
          k_updF
        case z9c => k_updF
      | @snoc vs ts' v t hst ht =>
        have hvs1 : vs.length ≤ 1000000 := by rw [List.length_append] at hst1; omega
        rw [sizes_snoc] at hsz' ⊢
        cases ht with
        | @text a t bt n hm1 =>
          k_steps
          show wpAny _ _ _ _ _ _
          refine' tellC_ro (isnum_T w _ _ _ _ _) ?z9b ?z9f ?z9x ?z9n ?z9t ?z9h ?z9k ?z9s ?z9r ?z9d ?z9u ?_
          case z9b => assumption
          case z9f => k_asm
          case z9x => assumption
          case z9n => k_asm
          case z9t => assumption
          case z9h => exact rfl
          case z9k => exact rfl
          case z9s => k_updF
          case z9r => trivial
          case z9d => k_room
          case z9u => k_units
          rintro r tl h' tk' F' N' ⟨rfl, rfl⟩ -
          (try dsimp only [List.nil_append] at *)
          k_steps
          show wpAny _ _ _ _ _ _
          refine' tellC_ro (nameof_T w _ _ _ _) ?z9b ?z9f ?z9x ?z9n ?z9t ?z9h ?z9k ?z9s ?z9r ?z9d ?z9u ?_
          case z9b => assumption
          case z9f => k_asm
          case z9x => assumption
          case z9n => k_asm
          case z9t => assumption
          case z9h => exact rfl
          case z9k => exact rfl
          case z9s => k_updF
          case z9r => trivial
          case z9d => k_room
          case z9u => k_units
          rintro r tl h' tk' F' N' ⟨rfl, t', rfl⟩ -
          (try dsimp only [List.nil_append] at *)
          k_steps
          refine' step_nf_pair treeMono ?z9t ?z9b ?z9f ?z9n ?z9d ?z9g ?z9h ?z9i ?z9j hst hfs ?z9u ?z9v hsz' hsub hl hf ?z9m ?z9s
          case z9f => k_asm
          case z9t => assumption
          case z9b => assumption
          case z9n => k_asm
          case z9d => assumption
          case z9g => k_mem
          case z9h => k_mem
          case z9i => k_ne
          case z9j => k_ne
          case z9u => simp only [Tree.size]; omega
          case z9v => rw [← hnm, namesOf_snoc, Tree.names]; simp
          case z9m => intro y e1 e2; simp only [if_neg e1, if_neg e2]
          case z9s => (try dsimp only [List.cons_append, List.nil_append]); k_updF
        | @ref a b c t1 t2 n n1 n2 name hnm1 hm1 hm2 hm3 =>
          have hal := neN (hl _ hm1)
          have hbl := neN (hl _ hm2)
          have hcl := neN (hl _ hm3)
          have haf := neN (hf _ hm1)
          have hbf := neN (hf _ hm2)
          have hcf := neN (hf _ hm3)
          dsimp only at hal hbl hcl haf hbf hcf
          k_steps
          show wpAny _ _ _ _ _ _
          refine' tellS_ro (itemT a b c name hnm1 t1 t2 n n1 n2) ?z9b ?z9f ?z9x ?z9y ?z9n ?z9d ?z9t ?z9h ?z9k ?z9s ?z9r ?z9u ?_
          case z9b => assumption
          case z9f => k_asm
          case z9x => assumption
          case z9y => assumption
          case z9n => k_asm
          case z9d => assumption
          case z9t => exact KtsTurn.refl
          case z9h => exact rfl
          case z9k => exact rfl
          case z9s => k_updF
          case z9r => k_room
          case z9u => k_units
          rintro r tl g' h' tk' T' B' X' TT' F' N' D' ⟨Z, P, a1, t5, k5, n5, rfl, rfl⟩ hoff
          have hPl := neN (hoff _ (.tail _ (.head _)) (_, listOf vs.toArray _) (by k_mem) (by simp only [List.map_cons, List.map_nil, List.mem_cons, List.not_mem_nil, or_false, not_or]; refine ⟨?_, ?_, ?_, ?_, ?_, ?_, ?_, ?_, ?_, ?_⟩ <;> k_ne))
          have hPf := neN (hoff _ (.tail _ (.head _)) (_, listOf fs.toArray _) (by k_mem) (by simp only [List.map_cons, List.map_nil, List.mem_cons, List.not_mem_nil, or_false, not_or]; refine ⟨?_, ?_, ?_, ?_, ?_, ?_, ?_, ?_, ?_, ?_⟩ <;> k_ne))
          have hZl := neN (hoff _ (.head _) (_, listOf vs.toArray _) (by k_mem) (by simp only [List.map_cons, List.map_nil, List.mem_cons, List.not_mem_nil, or_false, not_or]; refine ⟨?_, ?_, ?_, ?_, ?_, ?_, ?_, ?_, ?_, ?_⟩ <;> k_ne))
          have hZf := neN (hoff _ (.head _) (_, listOf fs.toArray _) (by k_mem) (by simp only [List.map_cons, List.map_nil, List.mem_cons, List.not_mem_nil, or_false, not_or]; refine ⟨?_, ?_, ?_, ?_, ?_, ?_, ?_, ?_, ?_, ?_⟩ <;> k_ne))
          dsimp only at hPl hPf hZl hZf
          clear hoff
          (try dsimp only [List.cons_append, List.nil_append] at *)
          k_steps
          refine' step_nf_pair treeMono ?z9t ?z9b ?z9f ?z9n ?z9d ?z9g ?z9h ?z9i ?z9j hst hfs ?z9u ?z9v hsz' hsub hl hf ?z9m ?z9s
          case z9f => k_asm
          case z9t => assumption
          case z9b => assumption
          case z9n => k_asm
          case z9d => assumption
          case z9g => k_mem
          case z9h => k_mem
          case z9i => k_ne
          case z9j => k_ne
          case z9u => simp only [Tree.size]; omega
          case z9v => rw [← hnm, namesOf_snoc, Tree.names]; simp
          case z9m => intro y e1 e2; simp only [if_neg e1, if_neg e2]
          case z9s => (try dsimp only [List.cons_append, List.nil_append]); k_updF
        | neg hm1 ht1 =>
          k_steps
          refine' step_nf ?z9t ?z9b ?z9f ?z9n ?z9d (.snoc hst ht1) hfs ?z9u ?z9v hsz' hsub hl hf ?z9m ?z9s
          case z9f => k_asm
          case z9t => assumption
          case z9b => assumption
          case z9n => k_asm
          case z9d => assumption
          case z9u => rw [sizes_snoc, Tree.size]; omega
          case z9v => rw [← hnm, namesOf_snoc, namesOf_snoc]; rfl
          case z9m => intro y e1 e2; simp only [if_neg e1, if_neg e2]
          case z9s => (try dsimp only [List.cons_append, List.nil_append]); k_updF
        | @bin a t n x y word T U hw hm1 ht1 ht2 =>
          have hst2 : StackIn TreeIn rest (vs ++ [y, x]) (ts' ++ [U, T]) := by
            have := (hst.snoc ht2).snoc ht1
            rwa [List.append_assoc, List.append_assoc] at this
          have hz2 : sizes (ts' ++ [U, T]) < sizes ts' + (Tree.bin word T U).size := by
            simp only [sizes, List.map_append, List.map_cons, List.map_nil, List.sum_append, List.sum_cons, List.sum_nil, Tree.size]; omega
          have hn2 : namesOf (ts' ++ [U, T]) = namesOf (ts' ++ [Tree.bin word T U]) := by
            rw [namesOf_snoc, show ts' ++ [U, T] = (ts' ++ [U]) ++ [T] by simp, namesOf_snoc, namesOf_snoc, Tree.names, List.append_assoc]
          rw [← hn2] at hnm
          simp only [sumWords, List.mem_cons, List.not_mem_nil, or_false] at hw
          rcases hw with rfl | rfl | rfl | rfl | rfl
          all_goals (
            k_steps
            refine' step_nf ?z9t ?z9b ?z9f ?z9n ?z9d hst2 hfs hz2 hnm hsz' hsub hl hf ?z9m ?z9s
            case z9f => k_asm
            case z9t => assumption
            case z9b => assumption
            case z9n => k_asm
            case z9d => assumption
            case z9m => intro y e1 e2; simp only [if_neg e1, if_neg e2]
            case z9s => (try dsimp only [List.cons_append, List.nil_append]); k_updF)
end
end
section
local macro_rules | `(tactic| walk_at "call ref") => `(tactic| ((with_reducible show wpAny _ _ (call (Value.ref 307) _) _ _ _); refine stopAt ?_))
local macro_rules | `(tactic| walk_at "no such rule") => `(tactic| skip)
section
open PySem PySem.W PyProof.Rows PySem.Calls PySem.Spec
theorem endC_pair {name : PySem.Str} {sub : List (Addr × Obj)} {g : Heap} {s : Shared} {Z P : Addr} {s1 : PySem.Str} {t t2 : Tok} {k n0 : Nat} {L' : Addr} {m' : PySem.Str → Option Value} {all : List (Addr × Obj)} {h' : Heap} {tk' : Nat}
    (F : Fr g L' h' m') (N : News g L' h' all) (h1 : (Z, listOf #[.ref P] k) ∈ all) (h2 : (P, tupO [.str s1 t, .str name t2] n0) ∈ all) (hs : ∀ p ∈ sub, p ∈ all) :
    EndC g s (fun news' r => ∃ tl, news' = tl ++ sub ∧ ∃ t', OnePair name t' tl r) (.ref Z) { s with heap := h', toks := tk' } :=
  endC_sub ([(Z, listOf #[.ref P] k), (P, tupO [.str s1 t, .str name t2] n0)] ++ sub) F N (fun p hp => by
    rcases List.mem_cons.mp hp with rfl | hp
    · exact h1
    · rcases List.mem_cons.mp hp with rfl | hp
      · exact h2
      · exact hs p hp) ⟨_, rfl, t2, Z, P, s1, t, k, n0, rfl, rfl⟩
theorem endS_pair2 {name : PySem.Str} {sub : List (Addr × Obj)} {fs : List Addr} {g g' : Heap} {s : Shared} {Z P : Addr} {s1 : PySem.Str} {t t2 : Tok} {k n0 : Nat} {L' : Addr} {m' : PySem.Str → Option Value} {all : List (Addr × Obj)} {h' : Heap} {tk' : Nat}
    (T : KtsTurn fs g g') (F : Fr g' L' h' m') (N : News g' L' h' all) (h1 : (Z, listOf #[.ref P] k) ∈ all) (h2 : (P, tupO [.str s1 t, .str name t2] n0) ∈ all) (hs : ∀ p ∈ sub, p ∈ all) :
    EndS fs g s (fun news' r => ∃ tl, news' = tl ++ sub ∧ ∃ t', OnePair name t' tl r) (.ref Z) { s with heap := h', toks := tk' } :=
  endS ([(Z, listOf #[.ref P] k), (P, tupO [.str s1 t, .str name t2] n0)] ++ sub) T F N (fun p hp => by
    rcases List.mem_cons.mp hp with rfl | hp
    · exact h1
    · rcases List.mem_cons.mp hp with rfl | hp
      · exact h2
      · exact hs p hp) ⟨_, rfl, t2, Z, P, s1, t, k, n0, rfl, rfl⟩
theorem simpleclass_T (w : World) (D a b c : Addr) (t1 t2 t3 : Tok) (n n2 : Nat) :
  TellC w 356 40 150 [.ref D, .ref a] [(a, tupO [.str (Str.ofString "class") t1, .str (Str.ofString "NUMERIC") t2, .ref b] n), (b, tupO [.str (Str.ofString "neg") t3, .ref c] n2)] (fun _ => True)
    (fun news' r => ∃ tl, news' = tl ++ [(a, tupO [.str (Str.ofString "class") t1, .str (Str.ofString "NUMERIC") t2, .ref b] n), (b, tupO [.str (Str.ofString "neg") t3, .ref c] n2)] ∧ ∃ t', OnePair (Str.ofString "an expression") t' tl r) := by
  have fi : PySem.Challenge.rw_pq0630_01.Holds → hd.heap_1 = hd.heap_1 := by k_fill; intro _; rfl
  clear fi
  refine' tellC_of (binds := [(Str.ofString "data", .ref D), (Str.ofString "cond", .ref a)]) ?ho ?hcd ?hdd ?hb ?hl ?a ?b ?c ?d ?h
  case ho => k_is
  case hcd => k_is
  case hdd => decide
  case hb => intro s; exact BindsTo.of_eq rfl
  case hl => exact locs rfl
  case a => exact rfl
  case b => exact rfl
  case c => exact rfl
  case d => decide
  case h =>
    intro mean mg mb dp un gd env outer base g L' h₁ s F N B X TT hlt _ hdp hun
    (try k_lt hlt)
    k_steps
    refine' endC_pair ?z9f ?z9n ?z9a ?z9b ?z9s
    case z9f => k_asm
    case z9n => k_asm
    case z9a => k_mem
    case z9b => k_mem
    case z9s => k_updF
theorem nf_ref_T (w : World) (x : DataAt) (ok : DataOk w x) (a b c : Addr) (t1 t2 : Tok) (n n1 n2 : Nat) (name : PySem.Str) (hnm : name.length ≤ 1000) :
  TellS w 307 100 300 [.ref x.D, .ref a] (dataLed w x ++ [(a, tupO [.str (Str.ofString "ref") t1, .str name t2, .ref b, .ref c, .none] n), (b, tupO [] n1), (c, tupO [] n2)])
    (fun news' r => ∃ tl, news' = tl ++ (dataLed w x ++ [(a, tupO [.str (Str.ofString "ref") t1, .str name t2, .ref b, .ref c, .none] n), (b, tupO [] n1), (c, tupO [] n2)]) ∧ ∃ t', OnePair name t' tl r) := by
  refine tellS_weaken (nf_T w x ok [(a, tupO [.str (Str.ofString "ref") t1, .str name t2, .ref b, .ref c, .none] n), (b, tupO [] n1), (c, tupO [] n2)] (.ref a) (.ref name) (.ref hnm (.head _) (.tail _ (.head _)) (.tail _ (.tail _ (.head _)))) (Nat.le_of_ble_eq_true rfl)) ?_
  rintro news' r ⟨Z, fs, k, rfl, hZ, hp, hs⟩
  generalize hq : Tree.names (.ref name) = ns at hp
  cases hp with
  | nil => cases hq
  | @snoc vs ns P a0 u1 u2 n0 nm hp hm =>
    have e1 : ns = [] ∧ name = nm := by
      have : [name] = ns ++ [nm] := hq
      cases ns with
      | nil => exact ⟨rfl, by simpa using this⟩
      | cons y ys => exact absurd (congrArg List.length this) (by simp)
    obtain ⟨rfl, rfl⟩ := e1
    have e2 : vs = [] := List.eq_nil_of_length_eq_zero hp.len
    subst e2
    refine ⟨[(Z, listOf #[.ref P] k), (P, tupO [.str a0 u1, .str name u2] n0)] ++ (dataLed w x ++ [(a, tupO [.str (Str.ofString "ref") t1, .str name t2, .ref b, .ref c, .none] n), (b, tupO [] n1), (c, tupO [] n2)]), fun p hp => ?_, _, rfl, u2, Z, P, a0, u1, k, n0, rfl, rfl⟩
    rcases List.mem_append.mp hp with hp | hp
    · rcases List.mem_cons.mp hp with rfl | hp
      · exact hZ
      · rcases List.mem_cons.mp hp with rfl | hp
        · exact hm
        · cases hp
    · exact hs p hp
theorem simplesign_T (w : World) (x : DataAt) (ok : DataOk w x) (a b c d : Addr) (t1 t2 t3 t4 : Tok) (n n1 n2 n3 : Nat) (name : PySem.Str) (hnm : name.length ≤ 1000) :
  TellS w 356 150 500 [.ref x.D, .ref a] (dataLed w x ++ [(a, tupO [.str (Str.ofString "sign") t1, .str (Str.ofString "ZERO") t2, .ref b] n), (b, tupO [.str (Str.ofString "ref") t3, .str name t4, .ref c, .ref d, .none] n1), (c, tupO [] n2), (d, tupO [] n3)])
    (fun news' r => ∃ tl, news' = tl ++ (dataLed w x ++ [(a, tupO [.str (Str.ofString "sign") t1, .str (Str.ofString "ZERO") t2, .ref b] n), (b, tupO [.str (Str.ofString "ref") t3, .str name t4, .ref c, .ref d, .none] n1), (c, tupO [] n2), (d, tupO [] n3)]) ∧ ∃ t', OnePair name t' tl r) := by
  have fi : PySem.Challenge.rw_pq0630_01.Holds → hd.heap_1 = hd.heap_1 := by k_fill; intro _; rfl
  clear fi
  have nfT := nf_ref_T w x ok b c d t3 t4 n1 n2 n3 name hnm
  obtain ⟨D, dd, l1, l2, l3, df, dx, of', ox, s1, s2, s3, s4, s5, s6, s7⟩ := x
  obtain ⟨a1, a2, a3, b1, b2, b3⟩ := ok
  simp only [dataLed, ent, List.cons_append, List.nil_append] at *
  refine' tellS_of (binds := [(Str.ofString "data", .ref D), (Str.ofString "cond", .ref a)]) ?ho ?hcd ?hdd ?hb ?hl ?a ?b ?c ?d ?h
  case ho => k_is
  case hcd => k_is
  case hdd => decide
  case hb => intro s; exact BindsTo.of_eq rfl
  case hl => exact locs rfl
  case a => exact rfl
  case b => exact rfl
  case c => exact rfl
  case d => decide
  case h =>
    intro mean mg mb dp un gd env outer base g L' h₁ s F N B X TT XB TB DD hlt hdp hun
    (try k_lt hlt)
    k_steps
    show wpAny _ _ _ _ _ _
    refine' tellS_ro nfT ?z9b ?z9f ?z9x ?z9y ?z9n ?z9d ?z9t ?z9h ?z9k ?z9s ?z9r ?z9u ?_
    case z9b => assumption
    case z9f => k_asm
    case z9x => assumption
    case z9y => assumption
    case z9n => k_asm
    case z9d => assumption
    case z9t => exact KtsTurn.refl
    case z9h => exact rfl
    case z9k => exact rfl
    case z9s => k_updF
    case z9r => k_room
    case z9u => k_units
    rintro r tl g' h' tk' T' B' X' TT' F' N' D' ⟨u, Z, P, a1, t5, k5, n5, rfl, rfl⟩ hoff
    clear hoff
    (try dsimp only [List.cons_append, List.nil_append] at *)
    k_steps
    refine' endS_pair2 ?z9t ?z9f ?z9n ?z9a ?z9b ?z9s
    case z9f => k_asm
    case z9t => assumption
    case z9n => k_asm
    case z9a => k_mem
    case z9b => k_mem
    case z9s => k_updF
end
end
section
local macro_rules | `(tactic| walk_at "call ref") => `(tactic| ((with_reducible show wpAny _ _ (call (Value.ref 356) _) _ _ _); refine stopAt ?_))
section
open PySem PySem.W PyProof.Rows PySem.Calls PySem.Spec
theorem cf_T (w : World) (x : DataAt) (ok : DataOk w x) (nodes : List (Addr × Obj)) (v : Value) (T : Tree) (hT : CondIn nodes v T) (hsz : T.size ≤ 100000) :
  TellS w 363 300 900 [.ref x.D, v] (dataLed w x ++ nodes) (PostNF T.names (dataLed w x ++ nodes)) := by
  have fi : PySem.Challenge.rw_pq0630_01.Holds → hd.heap_1 = hd.heap_1 := by k_fill; intro _; rfl
  clear fi
  have signT := fun a b c d t1 t2 t3 t4 n n1 n2 n3 name hnm => simplesign_T w x ok a b c d t1 t2 t3 t4 n n1 n2 n3 name hnm
  obtain ⟨D, d, l1, l2, l3, df, dx, of', ox, s1, s2, s3, s4, s5, s6, s7⟩ := x
  obtain ⟨a1, a2, a3, b1, b2, b3⟩ := ok
  simp only [dataLed, ent, List.cons_append, List.nil_append] at *
  refine' tellS_of (binds := [(Str.ofString "data", .ref D), (Str.ofString "cond", v)]) ?ho ?hcd ?hdd ?hb ?hl ?a ?b ?c ?d ?h
  case ho => k_is
  case hcd => k_is
  case hdd => decide
  case hb => intro s; exact BindsTo.of_eq rfl
  case hl => exact locs rfl
  case a => exact rfl
  case b => exact rfl
  case c => exact rfl
  case d => decide
  case h =>
    intro mean mg mb dp un gd env outer base g L' h₁ s F N B X TT XB TB DD hlt hdp hun
    have hR : IsRest nodes := trivial
    (try k_lt hlt)
    (try dsimp only)
    k_steps
    show wpAny _ _ _ _ _ _
    refine' whileS (g₀ := g) (JNF CondIn _ [(dx, ox), (l3, listOf #[] 0), (df, of'), (l2, listOf #[] 0), (l1, listOf #[] 0), (D, instObj 86 d), (d, dictOf [ent w (Str.ofString "working") s1 (.ref l1), ent w (Str.ofString "linkage") s2 (.ref l2), ent w (Str.ofString "files") s3 (.ref df), ent w (Str.ofString "sorts") s4 (.ref l3), ent w (Str.ofString "size") s5 (.int 0 s6), ent w (Str.ofString "indexes") s7 (.ref dx)] 6)] nodes T _ _) ?z9t ?z9b ?z9f ?z9n ?z9d ?z9j ?z9w ?z9e
    case z9t => exact KtsTurn.refl
    case z9b => assumption
    case z9f => k_asm
    case z9d => assumption
    case z9n => exact newsTail (by k_asm)
    case z9j => refine' jnf_start hT hsz ?_ ?_ <;> k_all
    case z9e => passes_own
    case z9w =>
      clear hR
      intro n g₁ m₁ news₁ h₂ tk₂ T₁ B₁ F₁ N₁ D₁ hJ
      obtain ⟨st, fs, ts, dn, k1, k2, rest, rfl, hst, hfs, hnm, hsz', hsub, hl, hf, hm, rfl⟩ := hJ
      obtain ⟨mo, he, rfl⟩ := mCases hm
      clear hm
      have hR : IsRest rest := trivial
      have X₁ : (hd.heap_1 w.params).In g₁ := XB.keeps B₁.stays
      have TT₁ : Top hd.view_39 (looseW hd.view_39 [Str.ofString "LedgerError"]) mean mg mb g₁ := TB.keeps B₁.stays
      have hfl := hfs.len
      have hdl : dn.length ≤ 100000 := by
        have e := congrArg List.length hnm
        rw [List.length_append] at e
        have := T.names_len
        omega
      have hfs1 : fs.length ≤ 1000000 := by omega
      have hvl := hst.len
      have hst1 : st.length ≤ 1000000 := by omega
      simp only [ent, List.cons_append, List.nil_append] at *
      (try k_fold)
      cases hst with
      | nil =>
        k_steps
        (try dsimp only)
        refine' endS_nf ?z9t ?z9f ?z9n ?z9a ?z9b ?z9c
        case z9f => k_asm
        case z9t => assumption
        case z9n => k_asm
        case z9a => k_mem
        case z9b =>
          have e : dn = T.names := by simpa [namesOf] using hnm
          rw [← e]
          refine hfs.mono ?_
          k_updF
        case z9c => k_updF
      | @snoc vs ts' v t hst ht =>
        have hvs1 : vs.length ≤ 1000000 := by rw [List.length_append] at hst1; omega
        rw [sizes_snoc] at hsz' ⊢
        cases ht with
        | @text a b c t1 t2 t3 n n2 hm1 hm2 =>
          have hal := neN (hl _ hm1)
          have hbl := neN (hl _ hm2)
          have haf := neN (hf _ hm1)
          have hbf := neN (hf _ hm2)
          dsimp only at hal hbl haf hbf
          k_steps
          show wpAny _ _ _ _ _ _
          refine' tellC_ro (simpleclass_T w D a b c t1 t2 t3 n n2) ?z9b ?z9f ?z9x ?z9n ?z9t ?z9h ?z9k ?z9s ?z9r ?z9d ?z9u ?_
          case z9b => assumption
          case z9f => k_asm
          case z9x => assumption
          case z9n => k_asm
          case z9t => assumption
          case z9h => exact rfl
          case z9k => exact rfl
          case z9s => k_updF
          case z9r => trivial
          case z9d => k_room
          case z9u => k_units
          rintro r tl h' tk' F' N' ⟨u, Z, P, a1, t5, k5, n5, rfl, rfl⟩ hoff
          have hPl := neN (hoff _ (.tail _ (.head _)) (_, listOf vs.toArray _) (by k_mem) (by simp only [List.map_cons, List.map_nil, List.mem_cons, List.not_mem_nil, or_false, not_or]; refine ⟨?_, ?_⟩ <;> k_ne))
          have hPf := neN (hoff _ (.tail _ (.head _)) (_, listOf fs.toArray _) (by k_mem) (by simp only [List.map_cons, List.map_nil, List.mem_cons, List.not_mem_nil, or_false, not_or]; refine ⟨?_, ?_⟩ <;> k_ne))
          have hZl := neN (hoff _ (.head _) (_, listOf vs.toArray _) (by k_mem) (by simp only [List.map_cons, List.map_nil, List.mem_cons, List.not_mem_nil, or_false, not_or]; refine ⟨?_, ?_⟩ <;> k_ne))
          have hZf := neN (hoff _ (.head _) (_, listOf fs.toArray _) (by k_mem) (by simp only [List.map_cons, List.map_nil, List.mem_cons, List.not_mem_nil, or_false, not_or]; refine ⟨?_, ?_⟩ <;> k_ne))
          dsimp only at hPl hPf hZl hZf
          clear hoff
          (try dsimp only [List.cons_append, List.nil_append] at *)
          k_steps
          refine' step_nf_pair condMono ?z9t ?z9b ?z9f ?z9n ?z9d ?z9g ?z9h ?z9i ?z9j hst hfs ?z9u ?z9v hsz' hsub hl hf ?z9m ?z9s
          case z9f => k_asm
          case z9t => assumption
          case z9b => assumption
          case z9n => k_asm
          case z9d => assumption
          case z9g => k_mem
          case z9h => k_mem
          case z9i => k_ne
          case z9j => k_ne
          case z9u => simp only [Tree.size]; omega
          case z9v => rw [← hnm, namesOf_snoc, Tree.names]; simp
          case z9m => intro y e1 e2; simp only [if_neg e1, if_neg e2]
          case z9s => (try dsimp only [List.cons_append, List.nil_append]); k_updF
        | @ref a b c d9 t1 t2 t3 t4 n n1 n2 n3 name hnm1 hm1 hm2 hm3 hm4 =>
          have hal := neN (hl _ hm1)
          have hbl := neN (hl _ hm2)
          have hcl := neN (hl _ hm3)
          have hdl := neN (hl _ hm4)
          have haf := neN (hf _ hm1)
          have hbf := neN (hf _ hm2)
          have hcf := neN (hf _ hm3)
          have hdf := neN (hf _ hm4)
          dsimp only at hal hbl hcl hdl haf hbf hcf hdf
          k_steps
          show wpAny _ _ _ _ _ _
          refine' tellS_ro (signT a b c d9 t1 t2 t3 t4 n n1 n2 n3 name hnm1) ?z9b ?z9f ?z9x ?z9y ?z9n ?z9d ?z9t ?z9h ?z9k ?z9s ?z9r ?z9u ?_
          case z9b => assumption
          case z9f => k_asm
          case z9x => assumption
          case z9y => assumption
          case z9n => k_asm
          case z9d => assumption
          case z9t => assumption
          case z9h => exact rfl
          case z9k => exact rfl
          case z9s => k_updF
          case z9r => k_room
          case z9u => k_units
          rintro r tl g' h' tk' T' B' X' TT' F' N' D' ⟨u, Z, P, a1, t5, k5, n5, rfl, rfl⟩ hoff
          have hPl := neN (hoff _ (.tail _ (.head _)) (_, listOf vs.toArray _) (by k_mem) (by simp only [List.map_cons, List.map_nil, List.mem_cons, List.not_mem_nil, or_false, not_or]; refine ⟨?_, ?_, ?_, ?_, ?_, ?_, ?_, ?_, ?_, ?_, ?_⟩ <;> k_ne))
          have hPf := neN (hoff _ (.tail _ (.head _)) (_, listOf fs.toArray _) (by k_mem) (by simp only [List.map_cons, List.map_nil, List.mem_cons, List.not_mem_nil, or_false, not_or]; refine ⟨?_, ?_, ?_, ?_, ?_, ?_, ?_, ?_, ?_, ?_, ?_⟩ <;> k_ne))
          have hZl := neN (hoff _ (.head _) (_, listOf vs.toArray _) (by k_mem) (by simp only [List.map_cons, List.map_nil, List.mem_cons, List.not_mem_nil, or_false, not_or]; refine ⟨?_, ?_, ?_, ?_, ?_, ?_, ?_, ?_, ?_, ?_, ?_⟩ <;> k_ne))
          have hZf := neN (hoff _ (.head _) (_, listOf fs.toArray _) (by k_mem) (by simp only [List.map_cons, List.map_nil, List.mem_cons, List.not_mem_nil, or_false, not_or]; refine ⟨?_, ?_, ?_, ?_, ?_, ?_, ?_, ?_, ?_, ?_, ?_⟩ <;> k_ne))
          dsimp only at hPl hPf hZl hZf
          clear hoff
          (try dsimp only [List.cons_append, List.nil_append] at *)
          k_steps
          refine' step_nf_pair condMono ?z9t ?z9b ?z9f ?z9n ?z9d ?z9g ?z9h ?z9i ?z9j hst hfs ?z9u ?z9v hsz' hsub hl hf ?z9m ?z9s
          case z9f => k_asm
          case z9t => assumption
          case z9b => assumption
          case z9n => k_asm
          case z9d => assumption
          case z9g => k_mem
          case z9h => k_mem
          case z9i => k_ne
          case z9j => k_ne
          case z9u => simp only [Tree.size]; omega
          case z9v => rw [← hnm, namesOf_snoc, Tree.names]; simp
          case z9m => intro y e1 e2; simp only [if_neg e1, if_neg e2]
          case z9s => (try dsimp only [List.cons_append, List.nil_append]); k_updF
        | neg hm1 ht1 =>
          k_steps
          refine' step_nf ?z9t ?z9b ?z9f ?z9n ?z9d (.snoc hst ht1) hfs ?z9u ?z9v hsz' hsub hl hf ?z9m ?z9s
          case z9f => k_asm
          case z9t => assumption
          case z9b => assumption
          case z9n => k_asm
          case z9d => assumption
          case z9u => rw [sizes_snoc, Tree.size]; omega
          case z9v => rw [← hnm, namesOf_snoc, namesOf_snoc]; rfl
          case z9m => intro y e1 e2; simp only [if_neg e1, if_neg e2]
          case z9s => (try dsimp only [List.cons_append, List.nil_append]); k_updF
        | @bin a t n x y word T U hw hm1 ht1 ht2 =>
          have hst2 : StackIn CondIn rest (vs ++ [y, x]) (ts' ++ [U, T]) := by
            have := (hst.snoc ht2).snoc ht1
            rwa [List.append_assoc, List.append_assoc] at this
          have hz2 : sizes (ts' ++ [U, T]) < sizes ts' + (Tree.bin word T U).size := by
            simp only [sizes, List.map_append, List.map_cons, List.map_nil, List.sum_append, List.sum_cons, List.sum_nil, Tree.size]; omega
          have hn2 : namesOf (ts' ++ [U, T]) = namesOf (ts' ++ [Tree.bin word T U]) := by
            rw [namesOf_snoc, show ts' ++ [U, T] = (ts' ++ [U]) ++ [T] by simp, namesOf_snoc, namesOf_snoc, Tree.names, List.append_assoc]
          rw [← hn2] at hnm
          simp only [condWords, List.mem_cons, List.not_mem_nil, or_false] at hw
          rcases hw with rfl | rfl
          all_goals (
            k_steps
            refine' step_nf ?z9t ?z9b ?z9f ?z9n ?z9d hst2 hfs hz2 hnm hsz' hsub hl hf ?z9m ?z9s
            case z9f => k_asm
            case z9t => assumption
            case z9b => assumption
            case z9n => k_asm
            case z9d => assumption
            case z9m => intro y e1 e2; simp only [if_neg e1, if_neg e2]
            case z9s => (try dsimp only [List.cons_append, List.nil_append]); k_updF)
end
end
section
open PySem PySem.W PyProof.Rows PySem.Calls PySem.Spec
theorem look_eq {α : Type} {x : Option α} {o o' : α} {P : Prop} (e : x = some o) (h : x = some o') (k : o = o' → P) : P := k (Option.some.inj (e.symm.trans h))
/-- a draw, the ledger written out -/
theorem draw_use {w : World} {p : Addr} {a b many : Int} {t1 t2 t3 : Tok} {k : Nat} {big : List (Addr × Obj)} {gU : Obj → List (Addr × Obj)}
    {mean : ExcName → Option Value} {mg mb : PySem.Str → Option Value} {dp un : Nat} {gd : Option (List Code)} {env : Env} {outer : List Env} {A₀ : Around} {base h₀ : Heap} {L : Addr} {m : PySem.Str → Option Value} {s : Shared}
    {Q E : Value → Shared → Prop} (B : Below A₀ base outer h₀) (F : Fr h₀ L s.heap m) (X : (hd.heap_1 w.params).In h₀) (N : News h₀ L s.heap big) (T : topOf mean mg mb h₀) (hf : env.frame = some L) (hk : env.scope.kind = .function)
    (U : UpdF p (listOf #[.int a t1, .int b t2] k) big gU) (ha : 0 ≤ a) (hb : 0 ≤ b ∧ b ≤ 1000) (hm : 1 ≤ many ∧ many ≤ 1000) (hdp : dp + 20 < recursionLimit) (hun : un + 100 < cLine)
    (h : ∀ h' tk' a' b' t1' t2' k' dg t, Fr h₀ L h' m → News h₀ L h' (gU (listOf #[.int a' t1', .int b' t2'] k')) → 0 ≤ dg → dg < many → 0 ≤ a' → 0 ≤ b' → b' ≤ b + 1 → Q (.int dg t) { s with heap := h', toks := tk' }) :
    wpAny (model PySem.Challenge.rw_pq0630_01.row.prog w) (aroundOf dp un gd env outer) (call (.ref 377) [.ref p, .int many t3]) Q E s := by
  obtain ⟨pre, post, rfl, hg, h1, h2⟩ := U.split
  refine tellC_use (draw_T w p a b many t1 t2 t3 k ha hb hm) B F X N T hf hk (pre ++ post) (fun q hq => ?_) (fun q hq => ?_) (fun q hq hm => ?_) trivial hdp hun ?_
  · rw [List.mem_singleton.mp hq]
    exact List.mem_append_right _ (.head _)
  · rcases List.mem_append.mp hq with hq | hq
    · exact List.mem_append_left _ hq
    · exact List.mem_append_right _ (.tail _ hq)
  · have e : q.1 = p := by simpa using hm
    rcases List.mem_append.mp hq with hq | hq
    · exact h1 q hq e
    · exact h2 q hq e
  · rintro r news' h' tk' F' N' ⟨a', b', t1', t2', k', dg, t, rfl, rfl, e1, e2, e3, e4, e5⟩ -
    refine h h' tk' a' b' t1' t2' k' dg t F' (fun q hq => N' q ?_) e1 e2 e3 e4 e5
    rw [hg] at hq
    rcases List.mem_append.mp hq with hq | hq
    · exact List.mem_append_right _ (List.mem_append_left _ hq)
    · rcases List.mem_cons.mp hq with rfl | hq
      · exact List.mem_append_left _ (.head _)
      · exact List.mem_append_right _ (List.mem_append_right _ hq)
end
section
open PySem PySem.W PyProof.Rows PySem.Calls PySem.Spec
section
variable {prog : Program} {w : World} {A : Around} {h₀ : Heap} {L : Addr} {m : PySem.Str → Option Value} {env : Env} {elt : Expr} {x x₂ : PySem.Str} {scope : Scope} {cl : List (PySem.Str × Addr)} {s : Shared} {S : List (Addr × Obj) → Prop} {P : Nat → Value → Prop} {Fin : List Value → List (Addr × Obj) → Prop} {news : List (Addr × Obj)}
/-- a comprehension's turns by an invariant -/
theorem rest_inv {n : Nat} (J : Nat → List Value → List (Addr × Obj) → Prop) (hj : J 0 [] news)
    (turn : ∀ i ys nw v I oI C oC D m₂ h tk (E' : Value → Shared → Prop), i < n → J i ys nw → P i v → LCg.NsObj oC m₂ → m₂ x = some v → Fr h₀ L h m → News h₀ L h ((I, oI) :: (C, oC) :: (D, LCg.lst ys) :: nw) → LCg.Off3 I C D nw → ((@Ne Nat I C) ∧ (@Ne Nat I D) ∧ (@Ne Nat C D)) →
      wpAny (model prog w) A (eval elt (compEnvC scope cl C env)) (LCg.CompEnd h₀ L m { s with heap := h, toks := tk } I oI C oC D (LCg.lst ys) S (fun y nw' => J (i + 1) (ys ++ [y]) nw')) E' { s with heap := h, toks := tk })
    (fin : ∀ ys nw, J n ys nw → Fin ys nw) : LCg.CompRest prog w A h₀ L m env elt x scope cl s S P Fin n 0 [] news := by
  have key : ∀ (j i : Nat) (ys : List Value) (nw : List (Addr × Obj)), i + j = n → J i ys nw → LCg.CompRest prog w A h₀ L m env elt x scope cl s S P Fin j i ys nw := by
    intro j
    induction j with
    | zero =>
      intro i ys nw hi hJ
      have e : i = n := by omega
      exact LCg.CompRest.zero (fin ys nw (e ▸ hJ))
    | succ j ih =>
      intro i ys nw hi hJ
      refine LCg.CompRest.succ ?_
      intro v I oI C oC D m₂ h tk E' hv hC hx F N off ne
      refine wpAny_mono (turn i ys nw v I oI C oC D m₂ h tk E' (by omega) hJ hv hC hx F N off ne) (fun y s₂ hq => ?_) fun _ _ e => e
      obtain ⟨h', tk', nw', e, F', N', off', hS, hJ'⟩ := hq
      exact ⟨h', tk', nw', e, F', N', off', hS, ih (i + 1) _ _ (by omega) hJ'⟩
  exact key n 0 [] news (by omega) hj
theorem restP_inv {n : Nat} (J : Nat → List Value → List (Addr × Obj) → Prop) (hj : J 0 [] news)
    (turn : ∀ i ys nw v, i < n → J i ys nw → P i v → ∃ (t : Addr) (ot : Obj) (v₁ v₂ : Value) (nt : Nat), v = .ref t ∧ (t, ot) ∈ nw ∧ ot.cls = .type "tuple" ∧ ot.data = .seq #[v₁, v₂] nt ∧
      ∀ I oI C oC D m₂ h tk (E' : Value → Shared → Prop), LCg.NsObj oC m₂ → m₂ x = some v₁ → m₂ x₂ = some v₂ → Fr h₀ L h m → News h₀ L h ((I, oI) :: (C, oC) :: (D, LCg.lst ys) :: nw) → LCg.Off3 I C D nw → ((@Ne Nat I C) ∧ (@Ne Nat I D) ∧ (@Ne Nat C D)) →
      wpAny (model prog w) A (eval elt (compEnvC scope cl C env)) (LCg.CompEnd h₀ L m { s with heap := h, toks := tk } I oI C oC D (LCg.lst ys) S (fun y nw' => J (i + 1) (ys ++ [y]) nw')) E' { s with heap := h, toks := tk })
    (fin : ∀ ys nw, J n ys nw → Fin ys nw) : LCp.CompRestP prog w A h₀ L m env elt x x₂ scope cl s S P Fin n 0 [] news := by
  have key : ∀ (j i : Nat) (ys : List Value) (nw : List (Addr × Obj)), i + j = n → J i ys nw → LCp.CompRestP prog w A h₀ L m env elt x x₂ scope cl s S P Fin j i ys nw := by
    intro j
    induction j with
    | zero =>
      intro i ys nw hi hJ
      have e : i = n := by omega
      exact LCp.CompRestP.zero (fin ys nw (e ▸ hJ))
    | succ j ih =>
      intro i ys nw hi hJ
      refine LCp.CompRestP.succ ?_
      intro v hv
      obtain ⟨t, ot, v₁, v₂, nt, e1, e2, e3, e4, k⟩ := turn i ys nw v (by omega) hJ hv
      refine ⟨t, ot, v₁, v₂, nt, e1, e2, e3, e4, ?_⟩
      intro I oI C oC D m₂ h tk E' hC hx hx₂ F N off ne
      refine wpAny_mono (k I oI C oC D m₂ h tk E' hC hx hx₂ F N off ne) (fun y s₂ hq => ?_) fun _ _ e => e
      obtain ⟨h', tk', nw', e, F', N', off', hS, hJ'⟩ := hq
      exact ⟨h', tk', nw', e, F', N', off', hS, ih (i + 1) _ _ (by omega) hJ'⟩
  exact key n 0 [] news (by omega) hj
end
section
variable {prog : Program} {w : World} {A : Around} {E : Value → Shared → Prop} {s : Shared} {env : Env} {h₀ : Heap} {x : PySem.Str} {body : List Stmt} {Q : Flow → Shared → Prop}
/-- the end of a turn -/
def TurnEnd (h₀ : Heap) (L : Addr) (I : Addr) (oI : Obj) (J : (PySem.Str → Option Value) → List (Addr × Obj) → Prop) (s₁ : Shared) (f : Flow) (s₂ : Shared) : Prop :=
  f = .next ∧ ∃ h' tk m₂ news₂, s₂ = { s₁ with heap := h', toks := tk } ∧ Fr h₀ L h' m₂ ∧ News h₀ L h' ((I, oI) :: news₂) ∧ (∀ p ∈ news₂, p.1 ≠ I) ∧ J m₂ news₂
theorem turnEnd {L I : Addr} {oI : Obj} {J : (PySem.Str → Option Value) → List (Addr × Obj) → Prop} {s₁ : Shared} {h' : Heap} {tk : Nat} {m₂ : PySem.Str → Option Value} {all : List (Addr × Obj)} (news₂ : List (Addr × Obj))
    (F : Fr h₀ L h' m₂) (N : News h₀ L h' all) (hs : ∀ p ∈ (I, oI) :: news₂, p ∈ all) (off : ∀ p ∈ news₂, p.1 ≠ I) (hJ : J m₂ news₂) : TurnEnd h₀ L I oI J s₁ .next { s₁ with heap := h', toks := tk } :=
  ⟨rfl, h', tk, m₂, news₂, rfl, F, fun p hp => N p (hs p hp), off, hJ⟩
theorem for_range_inv {r : Addr} {a₀ b₀ : Int} {t₀ u₀ v₀ : Tok} {n : Nat} {m₀ : PySem.Str → Option Value} {news : List (Addr × Obj)} (J : Nat → (PySem.Str → Option Value) → List (Addr × Obj) → Prop)
    (hh : A.handled = none) (hr : IsRange s.heap r a₀ b₀ 1 t₀ u₀ v₀) (hsmall : Builtin.Range.small a₀ b₀ 1 = true) (hn : Builtin.Range.rangeSize a₀ b₀ 1 = (n : Int)) (F : Fr h₀ env.locals s.heap m₀) (N : News h₀ env.locals s.heap news) (hj : J 0 m₀ news)
    (turn : ∀ i m₁ news₁ h tk t I oI, i < n → J i m₁ news₁ → (∀ p ∈ news₁, p.1 ≠ I) → Fr h₀ env.locals h (fun y => if y = x then some (.int (a₀ + (i : Int)) t) else m₁ y) → News h₀ env.locals h ((I, oI) :: news₁) →
      wpAny (model prog w) A (execs body env) (TurnEnd h₀ env.locals I oI (J (i + 1)) { s with heap := h, toks := tk }) E { s with heap := h, toks := tk })
    (done : ∀ m₁ news₁ h tk, J n m₁ news₁ → Fr h₀ env.locals h m₁ → News h₀ env.locals h news₁ → Q .next { s with heap := h, toks := tk }) :
    wpAny (model prog w) A (pyIter (.ref r)) (fun it s₂ => LoopAtV prog w A h₀ env x body Q E it s₂) E s := by
  refine wpAny_pyIter_range hr hsmall ?_
  have W : Walks prog w A s.heap.objs.size [s.heap.objs.size] [s.heap.objs.size] n (fun i v => i < n ∧ ∃ t, v = .int (a₀ + i * 1) t)
      (fun i h => IsRangeIter h s.heap.objs.size (a₀ + (i : Nat) * 1) ((n : Int) - (i : Nat)) 1) := (Walks.range hh _ a₀ 1 n).bound
  refine ⟨_, _, _, n, _, _, m₀, news, J, rfl, W, ?_, ?_, ?_, (by show IsRangeIter _ _ _ _ _; rw [hn]; simpa using Heap.get?_push_size _ rfl), F.push _, (fun p hp => ⟨Heap.get?_push_of_some _ (N p hp).1, (N p hp).2⟩), hj, ?_, ?_⟩
  · intro hm
    exact absurd F.ns.lt ((List.mem_singleton.mp hm) ▸ Nat.lt_irrefl _)
  · intro b hb
    rw [List.mem_singleton.mp hb]
    exact next_is_new F
  · intro p hp hI
    exact absurd (Heap.lt_size (N p hp).1) ((List.mem_singleton.mp hI) ▸ Nat.lt_irrefl _)
  · rintro i v m₁ news₁ s₁ own ⟨hh', tk', rfl⟩ hin ⟨_, t, rfl⟩ hJ hoff hown hget hall st F₁ N₁
    obtain ⟨oI, hget'⟩ : ∃ o, hh'.get? s.heap.objs.size = some o := ⟨_, st⟩
    have hm := hall _ (List.mem_singleton.mpr rfl) (next_is_new F) _ hget'
    have F₁' : Fr h₀ env.locals hh' (fun y => if y = x then some (.int (a₀ + (i : Int)) t) else m₁ y) := by
      have e : a₀ + (i : Int) * 1 = a₀ + i := by omega
      rw [e] at F₁
      exact F₁
    refine wpAny_mono (turn i m₁ news₁ hh' tk' t s.heap.objs.size oI hin hJ (fun p hp e => hoff p hp (List.mem_singleton.mpr e)) F₁' (fun p hp => N₁ p ?_)) (fun f s₂ p => ?_) fun _ _ e => e
    · rcases List.mem_cons.mp hp with rfl | hp
      · exact List.mem_append_left _ hm
      · exact List.mem_append_right _ hp
    · obtain ⟨rfl, h', tk, m₂, news₂, e, F₂, N₂, off₂, hJ₂⟩ := p
      refine LoopStepV.next ⟨rfl, h', tk, m₂, news₂, e, F₂, fun q hq => ?_, fun q hq hw => off₂ q hq (List.mem_singleton.mp hw), hJ₂⟩
      rcases List.mem_append.mp hq with hq | hq
      · have e1 := List.mem_singleton.mp (hown q hq)
        have e2 := hget q hq
        have z := N₂ _ (List.Mem.head _)
        rw [e1] at e2
        have e3 : q.2 = oI := Option.some.inj (e2.symm.trans hget')
        refine ⟨?_, ?_, ?_⟩
        · rw [e1, e3]; exact z.1
        · rw [e1]; exact z.2.1
        · rw [e1]; exact z.2.2
      · exact N₂ q (.tail _ hq)
  · rintro h' tk m' news' F' N' _ hJ
    exact done m' news' h' tk hJ F' N'
end
end
section
open PySem PySem.W PyProof.Rows PySem.Calls PySem.Spec
theorem updF_self {d : Addr} {o : Obj} : ∀ {l : List (Addr × Obj)} {g : Obj → List (Addr × Obj)}, UpdF d o l g → l = g o
  | _, _, .head _ => rfl
  | _, _, .tail _ r => by rw [updF_self r]
abbrev penO (a b : Int) (t1 t2 : Tok) (k : Nat) : Obj := listOf #[.int a t1, .int b t2] k
/-- a comprehension that draws -/
def DrawJ (gU : Obj → List (Addr × Obj)) (b₀ : Int) (G : Value → Prop) (i : Nat) (ys : List Value) (nw : List (Addr × Obj)) : Prop :=
  ys.length = i ∧ (∀ y ∈ ys, G y) ∧ ∃ a b t1 t2 k, nw = gU (penO a b t1 t2 k) ∧ 0 ≤ a ∧ 0 ≤ b ∧ b ≤ b₀ + (i : Int)
section
variable {prog : Program} {w : World} {A : Around} {h₀ : Heap} {L p : Addr} {m : PySem.Str → Option Value} {env : Env} {elt : Expr} {x : PySem.Str} {scope : Scope} {cl : List (PySem.Str × Addr)} {s : Shared} {S : List (Addr × Obj) → Prop} {P : Nat → Value → Prop} {Fin : List Value → List (Addr × Obj) → Prop} {news : List (Addr × Obj)}
theorem comp_draws {n : Nat} {gU : Obj → List (Addr × Obj)} {a₀ b₀ : Int} {t1 t2 : Tok} {k : Nat} (U : UpdF p (penO a₀ b₀ t1 t2 k) news gU) (G : Value → Prop) (ha : 0 ≤ a₀) (hb : 0 ≤ b₀)
    (turn : ∀ i ys a b t1 t2 k v I oI C oC D m₂ h tk (E' : Value → Shared → Prop), i < n → 0 ≤ a → 0 ≤ b → b ≤ b₀ + (i : Int) → P i v → LCg.NsObj oC m₂ → m₂ x = some v → Fr h₀ L h m → News h₀ L h ((I, oI) :: (C, oC) :: (D, LCg.lst ys) :: gU (penO a b t1 t2 k)) →
      LCg.Off3 I C D (gU (penO a b t1 t2 k)) → ((@Ne Nat I C) ∧ (@Ne Nat I D) ∧ (@Ne Nat C D)) → ys.length = i → (∀ y ∈ ys, G y) →
      wpAny (model prog w) A (eval elt (compEnvC scope cl C env)) (LCg.CompEnd h₀ L m { s with heap := h, toks := tk } I oI C oC D (LCg.lst ys) S (fun y nw' => DrawJ gU b₀ G (i + 1) (ys ++ [y]) nw')) E' { s with heap := h, toks := tk })
    (fin : ∀ ys a b t1 t2 k, ys.length = n → (∀ y ∈ ys, G y) → 0 ≤ a → 0 ≤ b → b ≤ b₀ + (n : Int) → Fin ys (gU (penO a b t1 t2 k))) : LCg.CompRest prog w A h₀ L m env elt x scope cl s S P Fin n 0 [] news := by
  refine rest_inv (DrawJ gU b₀ G) ⟨rfl, (fun _ hy => nomatch hy), a₀, b₀, t1, t2, k, updF_self U, ha, hb, by simp⟩ ?_ ?_
  · rintro i ys nw v I oI C oC D m₂ h tk E' hi ⟨hl, hG, a, b, t1, t2, k, rfl, h1, h2, h3⟩ hv hC hx F N off ne
    exact turn i ys a b t1 t2 k v I oI C oC D m₂ h tk E' hi h1 h2 h3 hv hC hx F N off ne hl hG
  · rintro ys nw ⟨hl, hG, a, b, t1, t2, k, rfl, h1, h2, h3⟩
    exact fin ys a b t1 t2 k hl hG h1 h2 h3
end
theorem off3_gU {d : Addr} {o o₂ : Obj} {I C D : Addr} : ∀ {l : List (Addr × Obj)} {g : Obj → List (Addr × Obj)}, UpdF d o l g → LCg.Off3 I C D (g o) → LCg.Off3 I C D (g o₂)
  | _, _, .head _, h => h
  | _, _, .tail _ r, h => ⟨h.1, off3_gU r h.2⟩
theorem compEnd_draw {h₀ : Heap} {L I C D : Addr} {m : PySem.Str → Option Value} {s₁ : Shared} {oI oC : Obj} {ys : List Value} {S : List (Addr × Obj) → Prop} {gU : Obj → List (Addr × Obj)} {b₀ : Int} {G : Value → Prop} {i : Nat} {y : Value} {h' : Heap} {tk : Nat} {all : List (Addr × Obj)} {a b : Int} {t1 t2 : Tok} {k : Nat}
    (F : Fr h₀ L h' m) (N : News h₀ L h' all) (sub : ∀ q ∈ (I, oI) :: (C, oC) :: (D, LCg.lst ys) :: gU (penO a b t1 t2 k), q ∈ all) (off : LCg.Off3 I C D (gU (penO a b t1 t2 k))) (hS : S (gU (penO a b t1 t2 k)))
    (hl : ys.length = i) (hG : ∀ z ∈ ys, G z) (hy : G y) (ha : 0 ≤ a) (hb : 0 ≤ b) (hb2 : b ≤ b₀ + ((i + 1 : Nat) : Int)) :
    LCg.CompEnd h₀ L m s₁ I oI C oC D (LCg.lst ys) S (fun y nw' => DrawJ gU b₀ G (i + 1) (ys ++ [y]) nw') y { s₁ with heap := h', toks := tk } :=
  .intro F N _ sub off hS ⟨by rw [List.length_append, hl]; rfl, fun z hz => by
    rcases List.mem_append.mp hz with hz | hz
    · exact hG z hz
    · rw [List.mem_singleton.mp hz]; exact hy, a, b, t1, t2, k, rfl, ha, hb, hb2⟩
/-- a text of a written tuple at a drawn place -/
theorem item_word {prog : Program} {w : World} {A : Around} {E : Value → Shared → Prop} {s : Shared} {h₀ : Heap} {L t : Addr} {news : List (Addr × Obj)} {value slice : Expr} {vs : List Value} {n : Nat} {k : Int} {u : Tok} {Q : Value → Shared → Prop} (ws : List PySem.Str)
    (N : News h₀ L s.heap news) (hm : (t, tupO vs n) ∈ news) (hv : ∀ v ∈ vs, ∃ x u, v = .str x u ∧ x ∈ ws) (h0 : 0 ≤ k) (hlt : k < vs.length) (hle : vs.length ≤ 1000) (h : ∀ x u, x ∈ ws → Q (.str x u) s)
    (hs : subscripted slice false (.ref t) (.int k u) = operate [.ref t, .int k u] (getItem (.ref t) (.int k u)) := by with_unfolding_all rfl) :
    wpAny (model prog w) A (subscriptTail value slice (.ref t) (.int k u)) Q E s := by
  have hk : k.toNat < vs.length := by omega
  obtain ⟨x, u', e, hx⟩ := hv vs[k.toNat] (List.getElem_mem hk)
  refine item_tupleT (j := k.toNat) (x := .str x u') (News.isTup N hm) (by omega) (by omega) ?_ ?_ (h x u' hx) hs
  · unfold seqIndex?
    simp [Int.not_lt.mpr h0, h0, hlt]
  · rw [List.getElem?_eq_getElem hk, e]
theorem three_ints {R : Int → Prop} {ys : List Value} (hl : ys.length = 3) (h : ∀ y ∈ ys, ∃ d t, y = .int d t ∧ R d) : ∃ d1 t1 d2 t2 d3 t3, ys = [.int d1 t1, .int d2 t2, .int d3 t3] := by
  match ys, hl with
  | [a, b, c], _ =>
    obtain ⟨d1, t1, rfl, _⟩ := h a (.head _)
    obtain ⟨d2, t2, rfl, _⟩ := h b (.tail _ (.head _))
    obtain ⟨d3, t3, rfl, _⟩ := h c (.tail _ (.tail _ (.head _)))
    exact ⟨d1, t1, d2, t2, d3, t3, rfl⟩
theorem off1_mem {D : Addr} : ∀ {l : List (Addr × Obj)}, LCg.Off1 D l → ∀ p ∈ l, p.1 ≠ D
  | [], _, _, h => nomatch h
  | _ :: _, x, p, h => by
    rcases List.mem_cons.mp h with rfl | h
    · exact x.1
    · exact off1_mem x.2 p h
/-- using a contract that keeps what it is handed -/
theorem tellC_keep {w : World} {f : Addr} {dd du : Nat} {vs : List Value} {sub : List (Addr × Obj)} {Rd : Heap → Prop} {Post : List (Addr × Obj) → Value → Prop} (C : TellC w f dd du vs sub Rd Post) (hp : ∀ news' r, Post news' r → ∀ p ∈ sub, p ∈ news')
    {mean : ExcName → Option Value} {mg mb : PySem.Str → Option Value} {dp un : Nat} {gd : Option (List Code)} {env : Env} {outer : List Env} {A₀ : Around} {base h₀ : Heap} {L : Addr} {m : PySem.Str → Option Value} {s : Shared} {big : List (Addr × Obj)}
    {Q E : Value → Shared → Prop} (B : Below A₀ base outer h₀) (F : Fr h₀ L s.heap m) (X : (hd.heap_1 w.params).In h₀) (N : News h₀ L s.heap big) (T : topOf mean mg mb h₀) (hf : env.frame = some L) (hk : env.scope.kind = .function)
    (hs : ∀ p ∈ sub, p ∈ big) (hR : Rd (hideAll s.heap (sub.map (·.1)))) (hdp : dp + dd < recursionLimit) (hun : un + du < cLine)
    (h : ∀ r news' h' tk', Fr h₀ L h' m → News h₀ L h' (news' ++ big) → Post news' r → (∀ p ∈ news', ∀ q ∈ big, q.1 ∉ sub.map (·.1) → p.1 ≠ q.1) → Q r { s with heap := h', toks := tk' }) :
    wpAny (model PySem.Challenge.rw_pq0630_01.row.prog w) (aroundOf dp un gd env outer) (call (.ref f) vs) Q E s := by
  refine C mean mg mb dp un gd env outer A₀ base h₀ L m s Q E B F X (fun p hp => N p (hs p hp)) T hf hk hR hdp hun fun r news' h' tk' F' N' hP hkeep hoff => ?_
  refine h r news' h' tk' F' (fun p hp' => ?_) hP fun p hp' q hq hn => hoff p hp' q.1 q.2 (N q hq).1 hn
  rcases List.mem_append.mp hp' with hp' | hp'
  · exact N' p hp'
  · by_cases hn : p.1 ∈ sub.map (·.1)
    · obtain ⟨q, hq, e⟩ := List.mem_map.mp hn
      have h1 := (N q (hs q hq)).1
      rw [e, (N p hp').1] at h1
      have : p = q := Prod.ext e.symm (Option.some.inj h1)
      rw [this]
      exact N' q (hp news' r hP q hq)
    · exact ⟨hkeep _ _ (N p hp').1 hn, (N p hp').2⟩
theorem leafSub {R : List (Addr × Obj) → Value → Tree → Prop} {sub : List (Addr × Obj)} : ∀ news' r, LeafPost R sub news' r → ∀ p ∈ sub, p ∈ news' := fun _ _ ⟨_, _, _, _, _, _, _, _, _, _, _, h⟩ => h
/-- a leaf of the ledger -/
def LeafAt (R : List (Addr × Obj) → Value → Tree → Prop) (N : List (Addr × Obj)) (v : Value) (T : Tree) : Prop :=
  ∃ A tv nm tk n, v = .ref A ∧ (A, tupO [tv, .str nm tk] n) ∈ N ∧ R N tv T ∧ T.names = [nm] ∧ T.size = 1
def LeavesIn (R : List (Addr × Obj) → Value → Tree → Prop) (N : List (Addr × Obj)) (ys : List Value) (lv : List Tree) : Prop :=
  ys.length = lv.length ∧ ∀ (i : Nat) (v : Value), ys[i]? = some v → ∃ T, lv[i]? = some T ∧ LeafAt R N v T
theorem LeafAt.mono {R : List (Addr × Obj) → Value → Tree → Prop} (hR : Mono R) {N N' : List (Addr × Obj)} {v : Value} {T : Tree} (h : LeafAt R N v T) (hs : ∀ p ∈ N, p ∈ N') : LeafAt R N' v T := by
  obtain ⟨A, tv, nm, tk, n, e, hm, hr, r⟩ := h
  exact ⟨A, tv, nm, tk, n, e, hs _ hm, hR _ _ _ _ hr hs, r⟩
theorem LeavesIn.mono {R : List (Addr × Obj) → Value → Tree → Prop} (hR : Mono R) {N N' : List (Addr × Obj)} {ys : List Value} {lv : List Tree} (h : LeavesIn R N ys lv) (hs : ∀ p ∈ N, p ∈ N') : LeavesIn R N' ys lv :=
  ⟨h.1, fun i v e => by
    obtain ⟨T, e1, e2⟩ := h.2 i v e
    exact ⟨T, e1, e2.mono hR hs⟩⟩
theorem LeavesIn.snoc {R : List (Addr × Obj) → Value → Tree → Prop} {N : List (Addr × Obj)} {ys : List Value} {lv : List Tree} {v : Value} {T : Tree} (h : LeavesIn R N ys lv) (hv : LeafAt R N v T) : LeavesIn R N (ys ++ [v]) (lv ++ [T]) := by
  refine ⟨by rw [List.length_append, List.length_append, h.1]; rfl, fun i v' e => ?_⟩
  by_cases hi : i < ys.length
  · rw [List.getElem?_append_left hi] at e
    obtain ⟨T', e1, e2⟩ := h.2 i v' e
    exact ⟨T', by rw [List.getElem?_append_left (h.1 ▸ hi)]; exact e1, e2⟩
  · rw [List.getElem?_append_right (by omega)] at e
    have h0 : i - ys.length = 0 := by
      by_cases h1 : i - ys.length = 0
      · exact h1
      · rw [List.getElem?_eq_none (by simp; omega)] at e
        cases e
    rw [h0] at e
    have e' : v = v' := by simpa using e
    subst e'
    refine ⟨T, ?_, hv⟩
    rw [List.getElem?_append_right (by have := h.1; omega), show i - lv.length = 0 by have := h.1; omega]
    rfl
/-- the comprehension of the terms -/
def TermsJ (R : List (Addr × Obj) → Value → Tree → Prop) (fix : List (Addr × Obj)) (i : Nat) (ys : List Value) (nw : List (Addr × Obj)) : Prop :=
  ys.length = i ∧ ∃ rest lv, nw = fix ++ rest ∧ LeavesIn R rest ys lv
theorem termsJ_start {R : List (Addr × Obj) → Value → Tree → Prop} {news : List (Addr × Obj)} : TermsJ R news 0 [] news :=
  ⟨rfl, [], [], (List.append_nil _).symm, rfl, fun i v e => by simp at e⟩
theorem off3_append {I C D : Addr} {a b : List (Addr × Obj)} (h1 : ∀ p ∈ a, p.1 ≠ I ∧ p.1 ≠ C ∧ p.1 ≠ D) (h2 : LCg.Off3 I C D b) : LCg.Off3 I C D (a ++ b) :=
  .of fun p hp => by
    rcases List.mem_append.mp hp with hp | hp
    · exact h1 p hp
    · exact h2.mem p hp
theorem compEnd_leaf {R : List (Addr × Obj) → Value → Tree → Prop} (hR : Mono R) {h₀ : Heap} {L I C D : Addr} {m : PySem.Str → Option Value} {s₁ : Shared} {oI oC : Obj} {ys : List Value} {fix rest news' all sub : List (Addr × Obj)} {i : Nat} {y : Value} {h' : Heap} {tk : Nat} {lv : List Tree}
    (F : Fr h₀ L h' m) (N : News h₀ L h' all) (hall : ∀ q ∈ news' ++ ((I, oI) :: (C, oC) :: (D, LCg.lst ys) :: (fix ++ rest)), q ∈ all) (off : LCg.Off3 I C D (fix ++ rest))
    (hnew : ∀ q ∈ news', q.1 ≠ I ∧ q.1 ≠ C ∧ q.1 ≠ D) (hl : ys.length = i) (hlv : LeavesIn R rest ys lv) (hp : LeafPost R sub news' y) :
    LCg.CompEnd h₀ L m s₁ I oI C oC D (LCg.lst ys) (fun _ => True) (fun y nw' => TermsJ R fix (i + 1) (ys ++ [y]) nw') y { s₁ with heap := h', toks := tk } := by
  obtain ⟨A, tv, nm, tk9, n, T, rfl, hm, hr, hn, hz, _⟩ := hp
  have om := off.mem
  refine .intro F N (fix ++ (news' ++ rest)) (fun q hq => ?_) (.of fun p hp => ?_) trivial ⟨by rw [List.length_append, hl]; rfl, news' ++ rest, lv ++ [T], rfl,
    (hlv.mono hR fun p hp => List.mem_append_right _ hp).snoc (LeafAt.mono hR ⟨A, tv, nm, tk9, n, rfl, hm, hr, hn, hz⟩ fun p hp => List.mem_append_left _ hp)⟩
  · refine hall q ?_
    rcases List.mem_cons.mp hq with rfl | hq
    · exact List.mem_append_right _ (.head _)
    · rcases List.mem_cons.mp hq with rfl | hq
      · exact List.mem_append_right _ (.tail _ (.head _))
      · rcases List.mem_cons.mp hq with rfl | hq
        · exact List.mem_append_right _ (.tail _ (.tail _ (.head _)))
        · rcases List.mem_append.mp hq with hq | hq
          · exact List.mem_append_right _ (.tail _ (.tail _ (.tail _ (List.mem_append_left _ hq))))
          · rcases List.mem_append.mp hq with hq | hq
            · exact List.mem_append_left _ hq
            · exact List.mem_append_right _ (.tail _ (.tail _ (.tail _ (List.mem_append_right _ hq))))
  · rcases List.mem_append.mp hp with hp | hp
    · exact om p (List.mem_append_left _ hp)
    · rcases List.mem_append.mp hp with hp | hp
      · exact hnew p hp
      · exact om p (List.mem_append_right _ hp)
theorem newsSub {h₀ h : Heap} {L : Addr} {a b : List (Addr × Obj)} (N : News h₀ L h b) (hs : ∀ p ∈ a, p ∈ b) : News h₀ L h a := fun p hp => N p (hs p hp)
end
section
open PySem PySem.W PyProof.Rows PySem.Calls PySem.Spec
section
variable {prog : Program} {w : World} {A : Around} {E : Value → Shared → Prop} {s : Shared} {h₀ : Heap} {L t : Addr} {news : List (Addr × Obj)} {value slice : Expr} {vs : List Value} {k : Int} {u : Tok} {v : Value} {Q : Value → Shared → Prop}
theorem item_lst (N : News h₀ L s.heap news) (hm : (t, LCg.lst vs) ∈ news) (h0 : 0 ≤ k) (hk : k < 2 ^ 62) (hx : vs[k.toNat]? = some v) (h : Q v s)
    (hs : subscripted slice false (.ref t) (.int k u) = operate [.ref t, .int k u] (getItem (.ref t) (.int k u)) := by with_unfolding_all rfl) :
    wpAny (model prog w) A (subscriptTail value slice (.ref t) (.int k u)) Q E s :=
  have hl : s.heap.IsList t vs.toArray := News.isList N hm
  tail_any hl.typeIs slot_list_getitem.lookup (wpAny_getItem_list hl h0 (by omega) (by simpa using hx) h) hs
theorem item_last (N : News h₀ L s.heap news) (hm : (t, LCg.lst vs) ∈ news) (hn : vs.length = 520) (hx : vs[519]? = some v) (h : Q v s)
    (hs : subscripted slice false (.ref t) (.int (-1) u) = operate [.ref t, .int (-1) u] (getItem (.ref t) (.int (-1) u)) := by with_unfolding_all rfl) :
    wpAny (model prog w) A (subscriptTail value slice (.ref t) (.int (-1) u)) Q E s :=
  have hl : s.heap.IsList t vs.toArray := News.isList N hm
  have e : (-1 + ((vs.toArray.size : Nat) : Int)).toNat = 519 := by rw [List.size_toArray, hn]; rfl
  tail_any hl.typeIs slot_list_getitem.lookup (wpAny_getItem_list_neg hl (by decide) (by rw [List.size_toArray, hn]; decide) (by decide) (by rw [e]; simpa using hx) h) hs
end
/-- the names of a row of leaves -/
def namesL (lv : List Tree) : List PySem.Str := (lv.map Tree.names).flatten
theorem namesL_append (a b : List Tree) : namesL (a ++ b) = namesL a ++ namesL b := by simp [namesL]
/-- the whole, built from the left -/
def LeftOk (lv : List Tree) (i : Nat) (T : Tree) : Prop := T.names = namesL (lv.take (i + 1)) ∧ T.size ≤ 3 * (i + 1)
def RightOk (lv : List Tree) (i : Nat) (T : Tree) : Prop := T.names = namesL (lv.drop (519 - i)) ∧ T.size ≤ 3 * (i + 1)
theorem leftOk_step {lv : List Tree} {i : Nat} {T U : Tree} {word : PySem.Str} (h : LeftOk lv i T) (hu : lv[i + 1]? = some U) (hz : U.size = 1) : LeftOk lv (i + 1) (.bin word (.neg T) U) := by
  refine ⟨?_, ?_⟩
  · rw [Tree.names, Tree.names, h.1, List.take_add_one (i := i + 1), hu, namesL_append]
    simp [namesL]
  · have := h.2
    simp only [Tree.size, hz]
    omega
theorem rightOk_step {lv : List Tree} {i : Nat} {T U : Tree} {word : PySem.Str} (hi : i + 1 < 520) (h : RightOk lv i T) (hu : lv[518 - i]? = some U) (hz : U.size = 1) : RightOk lv (i + 1) (.bin word U (.neg T)) := by
  refine ⟨?_, ?_⟩
  · have e : lv.drop (519 - (i + 1)) = U :: lv.drop (519 - i) := by
      have hlt : 518 - i < lv.length := (List.getElem?_eq_some_iff.mp hu).1
      rw [show 519 - (i + 1) = 518 - i by omega, List.drop_eq_getElem_cons hlt, show 518 - i + 1 = 519 - i by omega]
      congr 1
      exact (List.getElem?_eq_some_iff.mp hu).2
    rw [Tree.names, Tree.names, h.1, e]
    simp [namesL]
  · have := h.2
    simp only [Tree.size, hz]
    omega
/-- the loop that builds -/
def WholeJ (R : List (Addr × Obj) → Value → Tree → Prop) (Ok : List Tree → Nat → Tree → Prop) (lv : List Tree) (m₀ : PySem.Str → Option Value) (fix rest₀ : List (Addr × Obj)) (i : Nat) (m : PySem.Str → Option Value) (news : List (Addr × Obj)) : Prop :=
  ∃ wv T rest, m (Str.ofString "whole") = some wv ∧ (∀ y, y ≠ Str.ofString "whole" → y ≠ Str.ofString "word" → y ≠ Str.ofString "turn" → m y = m₀ y) ∧ news = fix ++ rest ∧ (∀ p ∈ rest₀, p ∈ rest) ∧ R rest wv T ∧ Ok lv i T
theorem mCases3 {m m₀ : PySem.Str → Option Value} {a b c : PySem.Str} {v : Value} (ha : m a = some v) (h : ∀ y, y ≠ a → y ≠ b → y ≠ c → m y = m₀ y) : ∃ z z', m = fun y => if y = a then some v else if y = b then z else if y = c then z' else m₀ y := by
  refine ⟨m b, m c, funext fun y => ?_⟩
  by_cases h1 : y = a
  · rw [if_pos h1, h1, ha]
  · rw [if_neg h1]
    by_cases h2 : y = b
    · rw [if_pos h2, h2]
    · rw [if_neg h2]
      by_cases h3 : y = c
      · rw [if_pos h3, h3]
      · rw [if_neg h3]; exact h y h1 h2 h3
theorem wholeJ_start {R : List (Addr × Obj) → Value → Tree → Prop} {Ok : List Tree → Nat → Tree → Prop} {lv : List Tree} {m : PySem.Str → Option Value} {fix rest : List (Addr × Obj)} {wv : Value} {T : Tree} (hw : m (Str.ofString "whole") = some wv) (hr : R rest wv T) (hok : Ok lv 0 T) :
    WholeJ R Ok lv m fix rest 0 m (fix ++ rest) := ⟨wv, T, rest, hw, fun _ _ _ _ => rfl, rfl, fun _ hp => hp, hr, hok⟩
theorem turnEnd_bin {R : List (Addr × Obj) → Value → Tree → Prop} {Ok : List Tree → Nat → Tree → Prop} {h₀ : Heap} {L I D1 D2 : Addr} {oI o1 o2 : Obj} {s₁ : Shared} {h' : Heap} {tk : Nat} {m m₀ : PySem.Str → Option Value} {fix rest rest₀ all : List (Addr × Obj)} {lv : List Tree} {i : Nat} {T : Tree}
    (F : Fr h₀ L h' m) (N : News h₀ L h' all) (hD1 : (D1, o1) ∈ all) (hD2 : (D2, o2) ∈ all) (hI1 : D1 ≠ I) (hI2 : D2 ≠ I) (hall : ∀ p ∈ (I, oI) :: (fix ++ rest), p ∈ all) (off : ∀ p ∈ fix ++ rest, p.1 ≠ I)
    (hw : m (Str.ofString "whole") = some (.ref D2)) (hm : ∀ y, y ≠ Str.ofString "whole" → y ≠ Str.ofString "word" → y ≠ Str.ofString "turn" → m y = m₀ y) (hsub : ∀ p ∈ rest₀, p ∈ rest)
    (hr : R ((D2, o2) :: (D1, o1) :: rest) (.ref D2) T) (hok : Ok lv i T) : TurnEnd h₀ L I oI (WholeJ R Ok lv m₀ fix rest₀ i) s₁ .next { s₁ with heap := h', toks := tk } := by
  refine turnEnd (fix ++ ((D2, o2) :: (D1, o1) :: rest)) F N (fun p hp => ?_) (fun p hp => ?_) ⟨.ref D2, T, (D2, o2) :: (D1, o1) :: rest, hw, hm, rfl, fun p hp => .tail _ (.tail _ (hsub p hp)), hr, hok⟩
  · rcases List.mem_cons.mp hp with rfl | hp
    · exact hall _ (.head _)
    · rcases List.mem_append.mp hp with hp | hp
      · exact hall p (.tail _ (List.mem_append_left _ hp))
      · rcases List.mem_cons.mp hp with rfl | hp
        · exact hD2
        · rcases List.mem_cons.mp hp with rfl | hp
          · exact hD1
          · exact hall p (.tail _ (List.mem_append_right _ hp))
  · rcases List.mem_append.mp hp with hp | hp
    · exact off p (List.mem_append_left _ hp)
    · rcases List.mem_cons.mp hp with rfl | hp
      · exact hI2
      · rcases List.mem_cons.mp hp with rfl | hp
        · exact hI1
        · exact off p (List.mem_append_right _ hp)
/-- using a contract that keeps what it is handed, the frames turned -/
theorem tellS_keep {w : World} {f : Addr} {dd du : Nat} {vs : List Value} {sub : List (Addr × Obj)} {Post : List (Addr × Obj) → Value → Prop} (C : TellS w f dd du vs sub Post) (hp : ∀ news' r, Post news' r → ∀ p ∈ sub, p ∈ news')
    {mean : ExcName → Option Value} {mg mb : PySem.Str → Option Value} {dp un : Nat} {gd : Option (List Code)} {env : Env} {outer : List Env} {A₀ : Around} {base g₀ h₀ : Heap} {L : Addr} {m : PySem.Str → Option Value} {s : Shared} {big : List (Addr × Obj)}
    {Q E : Value → Shared → Prop} (B : Below A₀ base outer h₀) (F : Fr h₀ L s.heap m) (XB : (hd.heap_1 w.params).In base) (TB : topOf mean mg mb base) (N : News h₀ L s.heap big) (D : KtsDicts (outer.filterMap (·.frame)) h₀)
    (T0 : KtsTurn (outer.filterMap (·.frame)) g₀ h₀) (hf : env.frame = some L) (hk : env.scope.kind = .function) (hs : ∀ p ∈ sub, p ∈ big) (hdp : dp + dd < recursionLimit) (hun : un + du < cLine)
    (h : ∀ r news' g' h' tk', KtsTurn (outer.filterMap (·.frame)) g₀ g' → Below A₀ base outer g' → (hd.heap_1 w.params).In g' → topOf mean mg mb g' → Fr g' L h' m → News g' L h' (news' ++ big) → Post news' r → Q r { s with heap := h', toks := tk' }) :
    wpAny (model PySem.Challenge.rw_pq0630_01.row.prog w) (aroundOf dp un gd env outer) (call (.ref f) vs) Q E s := by
  refine C mean mg mb dp un gd env outer A₀ base h₀ L m s Q E B F XB (fun p hp => N p (hs p hp)) TB D hf hk hdp hun fun r news' g' h' tk' T' B' F' N' D' hP hkeep hoff => ?_
  refine h r news' g' h' tk' (T0.trans T') B' (XB.keeps B'.stays) (TB.keeps B'.stays) F' (fun p hp' => ?_) hP
  rcases List.mem_append.mp hp' with hp' | hp'
  · exact N' p hp'
  · by_cases hn : p.1 ∈ sub.map (·.1)
    · obtain ⟨q, hq, e⟩ := List.mem_map.mp hn
      have h1 := (N q (hs q hq)).1
      rw [e, (N p hp').1] at h1
      have : p = q := Prod.ext e.symm (Option.some.inj h1)
      rw [this]
      exact N' q (hp news' r hP q hq)
    · have z := N p hp'
      refine ⟨hkeep _ _ z.1 hn z.2.1 fun hm => ?_, z.2.1, T'.none_ _ z.2.2⟩
      obtain ⟨_, o, ho, _⟩ := B.frames.mem hm
      rw [z.2.2] at ho; cases ho
theorem nfSub {names : List PySem.Str} {sub : List (Addr × Obj)} : ∀ news' r, PostNF names sub news' r → ∀ p ∈ sub, p ∈ news' := fun _ _ ⟨_, _, _, _, _, _, h⟩ => h
theorem data_sub {w : World} {D d l1 l2 l3 df dx : Addr} {of' ox : Obj} {t1 t2 t3 t4 t5 t6 t7 : Tok} {nodes big : List (Addr × Obj)}
    (hD : (D, instObj 86 d) ∈ big)
    (hd : (d, dictOf [ent w (Str.ofString "working") t1 (.ref l1), ent w (Str.ofString "linkage") t2 (.ref l2), ent w (Str.ofString "files") t3 (.ref df), ent w (Str.ofString "sorts") t4 (.ref l3), ent w (Str.ofString "size") t5 (.int 0 t6), ent w (Str.ofString "indexes") t7 (.ref dx)] 6) ∈ big)
    (h1 : (l1, listOf #[] 0) ∈ big) (h2 : (l2, listOf #[] 0) ∈ big) (h3 : (l3, listOf #[] 0) ∈ big) (hf : (df, of') ∈ big) (hx : (dx, ox) ∈ big) (hn : ∀ p ∈ nodes, p ∈ big) :
    ∀ p ∈ dataLed w ⟨D, d, l1, l2, l3, df, dx, of', ox, t1, t2, t3, t4, t5, t6, t7⟩ ++ nodes, p ∈ big := by
  intro p hp
  simp only [dataLed, List.cons_append, List.nil_append, List.mem_cons] at hp
  rcases hp with rfl | rfl | rfl | rfl | rfl | rfl | rfl | hp
  · exact hx
  · exact h3
  · exact hf
  · exact h2
  · exact h1
  · exact hD
  · exact hd
  · exact hn p hp
/-- a call of number_faults (or cond_faults) on the data just made -/
theorem data_call {w : World} {D d l1 l2 l3 df dx : Addr} {of' ox : Obj} {t1 t2 t3 t4 t5 t6 t7 : Tok} {nodes big : List (Addr × Obj)} {f : Addr} {dd du : Nat} {v : Value} {names : List PySem.Str}
    (C : ∀ x, DataOk w x → TellS w f dd du [.ref x.D, v] (dataLed w x ++ nodes) (PostNF names (dataLed w x ++ nodes)))
    {mean : ExcName → Option Value} {mg mb : PySem.Str → Option Value} {dp un : Nat} {gd : Option (List Code)} {env : Env} {A₀ : Around} {base h₀ : Heap} {L : Addr} {m : PySem.Str → Option Value} {s : Shared}
    {Q E : Value → Shared → Prop} (B : Below A₀ base [] h₀) (F : Fr h₀ L s.heap m) (XB : (hd.heap_1 w.params).In base) (TB : topOf mean mg mb base) (N : News h₀ L s.heap big)
    (hf : env.frame = some L) (hk : env.scope.kind = .function)
    (hD : (D, instObj 86 d) ∈ big)
    (hd' : (d, dictOf [ent w (Str.ofString "working") t1 (.ref l1), ent w (Str.ofString "linkage") t2 (.ref l2), ent w (Str.ofString "files") t3 (.ref df), ent w (Str.ofString "sorts") t4 (.ref l3), ent w (Str.ofString "size") t5 (.int 0 t6), ent w (Str.ofString "indexes") t7 (.ref dx)] 6) ∈ big)
    (h1 : (l1, listOf #[] 0) ∈ big) (h2 : (l2, listOf #[] 0) ∈ big) (h3 : (l3, listOf #[] 0) ∈ big) (hf' : (df, of') ∈ big) (hx : (dx, ox) ∈ big) (hn : ∀ p ∈ nodes, p ∈ big)
    (a1 : (df == sysModules) = false) (a2 : Obj.IsDictOf (PySem.strKind PySem.Challenge.rw_pq0630_01.row.prog w) of' []) (a3 : Obj.IsDictOf (intKind PySem.Challenge.rw_pq0630_01.row.prog w) of' [])
    (b1 : (dx == sysModules) = false) (b2 : Obj.IsDictOf (PySem.strKind PySem.Challenge.rw_pq0630_01.row.prog w) ox []) (b3 : Obj.IsDictOf (intKind PySem.Challenge.rw_pq0630_01.row.prog w) ox [])
    (hdp : dp + dd < recursionLimit) (hun : un + du < cLine)
    (h : ∀ Z fs k news' g' h' tk', KtsTurn [] h₀ g' → Below A₀ base [] g' → (hd.heap_1 w.params).In g' → topOf mean mg mb g' → Fr g' L h' m → News g' L h' (news' ++ big) → (Z, listOf (fs : List Value).toArray k) ∈ news' → PairsIn news' fs names → Q (.ref Z) { s with heap := h', toks := tk' }) :
    wpAny (model PySem.Challenge.rw_pq0630_01.row.prog w) (aroundOf dp un gd env []) (call (.ref f) [.ref D, v]) Q E s := by
  refine tellS_keep (C ⟨D, d, l1, l2, l3, df, dx, of', ox, t1, t2, t3, t4, t5, t6, t7⟩ ⟨a1, a2, a3, b1, b2, b3⟩) nfSub B F XB TB N ktsDicts_nil KtsTurn.refl hf hk (data_sub hD hd' h1 h2 h3 hf' hx hn) hdp hun ?_
  rintro r news' g' h' tk' T' B' X' TT' F' N' ⟨Z, fs, k, rfl, hZ, hp, _⟩
  exact h Z fs k news' g' h' tk' T' B' X' TT' F' N' hZ hp
/-- texts -/
def TextsAre (ys : List Value) (ns : List PySem.Str) : Prop := ys.length = ns.length ∧ ∀ (i : Nat) (y : Value), ys[i]? = some y → ∃ nm t, y = .str nm t ∧ ns[i]? = some nm
theorem pairs_at {N : List (Addr × Obj)} {vs : List Value} {ns : List PySem.Str} (h : PairsIn N vs ns) : ∀ (i : Nat) (v : Value), vs[i]? = some v → ∃ P a t1 nm t2 n, v = .ref P ∧ (P, tupO [.str a t1, .str nm t2] n) ∈ N ∧ ns[i]? = some nm := by
  induction h with
  | nil => intro i v e; simp at e
  | @snoc vs ns P a t1 t2 n name hp hm ih =>
    intro i v e
    by_cases hi : i < vs.length
    · rw [List.getElem?_append_left hi] at e
      obtain ⟨P', a', t1', nm, t2', n', e1, e2, e3⟩ := ih i v e
      exact ⟨P', a', t1', nm, t2', n', e1, e2, by rw [List.getElem?_append_left (hp.len ▸ hi)]; exact e3⟩
    · rw [List.getElem?_append_right (by omega)] at e
      have h0 : i - vs.length = 0 := by
        by_cases h1 : i - vs.length = 0
        · exact h1
        · rw [List.getElem?_eq_none (by simp; omega)] at e
          cases e
      rw [h0] at e
      have e' : Value.ref P = v := by simpa using e
      refine ⟨P, a, t1, name, t2, n, e'.symm, hm, ?_⟩
      have := hp.len
      rw [List.getElem?_append_right (by omega), show i - ns.length = 0 by omega]
      rfl
theorem textsAre_snoc {ys : List Value} {ns : List PySem.Str} {nm : PySem.Str} {t : Tok} (h : TextsAre ys (ns.take ys.length)) (hn : ns[ys.length]? = some nm) : TextsAre (ys ++ [.str nm t]) (ns.take (ys ++ [Value.str nm t]).length) := by
  have hlt : ys.length < ns.length := (List.getElem?_eq_some_iff.mp hn).1
  refine ⟨by simp; omega, fun i y e => ?_⟩
  by_cases hi : i < ys.length
  · rw [List.getElem?_append_left hi] at e
    obtain ⟨nm', t', e1, e2⟩ := h.2 i y e
    refine ⟨nm', t', e1, ?_⟩
    rw [List.getElem?_take] at e2 ⊢
    simp only [hi, if_true] at e2
    rw [if_pos (by simp; omega)]
    exact e2
  · rw [List.getElem?_append_right (by omega)] at e
    have h0 : i - ys.length = 0 := by
      by_cases h1 : i - ys.length = 0
      · exact h1
      · rw [List.getElem?_eq_none (by simp; omega)] at e
        cases e
    rw [h0] at e
    have e' : Value.str nm t = y := by simpa using e
    refine ⟨nm, t, e'.symm, ?_⟩
    have : i = ys.length := by omega
    rw [this, List.getElem?_take, if_pos (by simp)]
    exact hn
section
variable {prog : Program} {w : World} {A : Around} {E : Value → Shared → Prop} {s : Shared} {h₀ : Heap} {L a b : Addr} {news : List (Addr × Obj)} {ys zs : List Value} {ns : List PySem.Str} {Q : Value → Shared → Prop}
theorem eq_texts (N : News h₀ L s.heap news) (ha : (a, LCg.lst ys) ∈ news) (hb : (b, LCg.lst zs) ∈ news) (hy : TextsAre ys ns) (hz : TextsAre zs ns) (hu : A.units < cLine) (h : Q (.bool true) s) :
    wpAny (model prog w) A (compareOp .Eq (.ref a) (.ref b)) Q E s := by
  have la : s.heap.IsList a ys.toArray := News.isList N ha
  have lb : s.heap.IsList b zs.toArray := News.isList N hb
  have hsz : ys.toArray.size = zs.toArray.size := by simp [hy.1, hz.1]
  refine EqBoolInt.of_rc (k := (List.range ys.toArray.size).all fun _ => true) (SeqAt.RcAt.lists (e := fun _ => true) la lb hsz hu fun j h1 h2 => ?_) (by
    have e : ((List.range ys.toArray.size).all fun _ => true) = true := List.all_eq_true.mpr fun _ _ => rfl
    rw [e]; exact h)
  have h1' : j < ys.length := by simpa using h1
  have h2' : j < zs.length := by simpa using h2
  obtain ⟨n1, t1, e1, f1⟩ := hy.2 j ys[j] (List.getElem?_eq_getElem h1')
  obtain ⟨n2, t2, e2, f2⟩ := hz.2 j zs[j] (List.getElem?_eq_getElem h2')
  have e3 : n1 = n2 := Option.some.inj (f1.symm.trans f2)
  subst e3
  have z := SeqAt.EqAt.str_str (A := A.in1) (s := s) n1 t1 n1 t2
  rw [beq_self_eq_true] at z
  simpa [e1, e2] using z
end
theorem namesL_len : ∀ {lv : List Tree}, (∀ T ∈ lv, T.names.length = 1) → (namesL lv).length = lv.length
  | [], _ => rfl
  | T :: r, h => by
    have e : namesL (T :: r) = T.names ++ namesL r := by simp [namesL]
    rw [e, List.length_append, h T (.head _), namesL_len fun U hU => h U (.tail _ hU), List.length_cons]
    omega
theorem namesL_get : ∀ {lv : List Tree}, (∀ T ∈ lv, T.names.length = 1) → ∀ (i : Nat) (T : Tree) (nm : PySem.Str), lv[i]? = some T → T.names = [nm] → (namesL lv)[i]? = some nm
  | [], _, i, T, nm, e, _ => by simp at e
  | U :: r, h, i, T, nm, e, hn => by
    have e1 : namesL (U :: r) = U.names ++ namesL r := by simp [namesL]
    have h1 := h U (.head _)
    rw [e1]
    cases i with
    | zero =>
      have e2 : U = T := by simpa using e
      subst e2
      rw [hn]
      rfl
    | succ i =>
      have e2 : r[i]? = some T := by simpa using e
      rw [List.getElem?_append_right (by omega), h1]
      exact namesL_get (fun V hV => h V (.tail _ hV)) i T nm e2 hn
theorem leaves_one {R : List (Addr × Obj) → Value → Tree → Prop} {N : List (Addr × Obj)} {ts : List Value} {lv : List Tree} (h : LeavesIn R N ts lv) : ∀ T ∈ lv, T.names.length = 1 := by
  intro T hT
  obtain ⟨i, hi, e⟩ := List.getElem_of_mem hT
  have hi' : i < ts.length := h.1 ▸ hi
  obtain ⟨T', e1, _, _, nm, _, _, _, _, _, hn, _⟩ := h.2 i ts[i] (List.getElem?_eq_getElem hi')
  have e2 : T' = T := by
    rw [List.getElem?_eq_getElem hi, e] at e1
    exact (Option.some.inj e1).symm
  rw [← e2, hn]; rfl
/-- a comprehension that reads texts off a ledger that stands -/
def TxtJ (nw₀ : List (Addr × Obj)) (ns : List PySem.Str) (i : Nat) (ys : List Value) (nw : List (Addr × Obj)) : Prop := nw = nw₀ ∧ TextsAre ys (ns.take ys.length) ∧ ys.length = i
theorem txtJ_start {nw : List (Addr × Obj)} {ns : List PySem.Str} : TxtJ nw ns 0 [] nw := ⟨rfl, ⟨by simp, fun i y e => by simp at e⟩, rfl⟩
theorem compEnd_txt {h₀ : Heap} {L I C D : Addr} {m : PySem.Str → Option Value} {s₁ : Shared} {oI oC : Obj} {ys : List Value} {S : List (Addr × Obj) → Prop} {nw all : List (Addr × Obj)} {ns : List PySem.Str} {i : Nat} {nm : PySem.Str} {t : Tok} {h' : Heap} {tk : Nat}
    (F : Fr h₀ L h' m) (N : News h₀ L h' all) (sub : ∀ q ∈ (I, oI) :: (C, oC) :: (D, LCg.lst ys) :: nw, q ∈ all) (off : LCg.Off3 I C D nw) (hS : S nw) (hT : TextsAre ys (ns.take ys.length)) (hl : ys.length = i) (hn : ns[i]? = some nm) :
    LCg.CompEnd h₀ L m s₁ I oI C oC D (LCg.lst ys) S (fun y nw' => TxtJ nw ns (i + 1) (ys ++ [y]) nw') (.str nm t) { s₁ with heap := h', toks := tk } :=
  .intro F N nw sub off hS ⟨rfl, textsAre_snoc hT (hl ▸ hn), by simp [hl]⟩
theorem textsAre_all {ys : List Value} {ns : List PySem.Str} {n : Nat} (h : TextsAre ys (ns.take ys.length)) (hl : ys.length = n) (hn : ns.length = n) : TextsAre ys ns := by
  rw [hl, List.take_of_length_le (by omega)] at h
  exact h
end
local macro_rules | `(tactic| walk_at "call ref") => `(tactic| ((first | (with_reducible show wpAny _ _ (call (Value.ref 307) _) _ _ _) | (with_reducible show wpAny _ _ (call (Value.ref 363) _) _ _ _) | (with_reducible show wpAny _ _ (call (Value.ref 370) _) _ _ _) | (with_reducible show wpAny _ _ (call (Value.ref 384) _) _ _ _)); refine stopAt ?_))
local macro_rules | `(tactic| walk_at "call ref") => `(tactic| ((with_reducible show wpAny _ _ (call (Value.ref 377) _) _ _ _); k_dflt (refine' draw_use ?z9b ?z9f ?z9x ?z9n ?z9t ?z9h ?z9k ?z9u ?z9a ?z9c ?z9m ?z9d ?z9v ?_; (case z9b => assumption); (case z9f => k_asm); (case z9x => assumption); (case z9n => k_asm); (case z9t => assumption); (case z9h => exact rfl); (case z9k => exact rfl); (case z9u => k_updF); (case z9a => assumption); (case z9c => omega); (case z9m => first | decide | omega); (case z9d => k_room); (case z9v => k_units)); intro h' tk' a' b' t1' t2' k' dg' t' F' N' e1' e2' e3' e4' e5'; (try dsimp only)))
local macro_rules | `(tactic| walk_at "call ref") => `(tactic| ((with_reducible show wpAny _ _ (call (Value.ref 377) [_, Value.int 2 _]) _ _ _); refine stopAt ?_))
local macro_rules | `(tactic| walk_at "CompSrc") => `(tactic| refine stopAt ?_)
local macro_rules | `(tactic| walk_at "CompEnd") => `(tactic| refine stopAt ?_)
local macro_rules | `(tactic| walk_at "SrcLP") => `(tactic| refine stopAt ?_)
local macro_rules | `(tactic| walk_at "pyIter ref") => `(tactic| refine stopAt ?_)
local macro_rules | `(tactic| walk_at "subscriptTail") => `(tactic| ((with_reducible show wpAny _ _ (subscriptTail (Expr.Name (Str.ofString "words") _) _ (Value.ref _) (Value.int _ _)) _ _ _); refine stopAt ?_))
section
local macro_rules | `(tactic| walk_at "subscriptTail") => `(tactic| ((first | (with_reducible show wpAny _ _ (subscriptTail (Expr.Name (Str.ofString "terms") _) _ (Value.ref _) (Value.int _ _)) _ _ _) | (with_reducible show wpAny _ _ (subscriptTail (Expr.Name (Str.ofString "drawn") _) _ (Value.ref _) (Value.int _ _)) _ _ _)); refine stopAt ?_))
local macro_rules | `(tactic| walk_at "compareOp Eq ref ref") => `(tactic| refine stopAt ?_)
local macro_rules | `(tactic| walk_at "exec For Name Call cons nil") => `(tactic| refine stopAt ?_)
section
open PySem PySem.W PyProof.Rows PySem.Calls PySem.Spec
theorem law_rest_sum {w : World} {oc : Value} {od : Option Addr} {osl : Array (Option Value)} {name qual : PySem.Str} {params : Arguments} {body : List Stmt} {scope : Scope} {dV kV doc pm cdv ct : Value} {an : Option Addr}
    (ho : (hd.heap_1 w.params).lookup 389 = some ⟨oc, od, .func (fnOf name qual params body scope dV kV doc pm an cdv ct), osl⟩)
    {mean : ExcName → Option Value} {mg mb : PySem.Str → Option Value} {g : Heap} {L fa cd Dt Ddr : Addr} {o2 : Obj} {s : Shared} {m₁ : PySem.Str → Option Value} {ts ws : List Value} {lv : List Tree} {rest : List (Addr × Obj)} {bl : Bool} {tka : Tok} {Q : Flow → Shared → Prop} {E : Value → Shared → Prop}
    (X : (hd.heap_1 w.params).In g) (T : Top hd.view_39 (looseW hd.view_39 [Str.ofString "LedgerError"]) mean mg mb g)
    (F : Fr g L s.heap (fun y => if y = Str.ofString "terms" then some (.ref Dt) else if y = Str.ofString "drawn" then some (.ref Ddr) else if y = Str.ofString "ahead" then some (.str (Str.ofString "neg") tka) else if y = Str.ofString "is_left" then some (.bool bl) else m₁ y))
    (N : News g L s.heap ((Dt, LCg.lst ts) :: (Ddr, LCg.lst ws) :: (L + 1 + 1, o2) :: rest)) (d2 : o2.data = .cell (some (.bool true)))
    (hts : LeavesIn TreeIn rest ts lv) (hlen : ts.length = 520) (hws : ∀ y ∈ ws, ∃ x u, y = .str x u ∧ x ∈ sumWords) (hwl : ws.length = 7)
    (hE : PassesOwn (model PySem.Challenge.rw_pq0630_01.row.prog w) (callerA.deeper (envOfC qual scope L fa (.ref cd))) (envOfC qual scope L fa (.ref cd)) E)
    (hret : ∀ h' tk', g.StaysIn h' → Q (.ret (.bool true)) { s with heap := h', toks := tk' }) :
    wpAny (model PySem.Challenge.rw_pq0630_01.row.prog w) (callerA.deeper (envOfC qual scope L fa (.ref cd))) (execs (body.drop 5) (envOfC qual scope L fa (.ref cd))) Q E s := by
  have fi : PySem.Challenge.rw_pq0630_01.Holds → hd.heap_1 = hd.heap_1 := by k_fill; intro _; rfl
  clear fi
  refine' look_eq ?y1e ho ?y1k
  case y1e => k_is
  intro e
  simp only [Obj.mk.injEq, Data.func.injEq, FuncData.mk.injEq, FuncBody.stmts.injEq] at e
  obtain ⟨_, _, ⟨rfl, rfl, rfl, rfl, rfl, _⟩, _⟩ := e
  clear ho
  have B := below_caller g
  have hR : IsRest rest := trivial
  simp only [List.drop_succ_cons, List.drop_zero]
  obtain ⟨v0, hv0⟩ : ∃ v, ts[0]? = some v := ⟨_, List.getElem?_eq_getElem (by omega)⟩
  obtain ⟨v9, hv9⟩ : ∃ v, ts[519]? = some v := ⟨_, List.getElem?_eq_getElem (by omega)⟩
  obtain ⟨T0, e0, A0, tv0, nm0, tk0, n0, rfl, hA0, hr0, hn0, hz0⟩ := hts.2 0 v0 hv0
  obtain ⟨T9, e9, A9, tv9, nm9, tk9, n9, rfl, hA9, hr9, hn9, hz9⟩ := hts.2 519 v9 hv9
  have hll : lv.length = 520 := hts.1 ▸ hlen
  cases bl with
  | true =>
    k_steps
    show wpAny _ _ _ _ _ _
    refine' item_lst ?z1n ?z1m ?z1z ?z1k hv0 ?_ ?z1s
    case z1n => k_asm
    case z1m => k_mem
    case z1z => decide
    case z1k => decide
    case z1s => with_unfolding_all rfl
    k_steps
    show wpAny _ _ _ _ _ _
    refine' For_invV g ?z2x ?z2p ?z2k ?z2s ?z2e
    case z2x => rfl
    case z2p => rfl
    case z2s => intro _; rfl
    case z2e => exact hE
    case z2k =>
    k_steps
    show wpAny _ _ _ _ _ _
    refine' for_range_inv (n := 519) (WholeJ TreeIn LeftOk lv _ [(Dt, LCg.lst ts), (Ddr, LCg.lst ws), (L + 1 + 1, o2)] rest) ?z3h ?z3r ?z3s ?z3z ?z3f ?z3n ?z3j ?z3t ?z3d
    case z3h => rfl
    case z3r => assumption
    case z3s => decide
    case z3z => decide
    case z3f => k_asm
    case z3n => k_asm
    case z3j =>
      refine' wholeJ_start ?z4a hr0 ?z4b
      case z4a => rfl
      case z4b => exact ⟨by rw [hn0, List.take_add_one, e0]; simp [namesL, hn0], by rw [hz0]; decide⟩
    case z3t =>
      clear hR
      rintro i m2 news2 h tk t I oI hi ⟨wv, TW, rest2, hw, hm, rfl, hsub, hr, hok⟩ hoffI F' N'
      obtain ⟨z, z', rfl⟩ := mCases3 hw hm
      clear hw hm
      have hR : IsRest rest2 := trivial
      have hj0 : 0 ≤ (1 + (i : Int)).fmod 7 := Int.fmod_nonneg_of_pos _ (by decide)
      have hj1 : (1 + (i : Int)).fmod 7 < 7 := Int.fmod_lt_of_pos _ (by decide)
      obtain ⟨vw, hvw⟩ : ∃ v, ws[((1 + (i : Int)).fmod 7).toNat]? = some v := ⟨_, List.getElem?_eq_getElem (by omega)⟩
      obtain ⟨xw, uw, rfl, hxw⟩ := hws vw (List.mem_of_getElem? hvw)
      obtain ⟨vt, hvt⟩ : ∃ v, ts[i + 1]? = some v := ⟨_, List.getElem?_eq_getElem (by omega)⟩
      obtain ⟨TU, eU, AU, tvU, nmU, tkU, nU, rfl, hAU, hrU, hnU, hzU⟩ := hts.2 _ vt hvt
      have hAU2 := hsub _ hAU
      simp only [List.cons_append, List.nil_append] at N' hoffI ⊢
      k_steps
      show wpAny _ _ _ _ _ _
      refine' item_lst ?z5n ?z5m hj0 ?z5k hvw ?_ ?z5s
      case z5n => k_asm
      case z5m => k_mem
      case z5k => omega
      case z5s => with_unfolding_all rfl
      k_steps
      show wpAny _ _ _ _ _ _
      refine' item_lst (v := .ref AU) ?z6n ?z6m ?z6z ?z6k ?z6x ?_ ?z6s
      case z6n => k_asm
      case z6m => k_mem
      case z6z => omega
      case z6k => omega
      case z6x => (rw [show (1 + (i : Int)).toNat = i + 1 by omega]; exact hvt)
      case z6s => with_unfolding_all rfl
      k_steps
      refine' turnEnd_bin (R := TreeIn) (o1 := tupO [.str (Str.ofString "neg") tka, wv] 0) (o2 := tupO [.str xw uw, .ref _, tvU] 0) ?z7f ?z7n ?z7a ?z7b ?z7c ?z7d ?z7e hoffI ?z7w ?z7m hsub ?z7r (leftOk_step hok eU hzU)
      case z7f => k_asm
      case z7n => k_asm
      case z7w => rfl
      case z7b => k_mem
      case z7a => k_mem
      case z7r => exact TreeIn.bin hxw (.head _) (.neg (.tail _ (.head _)) (hr.mono fun p hp => .tail _ (.tail _ hp))) (hrU.mono fun p hp => .tail _ (.tail _ (hsub p hp)))
      case z7c => k_ne
      case z7d => k_ne
      case z7e => (simp only [List.cons_append, List.nil_append]; k_updF)
      case z7m => intro y e1 e2 e3; simp only [if_neg e1, if_neg e2, if_neg e3]
    case z3d =>
      clear hR
      rintro m2 news2 h tk ⟨wv, TW, rest2, hw, hm, rfl, hsub, hr, hok⟩ F' N'
      obtain ⟨z, z', rfl⟩ := mCases3 hw hm
      clear hw hm
      have hR : IsRest rest2 := trivial
      simp only [List.cons_append, List.nil_append] at N' ⊢
      k_steps
      show wpAny _ _ _ _ _ _
      refine' data_call (fun x ok => nf_T w x ok rest2 wv TW hr (by have := hok.2; omega)) ?x1b ?x1f ?x1x ?x1t ?x1n ?x1h ?x1k ?x1D ?x1d ?x11 ?x12 ?x13 ?x1g ?x1y ?x1m ?xa1 ?xa2 ?xa3 ?xb1 ?xb2 ?xb3 ?x1p ?x1u ?_
      case x1b => assumption
      case x1f => k_asm
      case x1x => assumption
      case x1t => assumption
      case x1n => k_asm
      case x1h => exact rfl
      case x1k => exact rfl
      case x1D => k_mem
      case x1d => k_mem
      case x11 => k_mem
      case x12 => k_mem
      case x13 => k_mem
      case x1g => k_mem
      case x1y => k_mem
      case x1m => k_updF
      case xa1 => assumption
      case xa2 => assumption
      case xa3 => assumption
      case xb1 => assumption
      case xb2 => assumption
      case xb3 => assumption
      case x1p => k_room
      case x1u => k_units
      intro Z fs kz news' g' h' tk' T' B' X' TT' F' N' hZ hps
      have hfl : fs.length ≤ 2000 := by
        have := hps.len
        have := TW.names_len
        have := hok.2
        omega
      rw [hok.1, show lv.take (519 + 1) = lv from List.take_of_length_le (by omega)] at hps
      have N9 : News g' L h' ((Z, listOf fs.toArray kz) :: (Dt, LCg.lst ts) :: (news' ++ rest)) := fun p hp => by
        rcases List.mem_cons.mp hp with rfl | hp
        · exact N' _ (List.mem_append_left _ hZ)
        · rcases List.mem_cons.mp hp with rfl | hp
          · exact N' _ (List.mem_append_right _ (by k_mem))
          · rcases List.mem_append.mp hp with hp | hp
            · exact N' _ (List.mem_append_left _ hp)
            · have := hsub p hp
              exact N' _ (List.mem_append_right _ (by repeat (first | exact this | refine List.mem_cons_of_mem _ ?_)))
      have hps9 := hps.mono (N' := news' ++ rest) fun p hp => List.mem_append_left _ hp
      have hts9 := hts.mono treeMono (N' := news' ++ rest) fun p hp => List.mem_append_right _ hp
      clear N' hR hZ hps
      generalize news' ++ rest = rest9 at N9 hps9 hts9
      have hR : IsRest rest9 := trivial
      (try dsimp only)
      k_steps
      show LCg.CompSrc _ _ _ _ _ _ _ _ _ _ _ _ _ _
      have hone := leaves_one hts9
      have hnl := namesL_len hone
      refine' LCg.CompSrc.ledger (its := fs.toArray) ?w1h ?w1f ?w1n ?w1m ?w1z ?_
      case w1h => rfl
      case w1f => k_asm
      case w1n => k_asm
      case w1m => k_mem
      case w1z => rw [sizeLine_eq, List.size_toArray]; omega
      intro gz
      refine' rest_inv (TxtJ _ (namesL lv)) txtJ_start ?w2t ?w2f
      case w2t =>
        rintro i ys9 nw v I oI C oC D9 m₂ h tk E' hi ⟨rfl, hT, hl⟩ hv hC hx F' N' off ne
        obtain ⟨P, a5, u5, nm5, v5, n5, rfl, hP, hn5⟩ := pairs_at hps9 i v (by simpa using hv)
        clear ne
        k_steps
        show LCg.CompEnd _ _ _ _ _ _ _ _ _ _ _ _ _ _
        refine' compEnd_txt ?w3f ?w3n ?w3s off ?w3S hT hl hn5
        case w3f => k_asm
        case w3n => k_asm
        case w3s => k_updF
        case w3S => exact .inr ⟨_, .head _, rfl, _, rfl⟩
      case w2f =>
        rintro ys9 nw ⟨rfl, hT, hl⟩ D9 h tk F' N' o1
        have hfn : ys9.length = (namesL lv).length := by rw [hl, List.size_toArray, hps9.len]
        have hT9 := textsAre_all hT hfn rfl
        (try dsimp only)
        k_dflt (refine LCp.ListComp_P (F₀ := by k_asm) (by with_unfolding_all rfl) (by decide) (by rfl) (by decide) (by rfl) (by rfl) (by decide) ?_)
        k_steps
        show LCp.SrcLP _ _ _ _ _ _ _ _ _ _ _ _ _ _ _
        refine' LCp.SrcLP.ledger (its := ts.toArray) ?w4h ?w4f ?w4n ?w4m ?w4z ?_
        case w4h => rfl
        case w4f => k_asm
        case w4n => k_asm
        case w4m => k_mem
        case w4z => rw [sizeLine_eq, List.size_toArray]; omega
        intro gz2
        refine' restP_inv (TxtJ _ (namesL lv)) txtJ_start ?w5t ?w5f
        case w5t =>
          rintro i zs9 nw v hi ⟨rfl, hTz, hlz⟩ hv
          obtain ⟨Tz, eTz, Az, tvz, nmz, tkz, nz, rfl, hAz, hrz, hnz, hzz⟩ := hts9.2 i v (by simpa using hv)
          refine ⟨Az, _, tvz, _, nz, rfl, by k_mem, rfl, rfl, ?_⟩
          intro I oI C oC D8 m₂ h tk E' hC hx hx₂ F' N' off ne
          clear ne
          k_steps
          show LCg.CompEnd _ _ _ _ _ _ _ _ _ _ _ _ _ _
          refine' compEnd_txt ?w6f ?w6n ?w6s off ?w6S hTz hlz (namesL_get hone i Tz nmz eTz hnz)
          case w6f => k_asm
          case w6n => k_asm
          case w6s => k_updF
          case w6S => exact .inr ⟨_, .tail _ (.tail _ (.head _)), rfl, _, rfl⟩
        case w5f =>
          rintro zs9 nw ⟨rfl, hTz, hlz⟩ D8 h tk F' N' o1
          have hTz9 := textsAre_all hTz hlz (by rw [hnl, List.size_toArray]; omega)
          (try dsimp only)
          k_steps
          show wpAny _ _ _ _ _ _
          refine' eq_texts ?w7n ?w7a ?w7b ?w7y ?w7z ?w7u ?_
          case w7n => k_asm
          case w7a => exact .tail _ (.head _)
          case w7b => exact .head _
          case w7y => exact hT9
          case w7z => exact hTz9
          case w7u => k_units
          exact hret _ _ fun b o e => F'.keep b o (T'.other b o e fun hm => nomatch hm)
  | false =>
    k_steps
    show wpAny _ _ _ _ _ _
    refine' item_last ?z1n ?z1m hlen hv9 ?_ ?z1s
    case z1n => k_asm
    case z1m => k_mem
    case z1s => with_unfolding_all rfl
    k_steps
    show wpAny _ _ _ _ _ _
    refine' For_invV g ?z2x ?z2p ?z2k ?z2s ?z2e
    case z2x => rfl
    case z2p => rfl
    case z2s => intro _; rfl
    case z2e => exact hE
    case z2k =>
    k_steps
    show wpAny _ _ _ _ _ _
    refine' for_range_inv (n := 519) (WholeJ TreeIn RightOk lv _ [(Dt, LCg.lst ts), (Ddr, LCg.lst ws), (L + 1 + 1, o2)] rest) ?z3h ?z3r ?z3s ?z3z ?z3f ?z3n ?z3j ?z3t ?z3d
    case z3h => rfl
    case z3r => assumption
    case z3s => decide
    case z3z => decide
    case z3f => k_asm
    case z3n => k_asm
    case z3j =>
      refine' wholeJ_start ?z4a hr9 ?z4b
      case z4a => rfl
      case z4b => exact ⟨by rw [hn9, List.drop_eq_getElem_cons (by omega), List.drop_of_length_le (by omega)]; simp [namesL, List.getElem?_eq_some_iff.mp e9, hn9, (List.getElem?_eq_some_iff.mp e9).2], by rw [hz9]; decide⟩
    case z3t =>
      clear hR
      rintro i m2 news2 h tk t I oI hi ⟨wv, TW, rest2, hw, hm, rfl, hsub, hr, hok⟩ hoffI F' N'
      obtain ⟨z, z', rfl⟩ := mCases3 hw hm
      clear hw hm
      have hR : IsRest rest2 := trivial
      have hj0 : 0 ≤ (1 + (i : Int)).fmod 7 := Int.fmod_nonneg_of_pos _ (by decide)
      have hj1 : (1 + (i : Int)).fmod 7 < 7 := Int.fmod_lt_of_pos _ (by decide)
      obtain ⟨vw, hvw⟩ : ∃ v, ws[((1 + (i : Int)).fmod 7).toNat]? = some v := ⟨_, List.getElem?_eq_getElem (by omega)⟩
      obtain ⟨xw, uw, rfl, hxw⟩ := hws vw (List.mem_of_getElem? hvw)
      obtain ⟨vt, hvt⟩ : ∃ v, ts[518 - i]? = some v := ⟨_, List.getElem?_eq_getElem (by omega)⟩
      obtain ⟨TU, eU, AU, tvU, nmU, tkU, nU, rfl, hAU, hrU, hnU, hzU⟩ := hts.2 _ vt hvt
      have hAU2 := hsub _ hAU
      simp only [List.cons_append, List.nil_append] at N' hoffI ⊢
      k_steps
      show wpAny _ _ _ _ _ _
      refine' item_lst ?z5n ?z5m hj0 ?z5k hvw ?_ ?z5s
      case z5n => k_asm
      case z5m => k_mem
      case z5k => omega
      case z5s => with_unfolding_all rfl
      k_steps
      show wpAny _ _ _ _ _ _
      refine' item_lst (v := .ref AU) ?z6n ?z6m ?z6z ?z6k ?z6x ?_ ?z6s
      case z6n => k_asm
      case z6m => k_mem
      case z6z => omega
      case z6k => omega
      case z6x => (rw [show (520 - 1 - (1 + (i : Int))).toNat = 518 - i by omega]; exact hvt)
      case z6s => with_unfolding_all rfl
      k_steps
      refine' turnEnd_bin (R := TreeIn) (o1 := tupO [.str (Str.ofString "neg") tka, wv] 0) (o2 := tupO [.str xw uw, tvU, .ref _] 0) ?z7f ?z7n ?z7a ?z7b ?z7c ?z7d ?z7e hoffI ?z7w ?z7m hsub ?z7r (rightOk_step (by omega) hok eU hzU)
      case z7f => k_asm
      case z7n => k_asm
      case z7w => rfl
      case z7b => k_mem
      case z7a => k_mem
      case z7r => exact TreeIn.bin hxw (.head _) (hrU.mono fun p hp => .tail _ (.tail _ (hsub p hp))) (.neg (.tail _ (.head _)) (hr.mono fun p hp => .tail _ (.tail _ hp)))
      case z7c => k_ne
      case z7d => k_ne
      case z7e => (simp only [List.cons_append, List.nil_append]; k_updF)
      case z7m => intro y e1 e2 e3; simp only [if_neg e1, if_neg e2, if_neg e3]
    case z3d =>
      clear hR
      rintro m2 news2 h tk ⟨wv, TW, rest2, hw, hm, rfl, hsub, hr, hok⟩ F' N'
      obtain ⟨z, z', rfl⟩ := mCases3 hw hm
      clear hw hm
      have hR : IsRest rest2 := trivial
      simp only [List.cons_append, List.nil_append] at N' ⊢
      k_steps
      show wpAny _ _ _ _ _ _
      refine' data_call (fun x ok => nf_T w x ok rest2 wv TW hr (by have := hok.2; omega)) ?x1b ?x1f ?x1x ?x1t ?x1n ?x1h ?x1k ?x1D ?x1d ?x11 ?x12 ?x13 ?x1g ?x1y ?x1m ?xa1 ?xa2 ?xa3 ?xb1 ?xb2 ?xb3 ?x1p ?x1u ?_
      case x1b => assumption
      case x1f => k_asm
      case x1x => assumption
      case x1t => assumption
      case x1n => k_asm
      case x1h => exact rfl
      case x1k => exact rfl
      case x1D => k_mem
      case x1d => k_mem
      case x11 => k_mem
      case x12 => k_mem
      case x13 => k_mem
      case x1g => k_mem
      case x1y => k_mem
      case x1m => k_updF
      case xa1 => assumption
      case xa2 => assumption
      case xa3 => assumption
      case xb1 => assumption
      case xb2 => assumption
      case xb3 => assumption
      case x1p => k_room
      case x1u => k_units
      intro Z fs kz news' g' h' tk' T' B' X' TT' F' N' hZ hps
      have hfl : fs.length ≤ 2000 := by
        have := hps.len
        have := TW.names_len
        have := hok.2
        omega
      rw [hok.1, show lv.drop (519 - 519) = lv from rfl] at hps
      have N9 : News g' L h' ((Z, listOf fs.toArray kz) :: (Dt, LCg.lst ts) :: (news' ++ rest)) := fun p hp => by
        rcases List.mem_cons.mp hp with rfl | hp
        · exact N' _ (List.mem_append_left _ hZ)
        · rcases List.mem_cons.mp hp with rfl | hp
          · exact N' _ (List.mem_append_right _ (by k_mem))
          · rcases List.mem_append.mp hp with hp | hp
            · exact N' _ (List.mem_append_left _ hp)
            · have := hsub p hp
              exact N' _ (List.mem_append_right _ (by repeat (first | exact this | refine List.mem_cons_of_mem _ ?_)))
      have hps9 := hps.mono (N' := news' ++ rest) fun p hp => List.mem_append_left _ hp
      have hts9 := hts.mono treeMono (N' := news' ++ rest) fun p hp => List.mem_append_right _ hp
      clear N' hR hZ hps
      generalize news' ++ rest = rest9 at N9 hps9 hts9
      have hR : IsRest rest9 := trivial
      (try dsimp only)
      k_steps
      show LCg.CompSrc _ _ _ _ _ _ _ _ _ _ _ _ _ _
      have hone := leaves_one hts9
      have hnl := namesL_len hone
      refine' LCg.CompSrc.ledger (its := fs.toArray) ?w1h ?w1f ?w1n ?w1m ?w1z ?_
      case w1h => rfl
      case w1f => k_asm
      case w1n => k_asm
      case w1m => k_mem
      case w1z => rw [sizeLine_eq, List.size_toArray]; omega
      intro gz
      refine' rest_inv (TxtJ _ (namesL lv)) txtJ_start ?w2t ?w2f
      case w2t =>
        rintro i ys9 nw v I oI C oC D9 m₂ h tk E' hi ⟨rfl, hT, hl⟩ hv hC hx F' N' off ne
        obtain ⟨P, a5, u5, nm5, v5, n5, rfl, hP, hn5⟩ := pairs_at hps9 i v (by simpa using hv)
        clear ne
        k_steps
        show LCg.CompEnd _ _ _ _ _ _ _ _ _ _ _ _ _ _
        refine' compEnd_txt ?w3f ?w3n ?w3s off ?w3S hT hl hn5
        case w3f => k_asm
        case w3n => k_asm
        case w3s => k_updF
        case w3S => exact .inr ⟨_, .head _, rfl, _, rfl⟩
      case w2f =>
        rintro ys9 nw ⟨rfl, hT, hl⟩ D9 h tk F' N' o1
        have hfn : ys9.length = (namesL lv).length := by rw [hl, List.size_toArray, hps9.len]
        have hT9 := textsAre_all hT hfn rfl
        (try dsimp only)
        k_dflt (refine LCp.ListComp_P (F₀ := by k_asm) (by with_unfolding_all rfl) (by decide) (by rfl) (by decide) (by rfl) (by rfl) (by decide) ?_)
        k_steps
        show LCp.SrcLP _ _ _ _ _ _ _ _ _ _ _ _ _ _ _
        refine' LCp.SrcLP.ledger (its := ts.toArray) ?w4h ?w4f ?w4n ?w4m ?w4z ?_
        case w4h => rfl
        case w4f => k_asm
        case w4n => k_asm
        case w4m => k_mem
        case w4z => rw [sizeLine_eq, List.size_toArray]; omega
        intro gz2
        refine' restP_inv (TxtJ _ (namesL lv)) txtJ_start ?w5t ?w5f
        case w5t =>
          rintro i zs9 nw v hi ⟨rfl, hTz, hlz⟩ hv
          obtain ⟨Tz, eTz, Az, tvz, nmz, tkz, nz, rfl, hAz, hrz, hnz, hzz⟩ := hts9.2 i v (by simpa using hv)
          refine ⟨Az, _, tvz, _, nz, rfl, by k_mem, rfl, rfl, ?_⟩
          intro I oI C oC D8 m₂ h tk E' hC hx hx₂ F' N' off ne
          clear ne
          k_steps
          show LCg.CompEnd _ _ _ _ _ _ _ _ _ _ _ _ _ _
          refine' compEnd_txt ?w6f ?w6n ?w6s off ?w6S hTz hlz (namesL_get hone i Tz nmz eTz hnz)
          case w6f => k_asm
          case w6n => k_asm
          case w6s => k_updF
          case w6S => exact .inr ⟨_, .tail _ (.tail _ (.head _)), rfl, _, rfl⟩
        case w5f =>
          rintro zs9 nw ⟨rfl, hTz, hlz⟩ D8 h tk F' N' o1
          have hTz9 := textsAre_all hTz hlz (by rw [hnl, List.size_toArray]; omega)
          (try dsimp only)
          k_steps
          show wpAny _ _ _ _ _ _
          refine' eq_texts ?w7n ?w7a ?w7b ?w7y ?w7z ?w7u ?_
          case w7n => k_asm
          case w7a => exact .tail _ (.head _)
          case w7b => exact .head _
          case w7y => exact hT9
          case w7z => exact hTz9
          case w7u => k_units
          exact hret _ _ fun b o e => F'.keep b o (T'.other b o e fun hm => nomatch hm)
end
section
open PySem PySem.W PyProof.Rows PySem.Calls PySem.Spec
theorem law_rest_cond {w : World} {oc : Value} {od : Option Addr} {osl : Array (Option Value)} {name qual : PySem.Str} {params : Arguments} {body : List Stmt} {scope : Scope} {dV kV doc pm cdv ct : Value} {an : Option Addr}
    (ho : (hd.heap_1 w.params).lookup 389 = some ⟨oc, od, .func (fnOf name qual params body scope dV kV doc pm an cdv ct), osl⟩)
    {mean : ExcName → Option Value} {mg mb : PySem.Str → Option Value} {g : Heap} {L fa cd Dt Ddr : Addr} {o2 : Obj} {s : Shared} {m₁ : PySem.Str → Option Value} {ts ws : List Value} {lv : List Tree} {rest : List (Addr × Obj)} {bl : Bool} {tka : Tok} {Q : Flow → Shared → Prop} {E : Value → Shared → Prop}
    (X : (hd.heap_1 w.params).In g) (T : Top hd.view_39 (looseW hd.view_39 [Str.ofString "LedgerError"]) mean mg mb g)
    (F : Fr g L s.heap (fun y => if y = Str.ofString "terms" then some (.ref Dt) else if y = Str.ofString "drawn" then some (.ref Ddr) else if y = Str.ofString "ahead" then some (.str (Str.ofString "not") tka) else if y = Str.ofString "is_left" then some (.bool bl) else m₁ y))
    (N : News g L s.heap ((Dt, LCg.lst ts) :: (Ddr, LCg.lst ws) :: (L + 1 + 1, o2) :: rest)) (d2 : o2.data = .cell (some (.bool false)))
    (hts : LeavesIn CondIn rest ts lv) (hlen : ts.length = 520) (hws : ∀ y ∈ ws, ∃ x u, y = .str x u ∧ x ∈ condWords) (hwl : ws.length = 7)
    (hE : PassesOwn (model PySem.Challenge.rw_pq0630_01.row.prog w) (callerA.deeper (envOfC qual scope L fa (.ref cd))) (envOfC qual scope L fa (.ref cd)) E)
    (hret : ∀ h' tk', g.StaysIn h' → Q (.ret (.bool true)) { s with heap := h', toks := tk' }) :
    wpAny (model PySem.Challenge.rw_pq0630_01.row.prog w) (callerA.deeper (envOfC qual scope L fa (.ref cd))) (execs (body.drop 5) (envOfC qual scope L fa (.ref cd))) Q E s := by
  have fi : PySem.Challenge.rw_pq0630_01.Holds → hd.heap_1 = hd.heap_1 := by k_fill; intro _; rfl
  clear fi
  refine' look_eq ?y1e ho ?y1k
  case y1e => k_is
  intro e
  simp only [Obj.mk.injEq, Data.func.injEq, FuncData.mk.injEq, FuncBody.stmts.injEq] at e
  obtain ⟨_, _, ⟨rfl, rfl, rfl, rfl, rfl, _⟩, _⟩ := e
  clear ho
  have B := below_caller g
  have hR : IsRest rest := trivial
  simp only [List.drop_succ_cons, List.drop_zero]
  obtain ⟨v0, hv0⟩ : ∃ v, ts[0]? = some v := ⟨_, List.getElem?_eq_getElem (by omega)⟩
  obtain ⟨v9, hv9⟩ : ∃ v, ts[519]? = some v := ⟨_, List.getElem?_eq_getElem (by omega)⟩
  obtain ⟨T0, e0, A0, tv0, nm0, tk0, n0, rfl, hA0, hr0, hn0, hz0⟩ := hts.2 0 v0 hv0
  obtain ⟨T9, e9, A9, tv9, nm9, tk9, n9, rfl, hA9, hr9, hn9, hz9⟩ := hts.2 519 v9 hv9
  have hll : lv.length = 520 := hts.1 ▸ hlen
  cases bl with
  | true =>
    k_steps
    show wpAny _ _ _ _ _ _
    refine' item_lst ?z1n ?z1m ?z1z ?z1k hv0 ?_ ?z1s
    case z1n => k_asm
    case z1m => k_mem
    case z1z => decide
    case z1k => decide
    case z1s => with_unfolding_all rfl
    k_steps
    show wpAny _ _ _ _ _ _
    refine' For_invV g ?z2x ?z2p ?z2k ?z2s ?z2e
    case z2x => rfl
    case z2p => rfl
    case z2s => intro _; rfl
    case z2e => exact hE
    case z2k =>
    k_steps
    show wpAny _ _ _ _ _ _
    refine' for_range_inv (n := 519) (WholeJ CondIn LeftOk lv _ [(Dt, LCg.lst ts), (Ddr, LCg.lst ws), (L + 1 + 1, o2)] rest) ?z3h ?z3r ?z3s ?z3z ?z3f ?z3n ?z3j ?z3t ?z3d
    case z3h => rfl
    case z3r => assumption
    case z3s => decide
    case z3z => decide
    case z3f => k_asm
    case z3n => k_asm
    case z3j =>
      refine' wholeJ_start ?z4a hr0 ?z4b
      case z4a => rfl
      case z4b => exact ⟨by rw [hn0, List.take_add_one, e0]; simp [namesL, hn0], by rw [hz0]; decide⟩
    case z3t =>
      clear hR
      rintro i m2 news2 h tk t I oI hi ⟨wv, TW, rest2, hw, hm, rfl, hsub, hr, hok⟩ hoffI F' N'
      obtain ⟨z, z', rfl⟩ := mCases3 hw hm
      clear hw hm
      have hR : IsRest rest2 := trivial
      have hj0 : 0 ≤ (1 + (i : Int)).fmod 7 := Int.fmod_nonneg_of_pos _ (by decide)
      have hj1 : (1 + (i : Int)).fmod 7 < 7 := Int.fmod_lt_of_pos _ (by decide)
      obtain ⟨vw, hvw⟩ : ∃ v, ws[((1 + (i : Int)).fmod 7).toNat]? = some v := ⟨_, List.getElem?_eq_getElem (by omega)⟩
      obtain ⟨xw, uw, rfl, hxw⟩ := hws vw (List.mem_of_getElem? hvw)
      obtain ⟨vt, hvt⟩ : ∃ v, ts[i + 1]? = some v := ⟨_, List.getElem?_eq_getElem (by omega)⟩
      obtain ⟨TU, eU, AU, tvU, nmU, tkU, nU, rfl, hAU, hrU, hnU, hzU⟩ := hts.2 _ vt hvt
      have hAU2 := hsub _ hAU
      simp only [List.cons_append, List.nil_append] at N' hoffI ⊢
      k_steps
      show wpAny _ _ _ _ _ _
      refine' item_lst ?z5n ?z5m hj0 ?z5k hvw ?_ ?z5s
      case z5n => k_asm
      case z5m => k_mem
      case z5k => omega
      case z5s => with_unfolding_all rfl
      k_steps
      show wpAny _ _ _ _ _ _
      refine' item_lst (v := .ref AU) ?z6n ?z6m ?z6z ?z6k ?z6x ?_ ?z6s
      case z6n => k_asm
      case z6m => k_mem
      case z6z => omega
      case z6k => omega
      case z6x => (rw [show (1 + (i : Int)).toNat = i + 1 by omega]; exact hvt)
      case z6s => with_unfolding_all rfl
      k_steps
      refine' turnEnd_bin (R := CondIn) (o1 := tupO [.str (Str.ofString "not") tka, wv] 0) (o2 := tupO [.str xw uw, .ref _, tvU] 0) ?z7f ?z7n ?z7a ?z7b ?z7c ?z7d ?z7e hoffI ?z7w ?z7m hsub ?z7r (leftOk_step hok eU hzU)
      case z7f => k_asm
      case z7n => k_asm
      case z7w => rfl
      case z7b => k_mem
      case z7a => k_mem
      case z7r => exact CondIn.bin hxw (.head _) (.neg (.tail _ (.head _)) (hr.mono fun p hp => .tail _ (.tail _ hp))) (hrU.mono fun p hp => .tail _ (.tail _ (hsub p hp)))
      case z7c => k_ne
      case z7d => k_ne
      case z7e => (simp only [List.cons_append, List.nil_append]; k_updF)
      case z7m => intro y e1 e2 e3; simp only [if_neg e1, if_neg e2, if_neg e3]
    case z3d =>
      clear hR
      rintro m2 news2 h tk ⟨wv, TW, rest2, hw, hm, rfl, hsub, hr, hok⟩ F' N'
      obtain ⟨z, z', rfl⟩ := mCases3 hw hm
      clear hw hm
      have hR : IsRest rest2 := trivial
      simp only [List.cons_append, List.nil_append] at N' ⊢
      k_steps
      show wpAny _ _ _ _ _ _
      refine' data_call (fun x ok => cf_T w x ok rest2 wv TW hr (by have := hok.2; omega)) ?x1b ?x1f ?x1x ?x1t ?x1n ?x1h ?x1k ?x1D ?x1d ?x11 ?x12 ?x13 ?x1g ?x1y ?x1m ?xa1 ?xa2 ?xa3 ?xb1 ?xb2 ?xb3 ?x1p ?x1u ?_
      case x1b => assumption
      case x1f => k_asm
      case x1x => assumption
      case x1t => assumption
      case x1n => k_asm
      case x1h => exact rfl
      case x1k => exact rfl
      case x1D => k_mem
      case x1d => k_mem
      case x11 => k_mem
      case x12 => k_mem
      case x13 => k_mem
      case x1g => k_mem
      case x1y => k_mem
      case x1m => k_updF
      case xa1 => assumption
      case xa2 => assumption
      case xa3 => assumption
      case xb1 => assumption
      case xb2 => assumption
      case xb3 => assumption
      case x1p => k_room
      case x1u => k_units
      intro Z fs kz news' g' h' tk' T' B' X' TT' F' N' hZ hps
      have hfl : fs.length ≤ 2000 := by
        have := hps.len
        have := TW.names_len
        have := hok.2
        omega
      rw [hok.1, show lv.take (519 + 1) = lv from List.take_of_length_le (by omega)] at hps
      have N9 : News g' L h' ((Z, listOf fs.toArray kz) :: (Dt, LCg.lst ts) :: (news' ++ rest)) := fun p hp => by
        rcases List.mem_cons.mp hp with rfl | hp
        · exact N' _ (List.mem_append_left _ hZ)
        · rcases List.mem_cons.mp hp with rfl | hp
          · exact N' _ (List.mem_append_right _ (by k_mem))
          · rcases List.mem_append.mp hp with hp | hp
            · exact N' _ (List.mem_append_left _ hp)
            · have := hsub p hp
              exact N' _ (List.mem_append_right _ (by repeat (first | exact this | refine List.mem_cons_of_mem _ ?_)))
      have hps9 := hps.mono (N' := news' ++ rest) fun p hp => List.mem_append_left _ hp
      have hts9 := hts.mono condMono (N' := news' ++ rest) fun p hp => List.mem_append_right _ hp
      clear N' hR hZ hps
      generalize news' ++ rest = rest9 at N9 hps9 hts9
      have hR : IsRest rest9 := trivial
      (try dsimp only)
      k_steps
      show LCg.CompSrc _ _ _ _ _ _ _ _ _ _ _ _ _ _
      have hone := leaves_one hts9
      have hnl := namesL_len hone
      refine' LCg.CompSrc.ledger (its := fs.toArray) ?w1h ?w1f ?w1n ?w1m ?w1z ?_
      case w1h => rfl
      case w1f => k_asm
      case w1n => k_asm
      case w1m => k_mem
      case w1z => rw [sizeLine_eq, List.size_toArray]; omega
      intro gz
      refine' rest_inv (TxtJ _ (namesL lv)) txtJ_start ?w2t ?w2f
      case w2t =>
        rintro i ys9 nw v I oI C oC D9 m₂ h tk E' hi ⟨rfl, hT, hl⟩ hv hC hx F' N' off ne
        obtain ⟨P, a5, u5, nm5, v5, n5, rfl, hP, hn5⟩ := pairs_at hps9 i v (by simpa using hv)
        clear ne
        k_steps
        show LCg.CompEnd _ _ _ _ _ _ _ _ _ _ _ _ _ _
        refine' compEnd_txt ?w3f ?w3n ?w3s off ?w3S hT hl hn5
        case w3f => k_asm
        case w3n => k_asm
        case w3s => k_updF
        case w3S => exact .inr ⟨_, .head _, rfl, _, rfl⟩
      case w2f =>
        rintro ys9 nw ⟨rfl, hT, hl⟩ D9 h tk F' N' o1
        have hfn : ys9.length = (namesL lv).length := by rw [hl, List.size_toArray, hps9.len]
        have hT9 := textsAre_all hT hfn rfl
        (try dsimp only)
        k_dflt (refine LCp.ListComp_P (F₀ := by k_asm) (by with_unfolding_all rfl) (by decide) (by rfl) (by decide) (by rfl) (by rfl) (by decide) ?_)
        k_steps
        show LCp.SrcLP _ _ _ _ _ _ _ _ _ _ _ _ _ _ _
        refine' LCp.SrcLP.ledger (its := ts.toArray) ?w4h ?w4f ?w4n ?w4m ?w4z ?_
        case w4h => rfl
        case w4f => k_asm
        case w4n => k_asm
        case w4m => k_mem
        case w4z => rw [sizeLine_eq, List.size_toArray]; omega
        intro gz2
        refine' restP_inv (TxtJ _ (namesL lv)) txtJ_start ?w5t ?w5f
        case w5t =>
          rintro i zs9 nw v hi ⟨rfl, hTz, hlz⟩ hv
          obtain ⟨Tz, eTz, Az, tvz, nmz, tkz, nz, rfl, hAz, hrz, hnz, hzz⟩ := hts9.2 i v (by simpa using hv)
          refine ⟨Az, _, tvz, _, nz, rfl, by k_mem, rfl, rfl, ?_⟩
          intro I oI C oC D8 m₂ h tk E' hC hx hx₂ F' N' off ne
          clear ne
          k_steps
          show LCg.CompEnd _ _ _ _ _ _ _ _ _ _ _ _ _ _
          refine' compEnd_txt ?w6f ?w6n ?w6s off ?w6S hTz hlz (namesL_get hone i Tz nmz eTz hnz)
          case w6f => k_asm
          case w6n => k_asm
          case w6s => k_updF
          case w6S => exact .inr ⟨_, .tail _ (.tail _ (.head _)), rfl, _, rfl⟩
        case w5f =>
          rintro zs9 nw ⟨rfl, hTz, hlz⟩ D8 h tk F' N' o1
          have hTz9 := textsAre_all hTz hlz (by rw [hnl, List.size_toArray]; omega)
          (try dsimp only)
          k_steps
          show wpAny _ _ _ _ _ _
          refine' eq_texts ?w7n ?w7a ?w7b ?w7y ?w7z ?w7u ?_
          case w7n => k_asm
          case w7a => exact .tail _ (.head _)
          case w7b => exact .head _
          case w7y => exact hT9
          case w7z => exact hTz9
          case w7u => k_units
          exact hret _ _ fun b o e => F'.keep b o (T'.other b o e fun hm => nomatch hm)
  | false =>
    k_steps
    show wpAny _ _ _ _ _ _
    refine' item_last ?z1n ?z1m hlen hv9 ?_ ?z1s
    case z1n => k_asm
    case z1m => k_mem
    case z1s => with_unfolding_all rfl
    k_steps
    show wpAny _ _ _ _ _ _
    refine' For_invV g ?z2x ?z2p ?z2k ?z2s ?z2e
    case z2x => rfl
    case z2p => rfl
    case z2s => intro _; rfl
    case z2e => exact hE
    case z2k =>
    k_steps
    show wpAny _ _ _ _ _ _
    refine' for_range_inv (n := 519) (WholeJ CondIn RightOk lv _ [(Dt, LCg.lst ts), (Ddr, LCg.lst ws), (L + 1 + 1, o2)] rest) ?z3h ?z3r ?z3s ?z3z ?z3f ?z3n ?z3j ?z3t ?z3d
    case z3h => rfl
    case z3r => assumption
    case z3s => decide
    case z3z => decide
    case z3f => k_asm
    case z3n => k_asm
    case z3j =>
      refine' wholeJ_start ?z4a hr9 ?z4b
      case z4a => rfl
      case z4b => exact ⟨by rw [hn9, List.drop_eq_getElem_cons (by omega), List.drop_of_length_le (by omega)]; simp [namesL, List.getElem?_eq_some_iff.mp e9, hn9, (List.getElem?_eq_some_iff.mp e9).2], by rw [hz9]; decide⟩
    case z3t =>
      clear hR
      rintro i m2 news2 h tk t I oI hi ⟨wv, TW, rest2, hw, hm, rfl, hsub, hr, hok⟩ hoffI F' N'
      obtain ⟨z, z', rfl⟩ := mCases3 hw hm
      clear hw hm
      have hR : IsRest rest2 := trivial
      have hj0 : 0 ≤ (1 + (i : Int)).fmod 7 := Int.fmod_nonneg_of_pos _ (by decide)
      have hj1 : (1 + (i : Int)).fmod 7 < 7 := Int.fmod_lt_of_pos _ (by decide)
      obtain ⟨vw, hvw⟩ : ∃ v, ws[((1 + (i : Int)).fmod 7).toNat]? = some v := ⟨_, List.getElem?_eq_getElem (by omega)⟩
      obtain ⟨xw, uw, rfl, hxw⟩ := hws vw (List.mem_of_getElem? hvw)
      obtain ⟨vt, hvt⟩ : ∃ v, ts[518 - i]? = some v := ⟨_, List.getElem?_eq_getElem (by omega)⟩
      obtain ⟨TU, eU, AU, tvU, nmU, tkU, nU, rfl, hAU, hrU, hnU, hzU⟩ := hts.2 _ vt hvt
      have hAU2 := hsub _ hAU
      simp only [List.cons_append, List.nil_append] at N' hoffI ⊢
      k_steps
      show wpAny _ _ _ _ _ _
      refine' item_lst ?z5n ?z5m hj0 ?z5k hvw ?_ ?z5s
      case z5n => k_asm
      case z5m => k_mem
      case z5k => omega
      case z5s => with_unfolding_all rfl
      k_steps
      show wpAny _ _ _ _ _ _
      refine' item_lst (v := .ref AU) ?z6n ?z6m ?z6z ?z6k ?z6x ?_ ?z6s
      case z6n => k_asm
      case z6m => k_mem
      case z6z => omega
      case z6k => omega
      case z6x => (rw [show (520 - 1 - (1 + (i : Int))).toNat = 518 - i by omega]; exact hvt)
      case z6s => with_unfolding_all rfl
      k_steps
      refine' turnEnd_bin (R := CondIn) (o1 := tupO [.str (Str.ofString "not") tka, wv] 0) (o2 := tupO [.str xw uw, tvU, .ref _] 0) ?z7f ?z7n ?z7a ?z7b ?z7c ?z7d ?z7e hoffI ?z7w ?z7m hsub ?z7r (rightOk_step (by omega) hok eU hzU)
      case z7f => k_asm
      case z7n => k_asm
      case z7w => rfl
      case z7b => k_mem
      case z7a => k_mem
      case z7r => exact CondIn.bin hxw (.head _) (hrU.mono fun p hp => .tail _ (.tail _ (hsub p hp))) (.neg (.tail _ (.head _)) (hr.mono fun p hp => .tail _ (.tail _ hp)))
      case z7c => k_ne
      case z7d => k_ne
      case z7e => (simp only [List.cons_append, List.nil_append]; k_updF)
      case z7m => intro y e1 e2 e3; simp only [if_neg e1, if_neg e2, if_neg e3]
    case z3d =>
      clear hR
      rintro m2 news2 h tk ⟨wv, TW, rest2, hw, hm, rfl, hsub, hr, hok⟩ F' N'
      obtain ⟨z, z', rfl⟩ := mCases3 hw hm
      clear hw hm
      have hR : IsRest rest2 := trivial
      simp only [List.cons_append, List.nil_append] at N' ⊢
      k_steps
      show wpAny _ _ _ _ _ _
      refine' data_call (fun x ok => cf_T w x ok rest2 wv TW hr (by have := hok.2; omega)) ?x1b ?x1f ?x1x ?x1t ?x1n ?x1h ?x1k ?x1D ?x1d ?x11 ?x12 ?x13 ?x1g ?x1y ?x1m ?xa1 ?xa2 ?xa3 ?xb1 ?xb2 ?xb3 ?x1p ?x1u ?_
      case x1b => assumption
      case x1f => k_asm
      case x1x => assumption
      case x1t => assumption
      case x1n => k_asm
      case x1h => exact rfl
      case x1k => exact rfl
      case x1D => k_mem
      case x1d => k_mem
      case x11 => k_mem
      case x12 => k_mem
      case x13 => k_mem
      case x1g => k_mem
      case x1y => k_mem
      case x1m => k_updF
      case xa1 => assumption
      case xa2 => assumption
      case xa3 => assumption
      case xb1 => assumption
      case xb2 => assumption
      case xb3 => assumption
      case x1p => k_room
      case x1u => k_units
      intro Z fs kz news' g' h' tk' T' B' X' TT' F' N' hZ hps
      have hfl : fs.length ≤ 2000 := by
        have := hps.len
        have := TW.names_len
        have := hok.2
        omega
      rw [hok.1, show lv.drop (519 - 519) = lv from rfl] at hps
      have N9 : News g' L h' ((Z, listOf fs.toArray kz) :: (Dt, LCg.lst ts) :: (news' ++ rest)) := fun p hp => by
        rcases List.mem_cons.mp hp with rfl | hp
        · exact N' _ (List.mem_append_left _ hZ)
        · rcases List.mem_cons.mp hp with rfl | hp
          · exact N' _ (List.mem_append_right _ (by k_mem))
          · rcases List.mem_append.mp hp with hp | hp
            · exact N' _ (List.mem_append_left _ hp)
            · have := hsub p hp
              exact N' _ (List.mem_append_right _ (by repeat (first | exact this | refine List.mem_cons_of_mem _ ?_)))
      have hps9 := hps.mono (N' := news' ++ rest) fun p hp => List.mem_append_left _ hp
      have hts9 := hts.mono condMono (N' := news' ++ rest) fun p hp => List.mem_append_right _ hp
      clear N' hR hZ hps
      generalize news' ++ rest = rest9 at N9 hps9 hts9
      have hR : IsRest rest9 := trivial
      (try dsimp only)
      k_steps
      show LCg.CompSrc _ _ _ _ _ _ _ _ _ _ _ _ _ _
      have hone := leaves_one hts9
      have hnl := namesL_len hone
      refine' LCg.CompSrc.ledger (its := fs.toArray) ?w1h ?w1f ?w1n ?w1m ?w1z ?_
      case w1h => rfl
      case w1f => k_asm
      case w1n => k_asm
      case w1m => k_mem
      case w1z => rw [sizeLine_eq, List.size_toArray]; omega
      intro gz
      refine' rest_inv (TxtJ _ (namesL lv)) txtJ_start ?w2t ?w2f
      case w2t =>
        rintro i ys9 nw v I oI C oC D9 m₂ h tk E' hi ⟨rfl, hT, hl⟩ hv hC hx F' N' off ne
        obtain ⟨P, a5, u5, nm5, v5, n5, rfl, hP, hn5⟩ := pairs_at hps9 i v (by simpa using hv)
        clear ne
        k_steps
        show LCg.CompEnd _ _ _ _ _ _ _ _ _ _ _ _ _ _
        refine' compEnd_txt ?w3f ?w3n ?w3s off ?w3S hT hl hn5
        case w3f => k_asm
        case w3n => k_asm
        case w3s => k_updF
        case w3S => exact .inr ⟨_, .head _, rfl, _, rfl⟩
      case w2f =>
        rintro ys9 nw ⟨rfl, hT, hl⟩ D9 h tk F' N' o1
        have hfn : ys9.length = (namesL lv).length := by rw [hl, List.size_toArray, hps9.len]
        have hT9 := textsAre_all hT hfn rfl
        (try dsimp only)
        k_dflt (refine LCp.ListComp_P (F₀ := by k_asm) (by with_unfolding_all rfl) (by decide) (by rfl) (by decide) (by rfl) (by rfl) (by decide) ?_)
        k_steps
        show LCp.SrcLP _ _ _ _ _ _ _ _ _ _ _ _ _ _ _
        refine' LCp.SrcLP.ledger (its := ts.toArray) ?w4h ?w4f ?w4n ?w4m ?w4z ?_
        case w4h => rfl
        case w4f => k_asm
        case w4n => k_asm
        case w4m => k_mem
        case w4z => rw [sizeLine_eq, List.size_toArray]; omega
        intro gz2
        refine' restP_inv (TxtJ _ (namesL lv)) txtJ_start ?w5t ?w5f
        case w5t =>
          rintro i zs9 nw v hi ⟨rfl, hTz, hlz⟩ hv
          obtain ⟨Tz, eTz, Az, tvz, nmz, tkz, nz, rfl, hAz, hrz, hnz, hzz⟩ := hts9.2 i v (by simpa using hv)
          refine ⟨Az, _, tvz, _, nz, rfl, by k_mem, rfl, rfl, ?_⟩
          intro I oI C oC D8 m₂ h tk E' hC hx hx₂ F' N' off ne
          clear ne
          k_steps
          show LCg.CompEnd _ _ _ _ _ _ _ _ _ _ _ _ _ _
          refine' compEnd_txt ?w6f ?w6n ?w6s off ?w6S hTz hlz (namesL_get hone i Tz nmz eTz hnz)
          case w6f => k_asm
          case w6n => k_asm
          case w6s => k_updF
          case w6S => exact .inr ⟨_, .tail _ (.tail _ (.head _)), rfl, _, rfl⟩
        case w5f =>
          rintro zs9 nw ⟨rfl, hTz, hlz⟩ D8 h tk F' N' o1
          have hTz9 := textsAre_all hTz hlz (by rw [hnl, List.size_toArray]; omega)
          (try dsimp only)
          k_steps
          show wpAny _ _ _ _ _ _
          refine' eq_texts ?w7n ?w7a ?w7b ?w7y ?w7z ?w7u ?_
          case w7n => k_asm
          case w7a => exact .tail _ (.head _)
          case w7b => exact .head _
          case w7y => exact hT9
          case w7z => exact hTz9
          case w7u => k_units
          exact hret _ _ fun b o e => F'.keep b o (T'.other b o e fun hm => nomatch hm)
end
end
section
open PySem PySem.W PyProof.Rows PySem.Calls PySem.Spec
theorem law_body {w : World} {oc : Value} {od : Option Addr} {osl : Array (Option Value)} {name qual : PySem.Str} {params : Arguments} {body : List Stmt} {scope : Scope} {dV kV doc pm cdv ct : Value} {an : Option Addr}
    (ho : (hd.heap_1 w.params).lookup 389 = some ⟨oc, od, .func (fnOf name qual params body scope dV kV doc pm an cdv ct), osl⟩)
    {mean : ExcName → Option Value} {mg mb : PySem.Str → Option Value} {g : Heap} {L fa cd l : Addr} {h₁ : Heap} {o1 o2 o3 o4 : Obj} {s : Shared} {vs : List Value} {ns : List Int} {tk₁ : Nat} {Q : Flow → Shared → Prop} {E : Value → Shared → Prop}
    (hi : IntsAre vs ns) (hlen : ns.length ≤ 63) (hl : g.IsList l vs.toArray) (X : (hd.heap_1 w.params).In g) (T : Top hd.view_39 (looseW hd.view_39 [Str.ofString "LedgerError"]) mean mg mb g)
    (F : Fr g L h₁ (bindL (envOfC qual scope L fa (.ref cd)).kindOf [(Str.ofString "script", .ref l)] fun _ => none))
    (N : News g L h₁ [(L + 1 + 1 + 1 + 1, o4), (L + 1 + 1 + 1, o3), (L + 1 + 1, o2), (L + 1, o1)])
    (d4 : o4.data = .cell none) (d3 : o3.data = .cell none) (d2 : o2.data = .cell none) (d1 : o1.data = .cell none)
    (hE : PassesOwn (model PySem.Challenge.rw_pq0630_01.row.prog w) (callerA.deeper (envOfC qual scope L fa (.ref cd))) (envOfC qual scope L fa (.ref cd)) E)
    (hret : ∀ h' tk', g.StaysIn h' → Q (.ret (.bool true)) { s with heap := h', toks := tk' }) :
    wpAny (model PySem.Challenge.rw_pq0630_01.row.prog w) (callerA.deeper (envOfC qual scope L fa (.ref cd))) (execs body (envOfC qual scope L fa (.ref cd))) Q E { s with heap := h₁, toks := tk₁ } := by
  have fi : PySem.Challenge.rw_pq0630_01.Holds → hd.heap_1 = hd.heap_1 := by k_fill; intro _; rfl
  clear fi
  have ho9 := ho
  refine' look_eq ?y1e ho ?y1k
  case y1e => k_is
  intro e
  simp only [Obj.mk.injEq, Data.func.injEq, FuncData.mk.injEq, FuncBody.stmts.injEq] at e
  obtain ⟨_, _, ⟨rfl, rfl, rfl, rfl, rfl, _⟩, _⟩ := e
  clear ho
  have B := below_caller g
  (try k_fold)
  k_steps
  show wpAny _ _ _ _ _ _
  refine' tellC_use (pen_T w l vs ns hi hlen) ?z9b ?z9f ?z9x ?z9n ?z9t ?z9h ?z9k [(L + 1 + 1 + 1 + 1, o4), (L + 1 + 1 + 1, o3), (L + 1 + 1, o2), (L + 1, o1)] ?z9s ?z9r ?z9c ?z9l ?z9d ?z9u ?_
  case z9b => assumption
  case z9f => k_asm
  case z9x => assumption
  case z9n => k_asm
  case z9t => assumption
  case z9h => exact rfl
  case z9k => exact rfl
  case z9s => exact List.forall_mem_nil _
  case z9r => exact fun p hp => hp
  case z9c => exact fun p hp hm => nomatch hm
  case z9l => exact hl.at fun o e => F.keep l o e
  case z9d => k_room
  case z9u => k_units
  rintro r news' h' tk' F' N' ⟨p, a, b, t1, t2, k, rfl, rfl, ha, hb, hb2⟩ hoff
  have hp4 := neN (hoff _ (.head _) _ (.head _))
  have hp3 := neN (hoff _ (.head _) _ (.tail _ (.head _)))
  have hp2 := neN (hoff _ (.head _) _ (.tail _ (.tail _ (.head _))))
  have hp1 := neN (hoff _ (.head _) _ (.tail _ (.tail _ (.tail _ (.head _)))))
  clear hoff
  dsimp only [List.cons_append, List.nil_append] at *
  k_steps
  show wpAny _ _ _ _ _ _
  refine' draw_use ?z8b ?z8f ?z8x ?z8n ?z8t ?z8h ?z8k ?z8u ?z8a ?z8c ?z8m ?z8d ?z8v ?_
  case z8b => assumption
  case z8f => k_asm
  case z8x => assumption
  case z8n => k_asm
  case z8t => assumption
  case z8h => exact rfl
  case z8k => exact rfl
  case z8u => k_updF
  case z8a => assumption
  case z8c => omega
  case z8m => decide
  case z8d => k_room
  case z8v => k_units
  intro h' tk' a' b' t1' t2' k' dg' t' F' N' e1' e2' e3' e4' e5'
  have hdg : dg' = 0 ∨ dg' = 1 := by omega
  rcases hdg with rfl | rfl
  case inl =>
    (try dsimp only)
    k_steps
    show wpAny _ _ _ _ _ _
    refine' draw_use ?z7b ?z7f ?z7x ?z7n ?z7t ?z7h ?z7k ?z7u ?z7a ?z7c ?z7m ?z7d ?z7v ?_
    case z7b => assumption
    case z7f => k_asm
    case z7x => assumption
    case z7n => k_asm
    case z7t => assumption
    case z7h => exact rfl
    case z7k => exact rfl
    case z7u => k_updF
    case z7a => assumption
    case z7c => omega
    case z7m => decide
    case z7d => k_room
    case z7v => k_units
    intro h' tk' a2' b2' t1' t2' k' dg2' t' F' N' e6' e7' e8' e9' e10'
    (try dsimp only)
    k_steps
    show LCg.CompSrc _ _ _ _ _ _ _ _ _ _ _ _ _ _
    refine' LCg.CompSrc.range (n := 3) ?y3h ?y3f ?y3n ?y3r ?y3s ?y3z ?y3l ?_
    case y3h => rfl
    case y3f => k_asm
    case y3n => k_asm
    case y3r => assumption
    case y3s => decide
    case y3z => decide
    case y3l => rw [sizeLine_eq]; decide
    intro gz
    refine' comp_draws (p := p) ?y4u (fun y => ∃ d t, y = .int d t ∧ (0 ≤ d ∧ d < 520)) ?y4a ?y4b ?y4t ?y4f
    case y4u => k_updF
    case y4a => assumption
    case y4b => assumption
    case y4t =>
      intro i ys a3 b3 u1 u2 k3 v I oI C oC D' m₂ h tk E' hi h1 h2 h3 hv hC hx F' N' off ne hl hG
      dsimp only at *
      clear ne
      have hoI := off.mem (p, penO a3 b3 u1 u2 k3) (by k_mem)
      have hpI := neN hoI.1
      have hpC := neN hoI.2.1
      have hpD := neN hoI.2.2
      clear hoI
      k_steps
      show LCg.CompEnd _ _ _ _ _ _ _ _ _ _ _ _ _ _
      refine' compEnd_draw ?y5f ?y5n ?y5s ?y5o trivial hl hG ⟨_, _, rfl, by assumption, by assumption⟩ ?y5a ?y5b ?y5c
      case y5f => k_asm
      case y5n => k_asm
      case y5s => k_updF
      case y5o => exact off
      case y5a => assumption
      case y5b => assumption
      case y5c => omega
    case y4f =>
      intro ys a3 b3 u1 u2 k3 hl3 hG3 h1 h2 h3 Dsp h tk F' N' o1
      obtain ⟨d1, q1, d2, q2, d3, q3, rfl⟩ := three_ints hl3 hG3
      have o1' := off1_mem o1
      dsimp only at *
      have hDp := neN (o1' (p, penO a3 b3 u1 u2 k3) (by k_mem))
      have hE4 := neN (o1' (L + 1 + 1 + 1 + 1, o4) (by k_mem))
      dsimp only at hDp hE4
      k_steps
      show LCg.CompSrc _ _ _ _ _ _ _ _ _ _ _ _ _ _
      refine' LCg.CompSrc.range (n := 7) ?y3h ?y3f ?y3n ?y3r ?y3s ?y3z ?y3l ?_
      case y3h => rfl
      case y3f => k_asm
      case y3n => k_asm
      case y3r => assumption
      case y3s => decide
      case y3z => decide
      case y3l => rw [sizeLine_eq]; decide
      intro gz
      refine' comp_draws (p := p) ?y4u (fun y => ∃ x u, y = .str x u ∧ x ∈ sumWords) ?y4a ?y4b ?y4t ?y4f
      case y4u => k_updF
      case y4a => assumption
      case y4b => assumption
      case y4t =>
        intro i ys a4 b4 u1 u2 k4 v I oI C oC D' m₂ h tk E' hi h1 h2 h3 hv hC hx F' N' off ne hl hG
        dsimp only at *
        clear ne
        have hoI := off.mem (p, penO a4 b4 u1 u2 k4) (by k_mem)
        have hpI := neN hoI.1
        have hpC := neN hoI.2.1
        have hpD := neN hoI.2.2
        clear hoI
        k_steps
        show wpAny _ _ _ _ _ _
        refine' item_word sumWords ?y6n ?y6m ?y6v ?y6z ?y6l ?y6e ?_ ?y6s
        case y6n => k_asm
        case y6m => k_mem
        case y6v => (intro v hv; simp only [List.mem_cons, List.not_mem_nil, or_false] at hv; rcases hv with rfl | rfl | rfl | rfl | rfl <;> exact ⟨_, _, rfl, by decide +kernel⟩)
        case y6z => assumption
        case y6l => first | assumption | omega | (simp; omega)
        case y6e => exact Nat.le_of_ble_eq_true rfl
        case y6s => with_unfolding_all rfl
        intro x9 u9 hx9
        k_steps
        show LCg.CompEnd _ _ _ _ _ _ _ _ _ _ _ _ _ _
        refine' compEnd_draw ?y5f ?y5n ?y5s ?y5o trivial hl hG ⟨_, _, rfl, hx9⟩ ?y5a ?y5b ?y5c
        case y5f => k_asm
        case y5n => k_asm
        case y5s => k_updF
        case y5o => exact off
        case y5a => assumption
        case y5b => assumption
        case y5c => omega
      case y4f =>
        intro ys a4 b4 u1 u2 k4 hl4 hG4 h1 h2 h3 Ddr h tk F' N' o1
        have o1' := off1_mem o1
        dsimp only at *
        have hDp := neN (o1' (p, penO a4 b4 u1 u2 k4) (by k_mem))
        have hD4 := neN (o1' (L + 1 + 1 + 1 + 1, o4) (by k_mem))
        dsimp only at hDp hD4
        k_steps
        show LCg.CompSrc _ _ _ _ _ _ _ _ _ _ _ _ _ _
        refine' LCg.CompSrc.range (n := 520) ?y7h ?y7f ?y7n ?y7r ?y7s ?y7z ?y7l ?_
        case y7h => rfl
        case y7f => k_asm
        case y7n => k_asm
        case y7r => assumption
        case y7s => decide
        case y7z => decide
        case y7l => rw [sizeLine_eq]; decide
        intro gz
        refine' rest_inv (TermsJ TreeIn _) ?y8s ?y8t ?y8f
        case y8s => exact termsJ_start
        case y8t =>
          rintro i ys9 nw v I oI C oC D' m₂ h tk E' hi ⟨hl, rest, lv, rfl, hlv⟩ ⟨tv, rfl⟩ hC hx F' N' off ne
          clear ne
          have hR9 : IsRest rest := trivial
          simp only [List.cons_append, List.nil_append] at N' off ⊢
          have hoI := off.mem (Dsp, LCg.lst [Value.int d1 q1, Value.int d2 q2, Value.int d3 q3]) (by k_mem)
          have hsI := neN hoI.1
          have hsC := neN hoI.2.1
          have hsD := neN hoI.2.2
          clear hoI
          dsimp only at hsI hsC hsD
          k_steps
          show wpAny _ _ _ _ _ _
          refine' tellC_keep (leaf_sum w Dsp (0 + (i : Int)) d1 d2 d3 _ q1 q2 q3 _ ⟨by omega, by omega⟩) leafSub ?a1b ?a1f ?a1x ?a1n ?a1t ?a1h ?a1k ?a1s ?a1r ?a1d ?a1u ?_
          case a1b => assumption
          case a1f => k_asm
          case a1x => assumption
          case a1n => k_asm
          case a1t => assumption
          case a1h => exact rfl
          case a1k => exact rfl
          case a1s => k_updF
          case a1r => trivial
          case a1d => k_room
          case a1u => k_units
          intro r news' h' tk' F' N' hP hoff
          k_steps
          show LCg.CompEnd _ _ _ _ _ _ _ _ _ _ _ _ _ _
          refine' compEnd_leaf treeMono ?a2f ?a2n ?a2a off ?a2o hl hlv hP
          case a2f => k_asm
          case a2n => k_asm
          case a2a => exact fun q hq => hq
          case a2o => exact fun q hq => ⟨hoff q hq (I, oI) (by k_mem) (by simp only [List.map_cons, List.map_nil, List.mem_singleton]; k_ne), hoff q hq (C, oC) (by k_mem) (by simp only [List.map_cons, List.map_nil, List.mem_singleton]; k_ne), hoff q hq (D', LCg.lst ys9) (by k_mem) (by simp only [List.map_cons, List.map_nil, List.mem_singleton]; k_ne)⟩
        case y8f =>
          rintro ys9 nw ⟨hl, rest, lv, rfl, hlv⟩ D9 h tk F' N' o1
          (try dsimp only)
          simp only [List.cons_append, List.nil_append] at N'
          refine' law_rest_sum (ts := ys9) (ws := ys) ho9 X T ?a3f ?a3n ?a3d hlv hl hG4 hl4 hE ?a3r
          case a3f => k_asm
          case a3n => refine' newsSub N' ?_; k_updF
          case a3d => assumption
          case a3r => exact fun h' tk' hs => hret h' tk' hs
  case inr =>
    (try dsimp only)
    k_steps
    show wpAny _ _ _ _ _ _
    refine' draw_use ?z7b ?z7f ?z7x ?z7n ?z7t ?z7h ?z7k ?z7u ?z7a ?z7c ?z7m ?z7d ?z7v ?_
    case z7b => assumption
    case z7f => k_asm
    case z7x => assumption
    case z7n => k_asm
    case z7t => assumption
    case z7h => exact rfl
    case z7k => exact rfl
    case z7u => k_updF
    case z7a => assumption
    case z7c => omega
    case z7m => decide
    case z7d => k_room
    case z7v => k_units
    intro h' tk' a2' b2' t1' t2' k' dg2' t' F' N' e6' e7' e8' e9' e10'
    (try dsimp only)
    k_steps
    show LCg.CompSrc _ _ _ _ _ _ _ _ _ _ _ _ _ _
    refine' LCg.CompSrc.range (n := 3) ?y3h ?y3f ?y3n ?y3r ?y3s ?y3z ?y3l ?_
    case y3h => rfl
    case y3f => k_asm
    case y3n => k_asm
    case y3r => assumption
    case y3s => decide
    case y3z => decide
    case y3l => rw [sizeLine_eq]; decide
    intro gz
    refine' comp_draws (p := p) ?y4u (fun y => ∃ d t, y = .int d t ∧ (0 ≤ d ∧ d < 520)) ?y4a ?y4b ?y4t ?y4f
    case y4u => k_updF
    case y4a => assumption
    case y4b => assumption
    case y4t =>
      intro i ys a3 b3 u1 u2 k3 v I oI C oC D' m₂ h tk E' hi h1 h2 h3 hv hC hx F' N' off ne hl hG
      dsimp only at *
      clear ne
      have hoI := off.mem (p, penO a3 b3 u1 u2 k3) (by k_mem)
      have hpI := neN hoI.1
      have hpC := neN hoI.2.1
      have hpD := neN hoI.2.2
      clear hoI
      k_steps
      show LCg.CompEnd _ _ _ _ _ _ _ _ _ _ _ _ _ _
      refine' compEnd_draw ?y5f ?y5n ?y5s ?y5o trivial hl hG ⟨_, _, rfl, by assumption, by assumption⟩ ?y5a ?y5b ?y5c
      case y5f => k_asm
      case y5n => k_asm
      case y5s => k_updF
      case y5o => exact off
      case y5a => assumption
      case y5b => assumption
      case y5c => omega
    case y4f =>
      intro ys a3 b3 u1 u2 k3 hl3 hG3 h1 h2 h3 Dsp h tk F' N' o1
      obtain ⟨d1, q1, d2, q2, d3, q3, rfl⟩ := three_ints hl3 hG3
      have o1' := off1_mem o1
      dsimp only at *
      have hDp := neN (o1' (p, penO a3 b3 u1 u2 k3) (by k_mem))
      have hE4 := neN (o1' (L + 1 + 1 + 1 + 1, o4) (by k_mem))
      dsimp only at hDp hE4
      k_steps
      show LCg.CompSrc _ _ _ _ _ _ _ _ _ _ _ _ _ _
      refine' LCg.CompSrc.range (n := 7) ?y3h ?y3f ?y3n ?y3r ?y3s ?y3z ?y3l ?_
      case y3h => rfl
      case y3f => k_asm
      case y3n => k_asm
      case y3r => assumption
      case y3s => decide
      case y3z => decide
      case y3l => rw [sizeLine_eq]; decide
      intro gz
      refine' comp_draws (p := p) ?y4u (fun y => ∃ x u, y = .str x u ∧ x ∈ condWords) ?y4a ?y4b ?y4t ?y4f
      case y4u => k_updF
      case y4a => assumption
      case y4b => assumption
      case y4t =>
        intro i ys a4 b4 u1 u2 k4 v I oI C oC D' m₂ h tk E' hi h1 h2 h3 hv hC hx F' N' off ne hl hG
        dsimp only at *
        clear ne
        have hoI := off.mem (p, penO a4 b4 u1 u2 k4) (by k_mem)
        have hpI := neN hoI.1
        have hpC := neN hoI.2.1
        have hpD := neN hoI.2.2
        clear hoI
        k_steps
        show wpAny _ _ _ _ _ _
        refine' draw_use ?c1b ?c1f ?c1x ?c1n ?c1t ?c1h ?c1k ?c1u ?c1a ?c1c ?c1m ?c1d ?c1v ?_
        case c1b => assumption
        case c1f => k_asm
        case c1x => assumption
        case c1n => k_asm
        case c1t => assumption
        case c1h => exact rfl
        case c1k => exact rfl
        case c1u => k_updF
        case c1a => assumption
        case c1c => omega
        case c1m => decide
        case c1d => k_room
        case c1v => k_units
        intro h' tk' a5 b5 t5 t6 k5 dg5 t7 F' N' g1' g2' g3' g4' g5'
        (try dsimp only)
        k_steps
        show wpAny _ _ _ _ _ _
        refine' item_word condWords ?y6n ?y6m ?y6v ?y6z ?y6l ?y6e ?_ ?y6s
        case y6n => k_asm
        case y6m => k_mem
        case y6v => (intro v hv; simp only [List.mem_cons, List.not_mem_nil, or_false] at hv; rcases hv with rfl | rfl <;> exact ⟨_, _, rfl, by decide +kernel⟩)
        case y6z => assumption
        case y6l => first | assumption | omega | (simp; omega)
        case y6e => exact Nat.le_of_ble_eq_true rfl
        case y6s => with_unfolding_all rfl
        intro x9 u9 hx9
        k_steps
        show LCg.CompEnd _ _ _ _ _ _ _ _ _ _ _ _ _ _
        refine' compEnd_draw ?y5f ?y5n ?y5s ?y5o trivial hl hG ⟨_, _, rfl, hx9⟩ ?y5a ?y5b ?y5c
        case y5f => k_asm
        case y5n => k_asm
        case y5s => k_updF
        case y5o => exact off
        case y5a => assumption
        case y5b => assumption
        case y5c => omega
      case y4f =>
        intro ys a4 b4 u1 u2 k4 hl4 hG4 h1 h2 h3 Ddr h tk F' N' o1
        have o1' := off1_mem o1
        dsimp only at *
        have hDp := neN (o1' (p, penO a4 b4 u1 u2 k4) (by k_mem))
        have hD4 := neN (o1' (L + 1 + 1 + 1 + 1, o4) (by k_mem))
        dsimp only at hDp hD4
        k_steps
        show LCg.CompSrc _ _ _ _ _ _ _ _ _ _ _ _ _ _
        refine' LCg.CompSrc.range (n := 520) ?y7h ?y7f ?y7n ?y7r ?y7s ?y7z ?y7l ?_
        case y7h => rfl
        case y7f => k_asm
        case y7n => k_asm
        case y7r => assumption
        case y7s => decide
        case y7z => decide
        case y7l => rw [sizeLine_eq]; decide
        intro gz
        refine' rest_inv (TermsJ CondIn _) ?y8s ?y8t ?y8f
        case y8s => exact termsJ_start
        case y8t =>
          rintro i ys9 nw v I oI C oC D' m₂ h tk E' hi ⟨hl, rest, lv, rfl, hlv⟩ ⟨tv, rfl⟩ hC hx F' N' off ne
          clear ne
          have hR9 : IsRest rest := trivial
          simp only [List.cons_append, List.nil_append] at N' off ⊢
          have hoI := off.mem (Dsp, LCg.lst [Value.int d1 q1, Value.int d2 q2, Value.int d3 q3]) (by k_mem)
          have hsI := neN hoI.1
          have hsC := neN hoI.2.1
          have hsD := neN hoI.2.2
          clear hoI
          dsimp only at hsI hsC hsD
          k_steps
          show wpAny _ _ _ _ _ _
          refine' tellC_keep (leaf_cond w Dsp (0 + (i : Int)) d1 d2 d3 _ q1 q2 q3 _ ⟨by omega, by omega⟩) leafSub ?a1b ?a1f ?a1x ?a1n ?a1t ?a1h ?a1k ?a1s ?a1r ?a1d ?a1u ?_
          case a1b => assumption
          case a1f => k_asm
          case a1x => assumption
          case a1n => k_asm
          case a1t => assumption
          case a1h => exact rfl
          case a1k => exact rfl
          case a1s => k_updF
          case a1r => trivial
          case a1d => k_room
          case a1u => k_units
          intro r news' h' tk' F' N' hP hoff
          k_steps
          show LCg.CompEnd _ _ _ _ _ _ _ _ _ _ _ _ _ _
          refine' compEnd_leaf condMono ?a2f ?a2n ?a2a off ?a2o hl hlv hP
          case a2f => k_asm
          case a2n => k_asm
          case a2a => exact fun q hq => hq
          case a2o => exact fun q hq => ⟨hoff q hq (I, oI) (by k_mem) (by simp only [List.map_cons, List.map_nil, List.mem_singleton]; k_ne), hoff q hq (C, oC) (by k_mem) (by simp only [List.map_cons, List.map_nil, List.mem_singleton]; k_ne), hoff q hq (D', LCg.lst ys9) (by k_mem) (by simp only [List.map_cons, List.map_nil, List.mem_singleton]; k_ne)⟩
        case y8f =>
          rintro ys9 nw ⟨hl, rest, lv, rfl, hlv⟩ D9 h tk F' N' o1
          (try dsimp only)
          simp only [List.cons_append, List.nil_append] at N'
          refine' law_rest_cond (ts := ys9) (ws := ys) ho9 X T ?a3f ?a3n ?a3d hlv hl hG4 hl4 hE ?a3r
          case a3f => k_asm
          case a3n => refine' newsSub N' ?_; k_updF
          case a3d => assumption
          case a3r => exact fun h' tk' hs => hret h' tk' hs
end
local macro_rules | `(tactic| k_qdec) => `(tactic| first | with_reducible exact names_ok | with_reducible exact imports_none | kernel_rfl)
section
open PySem PySem.W PyProof.Rows PySem.Calls PySem.Spec
theorem lawX : PySem.Challenge.rw_pq0630_01.Holds := hd (by
  w_strict (k_go0)
  all_goals (
    refine' law_body ?u1o ?u1i ?u1n ?u1l ?u1X ?u1T ?u1F ?u1N ?u14 ?u13 ?u12 ?u11 ?u1E ?u1r
    case u1o => k_is
    case u1i => assumption
    case u1n => omega
    case u1l => assumption
    case u1X => assumption
    case u1T => assumption
    case u1F => assumption
    case u1N => assumption
    case u14 => assumption
    case u13 => assumption
    case u12 => assumption
    case u11 => assumption
    case u1E => passes_own
    case u1r =>
      intro h' tk' hs
      refine ⟨.inl ⟨.bool true, .bool true, [], rfl, ?_, .bool true, ?_, ?_⟩, hs, rfl, by assumption⟩
      · intro cls; rfl
      · exact postW_of (X := (true == true)) (by rfl) (w_eq_bool (k := true) (l := true) (w_res rfl) w_lit) rfl
      · intro _; exact ⟨.nil, fun _ ha => nomatch ha⟩

      ))
end
end Mine
theorem PySem.Challenge.cw_pq0630_01_holds : PySem.Challenge.rw_pq0630_01.Holds := by
  exact Mine.lawX
