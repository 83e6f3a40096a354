import PyProof.Rows.All
import Wide.All
import OpenK.AllK
import Wide.FinOn
import Lean
import PySem.Challenge.RW_xm0722_01
open PySem PySem.W PyProof.Rows
set_option Elab.async false
set_option linter.unusedVariables false

section
open PySem PySem.W PyProof.Rows
set_option maxRecDepth 100000
namespace Mine
noncomputable abbrev prog0 : Program := PySem.Challenge.rw_xm0722_01.row.prog
section
variable {tb : String → Option Builtin} {p : Program} {w : World} {n₀ : Nat} {ann : Option Value}
/-- the run of a top over a heap that is a tree -/
noncomputable def runT (tb : String → Option Builtin) (p : Program) (w : World) (n₀ : Nat) (ann : Option Value) : Nat → SharedT → Thread → Option SharedT
  | 0, _, _ => none
  | n + 1, s, t => match through t with
    | true => some s
    | false => match stepOk n₀ ann t with
      | false => none
      | true => match stepT (denote tb) p w s t with
        | some (s', t') => runT tb p w n₀ ann n s' t'
        | none => none
theorem run_of : ∀ {n : Nat} {s s' : SharedT} {t : Thread}, runT tb p w n₀ ann n s t = some s' → topRun tb p w n₀ ann n s.abs t = some s'.abs
  | 0, _, _, _, h => by cases h
  | n + 1, s, s', t, h => by
    unfold runT at h
    unfold topRun
    cases he : through t with
    | true => rw [he] at h; cases h; rfl
    | false =>
      rw [he] at h
      cases hk : stepOk n₀ ann t with
      | false => rw [hk] at h; cases h
      | true =>
        rw [hk] at h
        cases hs : stepT (denote tb) p w s t with
        | none => rw [hs] at h; cases h
        | some r => obtain ⟨s₂, t₂⟩ := r; rw [hs] at h; rw [stepT_spec hs]; exact run_of h
end
noncomputable def noStm : Stmt := .Pass ⟨0, 0, 0, 0⟩
/-- the n-th statement of the text -/
noncomputable def stm (i : Nat) : Stmt := match prog0.main.body[i]? with | some s => s | none => noStm
/-- the j-th statement of a class's body -/
noncomputable def inC (s : Stmt) (j : Nat) : Stmt := match s with | .ClassDef _ _ _ b _ _ _ _ _ _ _ => (match b[j]? with | some x => x | none => noStm) | _ => noStm
/-- the loader that the start-up has laid into the text's own names -/
noncomputable def ldr0 (P : Params) : Value := match (boot_o_3 P).data with | .dict es _ => (match es.toList with | _ :: _ :: _ :: e :: _ => e.val | _ => .none) | _ => .none
noncomputable def o0 (P : Params) : Obj := (Obj.mk (Value.type "code") none (Data.fields #[(Value.str (Str.ofString "<module>") 182), (Value.str (Str.ofString "<module>") 183), (Value.str (Str.ofString "/claim/cut.py") 184), (Value.int (1 : Int) 0), (Value.int (0 : Int) 0), (Value.int (0 : Int) 0), (Value.int (0 : Int) 0), (Value.int (0 : Int) 0), (Value.ref 11), (Value.bool false), (Value.int (181 : Int) 0), (Value.ref 12), Value.none, Value.none, Value.none, Value.none, (Value.int (185 : Int) 0), (Value.int (1 : Int) 0), (Value.str (Str.ofString "/claim/cut.py") 186)]) #[])
noncomputable def o1 (P : Params) : Obj := (Obj.mk (Value.type "frame") none Data.plain #[(some (Value.ref 13)), (some (Value.ref 3)), (some (Value.ref 3)), none, (some (Value.str (Str.ofString "__main__") 164)), none, (some (Value.ref 0))])
noncomputable def o2 (P : Params) : Obj := (Obj.mk Value.none none (Data.dict #[(DictEntry.mk (PyData.keyHash P (Str.ofString "type.__subclasses__.Exception.0")) (Value.str (Str.ofString "type.__subclasses__.Exception.0") 259) (Value.int (66 : Int) 0)), (DictEntry.mk (PyData.keyHash P (Str.ofString "type.__subclasses__.Exception.n")) (Value.str (Str.ofString "type.__subclasses__.Exception.n") 260) (Value.int (1 : Int) 0))] 2) #[])
noncomputable def o3 (P : Params) : Obj := (Obj.mk (Value.type "dict") none (Data.dict #[(DictEntry.mk (PyData.keyHash P (Str.ofString "__name__")) (Value.str (Str.ofString "__name__") 165) (Value.str (Str.ofString "outlinemill.errors") 232)), (DictEntry.mk (PyData.keyHash P (Str.ofString "__doc__")) (Value.str (Str.ofString "__doc__") 166) Value.none), (DictEntry.mk (PyData.keyHash P (Str.ofString "__package__")) (Value.str (Str.ofString "__package__") 167) Value.none), (DictEntry.mk (PyData.keyHash P (Str.ofString "__loader__")) (Value.str (Str.ofString "__loader__") 168) (ldr0 P)), (DictEntry.mk (PyData.keyHash P (Str.ofString "__spec__")) (Value.str (Str.ofString "__spec__") 169) Value.none), (DictEntry.mk (PyData.keyHash P (Str.ofString "__annotations__")) (Value.str (Str.ofString "__annotations__") 170) (Value.ref 6)), (DictEntry.mk (PyData.keyHash P (Str.ofString "__builtins__")) (Value.str (Str.ofString "__builtins__") 171) (Value.ref 4)), (DictEntry.mk (PyData.keyHash P (Str.ofString "__file__")) (Value.str (Str.ofString "__file__") 173) (Value.str (Str.ofString "/claim/cut.py") 172)), (DictEntry.mk (PyData.keyHash P (Str.ofString "__cached__")) (Value.str (Str.ofString "__cached__") 174) Value.none), (DictEntry.mk (PyData.keyHash P (Str.ofString "_wall")) (Value.str (Str.ofString "_wall") 193) (Value.ref 21)), (DictEntry.mk (PyData.keyHash P (Str.ofString "ONE14")) (Value.str (Str.ofString "ONE14") 197) (Value.int (16384 : Int) 196)), (DictEntry.mk (PyData.keyHash P (Str.ofString "ONE6")) (Value.str (Str.ofString "ONE6") 199) (Value.int (64 : Int) 198)), (DictEntry.mk (PyData.keyHash P (Str.ofString "wrap32")) (Value.str (Str.ofString "wrap32") 206) (Value.ref 28)), (DictEntry.mk (PyData.keyHash P (Str.ofString "floor6")) (Value.str (Str.ofString "floor6") 213) (Value.ref 35)), (DictEntry.mk (PyData.keyHash P (Str.ofString "ceiling6")) (Value.str (Str.ofString "ceiling6") 220) (Value.ref 42)), (DictEntry.mk (PyData.keyHash P (Str.ofString "do_one")) (Value.str (Str.ofString "do_one") 231) (Value.ref 49)), (DictEntry.mk (PyData.keyHash P (Str.ofString "MillError")) (Value.str (Str.ofString "MillError") 262) (Value.ref 66))] 17) #[])
noncomputable def o4 (P : Params) : Obj := (Obj.mk Value.none none (Data.fields #[(Value.int (1 : Int) 0), (Value.int (0 : Int) 0), (Value.ref 20), (Value.int (7 : Int) 0), (Value.int (0 : Int) 0), (Value.ref 27), (Value.int (9 : Int) 0), (Value.int (0 : Int) 0), (Value.ref 34), (Value.int (11 : Int) 0), (Value.int (0 : Int) 0), (Value.ref 41), (Value.int (14 : Int) 0), (Value.int (0 : Int) 0), (Value.ref 48), (Value.int (26 : Int) 0), (Value.int (0 : Int) 0), (Value.ref 55)]) #[])
noncomputable def o5 (P : Params) : Obj := (Obj.mk (Value.type "tuple") none (Data.seq #[(Value.str (Str.ofString "k") 190)] 0) #[])
noncomputable def o6 (P : Params) : Obj := (fun {n p b d r t s u v q} (_ : (stm 0) = Stmt.FunctionDef n p b d r t s u v q) => (Obj.mk Value.none none (Data.func (FuncData.mk (Str.ofString "_wall") (Str.ofString "_wall") p (.stmts b) s 0 [] Value.none Value.none Value.none Value.none none Value.none Value.none 0)) #[])) rfl
noncomputable def o7 (P : Params) : Obj := (Obj.mk (Value.type "code") none (Data.fields #[(Value.str (Str.ofString "_wall") 187), (Value.str (Str.ofString "_wall") 188), (Value.str (Str.ofString "/claim/cut.py") 189), (Value.int (1 : Int) 0), (Value.int (1 : Int) 0), (Value.int (0 : Int) 0), (Value.int (0 : Int) 0), (Value.int (3 : Int) 0), (Value.ref 15), (Value.bool true), (Value.int (181 : Int) 0), (Value.ref 16), Value.none, (Value.ref 17), (Value.ref 18), (Value.ref 19), (Value.int (191 : Int) 0), (Value.int (1 : Int) 0), (Value.str (Str.ofString "/claim/cut.py") 192)]) #[])
noncomputable def o8 (P : Params) : Obj := (fun {n p b d r t s u v q} (_ : (stm 0) = Stmt.FunctionDef n p b d r t s u v q) => (Obj.mk (Value.type "function") none (Data.func (FuncData.mk (Str.ofString "_wall") (Str.ofString "_wall") p (.stmts b) s 3 [] Value.none Value.none Value.none (Value.str (Str.ofString "__main__") 164) none (Value.ref 20) Value.none 0)) #[])) rfl
noncomputable def o9 (P : Params) : Obj := (Obj.mk (Value.type "tuple") none (Data.seq #[(Value.str (Str.ofString "n") 203)] 0) #[])
noncomputable def o10 (P : Params) : Obj := (fun {n p b d r t s u v q} (_ : (stm 4) = Stmt.FunctionDef n p b d r t s u v q) => (Obj.mk Value.none none (Data.func (FuncData.mk (Str.ofString "wrap32") (Str.ofString "wrap32") p (.stmts b) s 0 [] Value.none Value.none Value.none Value.none none Value.none Value.none 0)) #[])) rfl
noncomputable def o11 (P : Params) : Obj := (Obj.mk (Value.type "code") none (Data.fields #[(Value.str (Str.ofString "wrap32") 200), (Value.str (Str.ofString "wrap32") 201), (Value.str (Str.ofString "/claim/cut.py") 202), (Value.int (7 : Int) 0), (Value.int (1 : Int) 0), (Value.int (0 : Int) 0), (Value.int (0 : Int) 0), (Value.int (3 : Int) 0), (Value.ref 22), (Value.bool true), (Value.int (181 : Int) 0), (Value.ref 23), Value.none, (Value.ref 24), (Value.ref 25), (Value.ref 26), (Value.int (204 : Int) 0), (Value.int (7 : Int) 0), (Value.str (Str.ofString "/claim/cut.py") 205)]) #[])
noncomputable def o12 (P : Params) : Obj := (fun {n p b d r t s u v q} (_ : (stm 4) = Stmt.FunctionDef n p b d r t s u v q) => (Obj.mk (Value.type "function") none (Data.func (FuncData.mk (Str.ofString "wrap32") (Str.ofString "wrap32") p (.stmts b) s 3 [] Value.none Value.none Value.none (Value.str (Str.ofString "outlinemill.hint_numbers") 194) none (Value.ref 27) Value.none 0)) #[])) rfl
noncomputable def o13 (P : Params) : Obj := (Obj.mk (Value.type "tuple") none (Data.seq #[(Value.str (Str.ofString "n") 210)] 0) #[])
noncomputable def o14 (P : Params) : Obj := (fun {n p b d r t s u v q} (_ : (stm 5) = Stmt.FunctionDef n p b d r t s u v q) => (Obj.mk Value.none none (Data.func (FuncData.mk (Str.ofString "floor6") (Str.ofString "floor6") p (.stmts b) s 0 [] Value.none Value.none Value.none Value.none none Value.none Value.none 0)) #[])) rfl
noncomputable def o15 (P : Params) : Obj := (Obj.mk (Value.type "code") none (Data.fields #[(Value.str (Str.ofString "floor6") 207), (Value.str (Str.ofString "floor6") 208), (Value.str (Str.ofString "/claim/cut.py") 209), (Value.int (9 : Int) 0), (Value.int (1 : Int) 0), (Value.int (0 : Int) 0), (Value.int (0 : Int) 0), (Value.int (3 : Int) 0), (Value.ref 29), (Value.bool true), (Value.int (181 : Int) 0), (Value.ref 30), Value.none, (Value.ref 31), (Value.ref 32), (Value.ref 33), (Value.int (211 : Int) 0), (Value.int (9 : Int) 0), (Value.str (Str.ofString "/claim/cut.py") 212)]) #[])
noncomputable def o16 (P : Params) : Obj := (fun {n p b d r t s u v q} (_ : (stm 5) = Stmt.FunctionDef n p b d r t s u v q) => (Obj.mk (Value.type "function") none (Data.func (FuncData.mk (Str.ofString "floor6") (Str.ofString "floor6") p (.stmts b) s 3 [] Value.none Value.none Value.none (Value.str (Str.ofString "outlinemill.hint_numbers") 194) none (Value.ref 34) Value.none 0)) #[])) rfl
noncomputable def o17 (P : Params) : Obj := (Obj.mk (Value.type "tuple") none (Data.seq #[(Value.str (Str.ofString "n") 217)] 0) #[])
noncomputable def o18 (P : Params) : Obj := (fun {n p b d r t s u v q} (_ : (stm 6) = Stmt.FunctionDef n p b d r t s u v q) => (Obj.mk Value.none none (Data.func (FuncData.mk (Str.ofString "ceiling6") (Str.ofString "ceiling6") p (.stmts b) s 0 [] Value.none Value.none Value.none Value.none none Value.none Value.none 0)) #[])) rfl
noncomputable def o19 (P : Params) : Obj := (Obj.mk (Value.type "code") none (Data.fields #[(Value.str (Str.ofString "ceiling6") 214), (Value.str (Str.ofString "ceiling6") 215), (Value.str (Str.ofString "/claim/cut.py") 216), (Value.int (11 : Int) 0), (Value.int (1 : Int) 0), (Value.int (0 : Int) 0), (Value.int (0 : Int) 0), (Value.int (3 : Int) 0), (Value.ref 36), (Value.bool true), (Value.int (181 : Int) 0), (Value.ref 37), Value.none, (Value.ref 38), (Value.ref 39), (Value.ref 40), (Value.int (218 : Int) 0), (Value.int (11 : Int) 0), (Value.str (Str.ofString "/claim/cut.py") 219)]) #[])
noncomputable def o20 (P : Params) : Obj := (fun {n p b d r t s u v q} (_ : (stm 6) = Stmt.FunctionDef n p b d r t s u v q) => (Obj.mk (Value.type "function") none (Data.func (FuncData.mk (Str.ofString "ceiling6") (Str.ofString "ceiling6") p (.stmts b) s 3 [] Value.none Value.none Value.none (Value.str (Str.ofString "outlinemill.hint_numbers") 194) none (Value.ref 41) Value.none 0)) #[])) rfl
noncomputable def o21 (P : Params) : Obj := (Obj.mk (Value.type "tuple") none (Data.seq #[(Value.str (Str.ofString "work") 226), (Value.str (Str.ofString "code") 227), (Value.str (Str.ofString "number") 228)] 0) #[])
noncomputable def o22 (P : Params) : Obj := (fun {n p b d r t s u v q} (_ : (stm 8) = Stmt.FunctionDef n p b d r t s u v q) => (Obj.mk Value.none none (Data.func (FuncData.mk (Str.ofString "do_one") (Str.ofString "do_one") p (.stmts b) s 0 [] Value.none Value.none Value.none Value.none none Value.none Value.none 0)) #[])) rfl
noncomputable def o23 (P : Params) : Obj := (Obj.mk (Value.type "code") none (Data.fields #[(Value.str (Str.ofString "do_one") 223), (Value.str (Str.ofString "do_one") 224), (Value.str (Str.ofString "/claim/cut.py") 225), (Value.int (14 : Int) 0), (Value.int (2 : Int) 0), (Value.int (0 : Int) 0), (Value.int (0 : Int) 0), (Value.int (3 : Int) 0), (Value.ref 43), (Value.bool true), (Value.int (181 : Int) 0), (Value.ref 44), Value.none, (Value.ref 45), (Value.ref 46), (Value.ref 47), (Value.int (229 : Int) 0), (Value.int (14 : Int) 0), (Value.str (Str.ofString "/claim/cut.py") 230)]) #[])
noncomputable def o24 (P : Params) : Obj := (fun {n p b d r t s u v q} (_ : (stm 8) = Stmt.FunctionDef n p b d r t s u v q) => (Obj.mk (Value.type "function") none (Data.func (FuncData.mk (Str.ofString "do_one") (Str.ofString "do_one") p (.stmts b) s 3 [] Value.none Value.none Value.none (Value.str (Str.ofString "outlinemill.hint_stack") 221) none (Value.ref 48) Value.none 0)) #[])) rfl
noncomputable def o25 (P : Params) : Obj := (Obj.mk (Value.type "tuple") none (Data.seq #[(Value.type "Exception")] 0) #[])
noncomputable def o26 (P : Params) : Obj := (Obj.mk (Value.type "builtin_function_or_method") none (Data.fields #[(Value.builtin "type.__prepare__"), (Value.type "type")]) #[])
noncomputable def o27 (P : Params) : Obj := (Obj.mk (Value.type "dict") none (Data.dict #[(DictEntry.mk (PyData.keyHash P (Str.ofString "__module__")) (Value.str (Str.ofString "__module__") 241) (Value.str (Str.ofString "outlinemill.errors") 232)), (DictEntry.mk (PyData.keyHash P (Str.ofString "__qualname__")) (Value.str (Str.ofString "__qualname__") 243) (Value.str (Str.ofString "MillError") 242)), (DictEntry.mk (PyData.keyHash P (Str.ofString "__firstlineno__")) (Value.str (Str.ofString "__firstlineno__") 245) (Value.int (26 : Int) 244)), (DictEntry.mk (PyData.keyHash P (Str.ofString "__init__")) (Value.str (Str.ofString "__init__") 253) (Value.ref 63)), (DictEntry.mk (PyData.keyHash P (Str.ofString "__static_attributes__")) (Value.str (Str.ofString "__static_attributes__") 255) (Value.ref 64))] 5) #[])
noncomputable def o28 (P : Params) : Obj := (Obj.mk Value.none none (Data.fields #[(Value.int (28 : Int) 0), (Value.int (4 : Int) 0), (Value.ref 62)]) #[])
noncomputable def o29 (P : Params) : Obj := (Obj.mk (Value.type "code") none (Data.fields #[(Value.str (Str.ofString "MillError") 236), (Value.str (Str.ofString "MillError") 237), (Value.str (Str.ofString "/claim/cut.py") 238), (Value.int (26 : Int) 0), (Value.int (0 : Int) 0), (Value.int (0 : Int) 0), (Value.int (0 : Int) 0), (Value.int (0 : Int) 0), (Value.ref 53), (Value.bool false), (Value.int (181 : Int) 0), (Value.ref 54), Value.none, Value.none, Value.none, Value.none, (Value.int (239 : Int) 0), (Value.int (26 : Int) 0), (Value.str (Str.ofString "/claim/cut.py") 240)]) #[])
noncomputable def o30 (P : Params) : Obj := (Obj.mk (Value.type "frame") none Data.plain #[(some (Value.ref 55)), (some (Value.ref 3)), (some (Value.ref 52)), none, (some (Value.str (Str.ofString "outlinemill.errors") 232)), none, (some (Value.ref 0))])
noncomputable def o31 (P : Params) : Obj := (Obj.mk (Value.type "tuple") none (Data.seq #[(Value.str (Str.ofString "self") 249), (Value.str (Str.ofString "message") 250)] 0) #[])
noncomputable def o32 (P : Params) : Obj := (fun {n p b d r t s u v q} (_ : (inC (stm 10) 0) = Stmt.FunctionDef n p b d r t s u v q) => (Obj.mk Value.none none (Data.func (FuncData.mk (Str.ofString "__init__") (Str.ofString "MillError.__init__") p (.stmts b) s 0 [] Value.none Value.none Value.none Value.none none Value.none Value.none 0)) #[])) rfl
noncomputable def o33 (P : Params) : Obj := (Obj.mk (Value.type "code") none (Data.fields #[(Value.str (Str.ofString "__init__") 246), (Value.str (Str.ofString "MillError.__init__") 247), (Value.str (Str.ofString "/claim/cut.py") 248), (Value.int (28 : Int) 0), (Value.int (2 : Int) 0), (Value.int (0 : Int) 0), (Value.int (0 : Int) 0), (Value.int (3 : Int) 0), (Value.ref 57), (Value.bool true), (Value.int (181 : Int) 0), (Value.ref 58), Value.none, (Value.ref 59), (Value.ref 60), (Value.ref 61), (Value.int (251 : Int) 0), (Value.int (28 : Int) 0), (Value.str (Str.ofString "/claim/cut.py") 252)]) #[])
noncomputable def o34 (P : Params) : Obj := (fun {n p b d r t s u v q} (_ : (inC (stm 10) 0) = Stmt.FunctionDef n p b d r t s u v q) => (Obj.mk (Value.type "function") none (Data.func (FuncData.mk (Str.ofString "__init__") (Str.ofString "MillError.__init__") p (.stmts b) s 3 [] Value.none Value.none Value.none (Value.str (Str.ofString "outlinemill.errors") 232) none (Value.ref 62) Value.none 0)) #[])) rfl
noncomputable def o35 (P : Params) : Obj := (Obj.mk (Value.type "tuple") none (Data.seq #[(Value.str (Str.ofString "message") 254)] 0) #[])
noncomputable def o36 (P : Params) : Obj := (Obj.mk (Value.type "dict") none (Data.dict #[(DictEntry.mk (PyData.keyHash P (Str.ofString "__module__")) (Value.str (Str.ofString "__module__") 241) (Value.str (Str.ofString "outlinemill.errors") 232)), (DictEntry.mk (PyData.keyHash P (Str.ofString "__firstlineno__")) (Value.str (Str.ofString "__firstlineno__") 245) (Value.int (26 : Int) 244)), (DictEntry.mk (PyData.keyHash P (Str.ofString "__init__")) (Value.str (Str.ofString "__init__") 253) (Value.ref 63)), (DictEntry.mk (PyData.keyHash P (Str.ofString "__static_attributes__")) (Value.str (Str.ofString "__static_attributes__") 255) (Value.ref 64)), (DictEntry.mk (PyData.keyHash P (Str.ofString "__weakref__")) (Value.str (Str.ofString "__weakref__") 257) (Value.ref 67)), (DictEntry.mk (PyData.keyHash P (Str.ofString "__doc__")) (Value.str (Str.ofString "__doc__") 258) Value.none)] 3) #[])
noncomputable def o37 (P : Params) : Obj := (Obj.mk (Value.type "type") none (Data.cls (ClassData.mk (Str.ofString "MillError") [(Value.type "Exception")] [(Value.ref 66), (Value.type "Exception"), (Value.type "BaseException"), (Value.type "object")] 65 (Str.ofString "MillError") true [] [] false none false)) #[(some (Value.ref 50)), none, (some (Value.str (Str.ofString "MillError") 234)), (some (Value.str (Str.ofString "MillError") 242)), (some (Value.builtin "Exception.__new__")), (some (Value.bool true))])
noncomputable def o38 (P : Params) : Obj := (Obj.mk (Value.type "getset_descriptor") none (Data.fields #[(Value.str (Str.ofString "__weakref__") 256), (Value.ref 66), (Value.builtin "ExceptionGroup.__weakref__"), Value.none]) #[])
noncomputable def o39 (P : Params) : Obj := (Obj.mk (Value.type "super") none (Data.fields #[(Value.ref 66), (Value.ref 66), (Value.ref 66)]) #[])
noncomputable def o40 (P : Params) : Obj := (Obj.mk (Value.type "builtin_function_or_method") none (Data.fields #[(Value.builtin "object.__init_subclass__"), (Value.ref 66)]) #[])
noncomputable def o41 (P : Params) : Obj := (Obj.mk (Value.type "dict") none (Data.dict #[(DictEntry.mk (PyData.keyHash P (Str.ofString "__name__")) (Value.str (Str.ofString "__name__") 165) (Value.str (Str.ofString "outlinemill.hint_state") 332)), (DictEntry.mk (PyData.keyHash P (Str.ofString "__doc__")) (Value.str (Str.ofString "__doc__") 166) Value.none), (DictEntry.mk (PyData.keyHash P (Str.ofString "__package__")) (Value.str (Str.ofString "__package__") 167) Value.none), (DictEntry.mk (PyData.keyHash P (Str.ofString "__loader__")) (Value.str (Str.ofString "__loader__") 168) (ldr0 P)), (DictEntry.mk (PyData.keyHash P (Str.ofString "__spec__")) (Value.str (Str.ofString "__spec__") 169) Value.none), (DictEntry.mk (PyData.keyHash P (Str.ofString "__annotations__")) (Value.str (Str.ofString "__annotations__") 170) (Value.ref 6)), (DictEntry.mk (PyData.keyHash P (Str.ofString "__builtins__")) (Value.str (Str.ofString "__builtins__") 171) (Value.ref 4)), (DictEntry.mk (PyData.keyHash P (Str.ofString "__file__")) (Value.str (Str.ofString "__file__") 173) (Value.str (Str.ofString "/claim/cut.py") 172)), (DictEntry.mk (PyData.keyHash P (Str.ofString "__cached__")) (Value.str (Str.ofString "__cached__") 174) Value.none), (DictEntry.mk (PyData.keyHash P (Str.ofString "_wall")) (Value.str (Str.ofString "_wall") 193) (Value.ref 21)), (DictEntry.mk (PyData.keyHash P (Str.ofString "ONE14")) (Value.str (Str.ofString "ONE14") 197) (Value.int (16384 : Int) 196)), (DictEntry.mk (PyData.keyHash P (Str.ofString "ONE6")) (Value.str (Str.ofString "ONE6") 199) (Value.int (64 : Int) 198)), (DictEntry.mk (PyData.keyHash P (Str.ofString "wrap32")) (Value.str (Str.ofString "wrap32") 206) (Value.ref 28)), (DictEntry.mk (PyData.keyHash P (Str.ofString "floor6")) (Value.str (Str.ofString "floor6") 213) (Value.ref 35)), (DictEntry.mk (PyData.keyHash P (Str.ofString "ceiling6")) (Value.str (Str.ofString "ceiling6") 220) (Value.ref 42)), (DictEntry.mk (PyData.keyHash P (Str.ofString "do_one")) (Value.str (Str.ofString "do_one") 231) (Value.ref 49)), (DictEntry.mk (PyData.keyHash P (Str.ofString "MillError")) (Value.str (Str.ofString "MillError") 262) (Value.ref 66)), (DictEntry.mk (PyData.keyHash P (Str.ofString "HintFault")) (Value.str (Str.ofString "HintFault") 278) (Value.ref 79)), (DictEntry.mk (PyData.keyHash P (Str.ofString "Rounding")) (Value.str (Str.ofString "Rounding") 320) (Value.ref 105)), (DictEntry.mk (PyData.keyHash P (Str.ofString "named")) (Value.str (Str.ofString "named") 331) (Value.ref 116))] 20) #[])
noncomputable def o42 (P : Params) : Obj := (Obj.mk Value.none none (Data.fields #[(Value.int (1 : Int) 0), (Value.int (0 : Int) 0), (Value.ref 20), (Value.int (7 : Int) 0), (Value.int (0 : Int) 0), (Value.ref 27), (Value.int (9 : Int) 0), (Value.int (0 : Int) 0), (Value.ref 34), (Value.int (11 : Int) 0), (Value.int (0 : Int) 0), (Value.ref 41), (Value.int (14 : Int) 0), (Value.int (0 : Int) 0), (Value.ref 48), (Value.int (26 : Int) 0), (Value.int (0 : Int) 0), (Value.ref 55), (Value.int (30 : Int) 0), (Value.int (0 : Int) 0), (Value.ref 75), (Value.int (33 : Int) 0), (Value.int (0 : Int) 0), (Value.ref 87), (Value.int (42 : Int) 0), (Value.int (0 : Int) 0), (Value.ref 115)]) #[])
noncomputable def o43 (P : Params) : Obj := (Obj.mk (Value.type "type") none (Data.cls (ClassData.mk (Str.ofString "MillError") [(Value.type "Exception")] [(Value.ref 66), (Value.type "Exception"), (Value.type "BaseException"), (Value.type "object")] 65 (Str.ofString "MillError") true [] [(Value.ref 79)] false none false)) #[(some (Value.ref 50)), none, (some (Value.str (Str.ofString "MillError") 234)), (some (Value.str (Str.ofString "MillError") 242)), (some (Value.builtin "Exception.__new__")), (some (Value.bool true))])
noncomputable def o44 (P : Params) : Obj := (Obj.mk (Value.type "tuple") none (Data.seq #[(Value.ref 66)] 0) #[])
noncomputable def o45 (P : Params) : Obj := (Obj.mk (Value.type "dict") none (Data.dict #[(DictEntry.mk (PyData.keyHash P (Str.ofString "__module__")) (Value.str (Str.ofString "__module__") 270) (Value.str (Str.ofString "outlinemill.errors") 232)), (DictEntry.mk (PyData.keyHash P (Str.ofString "__qualname__")) (Value.str (Str.ofString "__qualname__") 272) (Value.str (Str.ofString "HintFault") 271)), (DictEntry.mk (PyData.keyHash P (Str.ofString "__firstlineno__")) (Value.str (Str.ofString "__firstlineno__") 274) (Value.int (30 : Int) 273)), (DictEntry.mk (PyData.keyHash P (Str.ofString "__static_attributes__")) (Value.str (Str.ofString "__static_attributes__") 275) (Value.ref 77))] 4) #[])
noncomputable def o46 (P : Params) : Obj := (Obj.mk (Value.type "code") none (Data.fields #[(Value.str (Str.ofString "HintFault") 265), (Value.str (Str.ofString "HintFault") 266), (Value.str (Str.ofString "/claim/cut.py") 267), (Value.int (30 : Int) 0), (Value.int (0 : Int) 0), (Value.int (0 : Int) 0), (Value.int (0 : Int) 0), (Value.int (0 : Int) 0), (Value.ref 73), (Value.bool false), (Value.int (181 : Int) 0), (Value.ref 74), Value.none, Value.none, Value.none, Value.none, (Value.int (268 : Int) 0), (Value.int (30 : Int) 0), (Value.str (Str.ofString "/claim/cut.py") 269)]) #[])
noncomputable def o47 (P : Params) : Obj := (Obj.mk (Value.type "frame") none Data.plain #[(some (Value.ref 75)), (some (Value.ref 3)), (some (Value.ref 72)), none, (some (Value.str (Str.ofString "outlinemill.errors") 232)), none, (some (Value.ref 0))])
noncomputable def o48 (P : Params) : Obj := (Obj.mk (Value.type "dict") none (Data.dict #[(DictEntry.mk (PyData.keyHash P (Str.ofString "__module__")) (Value.str (Str.ofString "__module__") 270) (Value.str (Str.ofString "outlinemill.errors") 232)), (DictEntry.mk (PyData.keyHash P (Str.ofString "__firstlineno__")) (Value.str (Str.ofString "__firstlineno__") 274) (Value.int (30 : Int) 273)), (DictEntry.mk (PyData.keyHash P (Str.ofString "__static_attributes__")) (Value.str (Str.ofString "__static_attributes__") 275) (Value.ref 77)), (DictEntry.mk (PyData.keyHash P (Str.ofString "__doc__")) (Value.str (Str.ofString "__doc__") 276) Value.none)] 2) #[])
noncomputable def o49 (P : Params) : Obj := (Obj.mk (Value.type "type") none (Data.cls (ClassData.mk (Str.ofString "HintFault") [(Value.ref 66)] [(Value.ref 79), (Value.ref 66), (Value.type "Exception"), (Value.type "BaseException"), (Value.type "object")] 78 (Str.ofString "HintFault") true [] [] false none false)) #[(some (Value.ref 70)), none, (some (Value.str (Str.ofString "HintFault") 263)), (some (Value.str (Str.ofString "HintFault") 271)), (some (Value.builtin "Exception.__new__")), (some (Value.bool true))])
noncomputable def o50 (P : Params) : Obj := (Obj.mk (Value.type "super") none (Data.fields #[(Value.ref 79), (Value.ref 79), (Value.ref 79)]) #[])
noncomputable def o51 (P : Params) : Obj := (Obj.mk (Value.type "builtin_function_or_method") none (Data.fields #[(Value.builtin "object.__init_subclass__"), (Value.ref 79)]) #[])
noncomputable def o52 (P : Params) : Obj := (Obj.mk (Value.type "dict") none (Data.dict #[(DictEntry.mk (PyData.keyHash P (Str.ofString "__module__")) (Value.str (Str.ofString "__module__") 288) (Value.str (Str.ofString "outlinemill.hint_rounds") 279)), (DictEntry.mk (PyData.keyHash P (Str.ofString "__qualname__")) (Value.str (Str.ofString "__qualname__") 290) (Value.str (Str.ofString "Rounding") 289)), (DictEntry.mk (PyData.keyHash P (Str.ofString "__firstlineno__")) (Value.str (Str.ofString "__firstlineno__") 292) (Value.int (33 : Int) 291)), (DictEntry.mk (PyData.keyHash P (Str.ofString "__init__")) (Value.str (Str.ofString "__init__") 302) (Value.ref 95)), (DictEntry.mk (PyData.keyHash P (Str.ofString "row")) (Value.str (Str.ofString "row") 309) (Value.ref 102)), (DictEntry.mk (PyData.keyHash P (Str.ofString "__static_attributes__")) (Value.str (Str.ofString "__static_attributes__") 313) (Value.ref 103))] 6) #[])
noncomputable def o53 (P : Params) : Obj := (Obj.mk Value.none none (Data.fields #[(Value.int (35 : Int) 0), (Value.int (4 : Int) 0), (Value.ref 94), (Value.int (40 : Int) 0), (Value.int (4 : Int) 0), (Value.ref 101)]) #[])
noncomputable def o54 (P : Params) : Obj := (Obj.mk (Value.type "code") none (Data.fields #[(Value.str (Str.ofString "Rounding") 283), (Value.str (Str.ofString "Rounding") 284), (Value.str (Str.ofString "/claim/cut.py") 285), (Value.int (33 : Int) 0), (Value.int (0 : Int) 0), (Value.int (0 : Int) 0), (Value.int (0 : Int) 0), (Value.int (0 : Int) 0), (Value.ref 85), (Value.bool false), (Value.int (181 : Int) 0), (Value.ref 86), Value.none, Value.none, Value.none, Value.none, (Value.int (286 : Int) 0), (Value.int (33 : Int) 0), (Value.str (Str.ofString "/claim/cut.py") 287)]) #[])
noncomputable def o55 (P : Params) : Obj := (Obj.mk (Value.type "frame") none Data.plain #[(some (Value.ref 87)), (some (Value.ref 3)), (some (Value.ref 84)), none, (some (Value.str (Str.ofString "outlinemill.hint_rounds") 279)), none, (some (Value.ref 0))])
noncomputable def o56 (P : Params) : Obj := (Obj.mk (Value.type "tuple") none (Data.seq #[(Value.str (Str.ofString "self") 296), (Value.str (Str.ofString "period") 297), (Value.str (Str.ofString "phase") 298), (Value.str (Str.ofString "threshold") 299)] 0) #[])
noncomputable def o57 (P : Params) : Obj := (fun {n p b d r t s u v q} (_ : (inC (stm 13) 0) = Stmt.FunctionDef n p b d r t s u v q) => (Obj.mk Value.none none (Data.func (FuncData.mk (Str.ofString "__init__") (Str.ofString "Rounding.__init__") p (.stmts b) s 0 [] Value.none Value.none Value.none Value.none none Value.none Value.none 0)) #[])) rfl
noncomputable def o58 (P : Params) : Obj := (Obj.mk (Value.type "code") none (Data.fields #[(Value.str (Str.ofString "__init__") 293), (Value.str (Str.ofString "Rounding.__init__") 294), (Value.str (Str.ofString "/claim/cut.py") 295), (Value.int (35 : Int) 0), (Value.int (4 : Int) 0), (Value.int (0 : Int) 0), (Value.int (0 : Int) 0), (Value.int (3 : Int) 0), (Value.ref 89), (Value.bool true), (Value.int (181 : Int) 0), (Value.ref 90), Value.none, (Value.ref 91), (Value.ref 92), (Value.ref 93), (Value.int (300 : Int) 0), (Value.int (35 : Int) 0), (Value.str (Str.ofString "/claim/cut.py") 301)]) #[])
noncomputable def o59 (P : Params) : Obj := (fun {n p b d r t s u v q} (_ : (inC (stm 13) 0) = Stmt.FunctionDef n p b d r t s u v q) => (Obj.mk (Value.type "function") none (Data.func (FuncData.mk (Str.ofString "__init__") (Str.ofString "Rounding.__init__") p (.stmts b) s 3 [] Value.none Value.none Value.none (Value.str (Str.ofString "outlinemill.hint_rounds") 279) none (Value.ref 94) Value.none 0)) #[])) rfl
noncomputable def o60 (P : Params) : Obj := (Obj.mk (Value.type "tuple") none (Data.seq #[(Value.str (Str.ofString "self") 306)] 0) #[])
noncomputable def o61 (P : Params) : Obj := (fun {n p b d r t s u v q} (_ : (inC (stm 13) 1) = Stmt.FunctionDef n p b d r t s u v q) => (Obj.mk Value.none none (Data.func (FuncData.mk (Str.ofString "row") (Str.ofString "Rounding.row") p (.stmts b) s 0 [] Value.none Value.none Value.none Value.none none Value.none Value.none 0)) #[])) rfl
noncomputable def o62 (P : Params) : Obj := (Obj.mk (Value.type "code") none (Data.fields #[(Value.str (Str.ofString "row") 303), (Value.str (Str.ofString "Rounding.row") 304), (Value.str (Str.ofString "/claim/cut.py") 305), (Value.int (40 : Int) 0), (Value.int (1 : Int) 0), (Value.int (0 : Int) 0), (Value.int (0 : Int) 0), (Value.int (3 : Int) 0), (Value.ref 96), (Value.bool true), (Value.int (181 : Int) 0), (Value.ref 97), Value.none, (Value.ref 98), (Value.ref 99), (Value.ref 100), (Value.int (307 : Int) 0), (Value.int (40 : Int) 0), (Value.str (Str.ofString "/claim/cut.py") 308)]) #[])
noncomputable def o63 (P : Params) : Obj := (fun {n p b d r t s u v q} (_ : (inC (stm 13) 1) = Stmt.FunctionDef n p b d r t s u v q) => (Obj.mk (Value.type "function") none (Data.func (FuncData.mk (Str.ofString "row") (Str.ofString "Rounding.row") p (.stmts b) s 3 [] Value.none Value.none Value.none (Value.str (Str.ofString "outlinemill.hint_rounds") 279) none (Value.ref 101) Value.none 0)) #[])) rfl
noncomputable def o64 (P : Params) : Obj := (Obj.mk (Value.type "tuple") none (Data.seq #[(Value.str (Str.ofString "period") 310), (Value.str (Str.ofString "phase") 311), (Value.str (Str.ofString "threshold") 312)] 0) #[])
noncomputable def o65 (P : Params) : Obj := (Obj.mk (Value.type "dict") none (Data.dict #[(DictEntry.mk (PyData.keyHash P (Str.ofString "__module__")) (Value.str (Str.ofString "__module__") 288) (Value.str (Str.ofString "outlinemill.hint_rounds") 279)), (DictEntry.mk (PyData.keyHash P (Str.ofString "__firstlineno__")) (Value.str (Str.ofString "__firstlineno__") 292) (Value.int (33 : Int) 291)), (DictEntry.mk (PyData.keyHash P (Str.ofString "__init__")) (Value.str (Str.ofString "__init__") 302) (Value.ref 95)), (DictEntry.mk (PyData.keyHash P (Str.ofString "row")) (Value.str (Str.ofString "row") 309) (Value.ref 102)), (DictEntry.mk (PyData.keyHash P (Str.ofString "__static_attributes__")) (Value.str (Str.ofString "__static_attributes__") 313) (Value.ref 103)), (DictEntry.mk (PyData.keyHash P (Str.ofString "__dict__")) (Value.str (Str.ofString "__dict__") 315) (Value.ref 106)), (DictEntry.mk (PyData.keyHash P (Str.ofString "__weakref__")) (Value.str (Str.ofString "__weakref__") 317) (Value.ref 107)), (DictEntry.mk (PyData.keyHash P (Str.ofString "__doc__")) (Value.str (Str.ofString "__doc__") 318) Value.none)] 4) #[])
noncomputable def o66 (P : Params) : Obj := (Obj.mk (Value.type "type") none (Data.cls (ClassData.mk (Str.ofString "Rounding") [(Value.type "object")] [(Value.ref 105), (Value.type "object")] 104 (Str.ofString "Rounding") true [] [] false none false)) #[none, none, (some (Value.str (Str.ofString "Rounding") 281)), (some (Value.str (Str.ofString "Rounding") 289)), (some (Value.builtin "object.__new__")), (some (Value.bool true))])
noncomputable def o67 (P : Params) : Obj := (Obj.mk (Value.type "getset_descriptor") none (Data.fields #[(Value.str (Str.ofString "__dict__") 314), (Value.ref 105), (Value.builtin "function.__dict__"), (Value.builtin "function.__dict__#set")]) #[])
noncomputable def o68 (P : Params) : Obj := (Obj.mk (Value.type "getset_descriptor") none (Data.fields #[(Value.str (Str.ofString "__weakref__") 316), (Value.ref 105), (Value.builtin "ExceptionGroup.__weakref__"), Value.none]) #[])
noncomputable def o69 (P : Params) : Obj := (Obj.mk (Value.type "super") none (Data.fields #[(Value.ref 105), (Value.ref 105), (Value.ref 105)]) #[])
noncomputable def o70 (P : Params) : Obj := (Obj.mk (Value.type "builtin_function_or_method") none (Data.fields #[(Value.builtin "object.__init_subclass__"), (Value.ref 105)]) #[])
noncomputable def o71 (P : Params) : Obj := (Obj.mk (Value.type "tuple") none (Data.seq #[(Value.str (Str.ofString "word") 324), (Value.str (Str.ofString "rows") 325), (Value.str (Str.ofString "period") 326), (Value.str (Str.ofString "phase") 327), (Value.str (Str.ofString "threshold") 328)] 0) #[])
noncomputable def o72 (P : Params) : Obj := (fun {n p b d r t s u v q} (_ : (stm 14) = Stmt.FunctionDef n p b d r t s u v q) => (Obj.mk Value.none none (Data.func (FuncData.mk (Str.ofString "named") (Str.ofString "named") p (.stmts b) s 0 [] Value.none Value.none Value.none Value.none none Value.none Value.none 0)) #[])) rfl
noncomputable def o73 (P : Params) : Obj := (Obj.mk (Value.type "code") none (Data.fields #[(Value.str (Str.ofString "named") 321), (Value.str (Str.ofString "named") 322), (Value.str (Str.ofString "/claim/cut.py") 323), (Value.int (42 : Int) 0), (Value.int (1 : Int) 0), (Value.int (0 : Int) 0), (Value.int (0 : Int) 0), (Value.int (3 : Int) 0), (Value.ref 110), (Value.bool true), (Value.int (181 : Int) 0), (Value.ref 111), Value.none, (Value.ref 112), (Value.ref 113), (Value.ref 114), (Value.int (329 : Int) 0), (Value.int (42 : Int) 0), (Value.str (Str.ofString "/claim/cut.py") 330)]) #[])
noncomputable def o74 (P : Params) : Obj := (fun {n p b d r t s u v q} (_ : (stm 14) = Stmt.FunctionDef n p b d r t s u v q) => (Obj.mk (Value.type "function") none (Data.func (FuncData.mk (Str.ofString "named") (Str.ofString "named") p (.stmts b) s 3 [] Value.none Value.none Value.none (Value.str (Str.ofString "outlinemill.hint_rounds") 279) none (Value.ref 115) Value.none 0)) #[])) rfl
noncomputable def o75 (P : Params) : Obj := (Obj.mk (Value.type "dict") none (Data.dict #[(DictEntry.mk (PyData.keyHash P (Str.ofString "__name__")) (Value.str (Str.ofString "__name__") 165) (Value.str (Str.ofString "outlinemill.hint_work") 411)), (DictEntry.mk (PyData.keyHash P (Str.ofString "__doc__")) (Value.str (Str.ofString "__doc__") 166) Value.none), (DictEntry.mk (PyData.keyHash P (Str.ofString "__package__")) (Value.str (Str.ofString "__package__") 167) Value.none), (DictEntry.mk (PyData.keyHash P (Str.ofString "__loader__")) (Value.str (Str.ofString "__loader__") 168) (ldr0 P)), (DictEntry.mk (PyData.keyHash P (Str.ofString "__spec__")) (Value.str (Str.ofString "__spec__") 169) Value.none), (DictEntry.mk (PyData.keyHash P (Str.ofString "__annotations__")) (Value.str (Str.ofString "__annotations__") 170) (Value.ref 6)), (DictEntry.mk (PyData.keyHash P (Str.ofString "__builtins__")) (Value.str (Str.ofString "__builtins__") 171) (Value.ref 4)), (DictEntry.mk (PyData.keyHash P (Str.ofString "__file__")) (Value.str (Str.ofString "__file__") 173) (Value.str (Str.ofString "/claim/cut.py") 172)), (DictEntry.mk (PyData.keyHash P (Str.ofString "__cached__")) (Value.str (Str.ofString "__cached__") 174) Value.none), (DictEntry.mk (PyData.keyHash P (Str.ofString "_wall")) (Value.str (Str.ofString "_wall") 193) (Value.ref 21)), (DictEntry.mk (PyData.keyHash P (Str.ofString "ONE14")) (Value.str (Str.ofString "ONE14") 197) (Value.int (16384 : Int) 196)), (DictEntry.mk (PyData.keyHash P (Str.ofString "ONE6")) (Value.str (Str.ofString "ONE6") 199) (Value.int (64 : Int) 198)), (DictEntry.mk (PyData.keyHash P (Str.ofString "wrap32")) (Value.str (Str.ofString "wrap32") 206) (Value.ref 28)), (DictEntry.mk (PyData.keyHash P (Str.ofString "floor6")) (Value.str (Str.ofString "floor6") 213) (Value.ref 35)), (DictEntry.mk (PyData.keyHash P (Str.ofString "ceiling6")) (Value.str (Str.ofString "ceiling6") 220) (Value.ref 42)), (DictEntry.mk (PyData.keyHash P (Str.ofString "do_one")) (Value.str (Str.ofString "do_one") 231) (Value.ref 49)), (DictEntry.mk (PyData.keyHash P (Str.ofString "MillError")) (Value.str (Str.ofString "MillError") 262) (Value.ref 66)), (DictEntry.mk (PyData.keyHash P (Str.ofString "HintFault")) (Value.str (Str.ofString "HintFault") 278) (Value.ref 79)), (DictEntry.mk (PyData.keyHash P (Str.ofString "Rounding")) (Value.str (Str.ofString "Rounding") 320) (Value.ref 105)), (DictEntry.mk (PyData.keyHash P (Str.ofString "named")) (Value.str (Str.ofString "named") 331) (Value.ref 116)), (DictEntry.mk (PyData.keyHash P (Str.ofString "GraphicsState")) (Value.str (Str.ofString "GraphicsState") 410) (Value.ref 161))] 21) #[])
noncomputable def o76 (P : Params) : Obj := (Obj.mk Value.none none (Data.fields #[(Value.int (1 : Int) 0), (Value.int (0 : Int) 0), (Value.ref 20), (Value.int (7 : Int) 0), (Value.int (0 : Int) 0), (Value.ref 27), (Value.int (9 : Int) 0), (Value.int (0 : Int) 0), (Value.ref 34), (Value.int (11 : Int) 0), (Value.int (0 : Int) 0), (Value.ref 41), (Value.int (14 : Int) 0), (Value.int (0 : Int) 0), (Value.ref 48), (Value.int (26 : Int) 0), (Value.int (0 : Int) 0), (Value.ref 55), (Value.int (30 : Int) 0), (Value.int (0 : Int) 0), (Value.ref 75), (Value.int (33 : Int) 0), (Value.int (0 : Int) 0), (Value.ref 87), (Value.int (42 : Int) 0), (Value.int (0 : Int) 0), (Value.ref 115), (Value.int (49 : Int) 0), (Value.int (0 : Int) 0), (Value.ref 122)]) #[])
noncomputable def o77 (P : Params) : Obj := (Obj.mk (Value.type "dict") none (Data.dict #[(DictEntry.mk (PyData.keyHash P (Str.ofString "__module__")) (Value.str (Str.ofString "__module__") 341) (Value.str (Str.ofString "outlinemill.hint_state") 332)), (DictEntry.mk (PyData.keyHash P (Str.ofString "__qualname__")) (Value.str (Str.ofString "__qualname__") 343) (Value.str (Str.ofString "GraphicsState") 342)), (DictEntry.mk (PyData.keyHash P (Str.ofString "__firstlineno__")) (Value.str (Str.ofString "__firstlineno__") 345) (Value.int (49 : Int) 344)), (DictEntry.mk (PyData.keyHash P (Str.ofString "__init__")) (Value.str (Str.ofString "__init__") 352) (Value.ref 130)), (DictEntry.mk (PyData.keyHash P (Str.ofString "free_dot")) (Value.str (Str.ofString "free_dot") 359) (Value.ref 137)), (DictEntry.mk (PyData.keyHash P (Str.ofString "projected")) (Value.str (Str.ofString "projected") 368) (Value.ref 144)), (DictEntry.mk (PyData.keyHash P (Str.ofString "dual_projected")) (Value.str (Str.ofString "dual_projected") 377) (Value.ref 151)), (DictEntry.mk (PyData.keyHash P (Str.ofString "row")) (Value.str (Str.ofString "row") 384) (Value.ref 158)), (DictEntry.mk (PyData.keyHash P (Str.ofString "__static_attributes__")) (Value.str (Str.ofString "__static_attributes__") 403) (Value.ref 159))] 9) #[])
noncomputable def o78 (P : Params) : Obj := (Obj.mk Value.none none (Data.fields #[(Value.int (51 : Int) 0), (Value.int (4 : Int) 0), (Value.ref 129), (Value.int (71 : Int) 0), (Value.int (4 : Int) 0), (Value.ref 136), (Value.int (74 : Int) 0), (Value.int (4 : Int) 0), (Value.ref 143), (Value.int (77 : Int) 0), (Value.int (4 : Int) 0), (Value.ref 150), (Value.int (80 : Int) 0), (Value.int (4 : Int) 0), (Value.ref 157)]) #[])
noncomputable def o79 (P : Params) : Obj := (Obj.mk (Value.type "code") none (Data.fields #[(Value.str (Str.ofString "GraphicsState") 336), (Value.str (Str.ofString "GraphicsState") 337), (Value.str (Str.ofString "/claim/cut.py") 338), (Value.int (49 : Int) 0), (Value.int (0 : Int) 0), (Value.int (0 : Int) 0), (Value.int (0 : Int) 0), (Value.int (0 : Int) 0), (Value.ref 120), (Value.bool false), (Value.int (181 : Int) 0), (Value.ref 121), Value.none, Value.none, Value.none, Value.none, (Value.int (339 : Int) 0), (Value.int (49 : Int) 0), (Value.str (Str.ofString "/claim/cut.py") 340)]) #[])
noncomputable def o80 (P : Params) : Obj := (Obj.mk (Value.type "frame") none Data.plain #[(some (Value.ref 122)), (some (Value.ref 3)), (some (Value.ref 119)), none, (some (Value.str (Str.ofString "outlinemill.hint_state") 332)), none, (some (Value.ref 0))])
noncomputable def o81 (P : Params) : Obj := (Obj.mk (Value.type "tuple") none (Data.seq #[(Value.str (Str.ofString "self") 349)] 0) #[])
noncomputable def o82 (P : Params) : Obj := (fun {n p b d r t s u v q} (_ : (inC (stm 16) 0) = Stmt.FunctionDef n p b d r t s u v q) => (Obj.mk Value.none none (Data.func (FuncData.mk (Str.ofString "__init__") (Str.ofString "GraphicsState.__init__") p (.stmts b) s 0 [] Value.none Value.none Value.none Value.none none Value.none Value.none 0)) #[])) rfl
noncomputable def o83 (P : Params) : Obj := (Obj.mk (Value.type "code") none (Data.fields #[(Value.str (Str.ofString "__init__") 346), (Value.str (Str.ofString "GraphicsState.__init__") 347), (Value.str (Str.ofString "/claim/cut.py") 348), (Value.int (51 : Int) 0), (Value.int (1 : Int) 0), (Value.int (0 : Int) 0), (Value.int (0 : Int) 0), (Value.int (3 : Int) 0), (Value.ref 124), (Value.bool true), (Value.int (181 : Int) 0), (Value.ref 125), Value.none, (Value.ref 126), (Value.ref 127), (Value.ref 128), (Value.int (350 : Int) 0), (Value.int (51 : Int) 0), (Value.str (Str.ofString "/claim/cut.py") 351)]) #[])
noncomputable def o84 (P : Params) : Obj := (fun {n p b d r t s u v q} (_ : (inC (stm 16) 0) = Stmt.FunctionDef n p b d r t s u v q) => (Obj.mk (Value.type "function") none (Data.func (FuncData.mk (Str.ofString "__init__") (Str.ofString "GraphicsState.__init__") p (.stmts b) s 3 [] Value.none Value.none Value.none (Value.str (Str.ofString "outlinemill.hint_state") 332) none (Value.ref 129) Value.none 0)) #[])) rfl
noncomputable def o85 (P : Params) : Obj := (Obj.mk (Value.type "tuple") none (Data.seq #[(Value.str (Str.ofString "self") 356)] 0) #[])
noncomputable def o86 (P : Params) : Obj := (fun {n p b d r t s u v q} (_ : (inC (stm 16) 1) = Stmt.FunctionDef n p b d r t s u v q) => (Obj.mk Value.none none (Data.func (FuncData.mk (Str.ofString "free_dot") (Str.ofString "GraphicsState.free_dot") p (.stmts b) s 0 [] Value.none Value.none Value.none Value.none none Value.none Value.none 0)) #[])) rfl
noncomputable def o87 (P : Params) : Obj := (Obj.mk (Value.type "code") none (Data.fields #[(Value.str (Str.ofString "free_dot") 353), (Value.str (Str.ofString "GraphicsState.free_dot") 354), (Value.str (Str.ofString "/claim/cut.py") 355), (Value.int (71 : Int) 0), (Value.int (1 : Int) 0), (Value.int (0 : Int) 0), (Value.int (0 : Int) 0), (Value.int (3 : Int) 0), (Value.ref 131), (Value.bool true), (Value.int (181 : Int) 0), (Value.ref 132), Value.none, (Value.ref 133), (Value.ref 134), (Value.ref 135), (Value.int (357 : Int) 0), (Value.int (71 : Int) 0), (Value.str (Str.ofString "/claim/cut.py") 358)]) #[])
noncomputable def o88 (P : Params) : Obj := (fun {n p b d r t s u v q} (_ : (inC (stm 16) 1) = Stmt.FunctionDef n p b d r t s u v q) => (Obj.mk (Value.type "function") none (Data.func (FuncData.mk (Str.ofString "free_dot") (Str.ofString "GraphicsState.free_dot") p (.stmts b) s 3 [] Value.none Value.none Value.none (Value.str (Str.ofString "outlinemill.hint_state") 332) none (Value.ref 136) Value.none 0)) #[])) rfl
noncomputable def o89 (P : Params) : Obj := (Obj.mk (Value.type "tuple") none (Data.seq #[(Value.str (Str.ofString "self") 363), (Value.str (Str.ofString "dx") 364), (Value.str (Str.ofString "dy") 365)] 0) #[])
noncomputable def o90 (P : Params) : Obj := (fun {n p b d r t s u v q} (_ : (inC (stm 16) 2) = Stmt.FunctionDef n p b d r t s u v q) => (Obj.mk Value.none none (Data.func (FuncData.mk (Str.ofString "projected") (Str.ofString "GraphicsState.projected") p (.stmts b) s 0 [] Value.none Value.none Value.none Value.none none Value.none Value.none 0)) #[])) rfl
noncomputable def o91 (P : Params) : Obj := (Obj.mk (Value.type "code") none (Data.fields #[(Value.str (Str.ofString "projected") 360), (Value.str (Str.ofString "GraphicsState.projected") 361), (Value.str (Str.ofString "/claim/cut.py") 362), (Value.int (74 : Int) 0), (Value.int (3 : Int) 0), (Value.int (0 : Int) 0), (Value.int (0 : Int) 0), (Value.int (3 : Int) 0), (Value.ref 138), (Value.bool true), (Value.int (181 : Int) 0), (Value.ref 139), Value.none, (Value.ref 140), (Value.ref 141), (Value.ref 142), (Value.int (366 : Int) 0), (Value.int (74 : Int) 0), (Value.str (Str.ofString "/claim/cut.py") 367)]) #[])
noncomputable def o92 (P : Params) : Obj := (fun {n p b d r t s u v q} (_ : (inC (stm 16) 2) = Stmt.FunctionDef n p b d r t s u v q) => (Obj.mk (Value.type "function") none (Data.func (FuncData.mk (Str.ofString "projected") (Str.ofString "GraphicsState.projected") p (.stmts b) s 3 [] Value.none Value.none Value.none (Value.str (Str.ofString "outlinemill.hint_state") 332) none (Value.ref 143) Value.none 0)) #[])) rfl
noncomputable def o93 (P : Params) : Obj := (Obj.mk (Value.type "tuple") none (Data.seq #[(Value.str (Str.ofString "self") 372), (Value.str (Str.ofString "dx") 373), (Value.str (Str.ofString "dy") 374)] 0) #[])
noncomputable def o94 (P : Params) : Obj := (fun {n p b d r t s u v q} (_ : (inC (stm 16) 3) = Stmt.FunctionDef n p b d r t s u v q) => (Obj.mk Value.none none (Data.func (FuncData.mk (Str.ofString "dual_projected") (Str.ofString "GraphicsState.dual_projected") p (.stmts b) s 0 [] Value.none Value.none Value.none Value.none none Value.none Value.none 0)) #[])) rfl
noncomputable def o95 (P : Params) : Obj := (Obj.mk (Value.type "code") none (Data.fields #[(Value.str (Str.ofString "dual_projected") 369), (Value.str (Str.ofString "GraphicsState.dual_projected") 370), (Value.str (Str.ofString "/claim/cut.py") 371), (Value.int (77 : Int) 0), (Value.int (3 : Int) 0), (Value.int (0 : Int) 0), (Value.int (0 : Int) 0), (Value.int (3 : Int) 0), (Value.ref 145), (Value.bool true), (Value.int (181 : Int) 0), (Value.ref 146), Value.none, (Value.ref 147), (Value.ref 148), (Value.ref 149), (Value.int (375 : Int) 0), (Value.int (77 : Int) 0), (Value.str (Str.ofString "/claim/cut.py") 376)]) #[])
noncomputable def o96 (P : Params) : Obj := (fun {n p b d r t s u v q} (_ : (inC (stm 16) 3) = Stmt.FunctionDef n p b d r t s u v q) => (Obj.mk (Value.type "function") none (Data.func (FuncData.mk (Str.ofString "dual_projected") (Str.ofString "GraphicsState.dual_projected") p (.stmts b) s 3 [] Value.none Value.none Value.none (Value.str (Str.ofString "outlinemill.hint_state") 332) none (Value.ref 150) Value.none 0)) #[])) rfl
noncomputable def o97 (P : Params) : Obj := (Obj.mk (Value.type "tuple") none (Data.seq #[(Value.str (Str.ofString "self") 381)] 0) #[])
noncomputable def o98 (P : Params) : Obj := (fun {n p b d r t s u v q} (_ : (inC (stm 16) 4) = Stmt.FunctionDef n p b d r t s u v q) => (Obj.mk Value.none none (Data.func (FuncData.mk (Str.ofString "row") (Str.ofString "GraphicsState.row") p (.stmts b) s 0 [] Value.none Value.none Value.none Value.none none Value.none Value.none 0)) #[])) rfl
noncomputable def o99 (P : Params) : Obj := (Obj.mk (Value.type "code") none (Data.fields #[(Value.str (Str.ofString "row") 378), (Value.str (Str.ofString "GraphicsState.row") 379), (Value.str (Str.ofString "/claim/cut.py") 380), (Value.int (80 : Int) 0), (Value.int (1 : Int) 0), (Value.int (0 : Int) 0), (Value.int (0 : Int) 0), (Value.int (3 : Int) 0), (Value.ref 152), (Value.bool true), (Value.int (181 : Int) 0), (Value.ref 153), Value.none, (Value.ref 154), (Value.ref 155), (Value.ref 156), (Value.int (382 : Int) 0), (Value.int (80 : Int) 0), (Value.str (Str.ofString "/claim/cut.py") 383)]) #[])
noncomputable def o100 (P : Params) : Obj := (fun {n p b d r t s u v q} (_ : (inC (stm 16) 4) = Stmt.FunctionDef n p b d r t s u v q) => (Obj.mk (Value.type "function") none (Data.func (FuncData.mk (Str.ofString "row") (Str.ofString "GraphicsState.row") p (.stmts b) s 3 [] Value.none Value.none Value.none (Value.str (Str.ofString "outlinemill.hint_state") 332) none (Value.ref 157) Value.none 0)) #[])) rfl
noncomputable def o101 (P : Params) : Obj := (Obj.mk (Value.type "tuple") none (Data.seq #[(Value.str (Str.ofString "auto_flip") 385), (Value.str (Str.ofString "cut_in") 386), (Value.str (Str.ofString "delta_base") 387), (Value.str (Str.ofString "delta_shift") 388), (Value.str (Str.ofString "dual") 389), (Value.str (Str.ofString "freedom") 390), (Value.str (Str.ofString "loop") 391), (Value.str (Str.ofString "minimum") 392), (Value.str (Str.ofString "projection") 393), (Value.str (Str.ofString "rounding") 394), (Value.str (Str.ofString "rp0") 395), (Value.str (Str.ofString "rp1") 396), (Value.str (Str.ofString "rp2") 397), (Value.str (Str.ofString "single_cut_in") 398), (Value.str (Str.ofString "single_width") 399), (Value.str (Str.ofString "zp0") 400), (Value.str (Str.ofString "zp1") 401), (Value.str (Str.ofString "zp2") 402)] 0) #[])
noncomputable def o102 (P : Params) : Obj := (Obj.mk (Value.type "dict") none (Data.dict #[(DictEntry.mk (PyData.keyHash P (Str.ofString "__module__")) (Value.str (Str.ofString "__module__") 341) (Value.str (Str.ofString "outlinemill.hint_state") 332)), (DictEntry.mk (PyData.keyHash P (Str.ofString "__firstlineno__")) (Value.str (Str.ofString "__firstlineno__") 345) (Value.int (49 : Int) 344)), (DictEntry.mk (PyData.keyHash P (Str.ofString "__init__")) (Value.str (Str.ofString "__init__") 352) (Value.ref 130)), (DictEntry.mk (PyData.keyHash P (Str.ofString "free_dot")) (Value.str (Str.ofString "free_dot") 359) (Value.ref 137)), (DictEntry.mk (PyData.keyHash P (Str.ofString "projected")) (Value.str (Str.ofString "projected") 368) (Value.ref 144)), (DictEntry.mk (PyData.keyHash P (Str.ofString "dual_projected")) (Value.str (Str.ofString "dual_projected") 377) (Value.ref 151)), (DictEntry.mk (PyData.keyHash P (Str.ofString "row")) (Value.str (Str.ofString "row") 384) (Value.ref 158)), (DictEntry.mk (PyData.keyHash P (Str.ofString "__static_attributes__")) (Value.str (Str.ofString "__static_attributes__") 403) (Value.ref 159)), (DictEntry.mk (PyData.keyHash P (Str.ofString "__dict__")) (Value.str (Str.ofString "__dict__") 405) (Value.ref 162)), (DictEntry.mk (PyData.keyHash P (Str.ofString "__weakref__")) (Value.str (Str.ofString "__weakref__") 407) (Value.ref 163)), (DictEntry.mk (PyData.keyHash P (Str.ofString "__doc__")) (Value.str (Str.ofString "__doc__") 408) Value.none)] 4) #[])
noncomputable def o103 (P : Params) : Obj := (Obj.mk (Value.type "type") none (Data.cls (ClassData.mk (Str.ofString "GraphicsState") [(Value.type "object")] [(Value.ref 161), (Value.type "object")] 160 (Str.ofString "GraphicsState") true [] [] false none false)) #[none, none, (some (Value.str (Str.ofString "GraphicsState") 334)), (some (Value.str (Str.ofString "GraphicsState") 342)), (some (Value.builtin "object.__new__")), (some (Value.bool true))])
noncomputable def o104 (P : Params) : Obj := (Obj.mk (Value.type "getset_descriptor") none (Data.fields #[(Value.str (Str.ofString "__dict__") 404), (Value.ref 161), (Value.builtin "function.__dict__"), (Value.builtin "function.__dict__#set")]) #[])
noncomputable def o105 (P : Params) : Obj := (Obj.mk (Value.type "getset_descriptor") none (Data.fields #[(Value.str (Str.ofString "__weakref__") 406), (Value.ref 161), (Value.builtin "ExceptionGroup.__weakref__"), Value.none]) #[])
noncomputable def o106 (P : Params) : Obj := (Obj.mk (Value.type "super") none (Data.fields #[(Value.ref 161), (Value.ref 161), (Value.ref 161)]) #[])
noncomputable def o107 (P : Params) : Obj := (Obj.mk (Value.type "builtin_function_or_method") none (Data.fields #[(Value.builtin "object.__init_subclass__"), (Value.ref 161)]) #[])
noncomputable def o108 (P : Params) : Obj := (Obj.mk (Value.type "dict") none (Data.dict #[(DictEntry.mk (PyData.keyHash P (Str.ofString "__name__")) (Value.str (Str.ofString "__name__") 165) (Value.str (Str.ofString "outlinemill.hint_work") 411)), (DictEntry.mk (PyData.keyHash P (Str.ofString "__doc__")) (Value.str (Str.ofString "__doc__") 166) Value.none), (DictEntry.mk (PyData.keyHash P (Str.ofString "__package__")) (Value.str (Str.ofString "__package__") 167) Value.none), (DictEntry.mk (PyData.keyHash P (Str.ofString "__loader__")) (Value.str (Str.ofString "__loader__") 168) (ldr0 P)), (DictEntry.mk (PyData.keyHash P (Str.ofString "__spec__")) (Value.str (Str.ofString "__spec__") 169) Value.none), (DictEntry.mk (PyData.keyHash P (Str.ofString "__annotations__")) (Value.str (Str.ofString "__annotations__") 170) (Value.ref 6)), (DictEntry.mk (PyData.keyHash P (Str.ofString "__builtins__")) (Value.str (Str.ofString "__builtins__") 171) (Value.ref 4)), (DictEntry.mk (PyData.keyHash P (Str.ofString "__file__")) (Value.str (Str.ofString "__file__") 173) (Value.str (Str.ofString "/claim/cut.py") 172)), (DictEntry.mk (PyData.keyHash P (Str.ofString "__cached__")) (Value.str (Str.ofString "__cached__") 174) Value.none), (DictEntry.mk (PyData.keyHash P (Str.ofString "_wall")) (Value.str (Str.ofString "_wall") 193) (Value.ref 21)), (DictEntry.mk (PyData.keyHash P (Str.ofString "ONE14")) (Value.str (Str.ofString "ONE14") 197) (Value.int (16384 : Int) 196)), (DictEntry.mk (PyData.keyHash P (Str.ofString "ONE6")) (Value.str (Str.ofString "ONE6") 199) (Value.int (64 : Int) 198)), (DictEntry.mk (PyData.keyHash P (Str.ofString "wrap32")) (Value.str (Str.ofString "wrap32") 206) (Value.ref 28)), (DictEntry.mk (PyData.keyHash P (Str.ofString "floor6")) (Value.str (Str.ofString "floor6") 213) (Value.ref 35)), (DictEntry.mk (PyData.keyHash P (Str.ofString "ceiling6")) (Value.str (Str.ofString "ceiling6") 220) (Value.ref 42)), (DictEntry.mk (PyData.keyHash P (Str.ofString "do_one")) (Value.str (Str.ofString "do_one") 231) (Value.ref 49)), (DictEntry.mk (PyData.keyHash P (Str.ofString "MillError")) (Value.str (Str.ofString "MillError") 262) (Value.ref 66)), (DictEntry.mk (PyData.keyHash P (Str.ofString "HintFault")) (Value.str (Str.ofString "HintFault") 278) (Value.ref 79)), (DictEntry.mk (PyData.keyHash P (Str.ofString "Rounding")) (Value.str (Str.ofString "Rounding") 320) (Value.ref 105)), (DictEntry.mk (PyData.keyHash P (Str.ofString "named")) (Value.str (Str.ofString "named") 331) (Value.ref 116)), (DictEntry.mk (PyData.keyHash P (Str.ofString "GraphicsState")) (Value.str (Str.ofString "GraphicsState") 410) (Value.ref 161)), (DictEntry.mk (PyData.keyHash P (Str.ofString "HintStack")) (Value.str (Str.ofString "HintStack") 486) (Value.ref 224))] 22) #[])
noncomputable def o109 (P : Params) : Obj := (Obj.mk Value.none none (Data.fields (List.toArray ((Value.int (1 : Int) 0) :: (Value.int (0 : Int) 0) :: (Value.ref 20) :: (Value.int (7 : Int) 0) :: (Value.int (0 : Int) 0) :: (Value.ref 27) :: (Value.int (9 : Int) 0) :: (Value.int (0 : Int) 0) :: (Value.ref 34) :: (Value.int (11 : Int) 0) :: (Value.int (0 : Int) 0) :: (Value.ref 41) :: (Value.int (14 : Int) 0) :: (Value.int (0 : Int) 0) :: (Value.ref 48) :: (Value.int (26 : Int) 0) :: (Value.int (0 : Int) 0) :: (Value.ref 55) :: (Value.int (30 : Int) 0) :: (Value.int (0 : Int) 0) :: (Value.ref 75) :: (Value.int (33 : Int) 0) :: (Value.int (0 : Int) 0) :: (Value.ref 87) :: (Value.int (42 : Int) 0) :: (Value.int (0 : Int) 0) :: (Value.ref 115) :: (Value.int (49 : Int) 0) :: (Value.int (0 : Int) 0) :: (Value.ref 122) :: (Value.int (83 : Int) 0) :: (Value.int (0 : Int) 0) :: (Value.ref 171) :: []))) #[])
noncomputable def o110 (P : Params) : Obj := (Obj.mk (Value.type "dict") none (Data.dict #[(DictEntry.mk (PyData.keyHash P (Str.ofString "__module__")) (Value.str (Str.ofString "__module__") 420) (Value.str (Str.ofString "outlinemill.hint_work") 411)), (DictEntry.mk (PyData.keyHash P (Str.ofString "__qualname__")) (Value.str (Str.ofString "__qualname__") 422) (Value.str (Str.ofString "HintStack") 421)), (DictEntry.mk (PyData.keyHash P (Str.ofString "__firstlineno__")) (Value.str (Str.ofString "__firstlineno__") 424) (Value.int (83 : Int) 423)), (DictEntry.mk (PyData.keyHash P (Str.ofString "__init__")) (Value.str (Str.ofString "__init__") 432) (Value.ref 179)), (DictEntry.mk (PyData.keyHash P (Str.ofString "push")) (Value.str (Str.ofString "push") 440) (Value.ref 186)), (DictEntry.mk (PyData.keyHash P (Str.ofString "pop")) (Value.str (Str.ofString "pop") 447) (Value.ref 193)), (DictEntry.mk (PyData.keyHash P (Str.ofString "pop_count")) (Value.str (Str.ofString "pop_count") 454) (Value.ref 200)), (DictEntry.mk (PyData.keyHash P (Str.ofString "peek")) (Value.str (Str.ofString "peek") 462) (Value.ref 207)), (DictEntry.mk (PyData.keyHash P (Str.ofString "depth")) (Value.str (Str.ofString "depth") 469) (Value.ref 214)), (DictEntry.mk (PyData.keyHash P (Str.ofString "clear")) (Value.str (Str.ofString "clear") 476) (Value.ref 221)), (DictEntry.mk (PyData.keyHash P (Str.ofString "__static_attributes__")) (Value.str (Str.ofString "__static_attributes__") 479) (Value.ref 222))] 11) #[])
noncomputable def o111 (P : Params) : Obj := (Obj.mk Value.none none (Data.fields #[(Value.int (85 : Int) 0), (Value.int (4 : Int) 0), (Value.ref 178), (Value.int (89 : Int) 0), (Value.int (4 : Int) 0), (Value.ref 185), (Value.int (94 : Int) 0), (Value.int (4 : Int) 0), (Value.ref 192), (Value.int (99 : Int) 0), (Value.int (4 : Int) 0), (Value.ref 199), (Value.int (102 : Int) 0), (Value.int (4 : Int) 0), (Value.ref 206), (Value.int (105 : Int) 0), (Value.int (4 : Int) 0), (Value.ref 213), (Value.int (108 : Int) 0), (Value.int (4 : Int) 0), (Value.ref 220)]) #[])
noncomputable def o112 (P : Params) : Obj := (Obj.mk (Value.type "code") none (Data.fields #[(Value.str (Str.ofString "HintStack") 415), (Value.str (Str.ofString "HintStack") 416), (Value.str (Str.ofString "/claim/cut.py") 417), (Value.int (83 : Int) 0), (Value.int (0 : Int) 0), (Value.int (0 : Int) 0), (Value.int (0 : Int) 0), (Value.int (0 : Int) 0), (Value.ref 169), (Value.bool false), (Value.int (181 : Int) 0), (Value.ref 170), Value.none, Value.none, Value.none, Value.none, (Value.int (418 : Int) 0), (Value.int (83 : Int) 0), (Value.str (Str.ofString "/claim/cut.py") 419)]) #[])
noncomputable def o113 (P : Params) : Obj := (Obj.mk (Value.type "frame") none Data.plain #[(some (Value.ref 171)), (some (Value.ref 3)), (some (Value.ref 168)), none, (some (Value.str (Str.ofString "outlinemill.hint_work") 411)), none, (some (Value.ref 0))])
noncomputable def o114 (P : Params) : Obj := (Obj.mk (Value.type "tuple") none (Data.seq #[(Value.str (Str.ofString "self") 428), (Value.str (Str.ofString "most") 429)] 0) #[])
noncomputable def o115 (P : Params) : Obj := (fun {n p b d r t s u v q} (_ : (inC (stm 18) 0) = Stmt.FunctionDef n p b d r t s u v q) => (Obj.mk Value.none none (Data.func (FuncData.mk (Str.ofString "__init__") (Str.ofString "HintStack.__init__") p (.stmts b) s 0 [] Value.none Value.none Value.none Value.none none Value.none Value.none 0)) #[])) rfl
noncomputable def o116 (P : Params) : Obj := (Obj.mk (Value.type "code") none (Data.fields #[(Value.str (Str.ofString "__init__") 425), (Value.str (Str.ofString "HintStack.__init__") 426), (Value.str (Str.ofString "/claim/cut.py") 427), (Value.int (85 : Int) 0), (Value.int (2 : Int) 0), (Value.int (0 : Int) 0), (Value.int (0 : Int) 0), (Value.int (3 : Int) 0), (Value.ref 173), (Value.bool true), (Value.int (181 : Int) 0), (Value.ref 174), Value.none, (Value.ref 175), (Value.ref 176), (Value.ref 177), (Value.int (430 : Int) 0), (Value.int (85 : Int) 0), (Value.str (Str.ofString "/claim/cut.py") 431)]) #[])
noncomputable def o117 (P : Params) : Obj := (fun {n p b d r t s u v q} (_ : (inC (stm 18) 0) = Stmt.FunctionDef n p b d r t s u v q) => (Obj.mk (Value.type "function") none (Data.func (FuncData.mk (Str.ofString "__init__") (Str.ofString "HintStack.__init__") p (.stmts b) s 3 [] Value.none Value.none Value.none (Value.str (Str.ofString "outlinemill.hint_work") 411) none (Value.ref 178) Value.none 0)) #[])) rfl
noncomputable def o118 (P : Params) : Obj := (Obj.mk (Value.type "tuple") none (Data.seq #[(Value.str (Str.ofString "self") 436), (Value.str (Str.ofString "number") 437)] 0) #[])
noncomputable def o119 (P : Params) : Obj := (fun {n p b d r t s u v q} (_ : (inC (stm 18) 1) = Stmt.FunctionDef n p b d r t s u v q) => (Obj.mk Value.none none (Data.func (FuncData.mk (Str.ofString "push") (Str.ofString "HintStack.push") p (.stmts b) s 0 [] Value.none Value.none Value.none Value.none none Value.none Value.none 0)) #[])) rfl
noncomputable def o120 (P : Params) : Obj := (Obj.mk (Value.type "code") none (Data.fields #[(Value.str (Str.ofString "push") 433), (Value.str (Str.ofString "HintStack.push") 434), (Value.str (Str.ofString "/claim/cut.py") 435), (Value.int (89 : Int) 0), (Value.int (2 : Int) 0), (Value.int (0 : Int) 0), (Value.int (0 : Int) 0), (Value.int (3 : Int) 0), (Value.ref 180), (Value.bool true), (Value.int (181 : Int) 0), (Value.ref 181), Value.none, (Value.ref 182), (Value.ref 183), (Value.ref 184), (Value.int (438 : Int) 0), (Value.int (89 : Int) 0), (Value.str (Str.ofString "/claim/cut.py") 439)]) #[])
noncomputable def o121 (P : Params) : Obj := (fun {n p b d r t s u v q} (_ : (inC (stm 18) 1) = Stmt.FunctionDef n p b d r t s u v q) => (Obj.mk (Value.type "function") none (Data.func (FuncData.mk (Str.ofString "push") (Str.ofString "HintStack.push") p (.stmts b) s 3 [] Value.none Value.none Value.none (Value.str (Str.ofString "outlinemill.hint_work") 411) none (Value.ref 185) Value.none 0)) #[])) rfl
noncomputable def o122 (P : Params) : Obj := (Obj.mk (Value.type "tuple") none (Data.seq #[(Value.str (Str.ofString "self") 444)] 0) #[])
noncomputable def o123 (P : Params) : Obj := (fun {n p b d r t s u v q} (_ : (inC (stm 18) 2) = Stmt.FunctionDef n p b d r t s u v q) => (Obj.mk Value.none none (Data.func (FuncData.mk (Str.ofString "pop") (Str.ofString "HintStack.pop") p (.stmts b) s 0 [] Value.none Value.none Value.none Value.none none Value.none Value.none 0)) #[])) rfl
noncomputable def o124 (P : Params) : Obj := (Obj.mk (Value.type "code") none (Data.fields #[(Value.str (Str.ofString "pop") 441), (Value.str (Str.ofString "HintStack.pop") 442), (Value.str (Str.ofString "/claim/cut.py") 443), (Value.int (94 : Int) 0), (Value.int (1 : Int) 0), (Value.int (0 : Int) 0), (Value.int (0 : Int) 0), (Value.int (3 : Int) 0), (Value.ref 187), (Value.bool true), (Value.int (181 : Int) 0), (Value.ref 188), Value.none, (Value.ref 189), (Value.ref 190), (Value.ref 191), (Value.int (445 : Int) 0), (Value.int (94 : Int) 0), (Value.str (Str.ofString "/claim/cut.py") 446)]) #[])
noncomputable def o125 (P : Params) : Obj := (fun {n p b d r t s u v q} (_ : (inC (stm 18) 2) = Stmt.FunctionDef n p b d r t s u v q) => (Obj.mk (Value.type "function") none (Data.func (FuncData.mk (Str.ofString "pop") (Str.ofString "HintStack.pop") p (.stmts b) s 3 [] Value.none Value.none Value.none (Value.str (Str.ofString "outlinemill.hint_work") 411) none (Value.ref 192) Value.none 0)) #[])) rfl
noncomputable def o126 (P : Params) : Obj := (Obj.mk (Value.type "tuple") none (Data.seq #[(Value.str (Str.ofString "self") 451)] 0) #[])
noncomputable def o127 (P : Params) : Obj := (fun {n p b d r t s u v q} (_ : (inC (stm 18) 3) = Stmt.FunctionDef n p b d r t s u v q) => (Obj.mk Value.none none (Data.func (FuncData.mk (Str.ofString "pop_count") (Str.ofString "HintStack.pop_count") p (.stmts b) s 0 [] Value.none Value.none Value.none Value.none none Value.none Value.none 0)) #[])) rfl
noncomputable def o128 (P : Params) : Obj := (Obj.mk (Value.type "code") none (Data.fields #[(Value.str (Str.ofString "pop_count") 448), (Value.str (Str.ofString "HintStack.pop_count") 449), (Value.str (Str.ofString "/claim/cut.py") 450), (Value.int (99 : Int) 0), (Value.int (1 : Int) 0), (Value.int (0 : Int) 0), (Value.int (0 : Int) 0), (Value.int (3 : Int) 0), (Value.ref 194), (Value.bool true), (Value.int (181 : Int) 0), (Value.ref 195), Value.none, (Value.ref 196), (Value.ref 197), (Value.ref 198), (Value.int (452 : Int) 0), (Value.int (99 : Int) 0), (Value.str (Str.ofString "/claim/cut.py") 453)]) #[])
noncomputable def o129 (P : Params) : Obj := (fun {n p b d r t s u v q} (_ : (inC (stm 18) 3) = Stmt.FunctionDef n p b d r t s u v q) => (Obj.mk (Value.type "function") none (Data.func (FuncData.mk (Str.ofString "pop_count") (Str.ofString "HintStack.pop_count") p (.stmts b) s 3 [] Value.none Value.none Value.none (Value.str (Str.ofString "outlinemill.hint_work") 411) none (Value.ref 199) Value.none 0)) #[])) rfl
noncomputable def o130 (P : Params) : Obj := (Obj.mk (Value.type "tuple") none (Data.seq #[(Value.str (Str.ofString "self") 458), (Value.str (Str.ofString "many") 459)] 0) #[])
noncomputable def o131 (P : Params) : Obj := (fun {n p b d r t s u v q} (_ : (inC (stm 18) 4) = Stmt.FunctionDef n p b d r t s u v q) => (Obj.mk Value.none none (Data.func (FuncData.mk (Str.ofString "peek") (Str.ofString "HintStack.peek") p (.stmts b) s 0 [] Value.none Value.none Value.none Value.none none Value.none Value.none 0)) #[])) rfl
noncomputable def o132 (P : Params) : Obj := (Obj.mk (Value.type "code") none (Data.fields #[(Value.str (Str.ofString "peek") 455), (Value.str (Str.ofString "HintStack.peek") 456), (Value.str (Str.ofString "/claim/cut.py") 457), (Value.int (102 : Int) 0), (Value.int (2 : Int) 0), (Value.int (0 : Int) 0), (Value.int (0 : Int) 0), (Value.int (3 : Int) 0), (Value.ref 201), (Value.bool true), (Value.int (181 : Int) 0), (Value.ref 202), Value.none, (Value.ref 203), (Value.ref 204), (Value.ref 205), (Value.int (460 : Int) 0), (Value.int (102 : Int) 0), (Value.str (Str.ofString "/claim/cut.py") 461)]) #[])
noncomputable def o133 (P : Params) : Obj := (fun {n p b d r t s u v q} (_ : (inC (stm 18) 4) = Stmt.FunctionDef n p b d r t s u v q) => (Obj.mk (Value.type "function") none (Data.func (FuncData.mk (Str.ofString "peek") (Str.ofString "HintStack.peek") p (.stmts b) s 3 [] Value.none Value.none Value.none (Value.str (Str.ofString "outlinemill.hint_work") 411) none (Value.ref 206) Value.none 0)) #[])) rfl
noncomputable def o134 (P : Params) : Obj := (Obj.mk (Value.type "tuple") none (Data.seq #[(Value.str (Str.ofString "self") 466)] 0) #[])
noncomputable def o135 (P : Params) : Obj := (fun {n p b d r t s u v q} (_ : (inC (stm 18) 5) = Stmt.FunctionDef n p b d r t s u v q) => (Obj.mk Value.none none (Data.func (FuncData.mk (Str.ofString "depth") (Str.ofString "HintStack.depth") p (.stmts b) s 0 [] Value.none Value.none Value.none Value.none none Value.none Value.none 0)) #[])) rfl
noncomputable def o136 (P : Params) : Obj := (Obj.mk (Value.type "code") none (Data.fields #[(Value.str (Str.ofString "depth") 463), (Value.str (Str.ofString "HintStack.depth") 464), (Value.str (Str.ofString "/claim/cut.py") 465), (Value.int (105 : Int) 0), (Value.int (1 : Int) 0), (Value.int (0 : Int) 0), (Value.int (0 : Int) 0), (Value.int (3 : Int) 0), (Value.ref 208), (Value.bool true), (Value.int (181 : Int) 0), (Value.ref 209), Value.none, (Value.ref 210), (Value.ref 211), (Value.ref 212), (Value.int (467 : Int) 0), (Value.int (105 : Int) 0), (Value.str (Str.ofString "/claim/cut.py") 468)]) #[])
noncomputable def o137 (P : Params) : Obj := (fun {n p b d r t s u v q} (_ : (inC (stm 18) 5) = Stmt.FunctionDef n p b d r t s u v q) => (Obj.mk (Value.type "function") none (Data.func (FuncData.mk (Str.ofString "depth") (Str.ofString "HintStack.depth") p (.stmts b) s 3 [] Value.none Value.none Value.none (Value.str (Str.ofString "outlinemill.hint_work") 411) none (Value.ref 213) Value.none 0)) #[])) rfl
noncomputable def o138 (P : Params) : Obj := (Obj.mk (Value.type "tuple") none (Data.seq #[(Value.str (Str.ofString "self") 473)] 0) #[])
noncomputable def o139 (P : Params) : Obj := (fun {n p b d r t s u v q} (_ : (inC (stm 18) 6) = Stmt.FunctionDef n p b d r t s u v q) => (Obj.mk Value.none none (Data.func (FuncData.mk (Str.ofString "clear") (Str.ofString "HintStack.clear") p (.stmts b) s 0 [] Value.none Value.none Value.none Value.none none Value.none Value.none 0)) #[])) rfl
noncomputable def o140 (P : Params) : Obj := (Obj.mk (Value.type "code") none (Data.fields #[(Value.str (Str.ofString "clear") 470), (Value.str (Str.ofString "HintStack.clear") 471), (Value.str (Str.ofString "/claim/cut.py") 472), (Value.int (108 : Int) 0), (Value.int (1 : Int) 0), (Value.int (0 : Int) 0), (Value.int (0 : Int) 0), (Value.int (3 : Int) 0), (Value.ref 215), (Value.bool true), (Value.int (181 : Int) 0), (Value.ref 216), Value.none, (Value.ref 217), (Value.ref 218), (Value.ref 219), (Value.int (474 : Int) 0), (Value.int (108 : Int) 0), (Value.str (Str.ofString "/claim/cut.py") 475)]) #[])
noncomputable def o141 (P : Params) : Obj := (fun {n p b d r t s u v q} (_ : (inC (stm 18) 6) = Stmt.FunctionDef n p b d r t s u v q) => (Obj.mk (Value.type "function") none (Data.func (FuncData.mk (Str.ofString "clear") (Str.ofString "HintStack.clear") p (.stmts b) s 3 [] Value.none Value.none Value.none (Value.str (Str.ofString "outlinemill.hint_work") 411) none (Value.ref 220) Value.none 0)) #[])) rfl
noncomputable def o142 (P : Params) : Obj := (Obj.mk (Value.type "tuple") none (Data.seq #[(Value.str (Str.ofString "most") 477), (Value.str (Str.ofString "numbers") 478)] 0) #[])
noncomputable def o143 (P : Params) : Obj := (Obj.mk (Value.type "dict") none (Data.dict #[(DictEntry.mk (PyData.keyHash P (Str.ofString "__module__")) (Value.str (Str.ofString "__module__") 420) (Value.str (Str.ofString "outlinemill.hint_work") 411)), (DictEntry.mk (PyData.keyHash P (Str.ofString "__firstlineno__")) (Value.str (Str.ofString "__firstlineno__") 424) (Value.int (83 : Int) 423)), (DictEntry.mk (PyData.keyHash P (Str.ofString "__init__")) (Value.str (Str.ofString "__init__") 432) (Value.ref 179)), (DictEntry.mk (PyData.keyHash P (Str.ofString "push")) (Value.str (Str.ofString "push") 440) (Value.ref 186)), (DictEntry.mk (PyData.keyHash P (Str.ofString "pop")) (Value.str (Str.ofString "pop") 447) (Value.ref 193)), (DictEntry.mk (PyData.keyHash P (Str.ofString "pop_count")) (Value.str (Str.ofString "pop_count") 454) (Value.ref 200)), (DictEntry.mk (PyData.keyHash P (Str.ofString "peek")) (Value.str (Str.ofString "peek") 462) (Value.ref 207)), (DictEntry.mk (PyData.keyHash P (Str.ofString "depth")) (Value.str (Str.ofString "depth") 469) (Value.ref 214)), (DictEntry.mk (PyData.keyHash P (Str.ofString "clear")) (Value.str (Str.ofString "clear") 476) (Value.ref 221)), (DictEntry.mk (PyData.keyHash P (Str.ofString "__static_attributes__")) (Value.str (Str.ofString "__static_attributes__") 479) (Value.ref 222)), (DictEntry.mk (PyData.keyHash P (Str.ofString "__dict__")) (Value.str (Str.ofString "__dict__") 481) (Value.ref 225)), (DictEntry.mk (PyData.keyHash P (Str.ofString "__weakref__")) (Value.str (Str.ofString "__weakref__") 483) (Value.ref 226)), (DictEntry.mk (PyData.keyHash P (Str.ofString "__doc__")) (Value.str (Str.ofString "__doc__") 484) Value.none)] 4) #[])
noncomputable def o144 (P : Params) : Obj := (Obj.mk (Value.type "type") none (Data.cls (ClassData.mk (Str.ofString "HintStack") [(Value.type "object")] [(Value.ref 224), (Value.type "object")] 223 (Str.ofString "HintStack") true [] [] false none false)) #[none, none, (some (Value.str (Str.ofString "HintStack") 413)), (some (Value.str (Str.ofString "HintStack") 421)), (some (Value.builtin "object.__new__")), (some (Value.bool true))])
noncomputable def o145 (P : Params) : Obj := (Obj.mk (Value.type "getset_descriptor") none (Data.fields #[(Value.str (Str.ofString "__dict__") 480), (Value.ref 224), (Value.builtin "function.__dict__"), (Value.builtin "function.__dict__#set")]) #[])
noncomputable def o146 (P : Params) : Obj := (Obj.mk (Value.type "getset_descriptor") none (Data.fields #[(Value.str (Str.ofString "__weakref__") 482), (Value.ref 224), (Value.builtin "ExceptionGroup.__weakref__"), Value.none]) #[])
noncomputable def o147 (P : Params) : Obj := (Obj.mk (Value.type "super") none (Data.fields #[(Value.ref 224), (Value.ref 224), (Value.ref 224)]) #[])
noncomputable def o148 (P : Params) : Obj := (Obj.mk (Value.type "builtin_function_or_method") none (Data.fields #[(Value.builtin "object.__init_subclass__"), (Value.ref 224)]) #[])
noncomputable def o149 (P : Params) : Obj := (Obj.mk (Value.type "dict") none (Data.dict #[(DictEntry.mk (PyData.keyHash P (Str.ofString "__name__")) (Value.str (Str.ofString "__name__") 165) (Value.str (Str.ofString "law_xm0722_01") 565)), (DictEntry.mk (PyData.keyHash P (Str.ofString "__doc__")) (Value.str (Str.ofString "__doc__") 166) Value.none), (DictEntry.mk (PyData.keyHash P (Str.ofString "__package__")) (Value.str (Str.ofString "__package__") 167) Value.none), (DictEntry.mk (PyData.keyHash P (Str.ofString "__loader__")) (Value.str (Str.ofString "__loader__") 168) (ldr0 P)), (DictEntry.mk (PyData.keyHash P (Str.ofString "__spec__")) (Value.str (Str.ofString "__spec__") 169) Value.none), (DictEntry.mk (PyData.keyHash P (Str.ofString "__annotations__")) (Value.str (Str.ofString "__annotations__") 170) (Value.ref 6)), (DictEntry.mk (PyData.keyHash P (Str.ofString "__builtins__")) (Value.str (Str.ofString "__builtins__") 171) (Value.ref 4)), (DictEntry.mk (PyData.keyHash P (Str.ofString "__file__")) (Value.str (Str.ofString "__file__") 173) (Value.str (Str.ofString "/claim/cut.py") 172)), (DictEntry.mk (PyData.keyHash P (Str.ofString "__cached__")) (Value.str (Str.ofString "__cached__") 174) Value.none), (DictEntry.mk (PyData.keyHash P (Str.ofString "_wall")) (Value.str (Str.ofString "_wall") 193) (Value.ref 21)), (DictEntry.mk (PyData.keyHash P (Str.ofString "ONE14")) (Value.str (Str.ofString "ONE14") 197) (Value.int (16384 : Int) 196)), (DictEntry.mk (PyData.keyHash P (Str.ofString "ONE6")) (Value.str (Str.ofString "ONE6") 199) (Value.int (64 : Int) 198)), (DictEntry.mk (PyData.keyHash P (Str.ofString "wrap32")) (Value.str (Str.ofString "wrap32") 206) (Value.ref 28)), (DictEntry.mk (PyData.keyHash P (Str.ofString "floor6")) (Value.str (Str.ofString "floor6") 213) (Value.ref 35)), (DictEntry.mk (PyData.keyHash P (Str.ofString "ceiling6")) (Value.str (Str.ofString "ceiling6") 220) (Value.ref 42)), (DictEntry.mk (PyData.keyHash P (Str.ofString "do_one")) (Value.str (Str.ofString "do_one") 231) (Value.ref 49)), (DictEntry.mk (PyData.keyHash P (Str.ofString "MillError")) (Value.str (Str.ofString "MillError") 262) (Value.ref 66)), (DictEntry.mk (PyData.keyHash P (Str.ofString "HintFault")) (Value.str (Str.ofString "HintFault") 278) (Value.ref 79)), (DictEntry.mk (PyData.keyHash P (Str.ofString "Rounding")) (Value.str (Str.ofString "Rounding") 320) (Value.ref 105)), (DictEntry.mk (PyData.keyHash P (Str.ofString "named")) (Value.str (Str.ofString "named") 331) (Value.ref 116)), (DictEntry.mk (PyData.keyHash P (Str.ofString "GraphicsState")) (Value.str (Str.ofString "GraphicsState") 410) (Value.ref 161)), (DictEntry.mk (PyData.keyHash P (Str.ofString "HintStack")) (Value.str (Str.ofString "HintStack") 486) (Value.ref 224)), (DictEntry.mk (PyData.keyHash P (Str.ofString "HintWork")) (Value.str (Str.ofString "HintWork") 564) (Value.ref 275)), (DictEntry.mk (PyData.keyHash P (Str.ofString "_law_pool")) (Value.str (Str.ofString "_law_pool") 575) (Value.ref 286)), (DictEntry.mk (PyData.keyHash P (Str.ofString "_law_take")) (Value.str (Str.ofString "_law_take") 584) (Value.ref 293)), (DictEntry.mk (PyData.keyHash P (Str.ofString "_law_one")) (Value.str (Str.ofString "_law_one") 592) (Value.ref 300)), (DictEntry.mk (PyData.keyHash P (Str.ofString "_law_held")) (Value.str (Str.ofString "_law_held") 600) (Value.ref 307)), (DictEntry.mk (PyData.keyHash P (Str.ofString "_law_due")) (Value.str (Str.ofString "_law_due") 608) (Value.ref 314)), (DictEntry.mk (PyData.keyHash P (Str.ofString "_law_stack_right")) (Value.str (Str.ofString "_law_stack_right") 618) (Value.ref 321)), (DictEntry.mk (PyData.keyHash P (Str.ofString "law")) (Value.str (Str.ofString "law") 631) (Value.ref 328))] 30) #[])
noncomputable def o150 (P : Params) : Obj := (Obj.mk Value.none none (Data.fields (List.toArray ((Value.int (1 : Int) 0) :: (Value.int (0 : Int) 0) :: (Value.ref 20) :: (Value.int (7 : Int) 0) :: (Value.int (0 : Int) 0) :: (Value.ref 27) :: (Value.int (9 : Int) 0) :: (Value.int (0 : Int) 0) :: (Value.ref 34) :: (Value.int (11 : Int) 0) :: (Value.int (0 : Int) 0) :: (Value.ref 41) :: (Value.int (14 : Int) 0) :: (Value.int (0 : Int) 0) :: (Value.ref 48) :: (Value.int (26 : Int) 0) :: (Value.int (0 : Int) 0) :: (Value.ref 55) :: (Value.int (30 : Int) 0) :: (Value.int (0 : Int) 0) :: (Value.ref 75) :: (Value.int (33 : Int) 0) :: (Value.int (0 : Int) 0) :: (Value.ref 87) :: (Value.int (42 : Int) 0) :: (Value.int (0 : Int) 0) :: (Value.ref 115) :: (Value.int (49 : Int) 0) :: (Value.int (0 : Int) 0) :: (Value.ref 122) :: (Value.int (83 : Int) 0) :: (Value.int (0 : Int) 0) :: (Value.ref 171) :: (Value.int (110 : Int) 0) :: (Value.int (0 : Int) 0) :: (Value.ref 234) :: (Value.int (134 : Int) 0) :: (Value.int (0 : Int) 0) :: (Value.ref 285) :: (Value.int (138 : Int) 0) :: (Value.int (0 : Int) 0) :: (Value.ref 292) :: (Value.int (145 : Int) 0) :: (Value.int (0 : Int) 0) :: (Value.ref 299) :: (Value.int (147 : Int) 0) :: (Value.int (0 : Int) 0) :: (Value.ref 306) :: (Value.int (150 : Int) 0) :: (Value.int (0 : Int) 0) :: (Value.ref 313) :: (Value.int (158 : Int) 0) :: (Value.int (0 : Int) 0) :: (Value.ref 320) :: (Value.int (167 : Int) 0) :: (Value.int (0 : Int) 0) :: (Value.ref 327) :: []))) #[])
noncomputable def o151 (P : Params) : Obj := (Obj.mk (Value.type "dict") none (Data.dict #[(DictEntry.mk (PyData.keyHash P (Str.ofString "__module__")) (Value.str (Str.ofString "__module__") 494) (Value.str (Str.ofString "outlinemill.hint_work") 411)), (DictEntry.mk (PyData.keyHash P (Str.ofString "__qualname__")) (Value.str (Str.ofString "__qualname__") 496) (Value.str (Str.ofString "HintWork") 495)), (DictEntry.mk (PyData.keyHash P (Str.ofString "__firstlineno__")) (Value.str (Str.ofString "__firstlineno__") 498) (Value.int (110 : Int) 497)), (DictEntry.mk (PyData.keyHash P (Str.ofString "__init__")) (Value.str (Str.ofString "__init__") 516) (Value.ref 244)), (DictEntry.mk (PyData.keyHash P (Str.ofString "zone")) (Value.str (Str.ofString "zone") 524) (Value.ref 251)), (DictEntry.mk (PyData.keyHash P (Str.ofString "cvt_value")) (Value.str (Str.ofString "cvt_value") 532) (Value.ref 258)), (DictEntry.mk (PyData.keyHash P (Str.ofString "put_cvt")) (Value.str (Str.ofString "put_cvt") 541) (Value.ref 265)), (DictEntry.mk (PyData.keyHash P (Str.ofString "next_loop")) (Value.str (Str.ofString "next_loop") 548) (Value.ref 272)), (DictEntry.mk (PyData.keyHash P (Str.ofString "__static_attributes__")) (Value.str (Str.ofString "__static_attributes__") 557) (Value.ref 273))] 9) #[])
noncomputable def o152 (P : Params) : Obj := (Obj.mk Value.none none (Data.fields #[(Value.int (112 : Int) 0), (Value.int (4 : Int) 0), (Value.ref 243), (Value.int (122 : Int) 0), (Value.int (4 : Int) 0), (Value.ref 250), (Value.int (125 : Int) 0), (Value.int (4 : Int) 0), (Value.ref 257), (Value.int (128 : Int) 0), (Value.int (4 : Int) 0), (Value.ref 264), (Value.int (131 : Int) 0), (Value.int (4 : Int) 0), (Value.ref 271)]) #[])
noncomputable def o153 (P : Params) : Obj := (Obj.mk (Value.type "code") none (Data.fields #[(Value.str (Str.ofString "HintWork") 489), (Value.str (Str.ofString "HintWork") 490), (Value.str (Str.ofString "/claim/cut.py") 491), (Value.int (110 : Int) 0), (Value.int (0 : Int) 0), (Value.int (0 : Int) 0), (Value.int (0 : Int) 0), (Value.int (0 : Int) 0), (Value.ref 232), (Value.bool false), (Value.int (181 : Int) 0), (Value.ref 233), Value.none, Value.none, Value.none, Value.none, (Value.int (492 : Int) 0), (Value.int (110 : Int) 0), (Value.str (Str.ofString "/claim/cut.py") 493)]) #[])
noncomputable def o154 (P : Params) : Obj := (Obj.mk (Value.type "frame") none Data.plain #[(some (Value.ref 234)), (some (Value.ref 3)), (some (Value.ref 231)), none, (some (Value.str (Str.ofString "outlinemill.hint_work") 411)), none, (some (Value.ref 0))])
noncomputable def o155 (P : Params) : Obj := (Obj.mk (Value.type "tuple") none (Data.seq #[(Value.int (1 : Int) 502), (Value.int (1 : Int) 503)] 0) #[])
noncomputable def o156 (P : Params) : Obj := (Obj.mk (Value.type "tuple") none (Data.seq #[(Value.int (64 : Int) 499), (Value.int (12 : Int) 500), (Value.int (768 : Int) 501), (Value.ref 236)] 0) #[])
noncomputable def o157 (P : Params) : Obj := (Obj.mk (Value.type "tuple") none (Data.seq #[(Value.str (Str.ofString "self") 507), (Value.str (Str.ofString "zones") 508), (Value.str (Str.ofString "cvt") 509), (Value.str (Str.ofString "stack_most") 510), (Value.str (Str.ofString "ppem") 511), (Value.str (Str.ofString "point_size") 512), (Value.str (Str.ofString "scale") 513)] 0) #[])
noncomputable def o158 (P : Params) : Obj := (fun {n p b d r t s u v q} (_ : (inC (stm 19) 0) = Stmt.FunctionDef n p b d r t s u v q) => (Obj.mk Value.none none (Data.func (FuncData.mk (Str.ofString "__init__") (Str.ofString "HintWork.__init__") p (.stmts b) s 0 [] Value.none Value.none Value.none Value.none none Value.none Value.none 0)) #[])) rfl
noncomputable def o159 (P : Params) : Obj := (Obj.mk (Value.type "code") none (Data.fields #[(Value.str (Str.ofString "__init__") 504), (Value.str (Str.ofString "HintWork.__init__") 505), (Value.str (Str.ofString "/claim/cut.py") 506), (Value.int (112 : Int) 0), (Value.int (7 : Int) 0), (Value.int (0 : Int) 0), (Value.int (0 : Int) 0), (Value.int (3 : Int) 0), (Value.ref 238), (Value.bool true), (Value.int (181 : Int) 0), (Value.ref 239), Value.none, (Value.ref 240), (Value.ref 241), (Value.ref 242), (Value.int (514 : Int) 0), (Value.int (112 : Int) 0), (Value.str (Str.ofString "/claim/cut.py") 515)]) #[])
noncomputable def o160 (P : Params) : Obj := (fun {n p b d r t s u v q} (_ : (inC (stm 19) 0) = Stmt.FunctionDef n p b d r t s u v q) => (Obj.mk (Value.type "function") none (Data.func (FuncData.mk (Str.ofString "__init__") (Str.ofString "HintWork.__init__") p (.stmts b) s 3 [] (Value.ref 237) Value.none Value.none (Value.str (Str.ofString "outlinemill.hint_work") 411) none (Value.ref 243) Value.none 0)) #[])) rfl
noncomputable def o161 (P : Params) : Obj := (Obj.mk (Value.type "tuple") none (Data.seq #[(Value.str (Str.ofString "self") 520), (Value.str (Str.ofString "number") 521)] 0) #[])
noncomputable def o162 (P : Params) : Obj := (fun {n p b d r t s u v q} (_ : (inC (stm 19) 1) = Stmt.FunctionDef n p b d r t s u v q) => (Obj.mk Value.none none (Data.func (FuncData.mk (Str.ofString "zone") (Str.ofString "HintWork.zone") p (.stmts b) s 0 [] Value.none Value.none Value.none Value.none none Value.none Value.none 0)) #[])) rfl
noncomputable def o163 (P : Params) : Obj := (Obj.mk (Value.type "code") none (Data.fields #[(Value.str (Str.ofString "zone") 517), (Value.str (Str.ofString "HintWork.zone") 518), (Value.str (Str.ofString "/claim/cut.py") 519), (Value.int (122 : Int) 0), (Value.int (2 : Int) 0), (Value.int (0 : Int) 0), (Value.int (0 : Int) 0), (Value.int (3 : Int) 0), (Value.ref 245), (Value.bool true), (Value.int (181 : Int) 0), (Value.ref 246), Value.none, (Value.ref 247), (Value.ref 248), (Value.ref 249), (Value.int (522 : Int) 0), (Value.int (122 : Int) 0), (Value.str (Str.ofString "/claim/cut.py") 523)]) #[])
noncomputable def o164 (P : Params) : Obj := (fun {n p b d r t s u v q} (_ : (inC (stm 19) 1) = Stmt.FunctionDef n p b d r t s u v q) => (Obj.mk (Value.type "function") none (Data.func (FuncData.mk (Str.ofString "zone") (Str.ofString "HintWork.zone") p (.stmts b) s 3 [] Value.none Value.none Value.none (Value.str (Str.ofString "outlinemill.hint_work") 411) none (Value.ref 250) Value.none 0)) #[])) rfl
noncomputable def o165 (P : Params) : Obj := (Obj.mk (Value.type "tuple") none (Data.seq #[(Value.str (Str.ofString "self") 528), (Value.str (Str.ofString "i") 529)] 0) #[])
noncomputable def o166 (P : Params) : Obj := (fun {n p b d r t s u v q} (_ : (inC (stm 19) 2) = Stmt.FunctionDef n p b d r t s u v q) => (Obj.mk Value.none none (Data.func (FuncData.mk (Str.ofString "cvt_value") (Str.ofString "HintWork.cvt_value") p (.stmts b) s 0 [] Value.none Value.none Value.none Value.none none Value.none Value.none 0)) #[])) rfl
noncomputable def o167 (P : Params) : Obj := (Obj.mk (Value.type "code") none (Data.fields #[(Value.str (Str.ofString "cvt_value") 525), (Value.str (Str.ofString "HintWork.cvt_value") 526), (Value.str (Str.ofString "/claim/cut.py") 527), (Value.int (125 : Int) 0), (Value.int (2 : Int) 0), (Value.int (0 : Int) 0), (Value.int (0 : Int) 0), (Value.int (3 : Int) 0), (Value.ref 252), (Value.bool true), (Value.int (181 : Int) 0), (Value.ref 253), Value.none, (Value.ref 254), (Value.ref 255), (Value.ref 256), (Value.int (530 : Int) 0), (Value.int (125 : Int) 0), (Value.str (Str.ofString "/claim/cut.py") 531)]) #[])
noncomputable def o168 (P : Params) : Obj := (fun {n p b d r t s u v q} (_ : (inC (stm 19) 2) = Stmt.FunctionDef n p b d r t s u v q) => (Obj.mk (Value.type "function") none (Data.func (FuncData.mk (Str.ofString "cvt_value") (Str.ofString "HintWork.cvt_value") p (.stmts b) s 3 [] Value.none Value.none Value.none (Value.str (Str.ofString "outlinemill.hint_work") 411) none (Value.ref 257) Value.none 0)) #[])) rfl
noncomputable def o169 (P : Params) : Obj := (Obj.mk (Value.type "tuple") none (Data.seq #[(Value.str (Str.ofString "self") 536), (Value.str (Str.ofString "i") 537), (Value.str (Str.ofString "value") 538)] 0) #[])
noncomputable def o170 (P : Params) : Obj := (fun {n p b d r t s u v q} (_ : (inC (stm 19) 3) = Stmt.FunctionDef n p b d r t s u v q) => (Obj.mk Value.none none (Data.func (FuncData.mk (Str.ofString "put_cvt") (Str.ofString "HintWork.put_cvt") p (.stmts b) s 0 [] Value.none Value.none Value.none Value.none none Value.none Value.none 0)) #[])) rfl
noncomputable def o171 (P : Params) : Obj := (Obj.mk (Value.type "code") none (Data.fields #[(Value.str (Str.ofString "put_cvt") 533), (Value.str (Str.ofString "HintWork.put_cvt") 534), (Value.str (Str.ofString "/claim/cut.py") 535), (Value.int (128 : Int) 0), (Value.int (3 : Int) 0), (Value.int (0 : Int) 0), (Value.int (0 : Int) 0), (Value.int (3 : Int) 0), (Value.ref 259), (Value.bool true), (Value.int (181 : Int) 0), (Value.ref 260), Value.none, (Value.ref 261), (Value.ref 262), (Value.ref 263), (Value.int (539 : Int) 0), (Value.int (128 : Int) 0), (Value.str (Str.ofString "/claim/cut.py") 540)]) #[])
noncomputable def o172 (P : Params) : Obj := (fun {n p b d r t s u v q} (_ : (inC (stm 19) 3) = Stmt.FunctionDef n p b d r t s u v q) => (Obj.mk (Value.type "function") none (Data.func (FuncData.mk (Str.ofString "put_cvt") (Str.ofString "HintWork.put_cvt") p (.stmts b) s 3 [] Value.none Value.none Value.none (Value.str (Str.ofString "outlinemill.hint_work") 411) none (Value.ref 264) Value.none 0)) #[])) rfl
noncomputable def o173 (P : Params) : Obj := (Obj.mk (Value.type "tuple") none (Data.seq #[(Value.str (Str.ofString "self") 545)] 0) #[])
noncomputable def o174 (P : Params) : Obj := (fun {n p b d r t s u v q} (_ : (inC (stm 19) 4) = Stmt.FunctionDef n p b d r t s u v q) => (Obj.mk Value.none none (Data.func (FuncData.mk (Str.ofString "next_loop") (Str.ofString "HintWork.next_loop") p (.stmts b) s 0 [] Value.none Value.none Value.none Value.none none Value.none Value.none 0)) #[])) rfl
noncomputable def o175 (P : Params) : Obj := (Obj.mk (Value.type "code") none (Data.fields #[(Value.str (Str.ofString "next_loop") 542), (Value.str (Str.ofString "HintWork.next_loop") 543), (Value.str (Str.ofString "/claim/cut.py") 544), (Value.int (131 : Int) 0), (Value.int (1 : Int) 0), (Value.int (0 : Int) 0), (Value.int (0 : Int) 0), (Value.int (3 : Int) 0), (Value.ref 266), (Value.bool true), (Value.int (181 : Int) 0), (Value.ref 267), Value.none, (Value.ref 268), (Value.ref 269), (Value.ref 270), (Value.int (546 : Int) 0), (Value.int (131 : Int) 0), (Value.str (Str.ofString "/claim/cut.py") 547)]) #[])
noncomputable def o176 (P : Params) : Obj := (fun {n p b d r t s u v q} (_ : (inC (stm 19) 4) = Stmt.FunctionDef n p b d r t s u v q) => (Obj.mk (Value.type "function") none (Data.func (FuncData.mk (Str.ofString "next_loop") (Str.ofString "HintWork.next_loop") p (.stmts b) s 3 [] Value.none Value.none Value.none (Value.str (Str.ofString "outlinemill.hint_work") 411) none (Value.ref 271) Value.none 0)) #[])) rfl
noncomputable def o177 (P : Params) : Obj := (Obj.mk (Value.type "tuple") none (Data.seq #[(Value.str (Str.ofString "cvt") 549), (Value.str (Str.ofString "point_size") 550), (Value.str (Str.ofString "ppem") 551), (Value.str (Str.ofString "scale") 552), (Value.str (Str.ofString "stack") 553), (Value.str (Str.ofString "state") 554), (Value.str (Str.ofString "storage") 555), (Value.str (Str.ofString "zones") 556)] 0) #[])
noncomputable def o178 (P : Params) : Obj := (Obj.mk (Value.type "dict") none (Data.dict #[(DictEntry.mk (PyData.keyHash P (Str.ofString "__module__")) (Value.str (Str.ofString "__module__") 494) (Value.str (Str.ofString "outlinemill.hint_work") 411)), (DictEntry.mk (PyData.keyHash P (Str.ofString "__firstlineno__")) (Value.str (Str.ofString "__firstlineno__") 498) (Value.int (110 : Int) 497)), (DictEntry.mk (PyData.keyHash P (Str.ofString "__init__")) (Value.str (Str.ofString "__init__") 516) (Value.ref 244)), (DictEntry.mk (PyData.keyHash P (Str.ofString "zone")) (Value.str (Str.ofString "zone") 524) (Value.ref 251)), (DictEntry.mk (PyData.keyHash P (Str.ofString "cvt_value")) (Value.str (Str.ofString "cvt_value") 532) (Value.ref 258)), (DictEntry.mk (PyData.keyHash P (Str.ofString "put_cvt")) (Value.str (Str.ofString "put_cvt") 541) (Value.ref 265)), (DictEntry.mk (PyData.keyHash P (Str.ofString "next_loop")) (Value.str (Str.ofString "next_loop") 548) (Value.ref 272)), (DictEntry.mk (PyData.keyHash P (Str.ofString "__static_attributes__")) (Value.str (Str.ofString "__static_attributes__") 557) (Value.ref 273)), (DictEntry.mk (PyData.keyHash P (Str.ofString "__dict__")) (Value.str (Str.ofString "__dict__") 559) (Value.ref 276)), (DictEntry.mk (PyData.keyHash P (Str.ofString "__weakref__")) (Value.str (Str.ofString "__weakref__") 561) (Value.ref 277)), (DictEntry.mk (PyData.keyHash P (Str.ofString "__doc__")) (Value.str (Str.ofString "__doc__") 562) Value.none)] 4) #[])
noncomputable def o179 (P : Params) : Obj := (Obj.mk (Value.type "type") none (Data.cls (ClassData.mk (Str.ofString "HintWork") [(Value.type "object")] [(Value.ref 275), (Value.type "object")] 274 (Str.ofString "HintWork") true [] [] false none false)) #[none, none, (some (Value.str (Str.ofString "HintWork") 487)), (some (Value.str (Str.ofString "HintWork") 495)), (some (Value.builtin "object.__new__")), (some (Value.bool true))])
noncomputable def o180 (P : Params) : Obj := (Obj.mk (Value.type "getset_descriptor") none (Data.fields #[(Value.str (Str.ofString "__dict__") 558), (Value.ref 275), (Value.builtin "function.__dict__"), (Value.builtin "function.__dict__#set")]) #[])
noncomputable def o181 (P : Params) : Obj := (Obj.mk (Value.type "getset_descriptor") none (Data.fields #[(Value.str (Str.ofString "__weakref__") 560), (Value.ref 275), (Value.builtin "ExceptionGroup.__weakref__"), Value.none]) #[])
noncomputable def o182 (P : Params) : Obj := (Obj.mk (Value.type "super") none (Data.fields #[(Value.ref 275), (Value.ref 275), (Value.ref 275)]) #[])
noncomputable def o183 (P : Params) : Obj := (Obj.mk (Value.type "builtin_function_or_method") none (Data.fields #[(Value.builtin "object.__init_subclass__"), (Value.ref 275)]) #[])
noncomputable def o184 (P : Params) : Obj := (Obj.mk (Value.type "tuple") none (Data.seq #[(Value.str (Str.ofString "script") 570), (Value.str (Str.ofString "cell") 571), (Value.str (Str.ofString "size") 572)] 0) #[])
noncomputable def o185 (P : Params) : Obj := (fun {n p b d r t s u v q} (_ : (stm 21) = Stmt.FunctionDef n p b d r t s u v q) => (Obj.mk Value.none none (Data.func (FuncData.mk (Str.ofString "_law_pool") (Str.ofString "_law_pool") p (.stmts b) s 0 [] Value.none Value.none Value.none Value.none none Value.none Value.none 0)) #[])) rfl
noncomputable def o186 (P : Params) : Obj := (Obj.mk (Value.type "code") none (Data.fields #[(Value.str (Str.ofString "_law_pool") 567), (Value.str (Str.ofString "_law_pool") 568), (Value.str (Str.ofString "/claim/cut.py") 569), (Value.int (134 : Int) 0), (Value.int (1 : Int) 0), (Value.int (0 : Int) 0), (Value.int (0 : Int) 0), (Value.int (3 : Int) 0), (Value.ref 280), (Value.bool true), (Value.int (181 : Int) 0), (Value.ref 281), Value.none, (Value.ref 282), (Value.ref 283), (Value.ref 284), (Value.int (573 : Int) 0), (Value.int (134 : Int) 0), (Value.str (Str.ofString "/claim/cut.py") 574)]) #[])
noncomputable def o187 (P : Params) : Obj := (fun {n p b d r t s u v q} (_ : (stm 21) = Stmt.FunctionDef n p b d r t s u v q) => (Obj.mk (Value.type "function") none (Data.func (FuncData.mk (Str.ofString "_law_pool") (Str.ofString "_law_pool") p (.stmts b) s 3 [] Value.none Value.none Value.none (Value.str (Str.ofString "law_xm0722_01") 565) none (Value.ref 285) Value.none 0)) #[])) rfl
noncomputable def o188 (P : Params) : Obj := (Obj.mk (Value.type "tuple") none (Data.seq #[(Value.str (Str.ofString "source") 579), (Value.str (Str.ofString "top") 580), (Value.str (Str.ofString "figure") 581)] 0) #[])
noncomputable def o189 (P : Params) : Obj := (fun {n p b d r t s u v q} (_ : (stm 22) = Stmt.FunctionDef n p b d r t s u v q) => (Obj.mk Value.none none (Data.func (FuncData.mk (Str.ofString "_law_take") (Str.ofString "_law_take") p (.stmts b) s 0 [] Value.none Value.none Value.none Value.none none Value.none Value.none 0)) #[])) rfl
noncomputable def o190 (P : Params) : Obj := (Obj.mk (Value.type "code") none (Data.fields #[(Value.str (Str.ofString "_law_take") 576), (Value.str (Str.ofString "_law_take") 577), (Value.str (Str.ofString "/claim/cut.py") 578), (Value.int (138 : Int) 0), (Value.int (2 : Int) 0), (Value.int (0 : Int) 0), (Value.int (0 : Int) 0), (Value.int (3 : Int) 0), (Value.ref 287), (Value.bool true), (Value.int (181 : Int) 0), (Value.ref 288), Value.none, (Value.ref 289), (Value.ref 290), (Value.ref 291), (Value.int (582 : Int) 0), (Value.int (138 : Int) 0), (Value.str (Str.ofString "/claim/cut.py") 583)]) #[])
noncomputable def o191 (P : Params) : Obj := (fun {n p b d r t s u v q} (_ : (stm 22) = Stmt.FunctionDef n p b d r t s u v q) => (Obj.mk (Value.type "function") none (Data.func (FuncData.mk (Str.ofString "_law_take") (Str.ofString "_law_take") p (.stmts b) s 3 [] Value.none Value.none Value.none (Value.str (Str.ofString "law_xm0722_01") 565) none (Value.ref 292) Value.none 0)) #[])) rfl
noncomputable def o192 (P : Params) : Obj := (Obj.mk (Value.type "tuple") none (Data.seq #[(Value.str (Str.ofString "source") 588), (Value.str (Str.ofString "things") 589)] 0) #[])
noncomputable def o193 (P : Params) : Obj := (fun {n p b d r t s u v q} (_ : (stm 23) = Stmt.FunctionDef n p b d r t s u v q) => (Obj.mk Value.none none (Data.func (FuncData.mk (Str.ofString "_law_one") (Str.ofString "_law_one") p (.stmts b) s 0 [] Value.none Value.none Value.none Value.none none Value.none Value.none 0)) #[])) rfl
noncomputable def o194 (P : Params) : Obj := (Obj.mk (Value.type "code") none (Data.fields #[(Value.str (Str.ofString "_law_one") 585), (Value.str (Str.ofString "_law_one") 586), (Value.str (Str.ofString "/claim/cut.py") 587), (Value.int (145 : Int) 0), (Value.int (2 : Int) 0), (Value.int (0 : Int) 0), (Value.int (0 : Int) 0), (Value.int (3 : Int) 0), (Value.ref 294), (Value.bool true), (Value.int (181 : Int) 0), (Value.ref 295), Value.none, (Value.ref 296), (Value.ref 297), (Value.ref 298), (Value.int (590 : Int) 0), (Value.int (145 : Int) 0), (Value.str (Str.ofString "/claim/cut.py") 591)]) #[])
noncomputable def o195 (P : Params) : Obj := (fun {n p b d r t s u v q} (_ : (stm 23) = Stmt.FunctionDef n p b d r t s u v q) => (Obj.mk (Value.type "function") none (Data.func (FuncData.mk (Str.ofString "_law_one") (Str.ofString "_law_one") p (.stmts b) s 3 [] Value.none Value.none Value.none (Value.str (Str.ofString "law_xm0722_01") 565) none (Value.ref 299) Value.none 0)) #[])) rfl
noncomputable def o196 (P : Params) : Obj := (Obj.mk (Value.type "tuple") none (Data.seq #[(Value.str (Str.ofString "number") 596), (Value.str (Str.ofString "low") 597)] 0) #[])
noncomputable def o197 (P : Params) : Obj := (fun {n p b d r t s u v q} (_ : (stm 24) = Stmt.FunctionDef n p b d r t s u v q) => (Obj.mk Value.none none (Data.func (FuncData.mk (Str.ofString "_law_held") (Str.ofString "_law_held") p (.stmts b) s 0 [] Value.none Value.none Value.none Value.none none Value.none Value.none 0)) #[])) rfl
noncomputable def o198 (P : Params) : Obj := (Obj.mk (Value.type "code") none (Data.fields #[(Value.str (Str.ofString "_law_held") 593), (Value.str (Str.ofString "_law_held") 594), (Value.str (Str.ofString "/claim/cut.py") 595), (Value.int (147 : Int) 0), (Value.int (1 : Int) 0), (Value.int (0 : Int) 0), (Value.int (0 : Int) 0), (Value.int (3 : Int) 0), (Value.ref 301), (Value.bool true), (Value.int (181 : Int) 0), (Value.ref 302), Value.none, (Value.ref 303), (Value.ref 304), (Value.ref 305), (Value.int (598 : Int) 0), (Value.int (147 : Int) 0), (Value.str (Str.ofString "/claim/cut.py") 599)]) #[])
noncomputable def o199 (P : Params) : Obj := (fun {n p b d r t s u v q} (_ : (stm 24) = Stmt.FunctionDef n p b d r t s u v q) => (Obj.mk (Value.type "function") none (Data.func (FuncData.mk (Str.ofString "_law_held") (Str.ofString "_law_held") p (.stmts b) s 3 [] Value.none Value.none Value.none (Value.str (Str.ofString "law_xm0722_01") 565) none (Value.ref 306) Value.none 0)) #[])) rfl
noncomputable def o200 (P : Params) : Obj := (Obj.mk (Value.type "tuple") none (Data.seq #[(Value.str (Str.ofString "code") 604), (Value.str (Str.ofString "number") 605)] 0) #[])
noncomputable def o201 (P : Params) : Obj := (fun {n p b d r t s u v q} (_ : (stm 25) = Stmt.FunctionDef n p b d r t s u v q) => (Obj.mk Value.none none (Data.func (FuncData.mk (Str.ofString "_law_due") (Str.ofString "_law_due") p (.stmts b) s 0 [] Value.none Value.none Value.none Value.none none Value.none Value.none 0)) #[])) rfl
noncomputable def o202 (P : Params) : Obj := (Obj.mk (Value.type "code") none (Data.fields #[(Value.str (Str.ofString "_law_due") 601), (Value.str (Str.ofString "_law_due") 602), (Value.str (Str.ofString "/claim/cut.py") 603), (Value.int (150 : Int) 0), (Value.int (2 : Int) 0), (Value.int (0 : Int) 0), (Value.int (0 : Int) 0), (Value.int (3 : Int) 0), (Value.ref 308), (Value.bool true), (Value.int (181 : Int) 0), (Value.ref 309), Value.none, (Value.ref 310), (Value.ref 311), (Value.ref 312), (Value.int (606 : Int) 0), (Value.int (150 : Int) 0), (Value.str (Str.ofString "/claim/cut.py") 607)]) #[])
noncomputable def o203 (P : Params) : Obj := (fun {n p b d r t s u v q} (_ : (stm 25) = Stmt.FunctionDef n p b d r t s u v q) => (Obj.mk (Value.type "function") none (Data.func (FuncData.mk (Str.ofString "_law_due") (Str.ofString "_law_due") p (.stmts b) s 3 [] Value.none Value.none Value.none (Value.str (Str.ofString "law_xm0722_01") 565) none (Value.ref 313) Value.none 0)) #[])) rfl
noncomputable def o204 (P : Params) : Obj := (Obj.mk (Value.type "tuple") none (Data.seq #[(Value.str (Str.ofString "code") 612), (Value.str (Str.ofString "numbers") 613), (Value.str (Str.ofString "work") 614), (Value.str (Str.ofString "number") 615)] 0) #[])
noncomputable def o205 (P : Params) : Obj := (fun {n p b d r t s u v q} (_ : (stm 26) = Stmt.FunctionDef n p b d r t s u v q) => (Obj.mk Value.none none (Data.func (FuncData.mk (Str.ofString "_law_stack_right") (Str.ofString "_law_stack_right") p (.stmts b) s 0 [] Value.none Value.none Value.none Value.none none Value.none Value.none 0)) #[])) rfl
noncomputable def o206 (P : Params) : Obj := (Obj.mk (Value.type "code") none (Data.fields #[(Value.str (Str.ofString "_law_stack_right") 609), (Value.str (Str.ofString "_law_stack_right") 610), (Value.str (Str.ofString "/claim/cut.py") 611), (Value.int (158 : Int) 0), (Value.int (2 : Int) 0), (Value.int (0 : Int) 0), (Value.int (0 : Int) 0), (Value.int (3 : Int) 0), (Value.ref 315), (Value.bool true), (Value.int (181 : Int) 0), (Value.ref 316), Value.none, (Value.ref 317), (Value.ref 318), (Value.ref 319), (Value.int (616 : Int) 0), (Value.int (158 : Int) 0), (Value.str (Str.ofString "/claim/cut.py") 617)]) #[])
noncomputable def o207 (P : Params) : Obj := (fun {n p b d r t s u v q} (_ : (stm 26) = Stmt.FunctionDef n p b d r t s u v q) => (Obj.mk (Value.type "function") none (Data.func (FuncData.mk (Str.ofString "_law_stack_right") (Str.ofString "_law_stack_right") p (.stmts b) s 3 [] Value.none Value.none Value.none (Value.str (Str.ofString "law_xm0722_01") 565) none (Value.ref 320) Value.none 0)) #[])) rfl
noncomputable def o208 (P : Params) : Obj := (Obj.mk (Value.type "tuple") none (Data.seq #[(Value.str (Str.ofString "script") 622), (Value.str (Str.ofString "source") 623), (Value.str (Str.ofString "some") 624), (Value.str (Str.ofString "turn") 625), (Value.str (Str.ofString "numbers") 626), (Value.str (Str.ofString "place") 627), (Value.str (Str.ofString "code") 628)] 0) #[])
noncomputable def o209 (P : Params) : Obj := (fun {n p b d r t s u v q} (_ : (stm 27) = Stmt.FunctionDef n p b d r t s u v q) => (Obj.mk Value.none none (Data.func (FuncData.mk (Str.ofString "law") (Str.ofString "law") p (.stmts b) s 0 [] Value.none Value.none Value.none Value.none none Value.none Value.none 0)) #[])) rfl
noncomputable def o210 (P : Params) : Obj := (Obj.mk (Value.type "code") none (Data.fields #[(Value.str (Str.ofString "law") 619), (Value.str (Str.ofString "law") 620), (Value.str (Str.ofString "/claim/cut.py") 621), (Value.int (167 : Int) 0), (Value.int (1 : Int) 0), (Value.int (0 : Int) 0), (Value.int (0 : Int) 0), (Value.int (3 : Int) 0), (Value.ref 322), (Value.bool true), (Value.int (181 : Int) 0), (Value.ref 323), Value.none, (Value.ref 324), (Value.ref 325), (Value.ref 326), (Value.int (629 : Int) 0), (Value.int (167 : Int) 0), (Value.str (Str.ofString "/claim/cut.py") 630)]) #[])
noncomputable def o211 (P : Params) : Obj := (fun {n p b d r t s u v q} (_ : (stm 27) = Stmt.FunctionDef n p b d r t s u v q) => (Obj.mk (Value.type "function") none (Data.func (FuncData.mk (Str.ofString "law") (Str.ofString "law") p (.stmts b) s 3 [] Value.none Value.none Value.none (Value.str (Str.ofString "law_xm0722_01") 565) none (Value.ref 327) Value.none 0)) #[])) rfl
noncomputable def trA (P : Params) : BT := (.node (boot_o_0 P) (.node (boot_o_1 P) (.node (boot_o_3 P) (.node (boot_o_7 P) .nil .nil) (.node (boot_o_7 P) .nil .nil)) (.node (boot_o_5 P) (.node (boot_o_9 P) .nil .nil) (.node (o0 P) .nil .nil))) (.node (boot_o_2 P) (.node (boot_o_4 P) (.node (boot_o_8 P) .nil .nil) (.node (boot_o_8 P) .nil .nil)) (.node (boot_o_6 P) (.node (boot_o_10 P) .nil .nil) (.node (o1 P) .nil .nil))))
noncomputable def stA (w : World) (os : OsState) : SharedT := ⟨trA w.params, 15, (Life.mk [] [] [] 0 [] [] false #[] [] 0 false false false (0 : Int) [(2000 : Int), (10 : Int), (10 : Int)] false 0 true [] [] 0 false), (Array.mk []), (Drawn.mk 0 0 0 0), 187, os⟩
noncomputable def psA : Pos := (Pos.mk 0 0 0 0)
noncomputable def trB (P : Params) : BT := (.node (boot_o_0 P) (.node (boot_o_1 P) (.node (boot_o_3 P) (.node (boot_o_7 P) .nil .nil) (.node (boot_o_7 P) .nil .nil)) (.node (boot_o_5 P) (.node (boot_o_9 P) .nil .nil) (.node (o0 P) .nil .nil))) (.node (boot_o_2 P) (.node (boot_o_4 P) (.node (boot_o_8 P) .nil .nil) (.node (boot_o_8 P) .nil .nil)) (.node (boot_o_6 P) (.node (boot_o_10 P) .nil .nil) (.node (o1 P) .nil .nil))))
noncomputable def stB (w : World) (os : OsState) : SharedT := ⟨trB w.params, 15, (Life.mk [] [] [] 0 [] [] false #[] [] 0 false false false (0 : Int) [(2000 : Int), (10 : Int), (10 : Int)] false 0 true [] [] 0 false), (Array.mk []), (Drawn.mk 0 0 0 0), 187, os⟩
noncomputable def psB : Pos := (Pos.mk 0 0 0 0)
noncomputable def tr1 (P : Params) : BT := (.node (boot_o_0 P) (.node (boot_o_1 P) (.node (o3 P) (.node (boot_o_7 P) (.node (boot_o_7 P) (.node (o13 P) (.node (o34 P) .nil .nil) .nil) (.node (o22 P) .nil .nil)) (.node (boot_o_8 P) (.node (boot_o_7 P) .nil .nil) (.node (o29 P) .nil .nil))) (.node (boot_o_7 P) (.node (o6 P) (.node (o16 P) (.node (o38 P) .nil .nil) .nil) (.node (o26 P) .nil .nil)) (.node (o11 P) (.node (boot_o_7 P) .nil .nil) (.node (o31 P) .nil .nil)))) (.node (boot_o_5 P) (.node (boot_o_9 P) (.node (o5 P) (.node (o14 P) (.node (o36 P) .nil .nil) .nil) (.node (o24 P) .nil .nil)) (.node (boot_o_7 P) (.node (o19 P) .nil .nil) (.node (boot_o_7 P) .nil .nil))) (.node (o0 P) (.node (o8 P) (.node (boot_o_8 P) (.node (o40 P) .nil .nil) .nil) (.node (boot_o_7 P) .nil .nil)) (.node (boot_o_7 P) (.node (o21 P) .nil .nil) (.node (o32 P) .nil .nil))))) (.node (o2 P) (.node (boot_o_4 P) (.node (boot_o_8 P) (.node (boot_o_8 P) (.node (boot_o_7 P) (.node (o35 P) .nil .nil) .nil) (.node (o23 P) .nil .nil)) (.node (o9 P) (.node (o18 P) .nil .nil) (.node (o30 P) .nil .nil))) (.node (o4 P) (.node (o7 P) (.node (boot_o_7 P) (.node (o39 P) .nil .nil) .nil) (.node (o27 P) .nil .nil)) (.node (o12 P) (.node (boot_o_8 P) .nil .nil) (.node (boot_o_7 P) .nil .nil)))) (.node (boot_o_6 P) (.node (boot_o_10 P) (.node (boot_o_7 P) (.node (o15 P) (.node (o37 P) .nil .nil) .nil) (.node (o25 P) .nil .nil)) (.node (o10 P) (.node (o20 P) .nil .nil) (.node (boot_o_8 P) .nil .nil))) (.node (o1 P) (.node (boot_o_7 P) (.node (o17 P) .nil .nil) (.node (o28 P) .nil .nil)) (.node (boot_o_8 P) (.node (boot_o_7 P) .nil .nil) (.node (o33 P) .nil .nil))))))
noncomputable def st1 (w : World) (os : OsState) : SharedT := ⟨tr1 w.params, 70, (Life.mk [] [] [] 0 [] [] false #[] [] 0 false false false (0 : Int) [(2000 : Int), (10 : Int), (10 : Int)] false 0 true [] [] 0 false), (Array.mk []), (Drawn.mk 0 0 0 0), 263, os⟩
noncomputable def ps1 : Pos := (Pos.mk 26 0 29 30)
noncomputable def tr2 (P : Params) : BT := (.node (boot_o_0 P) (.node (boot_o_1 P) (.node (o41 P) (.node (boot_o_7 P) (.node (boot_o_7 P) (.node (o13 P) (.node (o34 P) .nil .nil) (.node (o59 P) .nil .nil)) (.node (o22 P) (.node (o49 P) .nil .nil) (.node (boot_o_8 P) .nil .nil))) (.node (boot_o_8 P) (.node (boot_o_7 P) (.node (o26 P) .nil .nil) (.node (o64 P) .nil .nil)) (.node (o29 P) (.node (o54 P) .nil .nil) .nil))) (.node (boot_o_7 P) (.node (o6 P) (.node (o16 P) (.node (o38 P) .nil .nil) (.node (boot_o_7 P) .nil .nil)) (.node (o26 P) (.node (o26 P) .nil .nil) (.node (o73 P) .nil .nil))) (.node (o11 P) (.node (boot_o_7 P) (.node (o46 P) .nil .nil) (.node (o68 P) .nil .nil)) (.node (o31 P) (.node (o56 P) .nil .nil) .nil)))) (.node (boot_o_5 P) (.node (boot_o_9 P) (.node (o5 P) (.node (o14 P) (.node (o36 P) .nil .nil) (.node (boot_o_8 P) .nil .nil)) (.node (o24 P) (.node (o51 P) .nil .nil) (.node (boot_o_7 P) .nil .nil))) (.node (boot_o_7 P) (.node (o19 P) (.node (boot_o_7 P) .nil .nil) (.node (o66 P) .nil .nil)) (.node (boot_o_7 P) (.node (boot_o_7 P) .nil .nil) .nil))) (.node (o0 P) (.node (o8 P) (.node (boot_o_8 P) (.node (o40 P) .nil .nil) (.node (o62 P) .nil .nil)) (.node (boot_o_7 P) (.node (boot_o_7 P) .nil .nil) .nil)) (.node (boot_o_7 P) (.node (o21 P) (.node (boot_o_7 P) .nil .nil) (.node (o70 P) .nil .nil)) (.node (o32 P) (.node (o57 P) .nil .nil) .nil))))) (.node (o2 P) (.node (boot_o_4 P) (.node (boot_o_8 P) (.node (boot_o_8 P) (.node (boot_o_7 P) (.node (o35 P) .nil .nil) (.node (boot_o_7 P) .nil .nil)) (.node (o23 P) (.node (o50 P) .nil .nil) (.node (o71 P) .nil .nil))) (.node (o9 P) (.node (o18 P) (.node (o45 P) .nil .nil) (.node (o65 P) .nil .nil)) (.node (o30 P) (.node (o55 P) .nil .nil) .nil))) (.node (o42 P) (.node (o7 P) (.node (boot_o_7 P) (.node (o39 P) .nil .nil) (.node (o61 P) .nil .nil)) (.node (o27 P) (.node (o52 P) .nil .nil) (.node (o74 P) .nil .nil))) (.node (o12 P) (.node (boot_o_8 P) (.node (o47 P) .nil .nil) (.node (o69 P) .nil .nil)) (.node (boot_o_7 P) (.node (boot_o_7 P) .nil .nil) .nil)))) (.node (boot_o_6 P) (.node (boot_o_10 P) (.node (boot_o_7 P) (.node (o15 P) (.node (o43 P) .nil .nil) (.node (o60 P) .nil .nil)) (.node (o25 P) (.node (boot_o_7 P) .nil .nil) (.node (o72 P) .nil .nil))) (.node (o10 P) (.node (o20 P) (.node (boot_o_8 P) .nil .nil) (.node (o67 P) .nil .nil)) (.node (boot_o_8 P) (.node (boot_o_8 P) .nil .nil) .nil))) (.node (o1 P) (.node (boot_o_7 P) (.node (o17 P) (.node (o44 P) .nil .nil) (.node (o63 P) .nil .nil)) (.node (o28 P) (.node (o53 P) .nil .nil) .nil)) (.node (boot_o_8 P) (.node (boot_o_7 P) (.node (o48 P) .nil .nil) (.node (boot_o_7 P) .nil .nil)) (.node (o33 P) (.node (o58 P) .nil .nil) .nil))))))
noncomputable def st2 (w : World) (os : OsState) : SharedT := ⟨tr2 w.params, 117, (Life.mk [] [] [] 0 [] [] false #[] [] 0 false false false (0 : Int) [(2000 : Int), (10 : Int), (10 : Int)] false 0 true [] [] 0 false), (Array.mk []), (Drawn.mk 0 0 0 0), 334, os⟩
noncomputable def ps2 : Pos := (Pos.mk 48 0 48 8)
noncomputable def tr3 (P : Params) : BT := (.node (boot_o_0 P) (.node (boot_o_1 P) (.node (o75 P) (.node (boot_o_7 P) (.node (boot_o_7 P) (.node (o13 P) (.node (o34 P) (.node (boot_o_7 P) .nil .nil) .nil) (.node (o59 P) (.node (o101 P) .nil .nil) .nil)) (.node (o22 P) (.node (o49 P) (.node (o91 P) .nil .nil) .nil) (.node (boot_o_8 P) .nil .nil))) (.node (boot_o_8 P) (.node (boot_o_7 P) (.node (o26 P) (.node (o86 P) .nil .nil) .nil) (.node (o64 P) .nil .nil)) (.node (o29 P) (.node (o54 P) (.node (o96 P) .nil .nil) .nil) (.node (o77 P) .nil .nil)))) (.node (boot_o_7 P) (.node (o6 P) (.node (o16 P) (.node (o38 P) (.node (boot_o_7 P) .nil .nil) .nil) (.node (boot_o_7 P) (.node (o105 P) .nil .nil) .nil)) (.node (o26 P) (.node (o26 P) (.node (o93 P) .nil .nil) .nil) (.node (o73 P) .nil .nil))) (.node (o11 P) (.node (boot_o_7 P) (.node (o46 P) (.node (boot_o_8 P) .nil .nil) .nil) (.node (o68 P) .nil .nil)) (.node (o31 P) (.node (o56 P) (.node (boot_o_7 P) .nil .nil) .nil) (.node (o80 P) .nil .nil))))) (.node (boot_o_5 P) (.node (boot_o_9 P) (.node (o5 P) (.node (o14 P) (.node (o36 P) (.node (o83 P) .nil .nil) .nil) (.node (boot_o_8 P) (.node (o103 P) .nil .nil) .nil)) (.node (o24 P) (.node (o51 P) (.node (boot_o_7 P) .nil .nil) .nil) (.node (boot_o_7 P) .nil .nil))) (.node (boot_o_7 P) (.node (o19 P) (.node (boot_o_7 P) (.node (o88 P) .nil .nil) .nil) (.node (o66 P) .nil .nil)) (.node (boot_o_7 P) (.node (boot_o_7 P) (.node (boot_o_8 P) .nil .nil) .nil) (.node (o78 P) .nil .nil)))) (.node (o0 P) (.node (o8 P) (.node (boot_o_8 P) (.node (o40 P) (.node (o85 P) .nil .nil) .nil) (.node (o62 P) (.node (o107 P) .nil .nil) .nil)) (.node (boot_o_7 P) (.node (boot_o_7 P) (.node (o94 P) .nil .nil) .nil) (.node (boot_o_7 P) .nil .nil))) (.node (boot_o_7 P) (.node (o21 P) (.node (boot_o_7 P) (.node (boot_o_7 P) .nil .nil) .nil) (.node (o70 P) .nil .nil)) (.node (o32 P) (.node (o57 P) (.node (o99 P) .nil .nil) .nil) (.node (boot_o_8 P) .nil .nil)))))) (.node (o2 P) (.node (boot_o_4 P) (.node (boot_o_8 P) (.node (boot_o_8 P) (.node (boot_o_7 P) (.node (o35 P) (.node (o82 P) .nil .nil) .nil) (.node (boot_o_7 P) (.node (o102 P) .nil .nil) .nil)) (.node (o23 P) (.node (o50 P) (.node (o92 P) .nil .nil) .nil) (.node (o71 P) .nil .nil))) (.node (o9 P) (.node (o18 P) (.node (o45 P) (.node (o87 P) .nil .nil) .nil) (.node (o65 P) .nil .nil)) (.node (o30 P) (.node (o55 P) (.node (boot_o_7 P) .nil .nil) .nil) (.node (boot_o_7 P) .nil .nil)))) (.node (o76 P) (.node (o7 P) (.node (boot_o_7 P) (.node (o39 P) (.node (boot_o_8 P) .nil .nil) .nil) (.node (o61 P) (.node (o106 P) .nil .nil) .nil)) (.node (o27 P) (.node (o52 P) (.node (boot_o_7 P) .nil .nil) .nil) (.node (o74 P) .nil .nil))) (.node (o12 P) (.node (boot_o_8 P) (.node (o47 P) (.node (o89 P) .nil .nil) .nil) (.node (o69 P) .nil .nil)) (.node (boot_o_7 P) (.node (boot_o_7 P) (.node (o98 P) .nil .nil) .nil) (.node (boot_o_7 P) .nil .nil))))) (.node (boot_o_6 P) (.node (boot_o_10 P) (.node (boot_o_7 P) (.node (o15 P) (.node (o43 P) (.node (o84 P) .nil .nil) .nil) (.node (o60 P) (.node (o104 P) .nil .nil) .nil)) (.node (o25 P) (.node (boot_o_7 P) (.node (boot_o_8 P) .nil .nil) .nil) (.node (o72 P) .nil .nil))) (.node (o10 P) (.node (o20 P) (.node (boot_o_8 P) (.node (boot_o_7 P) .nil .nil) .nil) (.node (o67 P) .nil .nil)) (.node (boot_o_8 P) (.node (boot_o_8 P) (.node (o97 P) .nil .nil) .nil) (.node (o79 P) .nil .nil)))) (.node (o1 P) (.node (boot_o_7 P) (.node (o17 P) (.node (o44 P) (.node (boot_o_7 P) .nil .nil) .nil) (.node (o63 P) .nil .nil)) (.node (o28 P) (.node (o53 P) (.node (o95 P) .nil .nil) .nil) (.node (o26 P) .nil .nil))) (.node (boot_o_8 P) (.node (boot_o_7 P) (.node (o48 P) (.node (o90 P) .nil .nil) .nil) (.node (boot_o_7 P) .nil .nil)) (.node (o33 P) (.node (o58 P) (.node (o100 P) .nil .nil) .nil) (.node (o81 P) .nil .nil)))))))
noncomputable def st3 (w : World) (os : OsState) : SharedT := ⟨tr3 w.params, 166, (Life.mk [] [] [] 0 [] [] false #[] [] 0 false false false (0 : Int) [(2000 : Int), (10 : Int), (10 : Int)] false 0 true [] [] 0 false), (Array.mk []), (Drawn.mk 0 0 0 0), 413, os⟩
noncomputable def ps3 : Pos := (Pos.mk 82 0 82 8)
noncomputable def tr4 (P : Params) : BT := (.node (boot_o_0 P) (.node (boot_o_1 P) (.node (o108 P) (.node (boot_o_7 P) (.node (boot_o_7 P) (.node (o13 P) (.node (o34 P) (.node (boot_o_7 P) .nil .nil) (.node (o123 P) .nil .nil)) (.node (o59 P) (.node (o101 P) .nil .nil) (.node (o143 P) .nil .nil))) (.node (o22 P) (.node (o49 P) (.node (o91 P) .nil .nil) (.node (o133 P) .nil .nil)) (.node (boot_o_8 P) (.node (o114 P) .nil .nil) .nil))) (.node (boot_o_8 P) (.node (boot_o_7 P) (.node (o26 P) (.node (o86 P) .nil .nil) (.node (o128 P) .nil .nil)) (.node (o64 P) (.node (o26 P) .nil .nil) .nil)) (.node (o29 P) (.node (o54 P) (.node (o96 P) .nil .nil) (.node (boot_o_7 P) .nil .nil)) (.node (o77 P) (.node (boot_o_7 P) .nil .nil) .nil)))) (.node (boot_o_7 P) (.node (o6 P) (.node (o16 P) (.node (o38 P) (.node (boot_o_7 P) .nil .nil) (.node (boot_o_8 P) .nil .nil)) (.node (boot_o_7 P) (.node (o105 P) .nil .nil) (.node (o147 P) .nil .nil))) (.node (o26 P) (.node (o26 P) (.node (o93 P) .nil .nil) (.node (boot_o_7 P) .nil .nil)) (.node (o73 P) (.node (o117 P) .nil .nil) .nil))) (.node (o11 P) (.node (boot_o_7 P) (.node (o46 P) (.node (boot_o_8 P) .nil .nil) (.node (o130 P) .nil .nil)) (.node (o68 P) (.node (o112 P) .nil .nil) .nil)) (.node (o31 P) (.node (o56 P) (.node (boot_o_7 P) .nil .nil) (.node (o139 P) .nil .nil)) (.node (o80 P) (.node (boot_o_7 P) .nil .nil) .nil))))) (.node (boot_o_5 P) (.node (boot_o_9 P) (.node (o5 P) (.node (o14 P) (.node (o36 P) (.node (o83 P) .nil .nil) (.node (o125 P) .nil .nil)) (.node (boot_o_8 P) (.node (o103 P) .nil .nil) (.node (o145 P) .nil .nil))) (.node (o24 P) (.node (o51 P) (.node (boot_o_7 P) .nil .nil) (.node (boot_o_8 P) .nil .nil)) (.node (boot_o_7 P) (.node (o115 P) .nil .nil) .nil))) (.node (boot_o_7 P) (.node (o19 P) (.node (boot_o_7 P) (.node (o88 P) .nil .nil) (.node (boot_o_7 P) .nil .nil)) (.node (o66 P) (.node (boot_o_7 P) .nil .nil) .nil)) (.node (boot_o_7 P) (.node (boot_o_7 P) (.node (boot_o_8 P) .nil .nil) (.node (o138 P) .nil .nil)) (.node (o78 P) (.node (o120 P) .nil .nil) .nil)))) (.node (o0 P) (.node (o8 P) (.node (boot_o_8 P) (.node (o40 P) (.node (o85 P) .nil .nil) (.node (boot_o_7 P) .nil .nil)) (.node (o62 P) (.node (o107 P) .nil .nil) .nil)) (.node (boot_o_7 P) (.node (boot_o_7 P) (.node (o94 P) .nil .nil) (.node (o136 P) .nil .nil)) (.node (boot_o_7 P) (.node (boot_o_8 P) .nil .nil) .nil))) (.node (boot_o_7 P) (.node (o21 P) (.node (boot_o_7 P) (.node (boot_o_7 P) .nil .nil) (.node (o131 P) .nil .nil)) (.node (o70 P) (.node (boot_o_7 P) .nil .nil) .nil)) (.node (o32 P) (.node (o57 P) (.node (o99 P) .nil .nil) (.node (o141 P) .nil .nil)) (.node (boot_o_8 P) (.node (o122 P) .nil .nil) .nil)))))) (.node (o2 P) (.node (boot_o_4 P) (.node (boot_o_8 P) (.node (boot_o_8 P) (.node (boot_o_7 P) (.node (o35 P) (.node (o82 P) .nil .nil) (.node (o124 P) .nil .nil)) (.node (boot_o_7 P) (.node (o102 P) .nil .nil) (.node (o144 P) .nil .nil))) (.node (o23 P) (.node (o50 P) (.node (o92 P) .nil .nil) (.node (boot_o_7 P) .nil .nil)) (.node (o71 P) (.node (boot_o_7 P) .nil .nil) .nil))) (.node (o9 P) (.node (o18 P) (.node (o45 P) (.node (o87 P) .nil .nil) (.node (o129 P) .nil .nil)) (.node (o65 P) (.node (o110 P) .nil .nil) .nil)) (.node (o30 P) (.node (o55 P) (.node (boot_o_7 P) .nil .nil) (.node (boot_o_8 P) .nil .nil)) (.node (boot_o_7 P) (.node (o119 P) .nil .nil) .nil)))) (.node (o109 P) (.node (o7 P) (.node (boot_o_7 P) (.node (o39 P) (.node (boot_o_8 P) .nil .nil) (.node (o126 P) .nil .nil)) (.node (o61 P) (.node (o106 P) .nil .nil) (.node (o148 P) .nil .nil))) (.node (o27 P) (.node (o52 P) (.node (boot_o_7 P) .nil .nil) (.node (o135 P) .nil .nil)) (.node (o74 P) (.node (boot_o_7 P) .nil .nil) .nil))) (.node (o12 P) (.node (boot_o_8 P) (.node (o47 P) (.node (o89 P) .nil .nil) (.node (boot_o_7 P) .nil .nil)) (.node (o69 P) (.node (o113 P) .nil .nil) .nil)) (.node (boot_o_7 P) (.node (boot_o_7 P) (.node (o98 P) .nil .nil) (.node (o140 P) .nil .nil)) (.node (boot_o_7 P) (.node (boot_o_8 P) .nil .nil) .nil))))) (.node (boot_o_6 P) (.node (boot_o_10 P) (.node (boot_o_7 P) (.node (o15 P) (.node (o43 P) (.node (o84 P) .nil .nil) (.node (boot_o_7 P) .nil .nil)) (.node (o60 P) (.node (o104 P) .nil .nil) (.node (o146 P) .nil .nil))) (.node (o25 P) (.node (boot_o_7 P) (.node (boot_o_8 P) .nil .nil) (.node (o134 P) .nil .nil)) (.node (o72 P) (.node (o116 P) .nil .nil) .nil))) (.node (o10 P) (.node (o20 P) (.node (boot_o_8 P) (.node (boot_o_7 P) .nil .nil) (.node (boot_o_8 P) .nil .nil)) (.node (o67 P) (.node (o111 P) .nil .nil) .nil)) (.node (boot_o_8 P) (.node (boot_o_8 P) (.node (o97 P) .nil .nil) (.node (boot_o_7 P) .nil .nil)) (.node (o79 P) (.node (o121 P) .nil .nil) .nil)))) (.node (o1 P) (.node (boot_o_7 P) (.node (o17 P) (.node (o44 P) (.node (boot_o_7 P) .nil .nil) (.node (o127 P) .nil .nil)) (.node (o63 P) (.node (boot_o_7 P) .nil .nil) .nil)) (.node (o28 P) (.node (o53 P) (.node (o95 P) .nil .nil) (.node (o137 P) .nil .nil)) (.node (o26 P) (.node (o118 P) .nil .nil) .nil))) (.node (boot_o_8 P) (.node (boot_o_7 P) (.node (o48 P) (.node (o90 P) .nil .nil) (.node (o132 P) .nil .nil)) (.node (boot_o_7 P) (.node (boot_o_8 P) .nil .nil) .nil)) (.node (o33 P) (.node (o58 P) (.node (o100 P) .nil .nil) (.node (o142 P) .nil .nil)) (.node (o81 P) (.node (boot_o_7 P) .nil .nil) .nil)))))))
noncomputable def st4 (w : World) (os : OsState) : SharedT := ⟨tr4 w.params, 229, (Life.mk [] [] [] 0 [] [] false #[] [] 0 false false false (0 : Int) [(2000 : Int), (10 : Int), (10 : Int)] false 0 true [] [] 0 false), (Array.mk []), (Drawn.mk 0 0 0 0), 487, os⟩
noncomputable def ps4 : Pos := (Pos.mk 83 0 109 16)
noncomputable def tr5 (P : Params) : BT := (.node (boot_o_0 P) (.node (boot_o_1 P) (.node (o149 P) (.node (boot_o_7 P) (.node (boot_o_7 P) (.node (o13 P) (.node (o34 P) (.node (boot_o_7 P) (.node (boot_o_7 P) .nil .nil) .nil) (.node (o123 P) (.node (o205 P) .nil .nil) .nil)) (.node (o59 P) (.node (o101 P) (.node (boot_o_7 P) .nil .nil) .nil) (.node (o143 P) .nil .nil))) (.node (o22 P) (.node (o49 P) (.node (o91 P) (.node (o175 P) .nil .nil) .nil) (.node (o133 P) .nil .nil)) (.node (boot_o_8 P) (.node (o114 P) (.node (o196 P) .nil .nil) .nil) (.node (boot_o_8 P) .nil .nil)))) (.node (boot_o_8 P) (.node (boot_o_7 P) (.node (o26 P) (.node (o86 P) (.node (o170 P) .nil .nil) .nil) (.node (o128 P) (.node (o210 P) .nil .nil) .nil)) (.node (o64 P) (.node (o26 P) (.node (boot_o_8 P) .nil .nil) .nil) (.node (o151 P) .nil .nil))) (.node (o29 P) (.node (o54 P) (.node (o96 P) (.node (o183 P) .nil .nil) .nil) (.node (boot_o_7 P) .nil .nil)) (.node (o77 P) (.node (boot_o_7 P) (.node (boot_o_7 P) .nil .nil) .nil) (.node (o161 P) .nil .nil))))) (.node (boot_o_7 P) (.node (o6 P) (.node (o16 P) (.node (o38 P) (.node (boot_o_7 P) (.node (boot_o_7 P) .nil .nil) .nil) (.node (boot_o_8 P) (.node (boot_o_8 P) .nil .nil) .nil)) (.node (boot_o_7 P) (.node (o105 P) (.node (o189 P) .nil .nil) .nil) (.node (o147 P) .nil .nil))) (.node (o26 P) (.node (o26 P) (.node (o93 P) (.node (o179 P) .nil .nil) .nil) (.node (boot_o_7 P) .nil .nil)) (.node (o73 P) (.node (o117 P) (.node (o199 P) .nil .nil) .nil) (.node (o159 P) .nil .nil)))) (.node (o11 P) (.node (boot_o_7 P) (.node (o46 P) (.node (boot_o_8 P) (.node (boot_o_8 P) .nil .nil) .nil) (.node (o130 P) .nil .nil)) (.node (o68 P) (.node (o112 P) (.node (o194 P) .nil .nil) .nil) (.node (o154 P) .nil .nil))) (.node (o31 P) (.node (o56 P) (.node (boot_o_7 P) (.node (boot_o_7 P) .nil .nil) .nil) (.node (o139 P) .nil .nil)) (.node (o80 P) (.node (boot_o_7 P) (.node (boot_o_7 P) .nil .nil) .nil) (.node (o164 P) .nil .nil)))))) (.node (boot_o_5 P) (.node (boot_o_9 P) (.node (o5 P) (.node (o14 P) (.node (o36 P) (.node (o83 P) (.node (o167 P) .nil .nil) .nil) (.node (o125 P) (.node (o207 P) .nil .nil) .nil)) (.node (boot_o_8 P) (.node (o103 P) (.node (o188 P) .nil .nil) .nil) (.node (o145 P) .nil .nil))) (.node (o24 P) (.node (o51 P) (.node (boot_o_7 P) (.node (o177 P) .nil .nil) .nil) (.node (boot_o_8 P) .nil .nil)) (.node (boot_o_7 P) (.node (o115 P) (.node (o197 P) .nil .nil) .nil) (.node (boot_o_7 P) .nil .nil)))) (.node (boot_o_7 P) (.node (o19 P) (.node (boot_o_7 P) (.node (o88 P) (.node (o172 P) .nil .nil) .nil) (.node (boot_o_7 P) .nil .nil)) (.node (o66 P) (.node (boot_o_7 P) (.node (boot_o_7 P) .nil .nil) .nil) (.node (o152 P) .nil .nil))) (.node (boot_o_7 P) (.node (boot_o_7 P) (.node (boot_o_8 P) (.node (boot_o_8 P) .nil .nil) .nil) (.node (o138 P) .nil .nil)) (.node (o78 P) (.node (o120 P) (.node (o202 P) .nil .nil) .nil) (.node (o162 P) .nil .nil))))) (.node (o0 P) (.node (o8 P) (.node (boot_o_8 P) (.node (o40 P) (.node (o85 P) (.node (o169 P) .nil .nil) .nil) (.node (boot_o_7 P) (.node (boot_o_7 P) .nil .nil) .nil)) (.node (o62 P) (.node (o107 P) (.node (o191 P) .nil .nil) .nil) (.node (boot_o_7 P) .nil .nil))) (.node (boot_o_7 P) (.node (boot_o_7 P) (.node (o94 P) (.node (o181 P) .nil .nil) .nil) (.node (o136 P) .nil .nil)) (.node (boot_o_7 P) (.node (boot_o_8 P) (.node (boot_o_8 P) .nil .nil) .nil) (.node (boot_o_7 P) .nil .nil)))) (.node (boot_o_7 P) (.node (o21 P) (.node (boot_o_7 P) (.node (boot_o_7 P) (.node (boot_o_7 P) .nil .nil) .nil) (.node (o131 P) .nil .nil)) (.node (o70 P) (.node (boot_o_7 P) (.node (boot_o_7 P) .nil .nil) .nil) (.node (o156 P) .nil .nil))) (.node (o32 P) (.node (o57 P) (.node (o99 P) (.node (o186 P) .nil .nil) .nil) (.node (o141 P) .nil .nil)) (.node (boot_o_8 P) (.node (o122 P) (.node (o204 P) .nil .nil) .nil) (.node (boot_o_8 P) .nil .nil))))))) (.node (o2 P) (.node (boot_o_4 P) (.node (boot_o_8 P) (.node (boot_o_8 P) (.node (boot_o_7 P) (.node (o35 P) (.node (o82 P) (.node (o166 P) .nil .nil) .nil) (.node (o124 P) (.node (o206 P) .nil .nil) .nil)) (.node (boot_o_7 P) (.node (o102 P) (.node (boot_o_8 P) .nil .nil) .nil) (.node (o144 P) .nil .nil))) (.node (o23 P) (.node (o50 P) (.node (o92 P) (.node (o176 P) .nil .nil) .nil) (.node (boot_o_7 P) .nil .nil)) (.node (o71 P) (.node (boot_o_7 P) (.node (boot_o_7 P) .nil .nil) .nil) (.node (o157 P) .nil .nil)))) (.node (o9 P) (.node (o18 P) (.node (o45 P) (.node (o87 P) (.node (o171 P) .nil .nil) .nil) (.node (o129 P) (.node (o211 P) .nil .nil) .nil)) (.node (o65 P) (.node (o110 P) (.node (o192 P) .nil .nil) .nil) (.node (boot_o_7 P) .nil .nil))) (.node (o30 P) (.node (o55 P) (.node (boot_o_7 P) (.node (boot_o_7 P) .nil .nil) .nil) (.node (boot_o_8 P) .nil .nil)) (.node (boot_o_7 P) (.node (o119 P) (.node (o201 P) .nil .nil) .nil) (.node (boot_o_7 P) .nil .nil))))) (.node (o150 P) (.node (o7 P) (.node (boot_o_7 P) (.node (o39 P) (.node (boot_o_8 P) (.node (boot_o_8 P) .nil .nil) .nil) (.node (o126 P) (.node (o208 P) .nil .nil) .nil)) (.node (o61 P) (.node (o106 P) (.node (o190 P) .nil .nil) .nil) (.node (o148 P) .nil .nil))) (.node (o27 P) (.node (o52 P) (.node (boot_o_7 P) (.node (o180 P) .nil .nil) .nil) (.node (o135 P) .nil .nil)) (.node (o74 P) (.node (boot_o_7 P) (.node (boot_o_7 P) .nil .nil) .nil) (.node (o160 P) .nil .nil)))) (.node (o12 P) (.node (boot_o_8 P) (.node (o47 P) (.node (o89 P) (.node (o173 P) .nil .nil) .nil) (.node (boot_o_7 P) .nil .nil)) (.node (o69 P) (.node (o113 P) (.node (o195 P) .nil .nil) .nil) (.node (o155 P) .nil .nil))) (.node (boot_o_7 P) (.node (boot_o_7 P) (.node (o98 P) (.node (o185 P) .nil .nil) .nil) (.node (o140 P) .nil .nil)) (.node (boot_o_7 P) (.node (boot_o_8 P) (.node (boot_o_8 P) .nil .nil) .nil) (.node (boot_o_7 P) .nil .nil)))))) (.node (boot_o_6 P) (.node (boot_o_10 P) (.node (boot_o_7 P) (.node (o15 P) (.node (o43 P) (.node (o84 P) (.node (o168 P) .nil .nil) .nil) (.node (boot_o_7 P) (.node (boot_o_7 P) .nil .nil) .nil)) (.node (o60 P) (.node (o104 P) (.node (boot_o_7 P) .nil .nil) .nil) (.node (o146 P) .nil .nil))) (.node (o25 P) (.node (boot_o_7 P) (.node (boot_o_8 P) (.node (o178 P) .nil .nil) .nil) (.node (o134 P) .nil .nil)) (.node (o72 P) (.node (o116 P) (.node (o198 P) .nil .nil) .nil) (.node (o158 P) .nil .nil)))) (.node (o10 P) (.node (o20 P) (.node (boot_o_8 P) (.node (boot_o_7 P) (.node (boot_o_7 P) .nil .nil) .nil) (.node (boot_o_8 P) .nil .nil)) (.node (o67 P) (.node (o111 P) (.node (o193 P) .nil .nil) .nil) (.node (o153 P) .nil .nil))) (.node (boot_o_8 P) (.node (boot_o_8 P) (.node (o97 P) (.node (o184 P) .nil .nil) .nil) (.node (boot_o_7 P) .nil .nil)) (.node (o79 P) (.node (o121 P) (.node (o203 P) .nil .nil) .nil) (.node (o163 P) .nil .nil))))) (.node (o1 P) (.node (boot_o_7 P) (.node (o17 P) (.node (o44 P) (.node (boot_o_7 P) (.node (boot_o_7 P) .nil .nil) .nil) (.node (o127 P) (.node (o209 P) .nil .nil) .nil)) (.node (o63 P) (.node (boot_o_7 P) (.node (boot_o_7 P) .nil .nil) .nil) (.node (o26 P) .nil .nil))) (.node (o28 P) (.node (o53 P) (.node (o95 P) (.node (o182 P) .nil .nil) .nil) (.node (o137 P) .nil .nil)) (.node (o26 P) (.node (o118 P) (.node (o200 P) .nil .nil) .nil) (.node (boot_o_8 P) .nil .nil)))) (.node (boot_o_8 P) (.node (boot_o_7 P) (.node (o48 P) (.node (o90 P) (.node (o174 P) .nil .nil) .nil) (.node (o132 P) .nil .nil)) (.node (boot_o_7 P) (.node (boot_o_8 P) (.node (boot_o_8 P) .nil .nil) .nil) (.node (boot_o_7 P) .nil .nil))) (.node (o33 P) (.node (o58 P) (.node (o100 P) (.node (o187 P) .nil .nil) .nil) (.node (o142 P) .nil .nil)) (.node (o81 P) (.node (boot_o_7 P) (.node (boot_o_7 P) .nil .nil) .nil) (.node (o165 P) .nil .nil))))))))
noncomputable def st5 (w : World) (os : OsState) : SharedT := ⟨tr5 w.params, 329, (Life.mk [] [] [] 0 [] [] false #[] [] 0 false false false (0 : Int) [(2000 : Int), (10 : Int), (10 : Int)] false 0 true [] [] 0 false), (Array.mk []), (Drawn.mk 0 0 0 0), 632, os⟩
noncomputable def ps5 : Pos := (Pos.mk 167 0 179 71)
noncomputable def trF (P : Params) : BT := (.node (boot_o_0 P) (.node (boot_o_1 P) (.node (o149 P) (.node (boot_o_7 P) (.node (boot_o_7 P) (.node (o13 P) (.node (o34 P) (.node (boot_o_7 P) (.node (boot_o_7 P) .nil .nil) .nil) (.node (o123 P) (.node (o205 P) .nil .nil) .nil)) (.node (o59 P) (.node (o101 P) (.node (boot_o_7 P) .nil .nil) .nil) (.node (o143 P) .nil .nil))) (.node (o22 P) (.node (o49 P) (.node (o91 P) (.node (o175 P) .nil .nil) .nil) (.node (o133 P) .nil .nil)) (.node (boot_o_8 P) (.node (o114 P) (.node (o196 P) .nil .nil) .nil) (.node (boot_o_8 P) .nil .nil)))) (.node (boot_o_8 P) (.node (boot_o_7 P) (.node (o26 P) (.node (o86 P) (.node (o170 P) .nil .nil) .nil) (.node (o128 P) (.node (o210 P) .nil .nil) .nil)) (.node (o64 P) (.node (o26 P) (.node (boot_o_8 P) .nil .nil) .nil) (.node (o151 P) .nil .nil))) (.node (o29 P) (.node (o54 P) (.node (o96 P) (.node (o183 P) .nil .nil) .nil) (.node (boot_o_7 P) .nil .nil)) (.node (o77 P) (.node (boot_o_7 P) (.node (boot_o_7 P) .nil .nil) .nil) (.node (o161 P) .nil .nil))))) (.node (boot_o_7 P) (.node (o6 P) (.node (o16 P) (.node (o38 P) (.node (boot_o_7 P) (.node (boot_o_7 P) .nil .nil) .nil) (.node (boot_o_8 P) (.node (boot_o_8 P) .nil .nil) .nil)) (.node (boot_o_7 P) (.node (o105 P) (.node (o189 P) .nil .nil) .nil) (.node (o147 P) .nil .nil))) (.node (o26 P) (.node (o26 P) (.node (o93 P) (.node (o179 P) .nil .nil) .nil) (.node (boot_o_7 P) .nil .nil)) (.node (o73 P) (.node (o117 P) (.node (o199 P) .nil .nil) .nil) (.node (o159 P) .nil .nil)))) (.node (o11 P) (.node (boot_o_7 P) (.node (o46 P) (.node (boot_o_8 P) (.node (boot_o_8 P) .nil .nil) .nil) (.node (o130 P) .nil .nil)) (.node (o68 P) (.node (o112 P) (.node (o194 P) .nil .nil) .nil) (.node (o154 P) .nil .nil))) (.node (o31 P) (.node (o56 P) (.node (boot_o_7 P) (.node (boot_o_7 P) .nil .nil) .nil) (.node (o139 P) .nil .nil)) (.node (o80 P) (.node (boot_o_7 P) (.node (boot_o_7 P) .nil .nil) .nil) (.node (o164 P) .nil .nil)))))) (.node (boot_o_5 P) (.node (boot_o_9 P) (.node (o5 P) (.node (o14 P) (.node (o36 P) (.node (o83 P) (.node (o167 P) .nil .nil) .nil) (.node (o125 P) (.node (o207 P) .nil .nil) .nil)) (.node (boot_o_8 P) (.node (o103 P) (.node (o188 P) .nil .nil) .nil) (.node (o145 P) .nil .nil))) (.node (o24 P) (.node (o51 P) (.node (boot_o_7 P) (.node (o177 P) .nil .nil) .nil) (.node (boot_o_8 P) .nil .nil)) (.node (boot_o_7 P) (.node (o115 P) (.node (o197 P) .nil .nil) .nil) (.node (boot_o_7 P) .nil .nil)))) (.node (boot_o_7 P) (.node (o19 P) (.node (boot_o_7 P) (.node (o88 P) (.node (o172 P) .nil .nil) .nil) (.node (boot_o_7 P) .nil .nil)) (.node (o66 P) (.node (boot_o_7 P) (.node (boot_o_7 P) .nil .nil) .nil) (.node (o152 P) .nil .nil))) (.node (boot_o_7 P) (.node (boot_o_7 P) (.node (boot_o_8 P) (.node (boot_o_8 P) .nil .nil) .nil) (.node (o138 P) .nil .nil)) (.node (o78 P) (.node (o120 P) (.node (o202 P) .nil .nil) .nil) (.node (o162 P) .nil .nil))))) (.node (o0 P) (.node (o8 P) (.node (boot_o_8 P) (.node (o40 P) (.node (o85 P) (.node (o169 P) .nil .nil) .nil) (.node (boot_o_7 P) (.node (boot_o_7 P) .nil .nil) .nil)) (.node (o62 P) (.node (o107 P) (.node (o191 P) .nil .nil) .nil) (.node (boot_o_7 P) .nil .nil))) (.node (boot_o_7 P) (.node (boot_o_7 P) (.node (o94 P) (.node (o181 P) .nil .nil) .nil) (.node (o136 P) .nil .nil)) (.node (boot_o_7 P) (.node (boot_o_8 P) (.node (boot_o_8 P) .nil .nil) .nil) (.node (boot_o_7 P) .nil .nil)))) (.node (boot_o_7 P) (.node (o21 P) (.node (boot_o_7 P) (.node (boot_o_7 P) (.node (boot_o_7 P) .nil .nil) .nil) (.node (o131 P) .nil .nil)) (.node (o70 P) (.node (boot_o_7 P) (.node (boot_o_7 P) .nil .nil) .nil) (.node (o156 P) .nil .nil))) (.node (o32 P) (.node (o57 P) (.node (o99 P) (.node (o186 P) .nil .nil) .nil) (.node (o141 P) .nil .nil)) (.node (boot_o_8 P) (.node (o122 P) (.node (o204 P) .nil .nil) .nil) (.node (boot_o_8 P) .nil .nil))))))) (.node (o2 P) (.node (boot_o_4 P) (.node (boot_o_8 P) (.node (boot_o_8 P) (.node (boot_o_7 P) (.node (o35 P) (.node (o82 P) (.node (o166 P) .nil .nil) .nil) (.node (o124 P) (.node (o206 P) .nil .nil) .nil)) (.node (boot_o_7 P) (.node (o102 P) (.node (boot_o_8 P) .nil .nil) .nil) (.node (o144 P) .nil .nil))) (.node (o23 P) (.node (o50 P) (.node (o92 P) (.node (o176 P) .nil .nil) .nil) (.node (boot_o_7 P) .nil .nil)) (.node (o71 P) (.node (boot_o_7 P) (.node (boot_o_7 P) .nil .nil) .nil) (.node (o157 P) .nil .nil)))) (.node (o9 P) (.node (o18 P) (.node (o45 P) (.node (o87 P) (.node (o171 P) .nil .nil) .nil) (.node (o129 P) (.node (o211 P) .nil .nil) .nil)) (.node (o65 P) (.node (o110 P) (.node (o192 P) .nil .nil) .nil) (.node (boot_o_7 P) .nil .nil))) (.node (o30 P) (.node (o55 P) (.node (boot_o_7 P) (.node (boot_o_7 P) .nil .nil) .nil) (.node (boot_o_8 P) .nil .nil)) (.node (boot_o_7 P) (.node (o119 P) (.node (o201 P) .nil .nil) .nil) (.node (boot_o_7 P) .nil .nil))))) (.node (o150 P) (.node (o7 P) (.node (boot_o_7 P) (.node (o39 P) (.node (boot_o_8 P) (.node (boot_o_8 P) .nil .nil) .nil) (.node (o126 P) (.node (o208 P) .nil .nil) .nil)) (.node (o61 P) (.node (o106 P) (.node (o190 P) .nil .nil) .nil) (.node (o148 P) .nil .nil))) (.node (o27 P) (.node (o52 P) (.node (boot_o_7 P) (.node (o180 P) .nil .nil) .nil) (.node (o135 P) .nil .nil)) (.node (o74 P) (.node (boot_o_7 P) (.node (boot_o_7 P) .nil .nil) .nil) (.node (o160 P) .nil .nil)))) (.node (o12 P) (.node (boot_o_8 P) (.node (o47 P) (.node (o89 P) (.node (o173 P) .nil .nil) .nil) (.node (boot_o_7 P) .nil .nil)) (.node (o69 P) (.node (o113 P) (.node (o195 P) .nil .nil) .nil) (.node (o155 P) .nil .nil))) (.node (boot_o_7 P) (.node (boot_o_7 P) (.node (o98 P) (.node (o185 P) .nil .nil) .nil) (.node (o140 P) .nil .nil)) (.node (boot_o_7 P) (.node (boot_o_8 P) (.node (boot_o_8 P) .nil .nil) .nil) (.node (boot_o_7 P) .nil .nil)))))) (.node (boot_o_6 P) (.node (boot_o_10 P) (.node (boot_o_7 P) (.node (o15 P) (.node (o43 P) (.node (o84 P) (.node (o168 P) .nil .nil) .nil) (.node (boot_o_7 P) (.node (boot_o_7 P) .nil .nil) .nil)) (.node (o60 P) (.node (o104 P) (.node (boot_o_7 P) .nil .nil) .nil) (.node (o146 P) .nil .nil))) (.node (o25 P) (.node (boot_o_7 P) (.node (boot_o_8 P) (.node (o178 P) .nil .nil) .nil) (.node (o134 P) .nil .nil)) (.node (o72 P) (.node (o116 P) (.node (o198 P) .nil .nil) .nil) (.node (o158 P) .nil .nil)))) (.node (o10 P) (.node (o20 P) (.node (boot_o_8 P) (.node (boot_o_7 P) (.node (boot_o_7 P) .nil .nil) .nil) (.node (boot_o_8 P) .nil .nil)) (.node (o67 P) (.node (o111 P) (.node (o193 P) .nil .nil) .nil) (.node (o153 P) .nil .nil))) (.node (boot_o_8 P) (.node (boot_o_8 P) (.node (o97 P) (.node (o184 P) .nil .nil) .nil) (.node (boot_o_7 P) .nil .nil)) (.node (o79 P) (.node (o121 P) (.node (o203 P) .nil .nil) .nil) (.node (o163 P) .nil .nil))))) (.node (o1 P) (.node (boot_o_7 P) (.node (o17 P) (.node (o44 P) (.node (boot_o_7 P) (.node (boot_o_7 P) .nil .nil) .nil) (.node (o127 P) (.node (o209 P) .nil .nil) .nil)) (.node (o63 P) (.node (boot_o_7 P) (.node (boot_o_7 P) .nil .nil) .nil) (.node (o26 P) .nil .nil))) (.node (o28 P) (.node (o53 P) (.node (o95 P) (.node (o182 P) .nil .nil) .nil) (.node (o137 P) .nil .nil)) (.node (o26 P) (.node (o118 P) (.node (o200 P) .nil .nil) .nil) (.node (boot_o_8 P) .nil .nil)))) (.node (boot_o_8 P) (.node (boot_o_7 P) (.node (o48 P) (.node (o90 P) (.node (o174 P) .nil .nil) .nil) (.node (o132 P) .nil .nil)) (.node (boot_o_7 P) (.node (boot_o_8 P) (.node (boot_o_8 P) .nil .nil) .nil) (.node (boot_o_7 P) .nil .nil))) (.node (o33 P) (.node (o58 P) (.node (o100 P) (.node (o187 P) .nil .nil) .nil) (.node (o142 P) .nil .nil)) (.node (o81 P) (.node (boot_o_7 P) (.node (boot_o_7 P) .nil .nil) .nil) (.node (o165 P) .nil .nil))))))))
noncomputable def stF (w : World) (os : OsState) : SharedT := ⟨trF w.params, 329, (Life.mk [] [] [] 0 [] [] false #[] [] 0 false false false (0 : Int) [(2000 : Int), (10 : Int), (10 : Int)] false 0 true [] [] 0 false), (Array.mk []), (Drawn.mk 0 0 0 0), 632, os⟩
noncomputable def psF : Pos := (Pos.mk 167 0 179 71)
noncomputable def hp (P : Params) : Frag := ((nat_lit 2, o2 P) :: (nat_lit 3, o149 P) :: (nat_lit 15, boot_o_7 P) :: (nat_lit 17, o5 P) :: (nat_lit 18, boot_o_7 P) :: (nat_lit 20, o7 P) :: (nat_lit 21, o8 P) :: (nat_lit 22, boot_o_7 P) :: (nat_lit 24, o9 P) :: (nat_lit 25, boot_o_7 P) :: (nat_lit 27, o11 P) :: (nat_lit 28, o12 P) :: (nat_lit 29, boot_o_7 P) :: (nat_lit 31, o13 P) :: (nat_lit 32, boot_o_7 P) :: (nat_lit 34, o15 P) :: (nat_lit 35, o16 P) :: (nat_lit 36, boot_o_7 P) :: (nat_lit 38, o17 P) :: (nat_lit 39, boot_o_7 P) :: (nat_lit 41, o19 P) :: (nat_lit 42, o20 P) :: (nat_lit 43, boot_o_7 P) :: (nat_lit 45, o21 P) :: (nat_lit 46, boot_o_7 P) :: (nat_lit 48, o23 P) :: (nat_lit 49, o24 P) :: (nat_lit 50, o25 P) :: (nat_lit 57, boot_o_7 P) :: (nat_lit 59, o31 P) :: (nat_lit 60, boot_o_7 P) :: (nat_lit 62, o33 P) :: (nat_lit 63, o34 P) :: (nat_lit 64, o35 P) :: (nat_lit 65, o36 P) :: (nat_lit 66, o43 P) :: (nat_lit 67, o38 P) :: (nat_lit 70, o44 P) :: (nat_lit 77, boot_o_7 P) :: (nat_lit 78, o48 P) :: (nat_lit 79, o49 P) :: (nat_lit 89, boot_o_7 P) :: (nat_lit 91, o56 P) :: (nat_lit 92, boot_o_7 P) :: (nat_lit 94, o58 P) :: (nat_lit 95, o59 P) :: (nat_lit 96, boot_o_7 P) :: (nat_lit 98, o60 P) :: (nat_lit 99, boot_o_7 P) :: (nat_lit 101, o62 P) :: (nat_lit 102, o63 P) :: (nat_lit 103, o64 P) :: (nat_lit 104, o65 P) :: (nat_lit 105, o66 P) :: (nat_lit 106, o67 P) :: (nat_lit 107, o68 P) :: (nat_lit 110, boot_o_7 P) :: (nat_lit 112, o71 P) :: (nat_lit 113, boot_o_7 P) :: (nat_lit 115, o73 P) :: (nat_lit 116, o74 P) :: (nat_lit 124, boot_o_7 P) :: (nat_lit 126, o81 P) :: (nat_lit 127, boot_o_7 P) :: (nat_lit 129, o83 P) :: (nat_lit 130, o84 P) :: (nat_lit 131, boot_o_7 P) :: (nat_lit 133, o85 P) :: (nat_lit 134, boot_o_7 P) :: (nat_lit 136, o87 P) :: (nat_lit 137, o88 P) :: (nat_lit 138, boot_o_7 P) :: (nat_lit 140, o89 P) :: (nat_lit 141, boot_o_7 P) :: (nat_lit 143, o91 P) :: (nat_lit 144, o92 P) :: (nat_lit 145, boot_o_7 P) :: (nat_lit 147, o93 P) :: (nat_lit 148, boot_o_7 P) :: (nat_lit 150, o95 P) :: (nat_lit 151, o96 P) :: (nat_lit 152, boot_o_7 P) :: (nat_lit 154, o97 P) :: (nat_lit 155, boot_o_7 P) :: (nat_lit 157, o99 P) :: (nat_lit 158, o100 P) :: (nat_lit 159, o101 P) :: (nat_lit 160, o102 P) :: (nat_lit 161, o103 P) :: (nat_lit 162, o104 P) :: (nat_lit 163, o105 P) :: (nat_lit 173, boot_o_7 P) :: (nat_lit 175, o114 P) :: (nat_lit 176, boot_o_7 P) :: (nat_lit 178, o116 P) :: (nat_lit 179, o117 P) :: (nat_lit 180, boot_o_7 P) :: (nat_lit 182, o118 P) :: (nat_lit 183, boot_o_7 P) :: (nat_lit 185, o120 P) :: (nat_lit 186, o121 P) :: (nat_lit 187, boot_o_7 P) :: (nat_lit 189, o122 P) :: (nat_lit 190, boot_o_7 P) :: (nat_lit 192, o124 P) :: (nat_lit 193, o125 P) :: (nat_lit 194, boot_o_7 P) :: (nat_lit 196, o126 P) :: (nat_lit 197, boot_o_7 P) :: (nat_lit 199, o128 P) :: (nat_lit 200, o129 P) :: (nat_lit 201, boot_o_7 P) :: (nat_lit 203, o130 P) :: (nat_lit 204, boot_o_7 P) :: (nat_lit 206, o132 P) :: (nat_lit 207, o133 P) :: (nat_lit 208, boot_o_7 P) :: (nat_lit 210, o134 P) :: (nat_lit 211, boot_o_7 P) :: (nat_lit 213, o136 P) :: (nat_lit 214, o137 P) :: (nat_lit 215, boot_o_7 P) :: (nat_lit 217, o138 P) :: (nat_lit 218, boot_o_7 P) :: (nat_lit 220, o140 P) :: (nat_lit 221, o141 P) :: (nat_lit 222, o142 P) :: (nat_lit 223, o143 P) :: (nat_lit 224, o144 P) :: (nat_lit 225, o145 P) :: (nat_lit 226, o146 P) :: (nat_lit 236, o155 P) :: (nat_lit 237, o156 P) :: (nat_lit 238, boot_o_7 P) :: (nat_lit 240, o157 P) :: (nat_lit 241, boot_o_7 P) :: (nat_lit 243, o159 P) :: (nat_lit 244, o160 P) :: (nat_lit 245, boot_o_7 P) :: (nat_lit 247, o161 P) :: (nat_lit 248, boot_o_7 P) :: (nat_lit 250, o163 P) :: (nat_lit 251, o164 P) :: (nat_lit 252, boot_o_7 P) :: (nat_lit 254, o165 P) :: (nat_lit 255, boot_o_7 P) :: (nat_lit 257, o167 P) :: (nat_lit 258, o168 P) :: (nat_lit 259, boot_o_7 P) :: (nat_lit 261, o169 P) :: (nat_lit 262, boot_o_7 P) :: (nat_lit 264, o171 P) :: (nat_lit 265, o172 P) :: (nat_lit 266, boot_o_7 P) :: (nat_lit 268, o173 P) :: (nat_lit 269, boot_o_7 P) :: (nat_lit 271, o175 P) :: (nat_lit 272, o176 P) :: (nat_lit 273, o177 P) :: (nat_lit 274, o178 P) :: (nat_lit 275, o179 P) :: (nat_lit 276, o180 P) :: (nat_lit 277, o181 P) :: (nat_lit 280, boot_o_7 P) :: (nat_lit 282, o184 P) :: (nat_lit 283, boot_o_7 P) :: (nat_lit 285, o186 P) :: (nat_lit 286, o187 P) :: (nat_lit 287, boot_o_7 P) :: (nat_lit 289, o188 P) :: (nat_lit 290, boot_o_7 P) :: (nat_lit 292, o190 P) :: (nat_lit 293, o191 P) :: (nat_lit 294, boot_o_7 P) :: (nat_lit 296, o192 P) :: (nat_lit 297, boot_o_7 P) :: (nat_lit 299, o194 P) :: (nat_lit 300, o195 P) :: (nat_lit 301, boot_o_7 P) :: (nat_lit 303, o196 P) :: (nat_lit 304, boot_o_7 P) :: (nat_lit 306, o198 P) :: (nat_lit 307, o199 P) :: (nat_lit 308, boot_o_7 P) :: (nat_lit 310, o200 P) :: (nat_lit 311, boot_o_7 P) :: (nat_lit 313, o202 P) :: (nat_lit 314, o203 P) :: (nat_lit 315, boot_o_7 P) :: (nat_lit 317, o204 P) :: (nat_lit 318, boot_o_7 P) :: (nat_lit 320, o206 P) :: (nat_lit 321, o207 P) :: (nat_lit 322, boot_o_7 P) :: (nat_lit 324, o208 P) :: (nat_lit 325, boot_o_7 P) :: (nat_lit 327, o210 P) :: (nat_lit 328, o211 P) :: [])
noncomputable def as0 : List Addr := (nat_lit 2 :: nat_lit 3 :: nat_lit 15 :: nat_lit 17 :: nat_lit 18 :: nat_lit 20 :: nat_lit 21 :: nat_lit 22 :: nat_lit 24 :: nat_lit 25 :: nat_lit 27 :: nat_lit 28 :: nat_lit 29 :: nat_lit 31 :: nat_lit 32 :: nat_lit 34 :: nat_lit 35 :: nat_lit 36 :: nat_lit 38 :: nat_lit 39 :: nat_lit 41 :: nat_lit 42 :: nat_lit 43 :: nat_lit 45 :: nat_lit 46 :: nat_lit 48 :: nat_lit 49 :: nat_lit 50 :: nat_lit 57 :: nat_lit 59 :: nat_lit 60 :: nat_lit 62 :: nat_lit 63 :: nat_lit 64 :: nat_lit 65 :: nat_lit 66 :: nat_lit 67 :: nat_lit 70 :: nat_lit 77 :: nat_lit 78 :: nat_lit 79 :: nat_lit 89 :: nat_lit 91 :: nat_lit 92 :: nat_lit 94 :: nat_lit 95 :: nat_lit 96 :: nat_lit 98 :: nat_lit 99 :: nat_lit 101 :: nat_lit 102 :: nat_lit 103 :: nat_lit 104 :: nat_lit 105 :: nat_lit 106 :: nat_lit 107 :: nat_lit 110 :: nat_lit 112 :: nat_lit 113 :: nat_lit 115 :: nat_lit 116 :: nat_lit 124 :: nat_lit 126 :: nat_lit 127 :: nat_lit 129 :: nat_lit 130 :: nat_lit 131 :: nat_lit 133 :: nat_lit 134 :: nat_lit 136 :: nat_lit 137 :: nat_lit 138 :: nat_lit 140 :: nat_lit 141 :: nat_lit 143 :: nat_lit 144 :: nat_lit 145 :: nat_lit 147 :: nat_lit 148 :: nat_lit 150 :: nat_lit 151 :: nat_lit 152 :: nat_lit 154 :: nat_lit 155 :: nat_lit 157 :: nat_lit 158 :: nat_lit 159 :: nat_lit 160 :: nat_lit 161 :: nat_lit 162 :: nat_lit 163 :: nat_lit 173 :: nat_lit 175 :: nat_lit 176 :: nat_lit 178 :: nat_lit 179 :: nat_lit 180 :: nat_lit 182 :: nat_lit 183 :: nat_lit 185 :: nat_lit 186 :: nat_lit 187 :: nat_lit 189 :: nat_lit 190 :: nat_lit 192 :: nat_lit 193 :: nat_lit 194 :: nat_lit 196 :: nat_lit 197 :: nat_lit 199 :: nat_lit 200 :: nat_lit 201 :: nat_lit 203 :: nat_lit 204 :: nat_lit 206 :: nat_lit 207 :: nat_lit 208 :: nat_lit 210 :: nat_lit 211 :: nat_lit 213 :: nat_lit 214 :: nat_lit 215 :: nat_lit 217 :: nat_lit 218 :: nat_lit 220 :: nat_lit 221 :: nat_lit 222 :: nat_lit 223 :: nat_lit 224 :: nat_lit 225 :: nat_lit 226 :: nat_lit 236 :: nat_lit 237 :: nat_lit 238 :: nat_lit 240 :: nat_lit 241 :: nat_lit 243 :: nat_lit 244 :: nat_lit 245 :: nat_lit 247 :: nat_lit 248 :: nat_lit 250 :: nat_lit 251 :: nat_lit 252 :: nat_lit 254 :: nat_lit 255 :: nat_lit 257 :: nat_lit 258 :: nat_lit 259 :: nat_lit 261 :: nat_lit 262 :: nat_lit 264 :: nat_lit 265 :: nat_lit 266 :: nat_lit 268 :: nat_lit 269 :: nat_lit 271 :: nat_lit 272 :: nat_lit 273 :: nat_lit 274 :: nat_lit 275 :: nat_lit 276 :: nat_lit 277 :: nat_lit 280 :: nat_lit 282 :: nat_lit 283 :: nat_lit 285 :: nat_lit 286 :: nat_lit 287 :: nat_lit 289 :: nat_lit 290 :: nat_lit 292 :: nat_lit 293 :: nat_lit 294 :: nat_lit 296 :: nat_lit 297 :: nat_lit 299 :: nat_lit 300 :: nat_lit 301 :: nat_lit 303 :: nat_lit 304 :: nat_lit 306 :: nat_lit 307 :: nat_lit 308 :: nat_lit 310 :: nat_lit 311 :: nat_lit 313 :: nat_lit 314 :: nat_lit 315 :: nat_lit 317 :: nat_lit 318 :: nat_lit 320 :: nat_lit 321 :: nat_lit 322 :: nat_lit 324 :: nat_lit 325 :: nat_lit 327 :: nat_lit 328 :: [])
noncomputable def env0 : Env := { scope := prog0.main.scope, locals := mainNs, globals := mainNs, cells := [], code := (Value.ref 13), frame := some 14 }
noncomputable def q0 : Pos := (Pos.mk 0 0 0 0)
noncomputable abbrev B0 : List Frame := [topFrame q0]
noncomputable def c0 : Code := .body (behindTheImports prog0) env0
theorem go_pre : ∀ w : World, (fun os => topGo treeTable prog0 w 11 (some (.ref 6)) 12 ⟨boot_heap w.params, Array.mk [], boot_drawn, boot_toks, os⟩ (topStub prog0)) = fun os => some ((stA w os).abs, ⟨denote treeTable c0, c0, psA, B0⟩) := fun w => by kernel_rfl
theorem go_block : ∀ w : World, (fun os => segRunT treeTable prog0 w 11 (some (.ref 6)) 1 1 (stA w os) (blockOf (behindTheImports prog0) env0 c0 psA B0)) = fun os => some (.next, stB w os, c0, psB) := fun w => by kernel_rfl
noncomputable def sts1 : List Stmt := ((behindTheImports prog0).drop 0).take 11
theorem go_1 : ∀ w : World, (fun os => segRunT treeTable prog0 w 11 (some (.ref 6)) 1 421 (stB w os) (piecesOf sts1 env0 c0 psB B0)) = fun os => some (.next, st1 w os, c0, ps1) := fun w => by
  first | (unfold piecesOf; rw [Fast.te10110043849684766642, Fast.te14364793385576792824, Fast.te12563942051412417395]; kernel_rfl) | kernel_rfl
noncomputable def sts2 : List Stmt := ((behindTheImports prog0).drop 11).take 5
theorem go_2 : ∀ w : World, (fun os => segRunT treeTable prog0 w 11 (some (.ref 6)) 1 522 (st1 w os) (piecesOf sts2 env0 c0 ps1 B0)) = fun os => some (.next, st2 w os, c0, ps2) := fun w => by
  first | (unfold piecesOf; rw [Fast.te10110043849684766642, Fast.te14364793385576792824, Fast.te12563942051412417395]; kernel_rfl) | kernel_rfl
noncomputable def sts3 : List Stmt := ((behindTheImports prog0).drop 16).take 2
theorem go_3 : ∀ w : World, (fun os => segRunT treeTable prog0 w 11 (some (.ref 6)) 1 376 (st2 w os) (piecesOf sts3 env0 c0 ps2 B0)) = fun os => some (.next, st3 w os, c0, ps3) := fun w => by
  first | (unfold piecesOf; rw [Fast.te10110043849684766642, Fast.te14364793385576792824, Fast.te12563942051412417395]; kernel_rfl) | kernel_rfl
noncomputable def sts4 : List Stmt := ((behindTheImports prog0).drop 18).take 1
theorem go_4 : ∀ w : World, (fun os => segRunT treeTable prog0 w 11 (some (.ref 6)) 1 412 (st3 w os) (piecesOf sts4 env0 c0 ps3 B0)) = fun os => some (.next, st4 w os, c0, ps4) := fun w => by
  first | (unfold piecesOf; rw [Fast.te10110043849684766642, Fast.te14364793385576792824, Fast.te12563942051412417395]; kernel_rfl) | kernel_rfl
noncomputable def sts5 : List Stmt := ((behindTheImports prog0).drop 19).take 9
theorem go_5 : ∀ w : World, (fun os => segRunT treeTable prog0 w 11 (some (.ref 6)) 1 599 (st4 w os) (piecesOf sts5 env0 c0 ps4 B0)) = fun os => some (.next, st5 w os, c0, ps5) := fun w => by
  first | (unfold piecesOf; rw [Fast.te10110043849684766642, Fast.te14364793385576792824, Fast.te12563942051412417395]; kernel_rfl) | kernel_rfl
theorem go_fin : ∀ w : World, (fun os => runT treeTable prog0 w 11 (some (.ref 6)) 2 (st5 w os) ⟨doneF .next, c0, ps5, B0⟩) = fun os => some (stF w os) := fun w => by kernel_rfl
theorem e0 : opening prog0 = plainProg prog0.main.scope.names := by kernel_rfl
theorem f0 : ∀ s, fenceModules? prog0 s = some s := fun s => by kernel_rfl
theorem sz0 : ∀ w : World, ((boot_heap w.params).isNs mainGlobals && (Array.mk [] : Array GenState).size == 0, (boot_heap w.params).objs.size, (boot_heap w.params).nsMap mainGlobals "__annotations__") = (true, 11, some (.ref 6)) := fun w => by kernel_rfl
theorem split0 : behindTheImports prog0 = sts1 ++ (sts2 ++ (sts3 ++ (sts4 ++ (sts5 ++ [])))) := by kernel_rfl
theorem go_all (w : World) (os : OsState) : topRun treeTable prog0 w 11 (some (.ref 6)) (12 + (1 + (421 + (522 + (376 + (412 + (599 + 2))))))) ⟨boot_heap w.params, Array.mk [], boot_drawn, boot_toks, os⟩ (topStub prog0) = some (stF w os).abs := by
  refine go_top (congrFun (go_pre w) os) ?_
  refine piece_block (segRun_of (congrFun (go_block w) os)) ?_
  rw [split0]
  refine piece_app (segRun_of (congrFun (go_1 w) os)) ?_
  refine piece_app (segRun_of (congrFun (go_2 w) os)) ?_
  refine piece_app (segRun_of (congrFun (go_3 w) os)) ?_
  refine piece_app (segRun_of (congrFun (go_4 w) os)) ?_
  refine piece_app (segRun_of (congrFun (go_5 w) os)) ?_
  refine piece_nil ?_
  exact run_of (congrFun (go_fin w) os)
noncomputable def vw : Program := PySem.W.view prog0 [0, 2, 3, 4, 5, 6, 8, 10, 11, 13, 14, 16, 18, 19, 21, 22, 23, 24, 25, 26, 27]
noncomputable abbrev loose0 : List Str := [Str.ofString "HintWork"]
theorem hpAs : ∀ P : Params, as0 = (hp P).map (·.1) := fun P => by kernel_rfl
noncomputable abbrev hk : Hook := kHook hp as0 hpAs
theorem said0 : PySem.W.OpenLaw.wellSaid PySem.Challenge.rw_xm0722_01 = true := by
  first | (rw [Fast.te9446332074065402090]; kernel_rfl) | kernel_rfl
theorem lookA : ∀ w : World, (fun os => (staticsOk (importedModules prog0.main.body) (boot_heap w.params) (stF w os).abs.heap && namesBound prog0 (stF w os).abs.heap && gensDone (stF w os).abs && laidKept (boot_heap w.params) (stF w os).abs.heap)) = fun _ => true := fun w => by kernel_rfl
theorem lookB : ∀ w : World, (fun os => openSeen vw loose0 (importedModules prog0.main.body) (fun s => xlAt vw [] s && recOk (RowW.records PySem.Challenge.rw_xm0722_01.row.toRowW) s) true (stF w os).abs) = fun _ => openGood vw loose0 := fun w => by
  first | (rw [Fast.te4187177175401517315]; kernel_rfl) | kernel_rfl
theorem lookC : ∀ w : World, (fun os => Hook.obs hk (stF w os).abs) = fun _ => Hook.val hk w := fun w => by kernel_rfl
theorem look0 : ∀ w : World, (fun os => ((staticsOk (importedModules prog0.main.body) (boot_heap w.params) (stF w os).abs.heap && namesBound prog0 (stF w os).abs.heap && gensDone (stF w os).abs && laidKept (boot_heap w.params) (stF w os).abs.heap),
    openSeen vw loose0 (importedModules prog0.main.body) (fun s => xlAt vw [] s && recOk (RowW.records PySem.Challenge.rw_xm0722_01.row.toRowW) s) true (stF w os).abs, Hook.obs hk (stF w os).abs)) = fun _ => (true, openGood vw loose0, Hook.val hk w) :=
  fun w => funext fun os => Prod.ext (congrFun (lookA w) os) (Prod.ext (congrFun (lookB w) os) (congrFun (lookC w) os))
theorem left0 : LeftO prog0 vw loose0 (fun s => xlAt vw [] s && recOk (RowW.records PySem.Challenge.rw_xm0722_01.row.toRowW) s) (Hook.obs hk) (Hook.val hk) 4776 :=
  LeftO.of_pieces (H₀ := boot_heap) (H₁ := fun P => absHeap (trF P) 329 (Life.mk [] [] [] 0 [] [] false #[] [] 0 false false false (0 : Int) [(2000 : Int), (10 : Int), (10 : Int)] false 0 true [] [] 0 false)) (gs₀ := Array.mk []) (gs₁ := Array.mk []) (d₀ := boot_drawn) (d₁ := (Drawn.mk 0 0 0 0)) (k₀ := boot_toks) (k₁ := 632) (m₀ := 11) (ann := some (.ref 6)) (M := 12 + (1 + (421 + (522 + (376 + (412 + (599 + 2)))))))
    (boot_open e0 rfl f0) sz0 go_all rfl look0
end Mine
end

section
open PySem PySem.W PyProof.Rows PySem.Calls
namespace Mine
local macro_rules | `(tactic| walk_at "eval Dict") => `(tactic| (k_here; k_dflt (refine' kdn_str ?q ?F ?N ?b ?a ?l ?e ?n ?_; (case q => rfl); (case F => k_asm); (case N => first | k_asm | exact News.nil); (case b => exact Top.nolimit (by k_asm)); (case a => rfl); (case l => rfl); (case e => exact List.cons_ne_nil _ _); (case n => exact Nat.le_of_ble_eq_true rfl)); intro d' h' o' F' N' l1 lo' hd'; (try k_lt l1)))
local macro_rules | `(tactic| k_enter) => `(tactic| (refine' code_def ?k1 ?k2 ?k3 ?k4 ?k5 ?kA ?kF ?kK ?k6 ?k7 ?k8 ?k9 ?kB ?_ ?c2 ?c3 ?c4 ?c5; (case kA => exact rfl); (case kF => exact rfl); (case kK => assumption); (case k1 => k_asm); (case k2 => k_asm); (case k3 => k_asm); (case k4 => k_asm); (case k5 => k_asm); (case k6 => k_is); (case k7 => k_is); (case k8 => k_room); (case k9 => first | exact BindsTo.of_eq rfl | exact binds_K (by k_in) rfl (by k_is) rfl rfl rfl); (case c5 => decide); (case kB => exact locs rfl); (case c2 => exact rfl); (case c3 => exact rfl); (case c4 => exact rfl); k_whole; intro g' L' h' FG' F' N' B' X' T'; (try dsimp only); (try k_lift B'); (try k_fold)))
set_option maxRecDepth 100000 in
set_option maxHeartbeats 8000000 in
/-- HintWork([], []) -/
theorem hw : ∀ (w : World) (mean : ExcName → Option Value) (mg mb : Str → Option Value) (base h₀ : Heap) (L₀ L a a' : Addr) (m : Str → Option Value) (s : Shared) (Q E : Value → Shared → Prop) (cn cn' : Str) (cs cs' : Scope) (ccd ccd' : Value)
    (l₁ l₂ : Addr) (news : List (Addr × Obj))
    (zB : Below (callerA.deeper (envOf cn cs L₀ a ccd)) base [envOf cn cs L₀ a ccd] h₀) (zF : Fr h₀ L s.heap m) (zX : (hp w.params).In h₀) (zN : News h₀ L s.heap news)
    (zT : Top vw (looseW vw [Str.ofString "HintWork"]) mean mg mb h₀) (zhcs : cs'.kind = .function)
    (zhret : ∀ (x dx sx dsx nl : Addr) (t₁ t₂ t₃ t₄ t₅ t₆ t₇ t₈ u₁ u₂ u₃ : Tok) (v₁ v₃ v₄ v₅ v₆ v₇ v₈ : Value) (h' : Heap) (tk' : Nat), Fr h₀ L h' m →
      News h₀ L h' ((x, instObj 275 dx) :: (dx, dictOf [{ hash := PyData.keyHash w.params (Str.ofString "state"), key := .str (Str.ofString "state") t₁, val := v₁ }, { hash := PyData.keyHash w.params (Str.ofString "stack"), key := .str (Str.ofString "stack") t₂, val := .ref sx }, { hash := PyData.keyHash w.params (Str.ofString "zones"), key := .str (Str.ofString "zones") t₃, val := v₃ }, { hash := PyData.keyHash w.params (Str.ofString "cvt"), key := .str (Str.ofString "cvt") t₄, val := v₄ }, { hash := PyData.keyHash w.params (Str.ofString "storage"), key := .str (Str.ofString "storage") t₅, val := v₅ }, { hash := PyData.keyHash w.params (Str.ofString "ppem"), key := .str (Str.ofString "ppem") t₆, val := v₆ }, { hash := PyData.keyHash w.params (Str.ofString "point_size"), key := .str (Str.ofString "point_size") t₇, val := v₇ }, { hash := PyData.keyHash w.params (Str.ofString "scale"), key := .str (Str.ofString "scale") t₈, val := v₈ }] 8) :: (sx, instObj 224 dsx) :: (dsx, dictOf [{ hash := PyData.keyHash w.params (Str.ofString "most"), key := .str (Str.ofString "most") u₁, val := .int 64 u₃ }, { hash := PyData.keyHash w.params (Str.ofString "numbers"), key := .str (Str.ofString "numbers") u₂, val := .ref nl }] 2) :: (nl, W.listOf #[] 0) :: news) →
      (∀ p ∈ news, p.1 < dx) → (∀ p ∈ news, p.1 < nl) → @LT.lt Nat _ dx x → @LT.lt Nat _ x dsx → @LT.lt Nat _ dsx sx → @LT.lt Nat _ sx nl → Q (.ref x) { s with heap := h', toks := tk' }),
    wpAny (model PySem.Challenge.rw_xm0722_01.row.prog w) ((callerA.deeper (envOf cn cs L₀ a ccd)).deeper (envOf cn' cs' L a' ccd')) (call (.ref 275) [.ref l₁, .ref l₂]) Q E s := by
  k_fill
  intros
  rename_i hret
  have kMk := kstMark
  k_steps
  refine' hret _ _ _ _ _ _ _ _ _ _ _ _ _ _ _ _ _ _ _ _ _ _ _ _ _ ?eF ?eN ?e1 ?e0 ?e2 ?e3 ?e4 ?e5
  case eF => k_asm
  case eN =>
    refine' cb_drop ?a ?b
    case a => k_asm
    case b =>
      (repeat refine List.forall_mem_cons.mpr ⟨by k_mem, ?_⟩)
      exact fun p hp => by (repeat (first | exact hp | refine List.Mem.tail _ ?_))
  case e1 => assumption
  case e0 =>
    rename (∀ (p : Addr × Obj), p ∈ _ → p.fst < _) => hl
    exact fun p hp => Nat.lt_trans (hl p hp) (by omega)
  case e2 => omega
  case e3 => omega
  case e4 => omega
  case e5 => omega
end Mine
end

section
open PySem PySem.W PyProof.Rows PySem.Calls
namespace Mine
noncomputable def held (n : Int) : Int := if 2147483648 ≤ n.fmod 4294967296 then n.fmod 4294967296 - 4294967296 else n.fmod 4294967296
noncomputable def due (code n : Int) : Int := if code = 100 then held (max n (0 - n)) else if code = 101 then held (0 - n) else if code = 102 then held (n - n.fmod 64) else held (n + (0 - n).fmod 64)
theorem max_is (n : Int) : max n (0 - n) = if 0 - n > n then 0 - n else n := by
  split <;> omega
theorem ret_int {h₀ h' : Heap} {L : Addr} {m : Str → Option Value} {news news' : List (Addr × Obj)} {s : Shared} {Q : Value → Shared → Prop} {x y : Int} {t : Tok} {tk' : Nat}
    (hret : ∀ (t : Tok) (h' : Heap) (tk' : Nat), Fr h₀ L h' m → News h₀ L h' news → Q (.int x t) { s with heap := h', toks := tk' }) (e : y = x) (F : Fr h₀ L h' m) (N : News h₀ L h' news') (hs : ∀ p ∈ news, p ∈ news') : Q (.int y t) { s with heap := h', toks := tk' } := by
  subst e
  exact hret t h' tk' F (cb_drop N hs)
local macro_rules | `(tactic| walk_at "call builtin:max") => `(tactic| (k_here; (with_reducible show wpAny _ _ (call (Value.builtin _) [Value.int _ _, Value.int _ _]) _ _ _); k_dflt (refine' max_two_N ?hh ?F ?N ?_; (case hh => exact rfl); (case F => k_asm); (case N => k_asm)); intro h' tk' F' N'))
local macro_rules | `(tactic| k_enter) => `(tactic| (refine' code_def ?k1 ?k2 ?k3 ?k4 ?k5 ?kA ?kF ?kK ?k6 ?k7 ?k8 ?k9 ?kB ?_ ?c2 ?c3 ?c4 ?c5; (case kA => exact rfl); (case kF => exact rfl); (case kK => assumption); (case k1 => k_asm); (case k2 => k_asm); (case k3 => k_asm); (case k4 => k_asm); (case k5 => k_asm); (case k6 => k_is); (case k7 => k_is); (case k8 => k_room); (case k9 => first | exact BindsTo.of_eq rfl | exact binds_K (by k_in) rfl (by k_is) rfl rfl rfl); (case c5 => decide); (case kB => exact locs rfl); (case c2 => exact rfl); (case c3 => exact rfl); (case c4 => exact rfl); k_whole; intro g' L' h' FG' F' N' B' X' T'; (try dsimp only); (try k_lift B'); (try k_fold)))
set_option maxRecDepth 100000 in
set_option maxHeartbeats 8000000 in
/-- _law_due(code, n) -/
theorem due_ok : ∀ (w : World) (mean : ExcName → Option Value) (mg mb : Str → Option Value) (base h₀ : Heap) (L₀ L a a' : Addr) (m : Str → Option Value) (s : Shared) (Q E : Value → Shared → Prop) (cn cn' : Str) (cs cs' : Scope) (ccd ccd' : Value)
    (code n : Int) (t u : Tok) (news : List (Addr × Obj))
    (zB : Below (callerA.deeper (envOf cn cs L₀ a ccd)) base [envOf cn cs L₀ a ccd] h₀) (zF : Fr h₀ L s.heap m) (zX : (hp w.params).In h₀) (zN : News h₀ L s.heap news)
    (zT : Top vw (looseW vw [Str.ofString "HintWork"]) mean mg mb h₀) (zhcs : cs'.kind = .function)
    (zhret : ∀ (t : Tok) (h' : Heap) (tk' : Nat), Fr h₀ L h' m → News h₀ L h' news → Q (.int (due code n) t) { s with heap := h', toks := tk' }),
    wpAny (model PySem.Challenge.rw_xm0722_01.row.prog w) ((callerA.deeper (envOf cn cs L₀ a ccd)).deeper (envOf cn' cs' L a' ccd')) (call (.ref 314) [.int code t, .int n u]) Q E s := by
  k_fill
  intros
  rename_i hret
  k_steps
  all_goals refine' ret_int hret ?_ (by k_asm) (by k_asm) (fun _ h => h)
  all_goals (unfold due held; (try rw [max_is]); (repeat' split) <;> omega)
end Mine
end

section
open PySem PySem.W PyProof.Rows PySem.Calls
namespace Mine
theorem w_held (x : Int) : ((x + 2147483648).fmod 4294967296 - 2147483648 + 2147483648).fmod 4294967296 - 2147483648 = held x := by
  unfold held
  rw [Int.fmod_eq_emod_of_nonneg _ (by decide), Int.fmod_eq_emod_of_nonneg _ (by decide), Int.fmod_eq_emod_of_nonneg _ (by decide)]
  split <;> omega
theorem val_pos {code v : Int} (h : code = 100) (h2 : 0 ≤ v) : ((v + 2147483648).fmod 4294967296 - 2147483648 + 2147483648).fmod 4294967296 - 2147483648 = due code v := by
  rw [w_held]
  unfold due
  rw [if_pos h]
  congr 1
  omega
theorem val_neg {code v : Int} (h : code = 100) (h2 : ¬ 0 ≤ v) : ((0 - v + 2147483648).fmod 4294967296 - 2147483648 + 2147483648).fmod 4294967296 - 2147483648 = due code v := by
  rw [w_held]
  unfold due
  rw [if_pos h]
  congr 1
  omega
theorem val_opp {code v : Int} (h : ¬ code = 100) (h2 : code = 101) : ((0 - v + 2147483648).fmod 4294967296 - 2147483648 + 2147483648).fmod 4294967296 - 2147483648 = due code v := by
  rw [w_held]
  unfold due
  rw [if_neg h, if_pos h2]
theorem val_floor {code v : Int} (h : ¬ code = 100) (h2 : ¬ code = 101) (h3 : code = 102) : ((v.fdiv 64 * 64 + 2147483648).fmod 4294967296 - 2147483648 + 2147483648).fmod 4294967296 - 2147483648 = due code v := by
  rw [w_held]
  unfold due
  rw [if_neg h, if_neg h2, if_pos h3]
  congr 1
  rw [Int.fmod_eq_emod_of_nonneg _ (by decide), Int.fdiv_eq_ediv_of_nonneg _ (by decide)]
  omega
theorem val_ceil {code v : Int} (h : ¬ code = 100) (h2 : ¬ code = 101) (h3 : ¬ code = 102) : (((v + 64 - 1).fdiv 64 * 64 + 2147483648).fmod 4294967296 - 2147483648 + 2147483648).fmod 4294967296 - 2147483648 = due code v := by
  rw [w_held]
  unfold due
  rw [if_neg h, if_neg h2, if_neg h3]
  congr 1
  rw [Int.fmod_eq_emod_of_nonneg _ (by decide), Int.fdiv_eq_ediv_of_nonneg _ (by decide)]
  omega
section
variable {prog : Program} {w : World} {A : Around} {E : Value → Shared → Prop} {s : Shared} {h₀ : Heap} {L a b : Addr} {news : List (Addr × Obj)}
theorem ints_snoc {us : List Value} {xs : List Int} (h : IntsAre us xs) (x : Int) (t : Tok) : IntsAre (us ++ [Value.int x t]) (xs ++ [x]) := by
  induction h with
  | nil => exact .cons x t .nil
  | cons k u _ ih => exact .cons k u ih
theorem cmp_lists {us zs : List Value} {x y : Int} {t : Tok} {n k : Nat} {xs : List Int} {Q : Value → Shared → Prop} (N : News h₀ L s.heap news) (ha : (a, W.listOf (us.toArray.push (.int x t)) n) ∈ news) (hb : (b, W.listOf zs.toArray k) ∈ news)
    (hi : IntsAre us xs.dropLast) (hj : IntsAre zs (List.take (xs.length - 1) xs ++ [y])) (e : x = y) (hu : A.units + 64 < cLine) (h : Q (.bool true) s) :
    wpAny (model prog w) A (compareOp .Eq (.ref a) (.ref b)) Q E s := by
  have hl : s.heap.IsList a (us ++ [Value.int x t]).toArray := by
    have := N.isList ha
    simpa using this
  refine eq_intsK hl (ints_snoc hi x t) (N.isList hb) hj hu ?_
  subst e
  rw [← List.dropLast_eq_take, decide_eq_true rfl]
  exact h
end
end Mine
end

section
open PySem PySem.W PyProof.Rows PySem.Calls
set_option maxRecDepth 100000
namespace Mine
noncomputable abbrev excObj (C t : Addr) (d : Option Addr) : Obj := { cls := .ref C, dict := d, data := .fields #[.ref t, .none, .none, .none, .bool false, .none] }
noncomputable abbrev tupObj (vs : List Value) : Obj := { cls := .type "tuple", data := .seq vs.toArray }
section
variable {prog : Program} {w : World} {A : Around} {R : Result → Shared → Prop} {h : Heap} {g : Array GenState} {d : Drawn} {t : Nat} {os : OsState}
variable {nm q : Str} {C N : Addr} {bs bm bmB : List Value} {hdct : Bool} {sn : List Str} {sub : List Value} {ab : Bool} {col : Option Bool} {dd : Option Addr} {k0 k1 k2 k3 k5 : Option Value} {B newId initId : String}

/-- what `__new__` asks of the class -/
theorem ex_check {M : Model} {E : Value → Shared → Prop} (F : ExcBaseFacts B newId initId bmB) (hB : bm.contains (.type B) = true) {rest : List Value} {Q : Unit → Shared → Prop} (hC : h.get? C = some (excClassObj nm q C N bs bm hdct sn sub ab col dd k0 k1 k2 k3 k5 newId))
    (hq : Q () ⟨h, g, d, t, os⟩) : wpAny M A (checkBuiltinCall newId ⟨.ref C :: rest, []⟩) Q E ⟨h, g, d, t, os⟩ := by
  have hc : (Value.ref C :: bm).contains (.type B) = true := by rw [List.contains_cons, hB, Bool.or_true]
  have hs := F.noStar
  simp only [checkBuiltinCall, F.newKind, F.newSplit, F.newRow]
  repeat (first | refine wpAny_loadPart_at hC ?_ | (refine wpAny_isSubtype_exc hC ?_; rw [hc]) | refine wpAny_staticBase_exc hC ?_ | refine wpAny_madeBy_exc hC ?_ | simp only [bne_self_eq_false, Bool.false_eq_true, if_false] | wp_step)
  exact hq

theorem ex_new (F : ExcBaseFacts B newId initId bmB) (hB : bm.contains (.type B) = true) (hA : bm.contains (.type "AttributeError") = false) (hN : bm.contains (.type "NameError") = false) {rest : List Value}
    (hC : h.get? C = some (excClassObj nm q C N bs bm hdct sn sub ab col dd k0 k1 k2 k3 k5 newId))
    (hq : R (.ok (.ret (.ref (h.objs.size + 1)))) ⟨(h.push (tupObj rest)).push (excObj C h.objs.size none), g, d, t, os⟩) (hr : rest.length ≤ sizeLine) :
    codeAny (model prog w) A (.builtin newId ⟨.ref C :: rest, []⟩) R ⟨h, g, d, t, os⟩ := by
  have hends := F.ends
  have cB : (Value.ref C :: bm).contains (.type B) = true := by rw [List.contains_cons, hB, Bool.or_true]
  have cA : (Value.ref C :: bm).contains (.type "AttributeError") = false := by rw [List.contains_cons, hA]; rfl
  have cN : (Value.ref C :: bm).contains (.type "NameError") = false := by rw [List.contains_cons, hN]; rfl
  refine codeAny_builtinAt F.entry ?_
  unfold Builtin.«BaseException.__new__»
  refine PySem.wpAt_bind ?_
  show PySem.wpAt _ _ _ (stack >>= _) _ _ _
  refine PySem.wpAt_bind (PySem.wpAt_stack fun p below => PySem.wpAt_of_wpAny ?_)
  wp_walk
  refine PySem.wpAt_of_wpAny ?_
  rw [F.owner]
  repeat (first | with_reducible refine wpAny_madeHere_exc F.canon hC ?_ | with_reducible refine wpAny_loadPart_at hC ?_ | (with_reducible refine wpAny_isSubtype_exc hC ?_; first | rw [cB] | rw [cA] | rw [cN]) | wp_step)
  show R _ _
  rw [Heap.size_push]
  exact hq

theorem ex_make {K : Frag} {fI : Addr} {rest : List Value} (F : ExcBaseFacts B newId initId bmB) (hB : bm.contains (.type B) = true) (hA : bm.contains (.type "AttributeError") = false) (hN : bm.contains (.type "NameError") = false)
    (X : K.In h) (hC : h.get? C = some (excClassObj nm q C N bs bm hdct sn sub ab col dd k0 k1 k2 k3 k5 newId))
    (hi : findIn K (.ref C) "__init__" = some (some (.ref fI))) (hf : typeIn K (.ref fI) = some (.type "function")) (hr : rest.length ≤ sizeLine)
    (hq : codeAny (model prog w) (A.under (.builtin "type.__call__" ⟨.ref C :: rest, []⟩)) (.call (.ref fI) ⟨.ref (h.objs.size + 1) :: rest, []⟩) (InitBack (h.objs.size + 1) R)
      ⟨(h.push (tupObj rest)).push (excObj C h.objs.size none), g, d, t, os⟩) :
    codeAny (model prog w) A (.call (.ref C) ⟨rest, []⟩) R ⟨h, g, d, t, os⟩ := by
  have f1 := tc_lookup
  have f2 := tc_bind (.ref C)
  have hT : (⟨h, g, d, t, os⟩ : Shared).TypeIs (.ref C) "type" := ⟨_, hC, rfl⟩
  refine codeAny_of_tree ?_
  show wpAny _ _ (callAny (.ref C) _) _ _ _
  repeat (any_goals (first | assumption | with_reducible refine wpAny_loadPart_at hC ?_ | wp_step))
  refine ⟨rfl, ?_⟩
  refine codeAny_call_builtin_at (Code.quiet_builtin _ (by decide +kernel)) entry_typeCall (wpAny_check_type_call_sub hC ?_)
  unfold Builtin.«type.__call__»
  repeat (first | with_reducible refine wpAny_loadPart_at hC ?_ | with_reducible refine wpAny_madeBy_exc hC ?_ | wp_step)
  refine codeAny_call_builtin_code (Code.quiet_builtin _ F.quiet) (ex_check F hB hC ?_)
  refine ex_new F hB hA hN hC ?_ hr
  show wpAny _ _ _ _ _ ⟨(h.push (tupObj rest)).push (excObj C h.objs.size none), g, d, t, os⟩
  have k : ∀ b o, h.get? b = some o → ((h.push (tupObj rest)).push (excObj C h.objs.size none)).get? b = some o := fun b o e => Heap.get?_push_of_some _ (Heap.get?_push_of_some _ e)
  have hC₁ := k _ _ hC
  have hx : ((h.push (tupObj rest)).push (excObj C h.objs.size none)).get? (h.objs.size + 1) = some { cls := .ref C, data := .fields #[.ref h.objs.size, .none, .none, .none, .bool false, .none] } := by heap_get
  have hcC : (Value.ref C :: bm).contains (.ref C) = true := by simp
  unfold isInstance
  repeat (first | with_reducible refine wpAny_loadPart_at hx ?_ | (with_reducible refine wpAny_isSubtype_exc hC₁ ?_; rw [hcC]) | wp_step)
  show wpAny _ _ (typeLookup (.ref C) _) _ _ _
  refine ((looks_findIn X hi).keeps k).here ?_
  refine wpAny_holding (wpAny_bind (((bind_fn (M := model prog w) X (.ref (h.objs.size + 1)) hf).keeps k).here ?_))
  refine wpAny_bind (wpAny_call (codeAny_mono hq fun r s' z => ?_))
  rcases r with e | (v | _ | _ | _) <;> first | exact z | exact z.elim | skip
  obtain ⟨rfl, z⟩ := z
  exact wpAny_pure (wpAny_pure z)
end
end Mine
end

section
open PySem PySem.W PyProof.Rows PySem.Calls Builtin Builtin.ObjectAttr
set_option maxRecDepth 100000
namespace Mine
/-- a class whose line ends in Exception -/
noncomputable def refsThen : List Value → Bool
  | .ref _ :: r => refsThen r
  | l => l == [.type "Exception", .type "BaseException", .type "object"]
theorem refuse_refs (self : Value) : ∀ {l : List Value}, refsThen l = true → refuseLoop self "__setattr__" l = pure ()
  | [], e => by cases e
  | v :: r, e => by
    by_cases h : ∃ c, v = .ref c
    · obtain ⟨c, rfl⟩ := h
      rw [refuseLoop_ref]
      exact refuse_refs self (l := r) e
    · have e' : (v :: r) = [.type "Exception", .type "BaseException", .type "object"] := by
        cases v <;> first | exact beq_iff_eq.mp e | exact absurd ⟨_, rfl⟩ h
      rw [e']
      exact PySem.F.store_Exception.passes self
theorem refs_has : ∀ {l : List Value}, refsThen l = true → l.contains (.type "object") = true
  | [], e => by cases e
  | v :: r, e => by
    by_cases h : ∃ c, v = .ref c
    · obtain ⟨c, rfl⟩ := h
      rw [List.contains_cons, refs_has (l := r) e, Bool.or_true]
    · have e' : (v :: r) = [.type "Exception", .type "BaseException", .type "object"] := by
        cases v <;> first | exact beq_iff_eq.mp e | exact absurd ⟨_, rfl⟩ h
      rw [e']
      decide
noncomputable def excPlain (K : Frag) (C : Addr) : Bool := (clsIn K C).any fun cd => cd.hasDict && refsThen cd.mro

section
variable {prog : Program} {w : World} {A : Around} {K : Frag} {C x : Addr} {s : Shared} {h₀ : Heap} {L : Addr} {m : Str → Option Value} {news : List (Addr × Obj)}
theorem ex_store {R : Result → Shared → Prop} {t : Addr} {name : Str} {tk : Tok} {v : Value} (F : Fr h₀ L s.heap m) (N : News h₀ L s.heap ((x, excObj C t none) :: news)) (hx : ∀ p ∈ news, p.1 ≠ x) (X : K.In s.heap) (hp : excPlain K C = true) (ht : takerIn K C name = some none)
    (h : ∀ d h', Fr h₀ L h' m → News h₀ L h' ((x, excObj C t (some d)) :: news) → R (.ok (.ret .none)) { s with heap := h', toks := s.toks + 1 }) :
    codeAny (model prog w) A (.call (.builtin "object.__setattr__") ⟨[.ref x, .str name tk, v], []⟩) R s := by
  have SF := PySem.F.store_object
  obtain ⟨cd, hc, hq⟩ := any_some hp
  rw [Bool.and_eq_true] at hq
  obtain ⟨hd, ho⟩ := hq
  have ne : cd.mro.isEmpty = false := by cases q : cd.mro with | nil => rw [q] at ho; cases ho | cons _ _ => rfl
  have I : InstAt s.heap x (excObj C t none) C none := ⟨(N _ (.head _)).1, rfl, rfl, trivial⟩
  have sub : Looks (model prog w) s.heap (isInstance (.ref x) (.type "object")) true := I.type.andThen (looks_mroIn X (by unfold mroIn; rw [hc, Option.bind_some, if_neg (by rw [ne]; decide), refs_has ho]))
  refine codeAny_call_builtin SF.slot.plain SF.entry (@check_slot (model prog w) _ _ s "object.__setattr__" "object" "__setattr__" (.ref x) [.str name tk, v] [] _ SF.kind SF.split sub (SF.args (.ref x) (.str name tk) v) ?_)
  obtain ⟨attr, ha, hr⟩ := Option.bind_eq_some_iff.mp ht
  have hm : Looks (model prog w) s.heap (mroOf (.ref C)) cd.mro := (looks_clsIn X hc).andThen .now
  have L3 : Looks (model prog w) s.heap (storeTaker? attr) none := by
    cases attr with
    | none => exact .now
    | some a =>
      obtain ⟨b, hb, e⟩ := Option.map_eq_some_iff.mp hr
      refine (looks_takesIn X hb).andThen ?_
      cases b with
      | true => cases e
      | false => exact .now
  rw [osa_eq, refuse_eq]
  refine wpAny_bind (wpAny_bind (I.type.here (wpAny_bind (hm.here ?_))))
  rw [refuse_refs _ ho]
  refine wpAny_pure (wpAny_bind (I.type.here (wpAny_bind ((looks_findIn X ha).here (wpAny_bind (L3.here ?_))))))
  -- the dict is made here
  have hxo := I.at_
  have N1 := N.push F emptyDict
  have F1 := F.push emptyDict
  have xlt : x < s.heap.objs.size := Heap.lt_size hxo
  obtain ⟨F2, N2⟩ := news_upd (pre := [(s.heap.objs.size, emptyDict)]) (d := x) (o := excObj C t none) (o' := excObj C t (some s.heap.objs.size)) (post := news) (f := fun o => { o with dict := some s.heap.objs.size }) F1 N1
    (fun p hp => by rw [List.mem_singleton.mp hp]; exact Nat.ne_of_gt xlt) hx rfl rfl
  obtain ⟨F3, N3⟩ := news_upd (pre := []) (d := s.heap.objs.size) (o := emptyDict) (o' := Obj.putName name (PyData.keyHash w.params name) (.str name s.toks) v emptyDict) (f := Obj.putName name (PyData.keyHash w.params name) (.str name s.toks) v) (post := (x, excObj C t (some s.heap.objs.size)) :: news) F2 N2
    (fun p hp => nomatch hp) (fun p hp => by
      have : p.1 < s.heap.objs.size := by
        rcases List.mem_cons.mp hp with rfl | hp
        · exact xlt
        · exact Heap.lt_size (N p (.tail _ hp)).1
      exact Nat.ne_of_lt this) rfl rfl
  have D2 := (N2 (s.heap.objs.size, emptyDict) (.head _)).1
  have D3 := (N3 (s.heap.objs.size, _) (.head _)).1
  refine wpAny_bind (wpAny_pure (wpAny_bind (wpAny_bind (wpAny_loadPart hxo (wpAny_bind ((looks_clsIn X hc).here ?_))))))
  rw [hd]
  refine wpAny_bind (wpAny_alloc (wpAny_bind (wpAny_update (Heap.get?_push_of_some _ hxo) ?_)))
  refine wpAny_pure (a := some s.heap.objs.size) ?_
  refine wpAny_bind (wpAny_pure (wpAny_bind ?_))
  unfold nsSet
  refine wpAny_bind (wpAny_bind (wpAny_askSetting (wpAny_pure (wpAny_bind (wpAny_mkText (wpAny_bind (wpAny_loadPart D2 ?_)))))))
  dsimp only
  rw [if_neg (by rw [aRefKeyMayBeTheName_at]; simp)]
  refine wpAny_updatePart D2 ?_
  refine wpAny_bind (wpAny_lookBehind D3 ?_ ?_)
  · exact pastItsLine_dict (es := [(⟨PyData.keyHash w.params name, .str name s.toks, v⟩ : DictEntry)].toArray) (n := 1) (by simp [sizeLine_eq])
  · exact wpAny_pure (h _ _ F3 fun p hp => N3 p (.tail _ hp))

theorem ex_set {E : Value → Shared → Prop} {t : Addr} {name : Str} {v : Value} {Q : Unit → Shared → Prop} (F : Fr h₀ L s.heap m) (N : News h₀ L s.heap ((x, excObj C t none) :: news)) (hx : ∀ p ∈ news, p.1 ≠ x) (X : K.In s.heap) (hp : excPlain K C = true)
    (hs : findIn K (.ref C) "__setattr__" = some (some (.builtin "object.__setattr__"))) (ht : takerIn K C name = some none)
    (h : ∀ d h', Fr h₀ L h' m → News h₀ L h' ((x, excObj C t (some d)) :: news) → Q () { s with heap := h', toks := s.toks + 2 }) :
    wpAny (model prog w) A (setAttr (.ref x) name v) Q E s :=
  set_plain X (⟨(N _ (.head _)).1, rfl, rfl, trivial⟩ : InstAt s.heap x (excObj C t none) C none) hs (ex_store (s := { s with toks := s.toks + 1 }) F N hx X hp ht fun d h' F' N' => h d h' F' N')
end
end Mine
end

section
open PySem PySem.W PyProof.Rows PySem.Calls
set_option maxRecDepth 100000
namespace Mine
/-- the class as it lies: its line, what makes it -/
noncomputable def excOwn (K : Frag) (C : Addr) : Bool := match K.lookup C with
  | some ⟨.type "type", _, .cls cd, sl⟩ => (match cd.mro, sl.toList with
    | .ref C' :: bm, [_, _, _, _, some (.builtin n), _] => C' == C && n == "Exception.__new__" && !cd.hasDel && bm.contains (.type "Exception") && bm.contains (.type "BaseException") && !bm.contains (.type "AttributeError") && !bm.contains (.type "NameError")
    | _, _ => false)
  | _ => false
theorem excOwn_cls {K : Frag} {h : Heap} {C : Addr} (X : K.In h) (q : excOwn K C = true) : ∃ nm qn N bs bm hdct sn sub ab col dd k0 k1 k2 k3 k5,
    h.get? C = some (excClassObj nm qn C N bs bm hdct sn sub ab col dd k0 k1 k2 k3 k5 "Exception.__new__") ∧ bm.contains (.type "Exception") = true ∧ bm.contains (.type "BaseException") = true ∧ bm.contains (.type "AttributeError") = false ∧ bm.contains (.type "NameError") = false := by
  unfold excOwn at q
  split at q
  · rename_i dd cd sl ho
    split at q
    · rename_i C' bm k0 k1 k2 k3 n k5 hm hs
      simp only [Bool.and_eq_true, beq_iff_eq, Bool.not_eq_true'] at q
      obtain ⟨⟨⟨⟨⟨⟨rfl, rfl⟩, hdel⟩, h1⟩, h2⟩, h3⟩, h4⟩ := q
      obtain ⟨nm, bs, mro, ns, qn, hd, sn, sub, ab, col, del⟩ := cd
      dsimp only at hm hdel
      subst hm hdel
      have hsl : sl = #[k0, k1, k2, k3, some (.builtin "Exception.__new__"), k5] := by
        obtain ⟨l⟩ := sl
        simp only at hs
        rw [hs]
      subst hsl
      exact ⟨nm, qn, ns, bs, bm, hd, sn, sub, ab, col, dd, k0, k1, k2, k3, k5, X _ _ ho, h1, h2, h3, h4⟩
    · cases q
  · cases q

section
variable {prog : Program} {w : World} {A : Around} {E : Value → Shared → Prop} {K : Frag} {C x : Addr} {s : Shared} {h₀ : Heap} {L : Addr} {m : Str → Option Value} {news : List (Addr × Obj)}
theorem call_exc {pos : List Value} {fI : Addr} {Q : Value → Shared → Prop} (F : Fr h₀ L s.heap m) (X₀ : K.In h₀) (N : News h₀ L s.heap news) (q : excOwn K C = true) (hi : findIn K (.ref C) "__init__" = some (some (.ref fI))) (hf : isFn K (.ref fI) = true) (hr : pos.length ≤ sizeLine)
    (h : ∀ e t h', Fr h₀ L h' m → News h₀ L h' ((e, excObj C t none) :: (t, tupObj pos) :: news) → (∀ p ∈ news, p.1 < t) → (∀ p ∈ news, p.1 < e) → t < e →
      codeAny (model prog w) (A.under (.builtin "type.__call__" ⟨.ref C :: pos, []⟩)) (.call (.ref fI) ⟨.ref e :: pos, []⟩) (InitBack e fun r s' => match r with | .ok (.ret v) => Q v s' | .ok _ => False | .error e => E e s') { s with heap := h' }) :
    wpAny (model prog w) A (call (.ref C) pos []) Q E s := by
  obtain ⟨hh, g, d, t, os⟩ := s
  have X := X₀.keeps F.keep
  obtain ⟨nm, qn, Ns, bs, bm, hdct, sn, sub, ab, col, dd, k0, k1, k2, k3, k5, hC, h1, h2, h3, h4⟩ := excOwn_cls X q
  refine wpAny_call (ex_make PySem.F.excBase_Exception h1 h3 h4 X hC hi (beq_iff_eq.mp hf) hr (h _ hh.objs.size _ ((F.push _).push _) ?_ (fun p hp => Heap.lt_size (N p hp).1) (fun p hp => Nat.lt_succ_of_lt (Heap.lt_size (N p hp).1)) (Nat.lt_succ_self _)))
  have := (N.push F (tupObj pos)).push (F.push _) (excObj C hh.objs.size none)
  rwa [Heap.size_push] at this

def Throws (E : Value → Shared → Prop) (v : Value) (s : Shared) : Prop :=
  ∃ e C t dx nm qn N bs bm hdct sn sub ab col dd k0 k1 k2 k3 k5 newId, v = .ref e ∧ s.heap.get? C = some (excClassObj nm qn C N bs bm hdct sn sub ab col dd k0 k1 k2 k3 k5 newId) ∧ bm.contains (.type "BaseException") = true ∧
    s.heap.get? e = some (excObj C t dx) ∧ E v s
theorem throws_ {e t : Addr} {dx : Option Addr} (F : Fr h₀ L s.heap m) (X₀ : K.In h₀) (N : News h₀ L s.heap news) (q : excOwn K C = true) (hm : (e, excObj C t dx) ∈ news) (h : E (.ref e) s) : Throws E (.ref e) s := by
  obtain ⟨nm, qn, Ns, bs, bm, hdct, sn, sub, ab, col, dd, k0, k1, k2, k3, k5, hC, h1, h2, h3, h4⟩ := excOwn_cls (X₀.keeps F.keep) q
  exact ⟨e, C, t, dx, nm, qn, Ns, bs, bm, hdct, sn, sub, ab, col, dd, k0, k1, k2, k3, k5, _, rfl, hC, h2, (N _ hm).1, h⟩

theorem raise_own {M : Model} {env : Env} {c : Expr} {pos : Pos} {Q : Flow → Shared → Prop} (hh : A.handled = none) (h : wpAny M A (eval c env) (Throws E) E s) : wpAny M A (exec (.Raise (some c) none pos) env) Q E s := by
  show wpAny M A (do standAt pos; raiseStmt env (some (do let v ← eval c env; standAt pos; pure v)) none) Q E s
  refine wpAny_bind (wpAny_standAt ?_)
  unfold raiseStmt
  dsimp only
  refine wpAny_bind (wpAny_bind (wpAny_mono h (fun v s₁ h₁ => wpAny_bind (wpAny_standAt (wpAny_pure ?_))) fun _ _ x => x))
  obtain ⟨e, C, t, dx, nm, qn, N, bs, bm, hdct, sn, sub, ab, col, dd, k0, k1, k2, k3, k5, newId, rfl, hC, hb, he, hE⟩ := h₁
  have hcB : (Value.ref C :: bm).contains (.type "BaseException") = true := by rw [List.contains_cons, hb, Bool.or_true]
  obtain ⟨hp, g, d, tk, os⟩ := s₁
  have he' : hp.get? e = some { cls := .ref C, dict := dx, data := .fields #[.ref t, .none, .none, .none, .bool false, .none] } := he
  repeat (first | with_reducible refine wpAny_loadPart_at he' ?_ | with_reducible refine wpAny_loadPart_at hC ?_ | (with_reducible refine wpAny_isSubtype_exc hC ?_; rw [hcB]) | wp_step)
  exact wpAny_raiseNew_none hh hE
end

section
variable {M : Model} {A : Around} {E : Value → Shared → Prop} {s' : Shared} {base g : Heap} {outer : List Env} {L a e t C : Addr} {m : Str → Option Value} {name : Str} {scope : Scope} {cd : Value} {Q : Unit → Shared → Prop} {news : List (Addr × Obj)}
/-- the first frame that an exception of the ledger leaves -/
theorem leave_ledgerS {vs : List Value} {dx : Option Addr} (K : Below A base outer g) (F : Fr g L s'.heap m) (N : News g L s'.heap ((e, excObj C t dx) :: (t, tupObj vs) :: news)) (he : ∀ p ∈ (t, tupObj vs) :: news, p.1 ≠ e) (ht : ∀ p ∈ news, p.1 ≠ t)
    (hQ : ∀ h' t, RaisedS base g outer e (.ref C) t vs news h' → RaisedK base outer e (.ref C) t vs news h' → g.UpToSlots h' → Q () { s' with heap := h' }) (hk : scope.kind = .function := by rfl) :
    wpAny M (A.deeper (envOf name scope L a cd)) (leaving (envOf name scope L a cd) (.ref e)) Q E s' := by
  have K' := K.push (name := name) (a := a) (cd := cd) F hk
  have hin : ∀ env ∈ (envOf name scope L a cd :: outer), ∀ b, env.frame = some b → b ∈ (envOf name scope L a cd :: outer).filterMap (·.frame) ++ [e, t] := fun env h1 b hb => List.mem_append_left _ (List.mem_filterMap.mpr ⟨env, h1, hb⟩)
  have Ne := N (e, excObj C t dx) (.head _)
  have Nt := N (t, tupObj vs) (.tail _ (.head _))
  have st : base.StaysIn (hideAll s'.heap ((envOf name scope L a cd :: outer).filterMap (·.frame) ++ [e, t])) := fun b o q => hideAll_get _ (K'.stays b o q) fun hm => by
    rcases List.mem_append.mp hm with hm | hm
    · rw [(K'.frames.mem hm).1] at q; cases q
    · have hg : g.get? b = some o := K.stays b o q
      rcases List.mem_cons.mp hm with rfl | hm
      · rw [Ne.2.2] at hg; cases hg
      · rw [List.mem_singleton.mp hm, Nt.2.2] at hg; cases hg
  have sg : ∀ b o, g.get? b = some o → b ∉ outer.filterMap (·.frame) → (hideAll s'.heap ((envOf name scope L a cd :: outer).filterMap (·.frame) ++ [e, t])).get? b = some o := fun b o q nm => hideAll_get _ (F.keep b o q) fun hm => by
    rcases List.mem_append.mp hm with hm | hm
    · rcases kts_mem hm with z | z
      · rw [z, kts_self F] at q
        cases q
      · exact nm z
    · rcases List.mem_cons.mp hm with rfl | hm
      · rw [Ne.2.2] at q; cases q
      · rw [List.mem_singleton.mp hm, Nt.2.2] at q; cases q
  have hl : ∀ q ∈ news, (hideAll s'.heap ((envOf name scope L a cd :: outer).filterMap (·.frame) ++ [e, t])).get? q.1 = some q.2 ∧ g.get? q.1 = none ∧ base.get? q.1 = none := fun q hq => by
    have Nq := N q (.tail _ (.tail _ hq))
    refine ⟨hideAll_get _ Nq.1 fun hm => ?_, Nq.2.2, fresh_of_stays K.stays Nq.2.2⟩
    rcases List.mem_append.mp hm with hm | hm
    · obtain ⟨env, h1, hf⟩ := List.mem_filterMap.mp hm
      rcases List.mem_cons.mp h1 with rfl | h1
      · exact Nq.2.1 (Option.some.inj hf).symm
      · obtain ⟨o, ho, _⟩ := (K.frames.mem (List.mem_filterMap.mpr ⟨env, h1, hf⟩)).2
        rw [Nq.2.2] at ho; cases ho
    · rcases List.mem_cons.mp hm with z | hm
      · exact he q (.tail _ hq) z
      · exact ht q hq (List.mem_singleton.mp hm)
  have hne : (hideAll s'.heap ((envOf name scope L a cd :: outer).filterMap (·.frame) ++ [e, t])).get? e = none := hideAll_none _ (List.mem_append_right _ (.head _))
  have hnt : (hideAll s'.heap ((envOf name scope L a cd :: outer).filterMap (·.frame) ++ [e, t])).get? t = none := hideAll_none _ (List.mem_append_right _ (.tail _ (.head _)))
  refine wpAny_leaving_firstW (base := hideAll s'.heap ((envOf name scope L a cd :: outer).filterMap (·.frame) ++ [e, t])) (a0 := .ref t) K'.stack (funFrames_hide K'.frames hin) rfl Ne.1 (fun b o q => of_hideAll _ q) hne rfl rfl rfl fun h' hL => ?_
  obtain ⟨k1, ⟨_, _, k2⟩, k3, k4⟩ := hL
  have htup : h'.TupAt t vs := Heap.TupAt.of_slots ⟨_, _, Nt.1, rfl, rfl⟩ k4
  have R : RaisedS base g outer e (.ref C) t vs news h' := ⟨⟨_, st, sg, hl, ⟨k1, hne, k2, k3⟩, hnt⟩, htup⟩
  exact hQ h' t R R.toK ((Heap.UpToSlots.of_keeps F.keep).trans k4)
end
end Mine
end

section
open PySem PySem.W PyProof.Rows PySem.Calls
namespace Mine
theorem len0 {ns : List Int} (h : decide (ns = []) = true) : ((ns.length : Int) == 0) = true := by
  rw [decide_eq_true_eq] at h
  subst h
  rfl
theorem fin_bool {h₀ h' : Heap} {L : Addr} {m : Str → Option Value} {news news' : List (Addr × Obj)} {s : Shared} {Q : Value → Shared → Prop} {b : Bool} {tk' : Nat}
    (hret : ∀ (h' : Heap) (tk' : Nat), Fr h₀ L h' m → News h₀ L h' news → Q (.bool true) { s with heap := h', toks := tk' }) (e : b = true) (F : Fr h₀ L h' m) (N : News h₀ L h' news') (hs : ∀ p ∈ news, p ∈ news') : Q (.bool b) { s with heap := h', toks := tk' } := by
  subst e
  exact hret h' tk' F (cb_drop N hs)
theorem turn_ok {ns pre post : List Int} {n : Int} (hb : ∀ n ∈ ns, -2147483648 ≤ n ∧ n < 2147483648) (hlen : ns.length ≤ 3) (e : ns = pre ++ n :: post) :
    pre ++ [(n + 2147483648).fmod 4294967296 - 2147483648] = pre ++ [n] ∧ (pre ++ [(n + 2147483648).fmod 4294967296 - 2147483648]).length ≤ 3 := by
  subst e
  have hn := hb n (by simp)
  have hw : (n + 2147483648).fmod 4294967296 - 2147483648 = n := by
    rw [Int.fmod_eq_emod_of_nonneg _ (by decide)]
    omega
  rw [hw]
  refine ⟨rfl, ?_⟩
  simp only [List.length_append, List.length_cons, List.length_nil] at hlen ⊢
  omega
theorem dl_len {us : List Value} {l : List Int} (h : IntsAre us l) : us.dropLast.length = l.length - 1 := by
  rw [List.length_dropLast, h.length]
theorem pos_of_ne {us : List Value} {ns : List Int} (hi : IntsAre us ns) (h : decide (ns = []) = false) : 0 < us.length := by
  rw [decide_eq_false_iff_not] at h
  have e := hi.length
  cases ns with
  | nil => exact absurd rfl h
  | cons x r => rw [e]; exact Nat.succ_pos _
theorem dl_size {us : List Value} {l : List Int} (h : IntsAre us l) (hl : l.length ≤ 3) : us.dropLast.toArray.size ≤ sizeLine := by
  rw [List.size_toArray, dl_len h, sizeLine_eq]
  omega
local macro_rules | `(tactic| size_fits) => `(tactic| exact dl_size (by assumption) (by assumption))
section
variable {prog : Program} {w : World} {A : Around} {E : Value → Shared → Prop} {s : Shared} {h₀ : Heap} {L l : Addr} {news : List (Addr × Obj)} {vs : List Value} {ns : List Int} {n : Nat}
theorem last_sub {value slice : PySem.Expr} {k : Int} {u : Tok} {Q : Value → Shared → Prop} (N : News h₀ L s.heap news) (hm : (l, W.listOf vs.toArray n) ∈ news) (hi : IntsAre vs ns) (hne : decide (ns = []) = false) (hk : k = -1)
    (h : ∀ t, Q (.int (ns.getLastD 0) t) s)
    (hs : subscripted slice false (.ref l) (.int k u) = operate [.ref l, .int k u] (getItem (.ref l) (.int k u)) := by with_unfolding_all rfl) :
    wpAny (model prog w) A (subscriptTail value slice (.ref l) (.int k u)) Q E s := by
  have hp := pos_of_ne hi hne
  obtain ⟨y, t, h1, h2, _⟩ := kpa_ints hi hp
  subst hk
  refine kde_neg (j := vs.length - 1) (v := y) (N.isList hm) (by decide) (by decide) (seqIndex?_neg_one hp) ?_ (h2 ▸ h t) hs
  have e : vs.length - 1 = vs.dropLast.length := by rw [List.length_dropLast]
  rw [e]
  conv => lhs; rw [h1]
  simp
end
local macro_rules | `(tactic| walk_at "subscriptTail") => `(tactic| (k_here; (with_reducible show wpAny _ _ (subscriptTail _ _ (Value.ref _) (Value.int _ _)) _ _ _); k_dflt (refine' last_sub ?N ?m ?i ?e ?k ?_ ?s; (case k => rfl); (case N => k_asm); (case m => k_memK); (case i => assumption); (case e => assumption); (case s => with_unfolding_all rfl)); intro t'))
local macro_rules | `(tactic| walk_at "compareOp Eq ref ref") => `(tactic| (k_here; (with_reducible rename IntsAre (List.dropLast _) _ => hd9); k_dflt (refine' cmp_lists ?N ?a ?b ?i ?j ?e ?u ?_; (case N => k_asm); (case a => k_memK); (case b => k_memK); (case i => exact hd9); (case j => assumption); (case u => units_room); (case e => first | (with_reducible refine val_pos ?_ ?_; all_goals assumption) | (with_reducible refine val_neg ?_ ?_; all_goals assumption) | (with_reducible refine val_opp ?_ ?_; all_goals assumption) | (with_reducible refine val_floor ?_ ?_ ?_; all_goals assumption) | (with_reducible refine val_ceil ?_ ?_ ?_; all_goals assumption)))))
theorem q79 (P : Params) : excOwn (hp P) 79 = true := by kernel_rfl
theorem p79 (P : Params) : excPlain (hp P) 79 = true := by kernel_rfl
local macro_rules | `(tactic| walk_at "exec Raise some none") => `(tactic| (k_here; (with_reducible show wpAny _ _ (exec (Stmt.Raise (some (Expr.Call _ _ _ _)) none _) _) _ _ _); refine raise_own rfl ?_))
local macro_rules | `(tactic| walk_at "call ref") => `(tactic| (k_here; (with_reducible show wpAny _ _ (call (Value.ref _) [Value.str _ _]) _ _ _); k_dflt (refine' call_exc ?F ?X ?N ?q ?i ?f ?r ?_; (case F => k_asm); (case X => k_asm); (case N => k_asm); (case q => exact q79 _); (case i => k_is); (case f => k_is); (case r => exact Nat.le_of_ble_eq_true rfl); k_whole; intro e' t' h' F' N' l1 l0 l2; (try k_lt l1); (try k_lt l0); (try k_lt2 l2); (try k_sweep); k_enter)))
local macro_rules | `(tactic| walk_at "setAttr ref") => `(tactic| (k_here; k_dflt (refine' ex_set ?F ?N ?a ?X ?p ?s ?t ?_; (case F => k_asm); (case N => k_asm); (case a => k_all); (case X => k_in); (case p => exact p79 _); (case s => k_is); (case t => k_is); k_whole; intro d' h' F' N'; (try k_sweep))))
local macro_rules | `(tactic| walk_at "Throws") => `(tactic| (k_here; k_dflt (refine' throws_ ?F ?X ?N ?q ?m ?_; (case F => k_asm); (case X => k_asm); (case N => k_asm); (case q => exact q79 _); (case m => k_mem))))
local macro_rules | `(tactic| walk_at "leaving ref") => `(tactic| (k_here; k_dflt (refine' leave_ledgerS ?K ?F ?N ?e ?t ?_ ?k; (case F => k_asm); (case K => k_asm); (case N => k_asm); (case e => k_all); (case t => k_all); (case k => rfl); intro h' t' S' R' U'; (try dsimp only at S' R' U' ⊢))))
local macro_rules | `(tactic| kpa_ne) => `(tactic| exact pos_of_ne (by assumption) (by assumption))
local macro_rules | `(tactic| walk_at "call ref") => `(tactic| (k_here; (with_reducible show wpAny _ _ (call (Value.ref _) [Value.int _ _, Value.int _ _]) _ _ _); k_dflt (refine' due_ok _ _ _ _ _ _ _ _ _ _ _ _ _ _ _ _ _ _ _ _ _ _ _ _ _ ?B ?F ?X ?N ?T ?c ?_; (case B => k_asm); (case F => k_asm); (case X => k_asm); (case N => k_asm); (case T => k_asm); (case c => exact rfl)); intro t' h' tk' F' N'; (try k_sweep)))
local macro_rules | `(tactic| walk_at "call ref") => `(tactic| (k_here; (with_reducible show wpAny _ _ (call (Value.ref _) [Value.ref _, Value.ref _]) _ _ _); k_dflt (refine' hw _ _ _ _ _ _ _ _ _ _ _ _ _ _ _ _ _ _ _ _ _ _ _ ?B ?F ?X ?N ?T ?c ?_; (case B => k_asm); (case F => k_asm); (case X => k_asm); (case N => k_asm); (case T => k_asm); (case c => exact rfl)); intro x' dx' sx' dsx' nl' t1 t2 t3 t4 t5 t6 t7 t8 u1 u2 u3 v1 v3 v4 v5 v6 v7 v8 h' tk' F' N' l1 l0 q1 q2 q3 q4; (try k_lt l1); (try k_lt l0); (try k_sweep)))
local macro_rules | `(tactic| walk_at "call builtin:len") => `(tactic| (k_here; (with_reducible show wpAny _ _ (call (Value.builtin "len") [Value.ref _]) _ _ _); k_dflt (refine' kst_len ?k1 ?k2 ?k3 ?k4 ?_; (case k1 => k_asm); (case k2 => k_memK); (case k3 => exact dl_len (by assumption)); (case k4 => omega)); k_whole))
set_option maxRecDepth 100000 in
set_option maxHeartbeats 4000000 in
theorem sr : ∀ (w : World) (mean : ExcName → Option Value) (mg mb : Str → Option Value) (h₀ : Heap) (L a : Addr) (m : Str → Option Value) (s : Shared) (Q E : Value → Shared → Prop) (cn : Str) (cs : Scope) (ccd : Value)
    (l : Addr) (vs : List Value) (ns : List Int) (c : Nat) (rest : List (Addr × Obj)) (code : Int) (t : Tok)
    (zB : Below callerA h₀ [] h₀) (zF : Fr h₀ L s.heap m) (zX : (hp w.params).In h₀) (zN : News h₀ L s.heap ((l, W.listOf vs.toArray c) :: rest))
    (zT : Top vw (looseW vw [Str.ofString "HintWork"]) mean mg mb h₀) (zhcs : cs.kind = .function) (zhI : IntsAre vs ns)
    (zhlen : ns.length ≤ 3) (zhb : ∀ n ∈ ns, -2147483648 ≤ n ∧ n < 2147483648)
    (zhret : ∀ h' tk', Fr h₀ L h' m → News h₀ L h' ((l, W.listOf vs.toArray c) :: rest) → Q (.bool true) { s with heap := h', toks := tk' }),
    wpAny (model PySem.Challenge.rw_xm0722_01.row.prog w) (callerA.deeper (envOf cn cs L a ccd)) (call (.ref 321) [.int code t, .ref l]) Q E s := by
  k_fill
  intros
  rename_i hret
  have kMk := kstMark
  refine wpAny_call ?_
  k_dflt (refine' code_defS0 ?k1 ?k2 ?k3 ?k4 ?k5 ?kA ?k6 ?k7 ?k8 ?k9 ?kB ?_ ?cK ?c2 ?c3 ?c4 ?c5; (case kA => exact rfl); (case k2 => k_asm); (case k1 => k_asm); (case k3 => k_asm); (case k4 => k_asm); (case k5 => k_asm); (case k6 => k_is); (case k7 => k_is); (case k8 => k_room); (case k9 => first | exact binds_K (by k_in) rfl (by k_is) rfl rfl rfl | exact BindsTo.of_eq rfl); (case kB => exact locs rfl); (case cK => assumption); (case c2 => exact rfl); (case c3 => exact rfl); (case c4 => exact rfl); (case c5 => decide); k_whole; intro g' L' h' FG' F' N' B' X' T' D'; (try dsimp only); (try k_lift B'); (try k_fold))
  k_with "pyIter ref" => k_state (fun pre items => items = pre ∧ items.length ≤ 3) "work.stack.numbers"
  k_with "state" => exact turn_ok (by assumption) (by assumption) (by assumption)
  k_steps
  all_goals (refine fin_bool hret ?_ (by k_asm) (by k_asm) ?_)
  all_goals first | rfl | exact len0 (by assumption) | exact fun p hp => by (repeat (first | exact hp | refine List.Mem.tail _ ?_))
end Mine
end

section
open PySem PySem.W PyProof.Rows PySem.Calls
namespace Mine
theorem fm_lo (x : Int) {k : Int} (h : 0 < k) : 0 ≤ x.fmod k := Int.fmod_nonneg_of_pos x h
theorem fm_hi (x : Int) {k : Int} (h : 0 < k) : x.fmod k < k := Int.fmod_lt_of_pos x h
theorem sq_ok (a x y : Int) : IntMulOk ([a, x.fmod 2147483647].getD (Int.toNat 1) 0) y := by
  have h1 : (0 : Int) ≤ x.fmod 2147483647 := fm_lo x (by decide)
  have h2 : x.fmod 2147483647 < 2147483647 := fm_hi x (by decide)
  refine IntMulOk.of_left (intBits_le_64 ?_ ?_)
  · show -(2 ^ 64) < x.fmod 2147483647
    omega
  · show x.fmod 2147483647 < 2 ^ 64
    omega
local macro_rules | `(tactic| walk_at "binaryOp Mult int int") => `(tactic| (k_here; with_reducible refine PyProof.Rows.mul_int ?_ (sq_ok _ _ _)))
local macro_rules | `(tactic| k_enter) => `(tactic| (refine' code_def ?k1 ?k2 ?k3 ?k4 ?k5 ?kA ?kF ?kK ?k6 ?k7 ?k8 ?k9 ?kB ?_ ?c2 ?c3 ?c4 ?c5; (case kA => exact rfl); (case kF => exact rfl); (case kK => assumption); (case k1 => k_asm); (case k2 => k_asm); (case k3 => k_asm); (case k4 => k_asm); (case k5 => k_asm); (case k6 => k_is); (case k7 => k_is); (case k8 => k_room); (case k9 => first | exact BindsTo.of_eq rfl | exact binds_K (by k_in) rfl (by k_is) rfl rfl rfl); (case c5 => decide); (case kB => exact locs rfl); (case c2 => exact rfl); (case c3 => exact rfl); (case c4 => exact rfl); k_whole; intro g' L' h' FG' F' N' B' X' T'; (try dsimp only); (try k_lift B'); (try k_fold)))
set_option maxRecDepth 100000 in
set_option maxHeartbeats 8000000 in
/-- _law_take(source, top) -/
theorem take_core : ∀ (w : World) (mean : ExcName → Option Value) (mg mb : Str → Option Value) (h₀ : Heap) (L a₀ : Addr) (m : Str → Option Value) (s : Shared) (Q E : Value → Shared → Prop) (cn : Str) (cs : Scope) (ccd : Value)
    (src : Addr) (a b top : Int) (t₁ t₂ tt : Tok) (n : Nat) (rest : List (Addr × Obj))
    (zB : Below callerA h₀ [] h₀) (zF : Fr h₀ L s.heap m) (zX : (hp w.params).In h₀) (zN : News h₀ L s.heap ((src, W.listOf #[.int a t₁, .int b t₂] n) :: rest))
    (zT : Top vw (looseW vw [Str.ofString "HintWork"]) mean mg mb h₀) (zhcs : cs.kind = .function) (zoff : OwnOff rest [src])
    (zha : 0 ≤ a) (zhb0 : 0 ≤ b) (zhb : b < 2147483647) (zht : 0 < top) (zht2 : top ≤ 4000)
    (zhret : ∀ (r a' b' : Int) (t t₁ t₂ : Tok) (n : Nat) h' tk', 0 ≤ r → r < top → 0 ≤ a' → 0 ≤ b' → b' < 2147483647 → Fr h₀ L h' m → News h₀ L h' ((src, W.listOf #[.int a' t₁, .int b' t₂] n) :: rest) → Q (.int r t) { s with heap := h', toks := tk' }),
    wpAny (model PySem.Challenge.rw_xm0722_01.row.prog w) (callerA.deeper (envOf cn cs L a₀ ccd)) (call (.ref 293) [.ref src, .int top tt]) Q E s := by
  k_fill
  intros
  rename_i hret
  have kMk := kstMark
  k_steps
  all_goals refine' hret _ _ _ _ _ _ _ _ _ ?_ ?_ ?_ ?_ ?_ (by k_asm) (by k_asm)
  all_goals first
    | exact fm_lo _ (by assumption)
    | exact fm_hi _ (by assumption)
    | exact Int.fdiv_nonneg (by assumption) (by omega)
    | exact fm_lo _ (by decide)
    | exact fm_hi _ (by decide)
    | assumption
end Mine
end

section
open PySem PySem.W PyProof.Rows PySem.Calls
namespace Mine
local macro_rules | `(tactic| walk_at "binaryOp Mult int int") => `(tactic| (k_here; with_reducible refine PyProof.Rows.mul_int ?_ (sq_ok _ _ _)))
local macro_rules | `(tactic| k_enter) => `(tactic| (refine' code_def ?k1 ?k2 ?k3 ?k4 ?k5 ?kA ?kF ?kK ?k6 ?k7 ?k8 ?k9 ?kB ?_ ?c2 ?c3 ?c4 ?c5; (case kA => exact rfl); (case kF => exact rfl); (case kK => assumption); (case k1 => k_asm); (case k2 => k_asm); (case k3 => k_asm); (case k4 => k_asm); (case k5 => k_asm); (case k6 => k_is); (case k7 => k_is); (case k8 => k_room); (case k9 => first | exact BindsTo.of_eq rfl | exact binds_K (by k_in) rfl (by k_is) rfl rfl rfl); (case c5 => decide); (case kB => exact locs rfl); (case c2 => exact rfl); (case c3 => exact rfl); (case c4 => exact rfl); k_whole; intro g' L' h' FG' F' N' B' X' T'; (try dsimp only); (try k_lift B'); (try k_fold)))
theorem item_mem {ts : List Int} {i : Int} (h0 : 0 ≤ i) (h1 : i < (ts.length : Int)) : ts.getD i.toNat 0 ∈ ts := by
  have h : i.toNat < ts.length := by omega
  rw [List.getD_eq_getElem?_getD, List.getElem?_eq_getElem h]
  exact List.getElem_mem h
set_option maxRecDepth 100000 in
set_option maxHeartbeats 8000000 in
/-- _law_one(source, things) -/
theorem one_core : ∀ (w : World) (mean : ExcName → Option Value) (mg mb : Str → Option Value) (h₀ : Heap) (L a₀ : Addr) (m : Str → Option Value) (s : Shared) (Q E : Value → Shared → Prop) (cn : Str) (cs : Scope) (ccd : Value)
    (src th : Addr) (a b : Int) (t₁ t₂ : Tok) (n k : Nat) (tvs : List Value) (ts : List Int) (rest : List (Addr × Obj))
    (zB : Below callerA h₀ [] h₀) (zF : Fr h₀ L s.heap m) (zX : (hp w.params).In h₀) (zN : News h₀ L s.heap ((src, W.listOf #[.int a t₁, .int b t₂] n) :: (th, W.listOf tvs.toArray k) :: rest))
    (zT : Top vw (looseW vw [Str.ofString "HintWork"]) mean mg mb h₀) (zhcs : cs.kind = .function) (zoff : OwnOff rest [src]) (zlt : @LT.lt Nat _ src th) (zhI : IntsAre tvs ts)
    (zha : 0 ≤ a) (zhb0 : 0 ≤ b) (zhb : b < 2147483647) (zht : 0 < ts.length) (zht2 : ts.length ≤ 4000)
    (zhret : ∀ (r a' b' : Int) (t t₁ t₂ : Tok) (n : Nat) h' tk', r ∈ ts → 0 ≤ a' → 0 ≤ b' → b' < 2147483647 → Fr h₀ L h' m → News h₀ L h' ((src, W.listOf #[.int a' t₁, .int b' t₂] n) :: (th, W.listOf tvs.toArray k) :: rest) → Q (.int r t) { s with heap := h', toks := tk' }),
    wpAny (model PySem.Challenge.rw_xm0722_01.row.prog w) (callerA.deeper (envOf cn cs L a₀ ccd)) (call (.ref 300) [.ref src, .ref th]) Q E s := by
  k_fill
  intros
  rename_i hret
  have kMk := kstMark
  k_steps
  all_goals refine' hret _ _ _ _ _ _ _ _ _ ?_ ?_ ?_ ?_ (by k_asm) (by k_asm)
  all_goals first
    | exact item_mem (fm_lo _ (by omega)) (fm_hi _ (by omega))
    | exact Int.fdiv_nonneg (by assumption) (by omega)
    | exact fm_lo _ (by decide)
    | exact fm_hi _ (by decide)
    | assumption
end Mine
end

section
open PySem PySem.W PyProof.Rows PySem.Calls
namespace Mine
local macro_rules | `(tactic| k_enter) => `(tactic| (refine' code_def ?k1 ?k2 ?k3 ?k4 ?k5 ?kA ?kF ?kK ?k6 ?k7 ?k8 ?k9 ?kB ?_ ?c2 ?c3 ?c4 ?c5; (case kA => exact rfl); (case kF => exact rfl); (case kK => assumption); (case k1 => k_asm); (case k2 => k_asm); (case k3 => k_asm); (case k4 => k_asm); (case k5 => k_asm); (case k6 => k_is); (case k7 => k_is); (case k8 => k_room); (case k9 => first | exact BindsTo.of_eq rfl | exact binds_K (by k_in) rfl (by k_is) rfl rfl rfl); (case c5 => decide); (case kB => exact locs rfl); (case c2 => exact rfl); (case c3 => exact rfl); (case c4 => exact rfl); k_whole; intro g' L' h' FG' F' N' B' X' T'; (try dsimp only); (try k_lift B'); (try k_fold)))
set_option maxRecDepth 100000 in
set_option maxHeartbeats 8000000 in
/-- _law_pool(script) -/
theorem pool_core : ∀ (w : World) (mean : ExcName → Option Value) (mg mb : Str → Option Value) (h₀ : Heap) (L a₀ : Addr) (m : Str → Option Value) (s : Shared) (Q E : Value → Shared → Prop) (cn : Str) (cs : Scope) (ccd : Value)
    (sl : Addr) (svs : List Value) (sns : List Int) (news : List (Addr × Obj))
    (zB : Below callerA h₀ [] h₀) (zF : Fr h₀ L s.heap m) (zX : (hp w.params).In h₀) (zN : News h₀ L s.heap news)
    (zT : Top vw (looseW vw [Str.ofString "HintWork"]) mean mg mb h₀) (zhcs : cs.kind = .function) (zhl : h₀.IsList sl svs.toArray) (zhI : IntsAre svs sns) (zhlen : sns.length ≤ 63)
    (zhret : ∀ (l : Addr) (a b : Int) (t₁ t₂ : Tok) (n : Nat) h' tk', 0 ≤ a → 0 ≤ b → b < 2147483647 → Fr h₀ L h' m → News h₀ L h' ((l, W.listOf #[.int a t₁, .int b t₂] n) :: news) → (∀ p ∈ news, p.1 < l) → Q (.ref l) { s with heap := h', toks := tk' }),
    wpAny (model PySem.Challenge.rw_xm0722_01.row.prog w) (callerA.deeper (envOf cn cs L a₀ ccd)) (call (.ref 286) [.ref sl]) Q E s := by
  k_fill
  intros
  rename_i hret
  have kMk := kstMark
  k_steps
  all_goals refine' hret _ _ _ _ _ _ _ _ ?_ ?_ ?_ (by k_asm) (by k_asm) ?_
  all_goals first
    | exact fm_lo _ (by decide)
    | exact fm_hi _ (by decide)
    | assumption
    | omega
end Mine
end

section
open PySem PySem.W PyProof.Rows PySem.Calls
namespace Mine
def Src (ns : List Int) : Prop := ∃ a b, ns = [a, b] ∧ 0 ≤ a ∧ 0 ≤ b ∧ b < 2147483647
theorem src_vals {vs : List Value} {ns : List Int} (hi : IntsAre vs ns) (hs : Src ns) : ∃ a b t₁ t₂, vs = [Value.int a t₁, Value.int b t₂] ∧ 0 ≤ a ∧ 0 ≤ b ∧ b < 2147483647 := by
  obtain ⟨a, b, rfl, h1, h2, h3⟩ := hs
  cases hi with
  | cons _ t₁ r =>
    cases r with
    | cons _ t₂ r =>
      cases r with
      | nil => exact ⟨a, b, t₁, t₂, rfl, h1, h2, h3⟩
section
variable {w : World} {mean : ExcName → Option Value} {mg mb : Str → Option Value} {h₀ : Heap} {L a₀ : Addr} {m : Str → Option Value} {s : Shared} {Q E : Value → Shared → Prop} {cn : Str} {cs : Scope} {ccd : Value} {news : List (Addr × Obj)}
theorem sr_use {l : Addr} {vs : List Value} {ns : List Int} {c : Nat} {code : Int} {t : Tok}
    (B : Below callerA h₀ [] h₀) (F : Fr h₀ L s.heap m) (X : (hp w.params).In h₀) (N : News h₀ L s.heap news)
    (T : Top vw (looseW vw [Str.ofString "HintWork"]) mean mg mb h₀) (hcs : cs.kind = .function) (hm : (l, W.listOf vs.toArray c) ∈ news) (hI : IntsAre vs ns)
    (hlen : ns.length ≤ 3) (hb : ∀ n ∈ ns, -2147483648 ≤ n ∧ n < 2147483648)
    (hret : ∀ h' tk', Fr h₀ L h' m → News h₀ L h' news → Q (.bool true) { s with heap := h', toks := tk' }) :
    wpAny (model PySem.Challenge.rw_xm0722_01.row.prog w) (callerA.deeper (envOf cn cs L a₀ ccd)) (call (.ref 321) [.int code t, .ref l]) Q E s :=
  sr w mean mg mb h₀ L a₀ m s Q E cn cs ccd l vs ns c news code t B F X (cb_drop N fun p hp => by
    rcases List.mem_cons.mp hp with rfl | hp
    · exact hm
    · exact hp) T hcs hI hlen hb fun h' tk' F' N' => hret h' tk' F' (cb_drop N' fun p hp => .tail _ hp)

theorem take_use {src : Addr} {vs : List Value} {ns : List Int} {n : Nat} {g : Obj → List (Addr × Obj)} {top : Int} {tt : Tok}
    (B : Below callerA h₀ [] h₀) (F : Fr h₀ L s.heap m) (X : (hp w.params).In h₀) (N : News h₀ L s.heap news)
    (T : Top vw (looseW vw [Str.ofString "HintWork"]) mean mg mb h₀) (hcs : cs.kind = .function) (U : UpdF src (W.listOf vs.toArray n) news g) (hi : IntsAre vs ns) (hs : Src ns)
    (ht : 0 < top) (ht2 : top ≤ 4000)
    (hret : ∀ (r : Int) (vs' : List Value) (ns' : List Int) (n' : Nat) (t : Tok) h' tk', 0 ≤ r → r < top → Src ns' → IntsAre vs' ns' → Fr h₀ L h' m → News h₀ L h' (g (W.listOf vs'.toArray n')) → Q (.int r t) { s with heap := h', toks := tk' }) :
    wpAny (model PySem.Challenge.rw_xm0722_01.row.prog w) (callerA.deeper (envOf cn cs L a₀ ccd)) (call (.ref 293) [.ref src, .int top tt]) Q E s := by
  obtain ⟨pre, post, rfl, hg, h1, h2⟩ := U.split
  obtain ⟨a, b, t₁, t₂, rfl, ha, hb0, hb⟩ := src_vals hi hs
  refine take_core w mean mg mb h₀ L a₀ m s Q E cn cs ccd src a b top t₁ t₂ tt n (pre ++ post) B F X (cb_drop N fun p hp => ?_) T hcs (fun p hp c hc => ?_) ha hb0 hb ht ht2 fun r a' b' t t₁' t₂' n' h' tk' hr0 hr ha' hb0' hb' F' N' => ?_
  · rcases List.mem_cons.mp hp with rfl | hp
    · exact List.mem_append_right _ (.head _)
    · rcases List.mem_append.mp hp with hp | hp
      · exact List.mem_append_left _ hp
      · exact List.mem_append_right _ (.tail _ hp)
  · rw [List.mem_singleton.mp hc]
    rcases List.mem_append.mp hp with hp | hp
    · exact h1 p hp
    · exact h2 p hp
  · refine hret r [.int a' t₁', .int b' t₂'] [a', b'] n' t h' tk' hr0 hr ⟨a', b', rfl, ha', hb0', hb'⟩ (.cons _ _ (.cons _ _ .nil)) F' ?_
    rw [hg]
    refine cb_drop N' fun p hp => ?_
    rcases List.mem_append.mp hp with hp | hp
    · exact .tail _ (List.mem_append_left _ hp)
    · rcases List.mem_cons.mp hp with rfl | hp
      · exact .head _
      · exact .tail _ (List.mem_append_right _ hp)

theorem one_use {src th : Addr} {vs tvs : List Value} {ns ts : List Int} {n k : Nat} {g : Obj → List (Addr × Obj)}
    (B : Below callerA h₀ [] h₀) (F : Fr h₀ L s.heap m) (X : (hp w.params).In h₀) (N : News h₀ L s.heap news)
    (T : Top vw (looseW vw [Str.ofString "HintWork"]) mean mg mb h₀) (hcs : cs.kind = .function) (U : UpdF src (W.listOf vs.toArray n) news g) (hi : IntsAre vs ns) (hs : Src ns)
    (hm : (th, W.listOf tvs.toArray k) ∈ news) (hlt : @LT.lt Nat _ src th) (hI : IntsAre tvs ts) (ht : 0 < ts.length) (ht2 : ts.length ≤ 4000) (hb : ∀ n ∈ ts, -2147483648 ≤ n ∧ n < 2147483648)
    (hret : ∀ (r : Int) (vs' : List Value) (ns' : List Int) (n' : Nat) (t : Tok) h' tk', -2147483648 ≤ r → r < 2147483648 → Src ns' → IntsAre vs' ns' → Fr h₀ L h' m → News h₀ L h' (g (W.listOf vs'.toArray n')) → Q (.int r t) { s with heap := h', toks := tk' }) :
    wpAny (model PySem.Challenge.rw_xm0722_01.row.prog w) (callerA.deeper (envOf cn cs L a₀ ccd)) (call (.ref 300) [.ref src, .ref th]) Q E s := by
  obtain ⟨pre, post, rfl, hg, h1, h2⟩ := U.split
  obtain ⟨a, b, t₁, t₂, rfl, ha, hb0, hb'⟩ := src_vals hi hs
  refine one_core w mean mg mb h₀ L a₀ m s Q E cn cs ccd src th a b t₁ t₂ n k tvs ts (pre ++ post) B F X (cb_drop N fun p hp => ?_) T hcs (fun p hp c hc => ?_) hlt hI ha hb0 hb' ht ht2 fun r a' b' t t₁' t₂' n' h' tk' hr ha' hb0' hb' F' N' => ?_
  · rcases List.mem_cons.mp hp with rfl | hp
    · exact List.mem_append_right _ (.head _)
    · rcases List.mem_cons.mp hp with rfl | hp
      · exact hm
      · rcases List.mem_append.mp hp with hp | hp
        · exact List.mem_append_left _ hp
        · exact List.mem_append_right _ (.tail _ hp)
  · rw [List.mem_singleton.mp hc]
    rcases List.mem_append.mp hp with hp | hp
    · exact h1 p hp
    · exact h2 p hp
  · refine hret r [.int a' t₁', .int b' t₂'] [a', b'] n' t h' tk' (hb r hr).1 (hb r hr).2 ⟨a', b', rfl, ha', hb0', hb'⟩ (.cons _ _ (.cons _ _ .nil)) F' ?_
    rw [hg]
    refine cb_drop N' fun p hp => ?_
    rcases List.mem_append.mp hp with hp | hp
    · exact .tail _ (.tail _ (List.mem_append_left _ hp))
    · rcases List.mem_cons.mp hp with rfl | hp
      · exact .head _
      · exact .tail _ (.tail _ (List.mem_append_right _ hp))

theorem pool_use {sl : Addr} {svs : List Value} {sns : List Int}
    (B : Below callerA h₀ [] h₀) (F : Fr h₀ L s.heap m) (X : (hp w.params).In h₀) (N : News h₀ L s.heap news)
    (T : Top vw (looseW vw [Str.ofString "HintWork"]) mean mg mb h₀) (hcs : cs.kind = .function) (hl : h₀.IsList sl svs.toArray) (hI : IntsAre svs sns) (hlen : sns.length ≤ 63)
    (hret : ∀ (l : Addr) (vs : List Value) (ns : List Int) (n : Nat) h' tk', Src ns → IntsAre vs ns → Fr h₀ L h' m → News h₀ L h' ((l, W.listOf vs.toArray n) :: news) → (∀ p ∈ news, p.1 < l) → Q (.ref l) { s with heap := h', toks := tk' }) :
    wpAny (model PySem.Challenge.rw_xm0722_01.row.prog w) (callerA.deeper (envOf cn cs L a₀ ccd)) (call (.ref 286) [.ref sl]) Q E s :=
  pool_core w mean mg mb h₀ L a₀ m s Q E cn cs ccd sl svs sns news B F X N T hcs hl hI hlen fun l a b t₁ t₂ n h' tk' ha hb0 hb F' N' l1 =>
    hret l [.int a t₁, .int b t₂] [a, b] n h' tk' ⟨a, b, rfl, ha, hb0, hb⟩ (.cons _ _ (.cons _ _ .nil)) F' N' l1
end
end Mine
end

section
open PySem PySem.W PyProof.Rows PySem.Calls
namespace Mine
theorem ints5 {h₀ h : Heap} {L l : Addr} {a b c d e : Int} {t1 t2 t3 t4 t5 : Tok} {n : Nat} {rest : List (Addr × Obj)} (zN : News h₀ L h ((l, W.listOf #[.int a t1, .int b t2, .int c t3, .int d t4, .int e t5] n) :: rest)) :
    IntsAre [.int a t1, .int b t2, .int c t3, .int d t4, .int e t5] [a, b, c, d, e] := .cons _ _ (.cons _ _ (.cons _ _ (.cons _ _ (.cons _ _ .nil))))
theorem st_start {ns : List Int} (h : Src ns) : Src ns ∧ ([] : List Int).length = ([] : List Int).length ∧ ∀ v ∈ ([] : List Int), -2147483648 ≤ v ∧ v < 2147483648 := ⟨h, rfl, fun _ hv => nomatch hv⟩
theorem st_ok {ns pre nums : List Int} {r k : Int} (h : Src ns) (hl : nums.length = pre.length) (hb : ∀ v ∈ nums, -2147483648 ≤ v ∧ v < 2147483648) (h1 : -2147483648 ≤ r) (h2 : r < 2147483648) :
    Src ns ∧ (nums ++ [r]).length = (pre ++ [k]).length ∧ ∀ v ∈ nums ++ [r], -2147483648 ≤ v ∧ v < 2147483648 := by
  refine ⟨h, by rw [List.length_append, List.length_append, hl]; rfl, fun v hv => ?_⟩
  rcases List.mem_append.mp hv with hv | hv
  · exact hb v hv
  · rw [List.mem_singleton.mp hv]
    exact ⟨h1, h2⟩
end Mine
open Mine
local macro_rules | `(tactic| walk_at "call ref") => `(tactic| (k_here; (with_reducible show wpAny _ _ (call (Value.ref _) [Value.int _ _, Value.ref _]) _ _ _); k_dflt (refine' sr_use ?B ?F ?X ?N ?T ?c ?m ?I ?l ?b ?_; (case B => k_asm); (case F => k_asm); (case X => k_asm); (case N => k_asm); (case T => k_asm); (case c => exact rfl); (case m => k_memK); (case I => first | assumption | l_ints); (case l => first | exact Nat.le_of_ble_eq_true rfl | assumption | omega | (simp only [rangeKs_length] at *; omega)); (case b => first | assumption | decide)); intro h' tk' F' N'; (try k_sweep)))
local macro_rules | `(tactic| walk_at "call ref") => `(tactic| (k_here; (with_reducible show wpAny _ _ (call (Value.ref _) [Value.ref _, Value.int _ _]) _ _ _); k_dflt (refine' take_use ?B ?F ?X ?N ?T ?c ?U ?i ?s ?p ?q ?_; (case B => k_asm); (case F => k_asm); (case X => k_asm); (case N => k_asm); (case T => k_asm); (case c => exact rfl); (case U => k_updF); (case i => assumption); (case s => assumption); (case p => decide); (case q => decide)); intro r' vs' ns' n' t' h' tk' h1 h2 hS hI F' N'; (try dsimp only at N'); (try k_sweep)))
local macro_rules | `(tactic| walk_at "call ref") => `(tactic| (k_here; (with_reducible show wpAny _ _ (call (Value.ref _) [Value.ref _, Value.ref _]) _ _ _); k_dflt (refine' one_use ?B ?F ?X ?N ?T ?c ?U ?i ?s ?m ?l ?I ?p ?q ?b ?_; (case B => k_asm); (case F => k_asm); (case X => k_asm); (case N => k_asm); (case T => k_asm); (case c => exact rfl); (case U => k_updF); (case i => assumption); (case s => assumption); (case m => k_memK); (case l => omega); (case I => first | assumption | l_ints); (case p => exact Nat.le_of_ble_eq_true rfl); (case q => exact Nat.le_of_ble_eq_true rfl); (case b => (intro v9 hv9; simp only [List.mem_append, List.mem_cons, List.not_mem_nil, or_false] at hv9; omega))); intro r' vs' ns' n' t' h' tk' h1 h2 hS hI F' N'; (try dsimp only at N'); (try k_sweep)))
local macro_rules | `(tactic| walk_at "call ref") => `(tactic| (k_here; (with_reducible show wpAny _ _ (call (Value.ref _) [Value.ref _]) _ _ _); k_dflt (refine' pool_use ?B ?F ?X ?N ?T ?c ?h ?i ?l ?_; (case B => k_asm); (case F => k_asm); (case X => k_asm); (case N => k_asm); (case T => k_asm); (case c => exact rfl); (case h => assumption); (case i => assumption); (case l => omega)); intro l' vs' ns' n' h' tk' hS hI F' N' l1; (try k_lt l1); (try k_sweep)))
set_option maxRecDepth 100000 in
set_option maxHeartbeats 8000000 in
theorem PySem.Challenge.cw_xm0722_01_holds : PySem.Challenge.rw_xm0722_01.Holds := by
  w_on
  refine holds_law Mine.said0 fun said => ?_
  refine holds_open (q := vw) (loose := [Str.ofString "HintWork"]) (Xt := fun s => xlAt vw [] s && recOk (RowW.records PySem.Challenge.rw_xm0722_01.row.toRowW) s) (XP := XL vw []) (Yf := Hook.obs (kHook hp as0 hpAs)) (Ya := Hook.val (kHook hp as0 hpAs)) (YP := Hook.says (kHook hp as0 hpAs)) (N := 4776) left0 (Hook.of (kHook hp as0 hpAs)) (Hook.keeps (kHook hp as0 hpAs))
    (fun s e => xl_of s (Bool.and_eq_true_iff.mp e).1) XL.keeps (by rfl) (by rfl) (by rfl) (fun s e => recFacts_of (Bool.and_eq_true_iff.mp e).2) (by rfl) said (by decide +kernel) ⟨rfl, rfl, rfl, rfl, rfl, by decide +kernel⟩ ?hw ?hc
  case hw => w_witness2
  k_go0
  all_goals try (rename Glob _ _ _ _ _ _ _ => gl9; clear gl9)
  all_goals try k_fold
  have kMk := kstMark
  k_with "pyIter ref" => (k_of "turn" => k_state_short (fun _ src => Src src) "source")
  k_with "pyIter ref" => (k_of "code" => ((rename News _ _ _ _ => nE9); (have hI9 := ints5 nE9); k_state_short (fun _ src => Src src) "source"))
  k_with "pyIter ref" => (k_of "place" => k_state_short (fun pre src nums => Src src ∧ nums.length = pre.length ∧ ∀ v ∈ nums, -2147483648 ≤ v ∧ v < 2147483648) "source" "numbers")
  k_with "state" => first | assumption | exact st_start (by assumption) | exact st_ok (by assumption) (by assumption) (by assumption) (by assumption) (by assumption)
  k_steps
end
