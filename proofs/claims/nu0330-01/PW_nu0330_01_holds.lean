import PyProof.Rows.All
import Wide.All
import OpenK.AllK
import Wide.FinOn
import Lean
import PySem.Challenge.RW_nu0330_01
open PySem PySem.W PyProof.Rows
set_option Elab.async false
set_option maxRecDepth 100000
set_option maxHeartbeats 8000000
set_option linter.unusedVariables false
set_option linter.unusedSimpArgs false
set_option rowWalk.seconds 0
set_option compiler.extract_closed false
namespace Mine
open PySem PySem.W PyProof.Rows PySem.Calls PySem.Spec
/-- a def of the program by its place, and its parts -/
noncomputable def dS (i : Nat) : Stmt := Challenge.pw_nu0330_01.main.body.getD i (.Pass ⟨0, 0, 0, 0⟩)
noncomputable def mS (i j : Nat) : Stmt := match dS i with
  | .ClassDef _ _ _ b _ _ _ _ _ _ _ => b.getD j (.Pass ⟨0, 0, 0, 0⟩)
  | _ => .Pass ⟨0, 0, 0, 0⟩
noncomputable def dA : Stmt → Arguments
  | .FunctionDef _ a _ _ _ _ _ _ _ _ => a
  | _ => ⟨[], [], none, [], [], none, []⟩
noncomputable def dB : Stmt → List Stmt
  | .FunctionDef _ _ b _ _ _ _ _ _ _ => b
  | _ => []
noncomputable def dC : Stmt → Scope
  | .FunctionDef _ _ _ _ _ _ s _ _ _ => s
  | _ => ⟨.function, [], false, false, []⟩
local macro_rules | `(tactic| walk_at "F lit") => `(tactic| ((case f => exact fun x _ => x); (case h => (conv => rhs; whnf))))
/-- the run's written part: the program less its rows of module names -/
noncomputable def hd.view_39 : Program := view Challenge.pw_nu0330_01 [0, 2, 3, 4, 5, 6, 7, 8, 9, 10, 11, 12, 14, 15, 16, 18, 19, 20, 21, 22, 23]
/-- the objects that the program's top leaves -/
noncomputable def hd.heap_39 : Params → Frag := fun P => (nat_lit 2, Obj.mk Value.none none (Data.dict #[]) #[]) ::
  (nat_lit 3, Obj.mk (Value.type "dict") none (Data.dict #[DictEntry.mk (PyData.keyHash P (Str.ofString "__name__")) (Value.str (Str.ofString "__name__") 165) (Value.str (Str.ofString "law_nu0330_01") 525), DictEntry.mk (PyData.keyHash P (Str.ofString "__doc__")) (Value.str (Str.ofString "__doc__") 166) Value.none, DictEntry.mk (PyData.keyHash P (Str.ofString "__package__")) (Value.str (Str.ofString "__package__") 167) Value.none, DictEntry.mk (PyData.keyHash P (Str.ofString "__loader__")) (Value.str (Str.ofString "__loader__") 168) (Value.builtin "__main__.__loader__#opaque"), DictEntry.mk (PyData.keyHash P (Str.ofString "__spec__")) (Value.str (Str.ofString "__spec__") 169) Value.none, DictEntry.mk (PyData.keyHash P (Str.ofString "__annotations__")) (Value.str (Str.ofString "__annotations__") 170) (Value.ref 6), DictEntry.mk (PyData.keyHash P (Str.ofString "__builtins__")) (Value.str (Str.ofString "__builtins__") 171) (Value.ref 4), DictEntry.mk (PyData.keyHash P (Str.ofString "__file__")) (Value.str (Str.ofString "__file__") 173) (Value.str (Str.ofString "/claim/cut.py") 172), DictEntry.mk (PyData.keyHash P (Str.ofString "__cached__")) (Value.str (Str.ofString "__cached__") 174) Value.none, DictEntry.mk (PyData.keyHash P (Str.ofString "_wall")) (Value.str (Str.ofString "_wall") 193) (Value.ref 21), DictEntry.mk (PyData.keyHash P (Str.ofString "basic_names")) (Value.str (Str.ofString "basic_names") 201) (Value.ref 28), DictEntry.mk (PyData.keyHash P (Str.ofString "is_plain")) (Value.str (Str.ofString "is_plain") 209) (Value.ref 35), DictEntry.mk (PyData.keyHash P (Str.ofString "Names")) (Value.str (Str.ofString "Names") 314) (Value.ref 111), DictEntry.mk (PyData.keyHash P (Str.ofString "free_name")) (Value.str (Str.ofString "free_name") 324) (Value.ref 122), DictEntry.mk (PyData.keyHash P (Str.ofString "type_text")) (Value.str (Str.ofString "type_text") 333) (Value.ref 129), DictEntry.mk (PyData.keyHash P (Str.ofString "structure_text")) (Value.str (Str.ofString "structure_text") 339) (Value.ref 134), DictEntry.mk (PyData.keyHash P (Str.ofString "marked_name")) (Value.str (Str.ofString "marked_name") 347) (Value.ref 141), DictEntry.mk (PyData.keyHash P (Str.ofString "grouped")) (Value.str (Str.ofString "grouped") 357) (Value.ref 148), DictEntry.mk (PyData.keyHash P (Str.ofString "is_variable")) (Value.str (Str.ofString "is_variable") 364) (Value.ref 155), DictEntry.mk (PyData.keyHash P (Str.ofString "record_text")) (Value.str (Str.ofString "record_text") 370) (Value.ref 160), DictEntry.mk (PyData.keyHash P (Str.ofString "signature_text")) (Value.str (Str.ofString "signature_text") 376) (Value.ref 165), DictEntry.mk (PyData.keyHash P (Str.ofString "Type")) (Value.str (Str.ofString "Type") 420) (Value.ref 182), DictEntry.mk (PyData.keyHash P (Str.ofString "Obj")) (Value.str (Str.ofString "Obj") 465) (Value.ref 203), DictEntry.mk (PyData.keyHash P (Str.ofString "Types")) (Value.str (Str.ofString "Types") 524) (Value.ref 239), DictEntry.mk (PyData.keyHash P (Str.ofString "_law_figures")) (Value.str (Str.ofString "_law_figures") 537) (Value.ref 250), DictEntry.mk (PyData.keyHash P (Str.ofString "_law_draw")) (Value.str (Str.ofString "_law_draw") 545) (Value.ref 257), DictEntry.mk (PyData.keyHash P (Str.ofString "_law_free")) (Value.str (Str.ofString "_law_free") 551) (Value.ref 262), DictEntry.mk (PyData.keyHash P (Str.ofString "_law_name")) (Value.str (Str.ofString "_law_name") 557) (Value.ref 267), DictEntry.mk (PyData.keyHash P (Str.ofString "_law_written")) (Value.str (Str.ofString "_law_written") 563) (Value.ref 272), DictEntry.mk (PyData.keyHash P (Str.ofString "law")) (Value.str (Str.ofString "law") 569) (Value.ref 277)] 30) #[]) ::
  (nat_lit 15, Obj.mk (Value.type "tuple") none (Data.seq #[]) #[]) ::
  (nat_lit 17, Obj.mk (Value.type "tuple") none (Data.seq #[Value.str (Str.ofString "k") 190]) #[]) ::
  (nat_lit 18, Obj.mk (Value.type "tuple") none (Data.seq #[]) #[]) ::
  (nat_lit 20, Obj.mk (Value.type "code") none (Data.fields #[Value.str (Str.ofString "_wall") 187, Value.str (Str.ofString "_wall") 188, Value.str (Str.ofString "/claim/cut.py") 189, Value.int 1 0, Value.int 1 0, Value.int 0 0, Value.int 0 0, Value.int 3 0, Value.ref 15, Value.bool true, Value.int 181 0, Value.ref 16, Value.none, Value.ref 17, Value.ref 18, Value.ref 19, Value.int 191 0, Value.int 1 0, Value.str (Str.ofString "/claim/cut.py") 192]) #[]) ::
  (nat_lit 21, Obj.mk (Value.type "function") none (Data.func (FuncData.mk (Str.ofString "_wall") (Str.ofString "_wall") (by refine' (?f : (x : Arguments) → x = dA (dS 0) → Arguments) _ ?h; walk_at "F lit") (FuncBody.stmts (by refine' (?f : (x : List Stmt) → x = dB (dS 0) → List Stmt) _ ?h; walk_at "F lit")) (by refine' (?f : (x : Scope) → x = dC (dS 0) → Scope) _ ?h; walk_at "F lit") 3 [] Value.none Value.none Value.none (Value.str (Str.ofString "__main__") 164) none (Value.ref 20) Value.none 0)) #[]) ::
  (nat_lit 22, Obj.mk (Value.type "tuple") none (Data.seq #[]) #[]) ::
  (nat_lit 24, Obj.mk (Value.type "tuple") none (Data.seq #[]) #[]) ::
  (nat_lit 25, Obj.mk (Value.type "tuple") none (Data.seq #[]) #[]) ::
  (nat_lit 27, Obj.mk (Value.type "code") none (Data.fields #[Value.str (Str.ofString "basic_names") 196, Value.str (Str.ofString "basic_names") 197, Value.str (Str.ofString "/claim/cut.py") 198, Value.int 5 0, Value.int 0 0, Value.int 0 0, Value.int 0 0, Value.int 3 0, Value.ref 22, Value.bool true, Value.int 181 0, Value.ref 23, Value.none, Value.ref 24, Value.ref 25, Value.ref 26, Value.int 199 0, Value.int 5 0, Value.str (Str.ofString "/claim/cut.py") 200]) #[]) ::
  (nat_lit 28, Obj.mk (Value.type "function") none (Data.func (FuncData.mk (Str.ofString "basic_names") (Str.ofString "basic_names") (by refine' (?f : (x : Arguments) → x = dA (dS 2) → Arguments) _ ?h; walk_at "F lit") (FuncBody.stmts (by refine' (?f : (x : List Stmt) → x = dB (dS 2) → List Stmt) _ ?h; walk_at "F lit")) (by refine' (?f : (x : Scope) → x = dC (dS 2) → Scope) _ ?h; walk_at "F lit") 3 [] Value.none Value.none Value.none (Value.str (Str.ofString "moduleyard.typenames") 194) none (Value.ref 27) Value.none 0)) #[]) ::
  (nat_lit 29, Obj.mk (Value.type "tuple") none (Data.seq #[]) #[]) ::
  (nat_lit 31, Obj.mk (Value.type "tuple") none (Data.seq #[Value.str (Str.ofString "label") 205, Value.str (Str.ofString "char") 206]) #[]) ::
  (nat_lit 32, Obj.mk (Value.type "tuple") none (Data.seq #[]) #[]) ::
  (nat_lit 34, Obj.mk (Value.type "code") none (Data.fields #[Value.str (Str.ofString "is_plain") 202, Value.str (Str.ofString "is_plain") 203, Value.str (Str.ofString "/claim/cut.py") 204, Value.int 7 0, Value.int 1 0, Value.int 0 0, Value.int 0 0, Value.int 3 0, Value.ref 29, Value.bool true, Value.int 181 0, Value.ref 30, Value.none, Value.ref 31, Value.ref 32, Value.ref 33, Value.int 207 0, Value.int 7 0, Value.str (Str.ofString "/claim/cut.py") 208]) #[]) ::
  (nat_lit 35, Obj.mk (Value.type "function") none (Data.func (FuncData.mk (Str.ofString "is_plain") (Str.ofString "is_plain") (by refine' (?f : (x : Arguments) → x = dA (dS 3) → Arguments) _ ?h; walk_at "F lit") (FuncBody.stmts (by refine' (?f : (x : List Stmt) → x = dB (dS 3) → List Stmt) _ ?h; walk_at "F lit")) (by refine' (?f : (x : Scope) → x = dC (dS 3) → Scope) _ ?h; walk_at "F lit") 3 [] Value.none Value.none Value.none (Value.str (Str.ofString "moduleyard.typenames") 194) none (Value.ref 34) Value.none 0)) #[]) ::
  (nat_lit 43, Obj.mk (Value.type "tuple") none (Data.seq #[]) #[]) ::
  (nat_lit 44, Obj.mk (Value.type "tuple") none (Data.seq #[]) #[]) ::
  (nat_lit 45, Obj.mk (Value.type "tuple") none (Data.seq #[Value.ref 43, Value.ref 44]) #[]) ::
  (nat_lit 46, Obj.mk (Value.type "tuple") none (Data.seq #[]) #[]) ::
  (nat_lit 48, Obj.mk (Value.type "tuple") none (Data.seq #[Value.str (Str.ofString "self") 225, Value.str (Str.ofString "module") 226, Value.str (Str.ofString "imports") 227, Value.str (Str.ofString "taken") 228, Value.str (Str.ofString "used") 229, Value.str (Str.ofString "name") 230]) #[]) ::
  (nat_lit 49, Obj.mk (Value.type "tuple") none (Data.seq #[]) #[]) ::
  (nat_lit 51, Obj.mk (Value.type "code") none (Data.fields #[Value.str (Str.ofString "__init__") 222, Value.str (Str.ofString "Names.__init__") 223, Value.str (Str.ofString "/claim/cut.py") 224, Value.int 14 0, Value.int 4 0, Value.int 0 0, Value.int 0 0, Value.int 3 0, Value.ref 46, Value.bool true, Value.int 181 0, Value.ref 47, Value.none, Value.ref 48, Value.ref 49, Value.ref 50, Value.int 231 0, Value.int 14 0, Value.str (Str.ofString "/claim/cut.py") 232]) #[]) ::
  (nat_lit 52, Obj.mk (Value.type "function") none (Data.func (FuncData.mk (Str.ofString "__init__") (Str.ofString "Names.__init__") (by refine' (?f : (x : Arguments) → x = dA (mS 4 0) → Arguments) _ ?h; walk_at "F lit") (FuncBody.stmts (by refine' (?f : (x : List Stmt) → x = dB (mS 4 0) → List Stmt) _ ?h; walk_at "F lit")) (by refine' (?f : (x : Scope) → x = dC (mS 4 0) → Scope) _ ?h; walk_at "F lit") 3 [] (Value.ref 45) Value.none Value.none (Value.str (Str.ofString "moduleyard.typenames") 194) none (Value.ref 51) Value.none 0)) #[]) ::
  (nat_lit 53, Obj.mk (Value.type "tuple") none (Data.seq #[]) #[]) ::
  (nat_lit 55, Obj.mk (Value.type "tuple") none (Data.seq #[Value.str (Str.ofString "self") 237, Value.str (Str.ofString "name") 238, Value.str (Str.ofString "number") 239]) #[]) ::
  (nat_lit 56, Obj.mk (Value.type "tuple") none (Data.seq #[]) #[]) ::
  (nat_lit 58, Obj.mk (Value.type "code") none (Data.fields #[Value.str (Str.ofString "enter") 234, Value.str (Str.ofString "Names.enter") 235, Value.str (Str.ofString "/claim/cut.py") 236, Value.int 27 0, Value.int 3 0, Value.int 0 0, Value.int 0 0, Value.int 3 0, Value.ref 53, Value.bool true, Value.int 181 0, Value.ref 54, Value.none, Value.ref 55, Value.ref 56, Value.ref 57, Value.int 240 0, Value.int 27 0, Value.str (Str.ofString "/claim/cut.py") 241]) #[]) ::
  (nat_lit 59, Obj.mk (Value.type "function") none (Data.func (FuncData.mk (Str.ofString "enter") (Str.ofString "Names.enter") (by refine' (?f : (x : Arguments) → x = dA (mS 4 1) → Arguments) _ ?h; walk_at "F lit") (FuncBody.stmts (by refine' (?f : (x : List Stmt) → x = dB (mS 4 1) → List Stmt) _ ?h; walk_at "F lit")) (by refine' (?f : (x : Scope) → x = dC (mS 4 1) → Scope) _ ?h; walk_at "F lit") 3 [] Value.none Value.none Value.none (Value.str (Str.ofString "moduleyard.typenames") 194) none (Value.ref 58) Value.none 0)) #[]) ::
  (nat_lit 60, Obj.mk (Value.type "tuple") none (Data.seq #[]) #[]) ::
  (nat_lit 62, Obj.mk (Value.type "tuple") none (Data.seq #[Value.str (Str.ofString "self") 246]) #[]) ::
  (nat_lit 63, Obj.mk (Value.type "tuple") none (Data.seq #[]) #[]) ::
  (nat_lit 65, Obj.mk (Value.type "code") none (Data.fields #[Value.str (Str.ofString "open") 243, Value.str (Str.ofString "Names.open") 244, Value.str (Str.ofString "/claim/cut.py") 245, Value.int 30 0, Value.int 1 0, Value.int 0 0, Value.int 0 0, Value.int 3 0, Value.ref 60, Value.bool true, Value.int 181 0, Value.ref 61, Value.none, Value.ref 62, Value.ref 63, Value.ref 64, Value.int 247 0, Value.int 30 0, Value.str (Str.ofString "/claim/cut.py") 248]) #[]) ::
  (nat_lit 66, Obj.mk (Value.type "function") none (Data.func (FuncData.mk (Str.ofString "open") (Str.ofString "Names.open") (by refine' (?f : (x : Arguments) → x = dA (mS 4 2) → Arguments) _ ?h; walk_at "F lit") (FuncBody.stmts (by refine' (?f : (x : List Stmt) → x = dB (mS 4 2) → List Stmt) _ ?h; walk_at "F lit")) (by refine' (?f : (x : Scope) → x = dC (mS 4 2) → Scope) _ ?h; walk_at "F lit") 3 [] Value.none Value.none Value.none (Value.str (Str.ofString "moduleyard.typenames") 194) none (Value.ref 65) Value.none 0)) #[]) ::
  (nat_lit 67, Obj.mk (Value.type "tuple") none (Data.seq #[]) #[]) ::
  (nat_lit 69, Obj.mk (Value.type "tuple") none (Data.seq #[Value.str (Str.ofString "self") 253]) #[]) ::
  (nat_lit 70, Obj.mk (Value.type "tuple") none (Data.seq #[]) #[]) ::
  (nat_lit 72, Obj.mk (Value.type "code") none (Data.fields #[Value.str (Str.ofString "close") 250, Value.str (Str.ofString "Names.close") 251, Value.str (Str.ofString "/claim/cut.py") 252, Value.int 33 0, Value.int 1 0, Value.int 0 0, Value.int 0 0, Value.int 3 0, Value.ref 67, Value.bool true, Value.int 181 0, Value.ref 68, Value.none, Value.ref 69, Value.ref 70, Value.ref 71, Value.int 254 0, Value.int 33 0, Value.str (Str.ofString "/claim/cut.py") 255]) #[]) ::
  (nat_lit 73, Obj.mk (Value.type "function") none (Data.func (FuncData.mk (Str.ofString "close") (Str.ofString "Names.close") (by refine' (?f : (x : Arguments) → x = dA (mS 4 3) → Arguments) _ ?h; walk_at "F lit") (FuncBody.stmts (by refine' (?f : (x : List Stmt) → x = dB (mS 4 3) → List Stmt) _ ?h; walk_at "F lit")) (by refine' (?f : (x : Scope) → x = dC (mS 4 3) → Scope) _ ?h; walk_at "F lit") 3 [] Value.none Value.none Value.none (Value.str (Str.ofString "moduleyard.typenames") 194) none (Value.ref 72) Value.none 0)) #[]) ::
  (nat_lit 74, Obj.mk (Value.type "tuple") none (Data.seq #[]) #[]) ::
  (nat_lit 76, Obj.mk (Value.type "tuple") none (Data.seq #[Value.str (Str.ofString "self") 260, Value.str (Str.ofString "name") 261, Value.str (Str.ofString "scope") 262]) #[]) ::
  (nat_lit 77, Obj.mk (Value.type "tuple") none (Data.seq #[]) #[]) ::
  (nat_lit 79, Obj.mk (Value.type "code") none (Data.fields #[Value.str (Str.ofString "is_taken") 257, Value.str (Str.ofString "Names.is_taken") 258, Value.str (Str.ofString "/claim/cut.py") 259, Value.int 36 0, Value.int 2 0, Value.int 0 0, Value.int 0 0, Value.int 3 0, Value.ref 74, Value.bool true, Value.int 181 0, Value.ref 75, Value.none, Value.ref 76, Value.ref 77, Value.ref 78, Value.int 263 0, Value.int 36 0, Value.str (Str.ofString "/claim/cut.py") 264]) #[]) ::
  (nat_lit 80, Obj.mk (Value.type "function") none (Data.func (FuncData.mk (Str.ofString "is_taken") (Str.ofString "Names.is_taken") (by refine' (?f : (x : Arguments) → x = dA (mS 4 4) → Arguments) _ ?h; walk_at "F lit") (FuncBody.stmts (by refine' (?f : (x : List Stmt) → x = dB (mS 4 4) → List Stmt) _ ?h; walk_at "F lit")) (by refine' (?f : (x : Scope) → x = dC (mS 4 4) → Scope) _ ?h; walk_at "F lit") 3 [] Value.none Value.none Value.none (Value.str (Str.ofString "moduleyard.typenames") 194) none (Value.ref 79) Value.none 0)) #[]) ::
  (nat_lit 81, Obj.mk (Value.type "tuple") none (Data.seq #[]) #[]) ::
  (nat_lit 83, Obj.mk (Value.type "tuple") none (Data.seq #[Value.str (Str.ofString "self") 269, Value.str (Str.ofString "module") 270]) #[]) ::
  (nat_lit 84, Obj.mk (Value.type "tuple") none (Data.seq #[]) #[]) ::
  (nat_lit 86, Obj.mk (Value.type "code") none (Data.fields #[Value.str (Str.ofString "module_name") 266, Value.str (Str.ofString "Names.module_name") 267, Value.str (Str.ofString "/claim/cut.py") 268, Value.int 42 0, Value.int 2 0, Value.int 0 0, Value.int 0 0, Value.int 3 0, Value.ref 81, Value.bool true, Value.int 181 0, Value.ref 82, Value.none, Value.ref 83, Value.ref 84, Value.ref 85, Value.int 271 0, Value.int 42 0, Value.str (Str.ofString "/claim/cut.py") 272]) #[]) ::
  (nat_lit 87, Obj.mk (Value.type "function") none (Data.func (FuncData.mk (Str.ofString "module_name") (Str.ofString "Names.module_name") (by refine' (?f : (x : Arguments) → x = dA (mS 4 5) → Arguments) _ ?h; walk_at "F lit") (FuncBody.stmts (by refine' (?f : (x : List Stmt) → x = dB (mS 4 5) → List Stmt) _ ?h; walk_at "F lit")) (by refine' (?f : (x : Scope) → x = dC (mS 4 5) → Scope) _ ?h; walk_at "F lit") 3 [] Value.none Value.none Value.none (Value.str (Str.ofString "moduleyard.typenames") 194) none (Value.ref 86) Value.none 0)) #[]) ::
  (nat_lit 88, Obj.mk (Value.type "tuple") none (Data.seq #[]) #[]) ::
  (nat_lit 90, Obj.mk (Value.type "tuple") none (Data.seq #[Value.str (Str.ofString "self") 277, Value.str (Str.ofString "t") 278, Value.str (Str.ofString "hidden") 279, Value.str (Str.ofString "scope") 280, Value.str (Str.ofString "name") 281]) #[]) ::
  (nat_lit 91, Obj.mk (Value.type "tuple") none (Data.seq #[]) #[]) ::
  (nat_lit 93, Obj.mk (Value.type "code") none (Data.fields #[Value.str (Str.ofString "name_of") 274, Value.str (Str.ofString "Names.name_of") 275, Value.str (Str.ofString "/claim/cut.py") 276, Value.int 45 0, Value.int 2 0, Value.int 0 0, Value.int 0 0, Value.int 3 0, Value.ref 88, Value.bool true, Value.int 181 0, Value.ref 89, Value.none, Value.ref 90, Value.ref 91, Value.ref 92, Value.int 282 0, Value.int 45 0, Value.str (Str.ofString "/claim/cut.py") 283]) #[]) ::
  (nat_lit 94, Obj.mk (Value.type "function") none (Data.func (FuncData.mk (Str.ofString "name_of") (Str.ofString "Names.name_of") (by refine' (?f : (x : Arguments) → x = dA (mS 4 6) → Arguments) _ ?h; walk_at "F lit") (FuncBody.stmts (by refine' (?f : (x : List Stmt) → x = dB (mS 4 6) → List Stmt) _ ?h; walk_at "F lit")) (by refine' (?f : (x : Scope) → x = dC (mS 4 6) → Scope) _ ?h; walk_at "F lit") 3 [] Value.none Value.none Value.none (Value.str (Str.ofString "moduleyard.typenames") 194) none (Value.ref 93) Value.none 0)) #[]) ::
  (nat_lit 95, Obj.mk (Value.type "tuple") none (Data.seq #[]) #[]) ::
  (nat_lit 97, Obj.mk (Value.type "tuple") none (Data.seq #[Value.str (Str.ofString "self") 288, Value.str (Str.ofString "obj") 289, Value.str (Str.ofString "number") 290]) #[]) ::
  (nat_lit 98, Obj.mk (Value.type "tuple") none (Data.seq #[]) #[]) ::
  (nat_lit 100, Obj.mk (Value.type "code") none (Data.fields #[Value.str (Str.ofString "is_narrowed") 285, Value.str (Str.ofString "Names.is_narrowed") 286, Value.str (Str.ofString "/claim/cut.py") 287, Value.int 59 0, Value.int 3 0, Value.int 0 0, Value.int 0 0, Value.int 3 0, Value.ref 95, Value.bool true, Value.int 181 0, Value.ref 96, Value.none, Value.ref 97, Value.ref 98, Value.ref 99, Value.int 291 0, Value.int 59 0, Value.str (Str.ofString "/claim/cut.py") 292]) #[]) ::
  (nat_lit 101, Obj.mk (Value.type "function") none (Data.func (FuncData.mk (Str.ofString "is_narrowed") (Str.ofString "Names.is_narrowed") (by refine' (?f : (x : Arguments) → x = dA (mS 4 7) → Arguments) _ ?h; walk_at "F lit") (FuncBody.stmts (by refine' (?f : (x : List Stmt) → x = dB (mS 4 7) → List Stmt) _ ?h; walk_at "F lit")) (by refine' (?f : (x : Scope) → x = dC (mS 4 7) → Scope) _ ?h; walk_at "F lit") 3 [] Value.none Value.none Value.none (Value.str (Str.ofString "moduleyard.typenames") 194) none (Value.ref 100) Value.none 0)) #[]) ::
  (nat_lit 102, Obj.mk (Value.type "tuple") none (Data.seq #[]) #[]) ::
  (nat_lit 104, Obj.mk (Value.type "tuple") none (Data.seq #[Value.str (Str.ofString "self") 297, Value.str (Str.ofString "obj") 298]) #[]) ::
  (nat_lit 105, Obj.mk (Value.type "tuple") none (Data.seq #[]) #[]) ::
  (nat_lit 107, Obj.mk (Value.type "code") none (Data.fields #[Value.str (Str.ofString "object_name") 294, Value.str (Str.ofString "Names.object_name") 295, Value.str (Str.ofString "/claim/cut.py") 296, Value.int 62 0, Value.int 2 0, Value.int 0 0, Value.int 0 0, Value.int 3 0, Value.ref 102, Value.bool true, Value.int 181 0, Value.ref 103, Value.none, Value.ref 104, Value.ref 105, Value.ref 106, Value.int 299 0, Value.int 62 0, Value.str (Str.ofString "/claim/cut.py") 300]) #[]) ::
  (nat_lit 108, Obj.mk (Value.type "function") none (Data.func (FuncData.mk (Str.ofString "object_name") (Str.ofString "Names.object_name") (by refine' (?f : (x : Arguments) → x = dA (mS 4 8) → Arguments) _ ?h; walk_at "F lit") (FuncBody.stmts (by refine' (?f : (x : List Stmt) → x = dB (mS 4 8) → List Stmt) _ ?h; walk_at "F lit")) (by refine' (?f : (x : Scope) → x = dC (mS 4 8) → Scope) _ ?h; walk_at "F lit") 3 [] Value.none Value.none Value.none (Value.str (Str.ofString "moduleyard.typenames") 194) none (Value.ref 107) Value.none 0)) #[]) ::
  (nat_lit 109, Obj.mk (Value.type "tuple") none (Data.seq #[Value.str (Str.ofString "aliases") 302, Value.str (Str.ofString "marks") 303, Value.str (Str.ofString "module") 304, Value.str (Str.ofString "narrowed") 305, Value.str (Str.ofString "scopes") 306]) #[]) ::
  (nat_lit 110, Obj.mk (Value.type "dict") none (Data.dict #[DictEntry.mk (PyData.keyHash P (Str.ofString "__module__")) (Value.str (Str.ofString "__module__") 217) (Value.str (Str.ofString "moduleyard.typenames") 194), DictEntry.mk (PyData.keyHash P (Str.ofString "__firstlineno__")) (Value.str (Str.ofString "__firstlineno__") 221) (Value.int 12 220), DictEntry.mk (PyData.keyHash P (Str.ofString "__init__")) (Value.str (Str.ofString "__init__") 233) (Value.ref 52), DictEntry.mk (PyData.keyHash P (Str.ofString "enter")) (Value.str (Str.ofString "enter") 242) (Value.ref 59), DictEntry.mk (PyData.keyHash P (Str.ofString "open")) (Value.str (Str.ofString "open") 249) (Value.ref 66), DictEntry.mk (PyData.keyHash P (Str.ofString "close")) (Value.str (Str.ofString "close") 256) (Value.ref 73), DictEntry.mk (PyData.keyHash P (Str.ofString "is_taken")) (Value.str (Str.ofString "is_taken") 265) (Value.ref 80), DictEntry.mk (PyData.keyHash P (Str.ofString "module_name")) (Value.str (Str.ofString "module_name") 273) (Value.ref 87), DictEntry.mk (PyData.keyHash P (Str.ofString "name_of")) (Value.str (Str.ofString "name_of") 284) (Value.ref 94), DictEntry.mk (PyData.keyHash P (Str.ofString "is_narrowed")) (Value.str (Str.ofString "is_narrowed") 293) (Value.ref 101), DictEntry.mk (PyData.keyHash P (Str.ofString "object_name")) (Value.str (Str.ofString "object_name") 301) (Value.ref 108), DictEntry.mk (PyData.keyHash P (Str.ofString "__static_attributes__")) (Value.str (Str.ofString "__static_attributes__") 307) (Value.ref 109), DictEntry.mk (PyData.keyHash P (Str.ofString "__dict__")) (Value.str (Str.ofString "__dict__") 309) (Value.ref 112), DictEntry.mk (PyData.keyHash P (Str.ofString "__weakref__")) (Value.str (Str.ofString "__weakref__") 311) (Value.ref 113), DictEntry.mk (PyData.keyHash P (Str.ofString "__doc__")) (Value.str (Str.ofString "__doc__") 312) Value.none] 4) #[]) ::
  (nat_lit 111, Obj.mk (Value.type "type") none (Data.cls (ClassData.mk (Str.ofString "Names") [Value.type "object"] [Value.ref 111, Value.type "object"] 110 (Str.ofString "Names") true [] [] false none false)) #[none, none, some (Value.str (Str.ofString "Names") 210), some (Value.str (Str.ofString "Names") 218), some (Value.builtin "object.__new__"), some (Value.bool true)]) ::
  (nat_lit 112, Obj.mk (Value.type "getset_descriptor") none (Data.fields #[Value.str (Str.ofString "__dict__") 308, Value.ref 111, Value.builtin "function.__dict__", Value.builtin "function.__dict__#set"]) #[]) ::
  (nat_lit 113, Obj.mk (Value.type "getset_descriptor") none (Data.fields #[Value.str (Str.ofString "__weakref__") 310, Value.ref 111, Value.builtin "ExceptionGroup.__weakref__", Value.none]) #[]) ::
  (nat_lit 116, Obj.mk (Value.type "tuple") none (Data.seq #[]) #[]) ::
  (nat_lit 118, Obj.mk (Value.type "tuple") none (Data.seq #[Value.str (Str.ofString "name") 318, Value.str (Str.ofString "used") 319, Value.str (Str.ofString "number") 320, Value.str (Str.ofString "found") 321]) #[]) ::
  (nat_lit 119, Obj.mk (Value.type "tuple") none (Data.seq #[]) #[]) ::
  (nat_lit 121, Obj.mk (Value.type "code") none (Data.fields #[Value.str (Str.ofString "free_name") 315, Value.str (Str.ofString "free_name") 316, Value.str (Str.ofString "/claim/cut.py") 317, Value.int 64 0, Value.int 2 0, Value.int 0 0, Value.int 0 0, Value.int 3 0, Value.ref 116, Value.bool true, Value.int 181 0, Value.ref 117, Value.none, Value.ref 118, Value.ref 119, Value.ref 120, Value.int 322 0, Value.int 64 0, Value.str (Str.ofString "/claim/cut.py") 323]) #[]) ::
  (nat_lit 122, Obj.mk (Value.type "function") none (Data.func (FuncData.mk (Str.ofString "free_name") (Str.ofString "free_name") (by refine' (?f : (x : Arguments) → x = dA (dS 5) → Arguments) _ ?h; walk_at "F lit") (FuncBody.stmts (by refine' (?f : (x : List Stmt) → x = dB (dS 5) → List Stmt) _ ?h; walk_at "F lit")) (by refine' (?f : (x : Scope) → x = dC (dS 5) → Scope) _ ?h; walk_at "F lit") 3 [] Value.none Value.none Value.none (Value.str (Str.ofString "moduleyard.typenames") 194) none (Value.ref 121) Value.none 0)) #[]) ::
  (nat_lit 123, Obj.mk (Value.type "tuple") none (Data.seq #[]) #[]) ::
  (nat_lit 125, Obj.mk (Value.type "tuple") none (Data.seq #[Value.str (Str.ofString "names") 328, Value.str (Str.ofString "t") 329, Value.str (Str.ofString "name") 330]) #[]) ::
  (nat_lit 126, Obj.mk (Value.type "tuple") none (Data.seq #[]) #[]) ::
  (nat_lit 128, Obj.mk (Value.type "code") none (Data.fields #[Value.str (Str.ofString "type_text") 325, Value.str (Str.ofString "type_text") 326, Value.str (Str.ofString "/claim/cut.py") 327, Value.int 71 0, Value.int 2 0, Value.int 0 0, Value.int 0 0, Value.int 3 0, Value.ref 123, Value.bool true, Value.int 181 0, Value.ref 124, Value.none, Value.ref 125, Value.ref 126, Value.ref 127, Value.int 331 0, Value.int 71 0, Value.str (Str.ofString "/claim/cut.py") 332]) #[]) ::
  (nat_lit 129, Obj.mk (Value.type "function") none (Data.func (FuncData.mk (Str.ofString "type_text") (Str.ofString "type_text") (by refine' (?f : (x : Arguments) → x = dA (dS 6) → Arguments) _ ?h; walk_at "F lit") (FuncBody.stmts (by refine' (?f : (x : List Stmt) → x = dB (dS 6) → List Stmt) _ ?h; walk_at "F lit")) (by refine' (?f : (x : Scope) → x = dC (dS 6) → Scope) _ ?h; walk_at "F lit") 3 [] Value.none Value.none Value.none (Value.str (Str.ofString "moduleyard.typenames") 194) none (Value.ref 128) Value.none 0)) #[]) ::
  (nat_lit 130, Obj.mk (Value.type "tuple") none (Data.seq #[]) #[]) ::
  (nat_lit 133, Obj.mk (Value.type "code") none (Data.fields #[Value.str (Str.ofString "structure_text") 334, Value.str (Str.ofString "structure_text") 335, Value.str (Str.ofString "/claim/cut.py") 336, Value.int 76 0, Value.int 2 0, Value.int 0 0, Value.int 0 0, Value.int 3 0, Value.ref 130, Value.bool true, Value.int 181 0, Value.ref 131, Value.none, Value.none, Value.none, Value.ref 132, Value.int 337 0, Value.int 76 0, Value.str (Str.ofString "/claim/cut.py") 338]) #[]) ::
  (nat_lit 134, Obj.mk (Value.type "function") none (Data.func (FuncData.mk (Str.ofString "structure_text") (Str.ofString "structure_text") (by refine' (?f : (x : Arguments) → x = dA (dS 7) → Arguments) _ ?h; walk_at "F lit") (FuncBody.stmts (by refine' (?f : (x : List Stmt) → x = dB (dS 7) → List Stmt) _ ?h; walk_at "F lit")) (by refine' (?f : (x : Scope) → x = dC (dS 7) → Scope) _ ?h; walk_at "F lit") 3 [] Value.none Value.none Value.none (Value.str (Str.ofString "moduleyard.typenames") 194) none (Value.ref 133) Value.none 0)) #[]) ::
  (nat_lit 135, Obj.mk (Value.type "tuple") none (Data.seq #[]) #[]) ::
  (nat_lit 137, Obj.mk (Value.type "tuple") none (Data.seq #[Value.str (Str.ofString "names") 343, Value.str (Str.ofString "obj") 344]) #[]) ::
  (nat_lit 138, Obj.mk (Value.type "tuple") none (Data.seq #[]) #[]) ::
  (nat_lit 140, Obj.mk (Value.type "code") none (Data.fields #[Value.str (Str.ofString "marked_name") 340, Value.str (Str.ofString "marked_name") 341, Value.str (Str.ofString "/claim/cut.py") 342, Value.int 88 0, Value.int 2 0, Value.int 0 0, Value.int 0 0, Value.int 3 0, Value.ref 135, Value.bool true, Value.int 181 0, Value.ref 136, Value.none, Value.ref 137, Value.ref 138, Value.ref 139, Value.int 345 0, Value.int 88 0, Value.str (Str.ofString "/claim/cut.py") 346]) #[]) ::
  (nat_lit 141, Obj.mk (Value.type "function") none (Data.func (FuncData.mk (Str.ofString "marked_name") (Str.ofString "marked_name") (by refine' (?f : (x : Arguments) → x = dA (dS 8) → Arguments) _ ?h; walk_at "F lit") (FuncBody.stmts (by refine' (?f : (x : List Stmt) → x = dB (dS 8) → List Stmt) _ ?h; walk_at "F lit")) (by refine' (?f : (x : Scope) → x = dC (dS 8) → Scope) _ ?h; walk_at "F lit") 3 [] Value.none Value.none Value.none (Value.str (Str.ofString "moduleyard.typenames") 194) none (Value.ref 140) Value.none 0)) #[]) ::
  (nat_lit 142, Obj.mk (Value.type "tuple") none (Data.seq #[]) #[]) ::
  (nat_lit 144, Obj.mk (Value.type "tuple") none (Data.seq #[Value.str (Str.ofString "objs") 351, Value.str (Str.ofString "rows") 352, Value.str (Str.ofString "obj") 353, Value.str (Str.ofString "last") 354]) #[]) ::
  (nat_lit 145, Obj.mk (Value.type "tuple") none (Data.seq #[]) #[]) ::
  (nat_lit 147, Obj.mk (Value.type "code") none (Data.fields #[Value.str (Str.ofString "grouped") 348, Value.str (Str.ofString "grouped") 349, Value.str (Str.ofString "/claim/cut.py") 350, Value.int 90 0, Value.int 1 0, Value.int 0 0, Value.int 0 0, Value.int 3 0, Value.ref 142, Value.bool true, Value.int 181 0, Value.ref 143, Value.none, Value.ref 144, Value.ref 145, Value.ref 146, Value.int 355 0, Value.int 90 0, Value.str (Str.ofString "/claim/cut.py") 356]) #[]) ::
  (nat_lit 148, Obj.mk (Value.type "function") none (Data.func (FuncData.mk (Str.ofString "grouped") (Str.ofString "grouped") (by refine' (?f : (x : Arguments) → x = dA (dS 9) → Arguments) _ ?h; walk_at "F lit") (FuncBody.stmts (by refine' (?f : (x : List Stmt) → x = dB (dS 9) → List Stmt) _ ?h; walk_at "F lit")) (by refine' (?f : (x : Scope) → x = dC (dS 9) → Scope) _ ?h; walk_at "F lit") 3 [] Value.none Value.none Value.none (Value.str (Str.ofString "moduleyard.typenames") 194) none (Value.ref 147) Value.none 0)) #[]) ::
  (nat_lit 149, Obj.mk (Value.type "tuple") none (Data.seq #[]) #[]) ::
  (nat_lit 151, Obj.mk (Value.type "tuple") none (Data.seq #[Value.str (Str.ofString "obj") 361]) #[]) ::
  (nat_lit 152, Obj.mk (Value.type "tuple") none (Data.seq #[]) #[]) ::
  (nat_lit 154, Obj.mk (Value.type "code") none (Data.fields #[Value.str (Str.ofString "is_variable") 358, Value.str (Str.ofString "is_variable") 359, Value.str (Str.ofString "/claim/cut.py") 360, Value.int 100 0, Value.int 1 0, Value.int 0 0, Value.int 0 0, Value.int 3 0, Value.ref 149, Value.bool true, Value.int 181 0, Value.ref 150, Value.none, Value.ref 151, Value.ref 152, Value.ref 153, Value.int 362 0, Value.int 100 0, Value.str (Str.ofString "/claim/cut.py") 363]) #[]) ::
  (nat_lit 155, Obj.mk (Value.type "function") none (Data.func (FuncData.mk (Str.ofString "is_variable") (Str.ofString "is_variable") (by refine' (?f : (x : Arguments) → x = dA (dS 10) → Arguments) _ ?h; walk_at "F lit") (FuncBody.stmts (by refine' (?f : (x : List Stmt) → x = dB (dS 10) → List Stmt) _ ?h; walk_at "F lit")) (by refine' (?f : (x : Scope) → x = dC (dS 10) → Scope) _ ?h; walk_at "F lit") 3 [] Value.none Value.none Value.none (Value.str (Str.ofString "moduleyard.typenames") 194) none (Value.ref 154) Value.none 0)) #[]) ::
  (nat_lit 156, Obj.mk (Value.type "tuple") none (Data.seq #[]) #[]) ::
  (nat_lit 159, Obj.mk (Value.type "code") none (Data.fields #[Value.str (Str.ofString "record_text") 365, Value.str (Str.ofString "record_text") 366, Value.str (Str.ofString "/claim/cut.py") 367, Value.int 102 0, Value.int 3 0, Value.int 0 0, Value.int 0 0, Value.int 3 0, Value.ref 156, Value.bool true, Value.int 181 0, Value.ref 157, Value.none, Value.none, Value.none, Value.ref 158, Value.int 368 0, Value.int 102 0, Value.str (Str.ofString "/claim/cut.py") 369]) #[]) ::
  (nat_lit 160, Obj.mk (Value.type "function") none (Data.func (FuncData.mk (Str.ofString "record_text") (Str.ofString "record_text") (by refine' (?f : (x : Arguments) → x = dA (dS 11) → Arguments) _ ?h; walk_at "F lit") (FuncBody.stmts (by refine' (?f : (x : List Stmt) → x = dB (dS 11) → List Stmt) _ ?h; walk_at "F lit")) (by refine' (?f : (x : Scope) → x = dC (dS 11) → Scope) _ ?h; walk_at "F lit") 3 [] Value.none Value.none Value.none (Value.str (Str.ofString "moduleyard.typenames") 194) none (Value.ref 159) Value.none 0)) #[]) ::
  (nat_lit 161, Obj.mk (Value.type "tuple") none (Data.seq #[]) #[]) ::
  (nat_lit 164, Obj.mk (Value.type "code") none (Data.fields #[Value.str (Str.ofString "signature_text") 371, Value.str (Str.ofString "signature_text") 372, Value.str (Str.ofString "/claim/cut.py") 373, Value.int 113 0, Value.int 2 0, Value.int 0 0, Value.int 0 0, Value.int 3 0, Value.ref 161, Value.bool true, Value.int 181 0, Value.ref 162, Value.none, Value.none, Value.none, Value.ref 163, Value.int 374 0, Value.int 113 0, Value.str (Str.ofString "/claim/cut.py") 375]) #[]) ::
  (nat_lit 165, Obj.mk (Value.type "function") none (Data.func (FuncData.mk (Str.ofString "signature_text") (Str.ofString "signature_text") (by refine' (?f : (x : Arguments) → x = dA (dS 12) → Arguments) _ ?h; walk_at "F lit") (FuncBody.stmts (by refine' (?f : (x : List Stmt) → x = dB (dS 12) → List Stmt) _ ?h; walk_at "F lit")) (by refine' (?f : (x : Scope) → x = dC (dS 12) → Scope) _ ?h; walk_at "F lit") 3 [] Value.none Value.none Value.none (Value.str (Str.ofString "moduleyard.typenames") 194) none (Value.ref 164) Value.none 0)) #[]) ::
  (nat_lit 173, Obj.mk (Value.type "tuple") none (Data.seq #[]) #[]) ::
  (nat_lit 175, Obj.mk (Value.type "tuple") none (Data.seq #[Value.str (Str.ofString "self") 394, Value.str (Str.ofString "number") 395, Value.str (Str.ofString "form") 396, Value.str (Str.ofString "size") 397]) #[]) ::
  (nat_lit 176, Obj.mk (Value.type "tuple") none (Data.seq #[]) #[]) ::
  (nat_lit 178, Obj.mk (Value.type "code") none (Data.fields #[Value.str (Str.ofString "__init__") 391, Value.str (Str.ofString "Type.__init__") 392, Value.str (Str.ofString "/claim/cut.py") 393, Value.int 128 0, Value.int 4 0, Value.int 0 0, Value.int 0 0, Value.int 3 0, Value.ref 173, Value.bool true, Value.int 181 0, Value.ref 174, Value.none, Value.ref 175, Value.ref 176, Value.ref 177, Value.int 398 0, Value.int 128 0, Value.str (Str.ofString "/claim/cut.py") 399]) #[]) ::
  (nat_lit 179, Obj.mk (Value.type "function") none (Data.func (FuncData.mk (Str.ofString "__init__") (Str.ofString "Type.__init__") (by refine' (?f : (x : Arguments) → x = dA (mS 14 0) → Arguments) _ ?h; walk_at "F lit") (FuncBody.stmts (by refine' (?f : (x : List Stmt) → x = dB (mS 14 0) → List Stmt) _ ?h; walk_at "F lit")) (by refine' (?f : (x : Scope) → x = dC (mS 14 0) → Scope) _ ?h; walk_at "F lit") 3 [] Value.none Value.none Value.none (Value.str (Str.ofString "moduleyard.types") 377) none (Value.ref 178) Value.none 0)) #[]) ::
  (nat_lit 180, Obj.mk (Value.type "tuple") none (Data.seq #[Value.str (Str.ofString "base") 401, Value.str (Str.ofString "exno") 402, Value.str (Str.ofString "fields") 403, Value.str (Str.ofString "form") 404, Value.str (Str.ofString "hidden") 405, Value.str (Str.ofString "label") 406, Value.str (Str.ofString "length") 407, Value.str (Str.ofString "level") 408, Value.str (Str.ofString "module") 409, Value.str (Str.ofString "number") 410, Value.str (Str.ofString "params") 411, Value.str (Str.ofString "size") 412]) #[]) ::
  (nat_lit 181, Obj.mk (Value.type "dict") none (Data.dict #[DictEntry.mk (PyData.keyHash P (Str.ofString "__module__")) (Value.str (Str.ofString "__module__") 386) (Value.str (Str.ofString "moduleyard.types") 377), DictEntry.mk (PyData.keyHash P (Str.ofString "__firstlineno__")) (Value.str (Str.ofString "__firstlineno__") 390) (Value.int 126 389), DictEntry.mk (PyData.keyHash P (Str.ofString "__init__")) (Value.str (Str.ofString "__init__") 400) (Value.ref 179), DictEntry.mk (PyData.keyHash P (Str.ofString "__static_attributes__")) (Value.str (Str.ofString "__static_attributes__") 413) (Value.ref 180), DictEntry.mk (PyData.keyHash P (Str.ofString "__dict__")) (Value.str (Str.ofString "__dict__") 415) (Value.ref 183), DictEntry.mk (PyData.keyHash P (Str.ofString "__weakref__")) (Value.str (Str.ofString "__weakref__") 417) (Value.ref 184), DictEntry.mk (PyData.keyHash P (Str.ofString "__doc__")) (Value.str (Str.ofString "__doc__") 418) Value.none] 4) #[]) ::
  (nat_lit 182, Obj.mk (Value.type "type") none (Data.cls (ClassData.mk (Str.ofString "Type") [Value.type "object"] [Value.ref 182, Value.type "object"] 181 (Str.ofString "Type") true [] [] false none false)) #[none, none, some (Value.str (Str.ofString "Type") 379), some (Value.str (Str.ofString "Type") 387), some (Value.builtin "object.__new__"), some (Value.bool true)]) ::
  (nat_lit 183, Obj.mk (Value.type "getset_descriptor") none (Data.fields #[Value.str (Str.ofString "__dict__") 414, Value.ref 182, Value.builtin "function.__dict__", Value.builtin "function.__dict__#set"]) #[]) ::
  (nat_lit 184, Obj.mk (Value.type "getset_descriptor") none (Data.fields #[Value.str (Str.ofString "__weakref__") 416, Value.ref 182, Value.builtin "ExceptionGroup.__weakref__", Value.none]) #[]) ::
  (nat_lit 194, Obj.mk (Value.type "tuple") none (Data.seq #[]) #[]) ::
  (nat_lit 196, Obj.mk (Value.type "tuple") none (Data.seq #[Value.str (Str.ofString "self") 436, Value.str (Str.ofString "name") 437, Value.str (Str.ofString "kind") 438, Value.str (Str.ofString "type_of") 439, Value.str (Str.ofString "place") 440]) #[]) ::
  (nat_lit 197, Obj.mk (Value.type "tuple") none (Data.seq #[]) #[]) ::
  (nat_lit 199, Obj.mk (Value.type "code") none (Data.fields #[Value.str (Str.ofString "__init__") 433, Value.str (Str.ofString "Obj.__init__") 434, Value.str (Str.ofString "/claim/cut.py") 435, Value.int 143 0, Value.int 5 0, Value.int 0 0, Value.int 0 0, Value.int 3 0, Value.ref 194, Value.bool true, Value.int 181 0, Value.ref 195, Value.none, Value.ref 196, Value.ref 197, Value.ref 198, Value.int 441 0, Value.int 143 0, Value.str (Str.ofString "/claim/cut.py") 442]) #[]) ::
  (nat_lit 200, Obj.mk (Value.type "function") none (Data.func (FuncData.mk (Str.ofString "__init__") (Str.ofString "Obj.__init__") (by refine' (?f : (x : Arguments) → x = dA (mS 15 0) → Arguments) _ ?h; walk_at "F lit") (FuncBody.stmts (by refine' (?f : (x : List Stmt) → x = dB (mS 15 0) → List Stmt) _ ?h; walk_at "F lit")) (by refine' (?f : (x : Scope) → x = dC (mS 15 0) → Scope) _ ?h; walk_at "F lit") 3 [] Value.none Value.none Value.none (Value.str (Str.ofString "moduleyard.types") 377) none (Value.ref 199) Value.none 0)) #[]) ::
  (nat_lit 201, Obj.mk (Value.type "tuple") none (Data.seq #[Value.str (Str.ofString "exported") 444, Value.str (Str.ofString "isparam") 445, Value.str (Str.ofString "kind") 446, Value.str (Str.ofString "level") 447, Value.str (Str.ofString "module") 448, Value.str (Str.ofString "name") 449, Value.str (Str.ofString "narrowed") 450, Value.str (Str.ofString "number") 451, Value.str (Str.ofString "offset") 452, Value.str (Str.ofString "place") 453, Value.str (Str.ofString "readonly") 454, Value.str (Str.ofString "slot") 455, Value.str (Str.ofString "type") 456, Value.str (Str.ofString "value") 457]) #[]) ::
  (nat_lit 202, Obj.mk (Value.type "dict") none (Data.dict #[DictEntry.mk (PyData.keyHash P (Str.ofString "__module__")) (Value.str (Str.ofString "__module__") 428) (Value.str (Str.ofString "moduleyard.types") 377), DictEntry.mk (PyData.keyHash P (Str.ofString "__firstlineno__")) (Value.str (Str.ofString "__firstlineno__") 432) (Value.int 141 431), DictEntry.mk (PyData.keyHash P (Str.ofString "__init__")) (Value.str (Str.ofString "__init__") 443) (Value.ref 200), DictEntry.mk (PyData.keyHash P (Str.ofString "__static_attributes__")) (Value.str (Str.ofString "__static_attributes__") 458) (Value.ref 201), DictEntry.mk (PyData.keyHash P (Str.ofString "__dict__")) (Value.str (Str.ofString "__dict__") 460) (Value.ref 204), DictEntry.mk (PyData.keyHash P (Str.ofString "__weakref__")) (Value.str (Str.ofString "__weakref__") 462) (Value.ref 205), DictEntry.mk (PyData.keyHash P (Str.ofString "__doc__")) (Value.str (Str.ofString "__doc__") 463) Value.none] 4) #[]) ::
  (nat_lit 203, Obj.mk (Value.type "type") none (Data.cls (ClassData.mk (Str.ofString "Obj") [Value.type "object"] [Value.ref 203, Value.type "object"] 202 (Str.ofString "Obj") true [] [] false none false)) #[none, none, some (Value.str (Str.ofString "Obj") 421), some (Value.str (Str.ofString "Obj") 429), some (Value.builtin "object.__new__"), some (Value.bool true)]) ::
  (nat_lit 204, Obj.mk (Value.type "getset_descriptor") none (Data.fields #[Value.str (Str.ofString "__dict__") 459, Value.ref 203, Value.builtin "function.__dict__", Value.builtin "function.__dict__#set"]) #[]) ::
  (nat_lit 205, Obj.mk (Value.type "getset_descriptor") none (Data.fields #[Value.str (Str.ofString "__weakref__") 461, Value.ref 203, Value.builtin "ExceptionGroup.__weakref__", Value.none]) #[]) ::
  (nat_lit 215, Obj.mk (Value.type "tuple") none (Data.seq #[]) #[]) ::
  (nat_lit 217, Obj.mk (Value.type "tuple") none (Data.seq #[Value.str (Str.ofString "self") 481]) #[]) ::
  (nat_lit 218, Obj.mk (Value.type "tuple") none (Data.seq #[]) #[]) ::
  (nat_lit 220, Obj.mk (Value.type "code") none (Data.fields #[Value.str (Str.ofString "__init__") 478, Value.str (Str.ofString "Types.__init__") 479, Value.str (Str.ofString "/claim/cut.py") 480, Value.int 160 0, Value.int 1 0, Value.int 0 0, Value.int 0 0, Value.int 3 0, Value.ref 215, Value.bool true, Value.int 181 0, Value.ref 216, Value.none, Value.ref 217, Value.ref 218, Value.ref 219, Value.int 482 0, Value.int 160 0, Value.str (Str.ofString "/claim/cut.py") 483]) #[]) ::
  (nat_lit 221, Obj.mk (Value.type "function") none (Data.func (FuncData.mk (Str.ofString "__init__") (Str.ofString "Types.__init__") (by refine' (?f : (x : Arguments) → x = dA (mS 16 0) → Arguments) _ ?h; walk_at "F lit") (FuncBody.stmts (by refine' (?f : (x : List Stmt) → x = dB (mS 16 0) → List Stmt) _ ?h; walk_at "F lit")) (by refine' (?f : (x : Scope) → x = dC (mS 16 0) → Scope) _ ?h; walk_at "F lit") 3 [] Value.none Value.none Value.none (Value.str (Str.ofString "moduleyard.types") 377) none (Value.ref 220) Value.none 0)) #[]) ::
  (nat_lit 222, Obj.mk (Value.type "tuple") none (Data.seq #[Value.str (Str.ofString "") 485, Value.str (Str.ofString "") 486]) #[]) ::
  (nat_lit 223, Obj.mk (Value.type "tuple") none (Data.seq #[]) #[]) ::
  (nat_lit 225, Obj.mk (Value.type "tuple") none (Data.seq #[Value.str (Str.ofString "self") 490, Value.str (Str.ofString "form") 491, Value.str (Str.ofString "size") 492, Value.str (Str.ofString "module") 493, Value.str (Str.ofString "label") 494, Value.str (Str.ofString "made") 495]) #[]) ::
  (nat_lit 226, Obj.mk (Value.type "tuple") none (Data.seq #[]) #[]) ::
  (nat_lit 228, Obj.mk (Value.type "code") none (Data.fields #[Value.str (Str.ofString "new") 487, Value.str (Str.ofString "Types.new") 488, Value.str (Str.ofString "/claim/cut.py") 489, Value.int 171 0, Value.int 5 0, Value.int 0 0, Value.int 0 0, Value.int 3 0, Value.ref 223, Value.bool true, Value.int 181 0, Value.ref 224, Value.none, Value.ref 225, Value.ref 226, Value.ref 227, Value.int 496 0, Value.int 171 0, Value.str (Str.ofString "/claim/cut.py") 497]) #[]) ::
  (nat_lit 229, Obj.mk (Value.type "function") none (Data.func (FuncData.mk (Str.ofString "new") (Str.ofString "Types.new") (by refine' (?f : (x : Arguments) → x = dA (mS 16 1) → Arguments) _ ?h; walk_at "F lit") (FuncBody.stmts (by refine' (?f : (x : List Stmt) → x = dB (mS 16 1) → List Stmt) _ ?h; walk_at "F lit")) (by refine' (?f : (x : Scope) → x = dC (mS 16 1) → Scope) _ ?h; walk_at "F lit") 3 [] (Value.ref 222) Value.none Value.none (Value.str (Str.ofString "moduleyard.types") 377) none (Value.ref 228) Value.none 0)) #[]) ::
  (nat_lit 230, Obj.mk (Value.type "tuple") none (Data.seq #[]) #[]) ::
  (nat_lit 232, Obj.mk (Value.type "tuple") none (Data.seq #[Value.str (Str.ofString "self") 502, Value.str (Str.ofString "length") 503, Value.str (Str.ofString "made") 504]) #[]) ::
  (nat_lit 233, Obj.mk (Value.type "tuple") none (Data.seq #[]) #[]) ::
  (nat_lit 235, Obj.mk (Value.type "code") none (Data.fields #[Value.str (Str.ofString "string") 499, Value.str (Str.ofString "Types.string") 500, Value.str (Str.ofString "/claim/cut.py") 501, Value.int 180 0, Value.int 2 0, Value.int 0 0, Value.int 0 0, Value.int 3 0, Value.ref 230, Value.bool true, Value.int 181 0, Value.ref 231, Value.none, Value.ref 232, Value.ref 233, Value.ref 234, Value.int 505 0, Value.int 180 0, Value.str (Str.ofString "/claim/cut.py") 506]) #[]) ::
  (nat_lit 236, Obj.mk (Value.type "function") none (Data.func (FuncData.mk (Str.ofString "string") (Str.ofString "Types.string") (by refine' (?f : (x : Arguments) → x = dA (mS 16 2) → Arguments) _ ?h; walk_at "F lit") (FuncBody.stmts (by refine' (?f : (x : List Stmt) → x = dB (mS 16 2) → List Stmt) _ ?h; walk_at "F lit")) (by refine' (?f : (x : Scope) → x = dC (mS 16 2) → Scope) _ ?h; walk_at "F lit") 3 [] Value.none Value.none Value.none (Value.str (Str.ofString "moduleyard.types") 377) none (Value.ref 235) Value.none 0)) #[]) ::
  (nat_lit 237, Obj.mk (Value.type "tuple") none (Data.seq #[Value.str (Str.ofString "boolean") 508, Value.str (Str.ofString "byte") 509, Value.str (Str.ofString "char") 510, Value.str (Str.ofString "counter") 511, Value.str (Str.ofString "integer") 512, Value.str (Str.ofString "known") 513, Value.str (Str.ofString "mask") 514, Value.str (Str.ofString "nil") 515, Value.str (Str.ofString "none") 516]) #[]) ::
  (nat_lit 238, Obj.mk (Value.type "dict") none (Data.dict #[DictEntry.mk (PyData.keyHash P (Str.ofString "__module__")) (Value.str (Str.ofString "__module__") 473) (Value.str (Str.ofString "moduleyard.types") 377), DictEntry.mk (PyData.keyHash P (Str.ofString "__firstlineno__")) (Value.str (Str.ofString "__firstlineno__") 477) (Value.int 158 476), DictEntry.mk (PyData.keyHash P (Str.ofString "__init__")) (Value.str (Str.ofString "__init__") 484) (Value.ref 221), DictEntry.mk (PyData.keyHash P (Str.ofString "new")) (Value.str (Str.ofString "new") 498) (Value.ref 229), DictEntry.mk (PyData.keyHash P (Str.ofString "string")) (Value.str (Str.ofString "string") 507) (Value.ref 236), DictEntry.mk (PyData.keyHash P (Str.ofString "__static_attributes__")) (Value.str (Str.ofString "__static_attributes__") 517) (Value.ref 237), DictEntry.mk (PyData.keyHash P (Str.ofString "__dict__")) (Value.str (Str.ofString "__dict__") 519) (Value.ref 240), DictEntry.mk (PyData.keyHash P (Str.ofString "__weakref__")) (Value.str (Str.ofString "__weakref__") 521) (Value.ref 241), DictEntry.mk (PyData.keyHash P (Str.ofString "__doc__")) (Value.str (Str.ofString "__doc__") 522) Value.none] 4) #[]) ::
  (nat_lit 239, Obj.mk (Value.type "type") none (Data.cls (ClassData.mk (Str.ofString "Types") [Value.type "object"] [Value.ref 239, Value.type "object"] 238 (Str.ofString "Types") true [] [] false none false)) #[none, none, some (Value.str (Str.ofString "Types") 466), some (Value.str (Str.ofString "Types") 474), some (Value.builtin "object.__new__"), some (Value.bool true)]) ::
  (nat_lit 240, Obj.mk (Value.type "getset_descriptor") none (Data.fields #[Value.str (Str.ofString "__dict__") 518, Value.ref 239, Value.builtin "function.__dict__", Value.builtin "function.__dict__#set"]) #[]) ::
  (nat_lit 241, Obj.mk (Value.type "getset_descriptor") none (Data.fields #[Value.str (Str.ofString "__weakref__") 520, Value.ref 239, Value.builtin "ExceptionGroup.__weakref__", Value.none]) #[]) ::
  (nat_lit 244, Obj.mk (Value.type "tuple") none (Data.seq #[]) #[]) ::
  (nat_lit 246, Obj.mk (Value.type "tuple") none (Data.seq #[Value.str (Str.ofString "script") 530, Value.str (Str.ofString "found") 531, Value.str (Str.ofString "cell") 532, Value.str (Str.ofString "figure") 533, Value.str (Str.ofString "lap") 534]) #[]) ::
  (nat_lit 247, Obj.mk (Value.type "tuple") none (Data.seq #[]) #[]) ::
  (nat_lit 249, Obj.mk (Value.type "code") none (Data.fields #[Value.str (Str.ofString "_law_figures") 527, Value.str (Str.ofString "_law_figures") 528, Value.str (Str.ofString "/claim/cut.py") 529, Value.int 186 0, Value.int 1 0, Value.int 0 0, Value.int 0 0, Value.int 3 0, Value.ref 244, Value.bool true, Value.int 181 0, Value.ref 245, Value.none, Value.ref 246, Value.ref 247, Value.ref 248, Value.int 535 0, Value.int 186 0, Value.str (Str.ofString "/claim/cut.py") 536]) #[]) ::
  (nat_lit 250, Obj.mk (Value.type "function") none (Data.func (FuncData.mk (Str.ofString "_law_figures") (Str.ofString "_law_figures") (by refine' (?f : (x : Arguments) → x = dA (dS 18) → Arguments) _ ?h; walk_at "F lit") (FuncBody.stmts (by refine' (?f : (x : List Stmt) → x = dB (dS 18) → List Stmt) _ ?h; walk_at "F lit")) (by refine' (?f : (x : Scope) → x = dC (dS 18) → Scope) _ ?h; walk_at "F lit") 3 [] Value.none Value.none Value.none (Value.str (Str.ofString "law_nu0330_01") 525) none (Value.ref 249) Value.none 0)) #[]) ::
  (nat_lit 251, Obj.mk (Value.type "tuple") none (Data.seq #[]) #[]) ::
  (nat_lit 253, Obj.mk (Value.type "tuple") none (Data.seq #[Value.str (Str.ofString "figures") 541, Value.str (Str.ofString "limit") 542]) #[]) ::
  (nat_lit 254, Obj.mk (Value.type "tuple") none (Data.seq #[]) #[]) ::
  (nat_lit 256, Obj.mk (Value.type "code") none (Data.fields #[Value.str (Str.ofString "_law_draw") 538, Value.str (Str.ofString "_law_draw") 539, Value.str (Str.ofString "/claim/cut.py") 540, Value.int 199 0, Value.int 2 0, Value.int 0 0, Value.int 0 0, Value.int 3 0, Value.ref 251, Value.bool true, Value.int 181 0, Value.ref 252, Value.none, Value.ref 253, Value.ref 254, Value.ref 255, Value.int 543 0, Value.int 199 0, Value.str (Str.ofString "/claim/cut.py") 544]) #[]) ::
  (nat_lit 257, Obj.mk (Value.type "function") none (Data.func (FuncData.mk (Str.ofString "_law_draw") (Str.ofString "_law_draw") (by refine' (?f : (x : Arguments) → x = dA (dS 19) → Arguments) _ ?h; walk_at "F lit") (FuncBody.stmts (by refine' (?f : (x : List Stmt) → x = dB (dS 19) → List Stmt) _ ?h; walk_at "F lit")) (by refine' (?f : (x : Scope) → x = dC (dS 19) → Scope) _ ?h; walk_at "F lit") 3 [] Value.none Value.none Value.none (Value.str (Str.ofString "law_nu0330_01") 525) none (Value.ref 256) Value.none 0)) #[]) ::
  (nat_lit 258, Obj.mk (Value.type "tuple") none (Data.seq #[]) #[]) ::
  (nat_lit 261, Obj.mk (Value.type "code") none (Data.fields #[Value.str (Str.ofString "_law_free") 546, Value.str (Str.ofString "_law_free") 547, Value.str (Str.ofString "/claim/cut.py") 548, Value.int 201 0, Value.int 2 0, Value.int 0 0, Value.int 0 0, Value.int 3 0, Value.ref 258, Value.bool true, Value.int 181 0, Value.ref 259, Value.none, Value.none, Value.none, Value.ref 260, Value.int 549 0, Value.int 201 0, Value.str (Str.ofString "/claim/cut.py") 550]) #[]) ::
  (nat_lit 262, Obj.mk (Value.type "function") none (Data.func (FuncData.mk (Str.ofString "_law_free") (Str.ofString "_law_free") (by refine' (?f : (x : Arguments) → x = dA (dS 20) → Arguments) _ ?h; walk_at "F lit") (FuncBody.stmts (by refine' (?f : (x : List Stmt) → x = dB (dS 20) → List Stmt) _ ?h; walk_at "F lit")) (by refine' (?f : (x : Scope) → x = dC (dS 20) → Scope) _ ?h; walk_at "F lit") 3 [] Value.none Value.none Value.none (Value.str (Str.ofString "law_nu0330_01") 525) none (Value.ref 261) Value.none 0)) #[]) ::
  (nat_lit 263, Obj.mk (Value.type "tuple") none (Data.seq #[]) #[]) ::
  (nat_lit 266, Obj.mk (Value.type "code") none (Data.fields #[Value.str (Str.ofString "_law_name") 552, Value.str (Str.ofString "_law_name") 553, Value.str (Str.ofString "/claim/cut.py") 554, Value.int 205 0, Value.int 4 0, Value.int 0 0, Value.int 0 0, Value.int 3 0, Value.ref 263, Value.bool true, Value.int 181 0, Value.ref 264, Value.none, Value.none, Value.none, Value.ref 265, Value.int 555 0, Value.int 205 0, Value.str (Str.ofString "/claim/cut.py") 556]) #[]) ::
  (nat_lit 267, Obj.mk (Value.type "function") none (Data.func (FuncData.mk (Str.ofString "_law_name") (Str.ofString "_law_name") (by refine' (?f : (x : Arguments) → x = dA (dS 21) → Arguments) _ ?h; walk_at "F lit") (FuncBody.stmts (by refine' (?f : (x : List Stmt) → x = dB (dS 21) → List Stmt) _ ?h; walk_at "F lit")) (by refine' (?f : (x : Scope) → x = dC (dS 21) → Scope) _ ?h; walk_at "F lit") 3 [] Value.none Value.none Value.none (Value.str (Str.ofString "law_nu0330_01") 525) none (Value.ref 266) Value.none 0)) #[]) ::
  (nat_lit 268, Obj.mk (Value.type "tuple") none (Data.seq #[]) #[]) ::
  (nat_lit 271, Obj.mk (Value.type "code") none (Data.fields #[Value.str (Str.ofString "_law_written") 558, Value.str (Str.ofString "_law_written") 559, Value.str (Str.ofString "/claim/cut.py") 560, Value.int 214 0, Value.int 5 0, Value.int 0 0, Value.int 0 0, Value.int 3 0, Value.ref 268, Value.bool true, Value.int 181 0, Value.ref 269, Value.none, Value.none, Value.none, Value.ref 270, Value.int 561 0, Value.int 214 0, Value.str (Str.ofString "/claim/cut.py") 562]) #[]) ::
  (nat_lit 272, Obj.mk (Value.type "function") none (Data.func (FuncData.mk (Str.ofString "_law_written") (Str.ofString "_law_written") (by refine' (?f : (x : Arguments) → x = dA (dS 22) → Arguments) _ ?h; walk_at "F lit") (FuncBody.stmts (by refine' (?f : (x : List Stmt) → x = dB (dS 22) → List Stmt) _ ?h; walk_at "F lit")) (by refine' (?f : (x : Scope) → x = dC (dS 22) → Scope) _ ?h; walk_at "F lit") 3 [] Value.none Value.none Value.none (Value.str (Str.ofString "law_nu0330_01") 525) none (Value.ref 271) Value.none 0)) #[]) ::
  (nat_lit 273, Obj.mk (Value.type "tuple") none (Data.seq #[]) #[]) ::
  (nat_lit 276, Obj.mk (Value.type "code") none (Data.fields #[Value.str (Str.ofString "law") 564, Value.str (Str.ofString "law") 565, Value.str (Str.ofString "/claim/cut.py") 566, Value.int 222 0, Value.int 1 0, Value.int 0 0, Value.int 0 0, Value.int 3 0, Value.ref 273, Value.bool true, Value.int 181 0, Value.ref 274, Value.none, Value.none, Value.none, Value.ref 275, Value.int 567 0, Value.int 222 0, Value.str (Str.ofString "/claim/cut.py") 568]) #[]) ::
  (nat_lit 277, Obj.mk (Value.type "function") none (Data.func (FuncData.mk (Str.ofString "law") (Str.ofString "law") (by refine' (?f : (x : Arguments) → x = dA (dS 23) → Arguments) _ ?h; walk_at "F lit") (FuncBody.stmts (by refine' (?f : (x : List Stmt) → x = dB (dS 23) → List Stmt) _ ?h; walk_at "F lit")) (by refine' (?f : (x : Scope) → x = dC (dS 23) → Scope) _ ?h; walk_at "F lit") 3 [] Value.none Value.none Value.none (Value.str (Str.ofString "law_nu0330_01") 525) none (Value.ref 276) Value.none 0)) #[]) :: []
noncomputable abbrev hdAs : List Addr := [2, 3, 15, 17, 18, 20, 21, 22, 24, 25, 27, 28, 29, 31, 32, 34, 35, 43, 44, 45, 46, 48, 49, 51, 52, 53, 55, 56, 58, 59, 60, 62, 63, 65, 66, 67, 69, 70, 72, 73, 74, 76, 77, 79, 80, 81, 83, 84, 86, 87, 88, 90, 91, 93, 94, 95, 97, 98, 100, 101, 102, 104, 105, 107, 108, 109, 110, 111, 112, 113, 116, 118, 119, 121, 122, 123, 125, 126, 128, 129, 130, 133, 134, 135, 137, 138, 140, 141, 142, 144, 145, 147, 148, 149, 151, 152, 154, 155, 156, 159, 160, 161, 164, 165, 173, 175, 176, 178, 179, 180, 181, 182, 183, 184, 194, 196, 197, 199, 200, 201, 202, 203, 204, 205, 215, 217, 218, 220, 221, 222, 223, 225, 226, 228, 229, 230, 232, 233, 235, 236, 237, 238, 239, 240, 241, 244, 246, 247, 249, 250, 251, 253, 254, 256, 257, 258, 261, 262, 263, 266, 267, 268, 271, 272, 273, 276, 277]
theorem hdFst (P : Params) : hdAs = (hd.heap_39 P).map (·.1) := by kernel_rfl
noncomputable abbrev hdHook : Hook := kHook hd.heap_39 hdAs hdFst
theorem said1 : namesResolve Challenge.rw_nu0330_01.row.prog = true := by rw [Fast.te8377067652309620493]; kernel_rfl
theorem said2 : noRoadLSs { strict := !(importedModules Challenge.rw_nu0330_01.row.prog.main.body).all cThrough.contains, foot := none, bare := (["vars", "dir", "locals"] : List Str).filter (readsOut Challenge.rw_nu0330_01.row.prog Challenge.rw_nu0330_01.row.prog.main.body) } Challenge.rw_nu0330_01.row.prog.main.body = true := by
  rw [Fast.te8326940854005059898]; kernel_rfl
theorem said3 : namesMeet Challenge.rw_nu0330_01.row.prog Challenge.rw_nu0330_01.row.prog.main.body (fun _ n => attrL n) = true := by rw [Fast.te17119622794617984870]; kernel_rfl
theorem said4 : noRoadLSs { strict := true, foot := some Challenge.rw_nu0330_01.bound', writes := Challenge.rw_nu0330_01.writes, may := Challenge.rw_nu0330_01.may } Challenge.rw_nu0330_01.footing = true := by
  rw [Fast.te8326940854005059898]; kernel_rfl
theorem said5 : Challenge.rw_nu0330_01.bound'.all (fun n => !builtinNamed n || Challenge.rw_nu0330_01.about == [n] || !Challenge.rw_nu0330_01.reads n) = true := by kernel_rfl
theorem said6 : Challenge.rw_nu0330_01.own.all (fun n => !builtinNamed n) = true := by kernel_rfl
theorem said7 : namesMeet Challenge.rw_nu0330_01.prog Challenge.rw_nu0330_01.above (fun _ n => !Challenge.rw_nu0330_01.own.contains n) = true := by rw [Fast.te17119622794617984870]; kernel_rfl
theorem said8 : namesMeet Challenge.rw_nu0330_01.prog Challenge.rw_nu0330_01.footing (fun sc n => sc.kind == .module || sc.names.lookup n != some .globalExplicit) = true := by rw [Fast.te17119622794617984870]; kernel_rfl
theorem said9 : noClassBlock Challenge.rw_nu0330_01.prog Challenge.rw_nu0330_01.footing = true := by kernel_rfl
theorem hdSaid : Challenge.rw_nu0330_01.wellSaid = true := by
  delta OpenLaw.wellSaid OpenRow.wellSaid OpenRow.partSaid looksOpen
  repeat' with_reducible refine look_both ?_ ?_
  all_goals try with_reducible first | exact said1 | exact said2 | exact said3 | exact said4 | exact said5 | exact said6 | exact said7 | exact said8 | exact said9
  all_goals kernel_rfl
theorem hdLeft : LeftO Challenge.rw_nu0330_01.row.toRowW.prog hd.view_39 [Str.ofString "Names"] (fun s => xlAt hd.view_39 [] s && recOk (RowW.records Challenge.rw_nu0330_01.row.toRowW) s) (Hook.obs hdHook) (Hook.val hdHook) 3690 := fun w => by
  delta openEnds topFrom fencedOpening
  rw [Fast.te14364793385576792824, Fast.te4187177175401517315, Fast.te14082659384304107361, Fast.te10274390034422433532]
  kernel_rfl
theorem offBase : True := by w_top off; trivial
local macro_rules | `(tactic| walk_at $s:str) => do let k := Lean.Syntax.mkStrLit ("M." ++ s.getString); `(tactic| k_extra $k)
/-- the run's written part, by the world -/
noncomputable abbrev pv : Program := hd.view_39
noncomputable abbrev lo : List Str := looseW hd.view_39 [Str.ofString "Names"]
noncomputable abbrev prg : Program := Challenge.rw_nu0330_01.row.prog
/-- all that lay in h lies in h' as it did, but for the addresses of S -/
noncomputable def Kept (S : List Addr) (h h' : Heap) : Prop := ∀ b o, h.get? b = some o → b ∉ S → h'.get? b = some o
theorem Kept.refl {S : List Addr} {h : Heap} : Kept S h h := fun _ _ e _ => e
theorem Kept.trans {S : List Addr} {h h' h'' : Heap} (a : Kept S h h') (b : Kept S h' h'') : Kept S h h'' := fun x o e n => b x o (a x o e n) n
theorem Kept.fr {S : List Addr} {h₀ h h' : Heap} {L : Addr} {m : Str → Option Value} (k : Kept S h h') (F : Fr h₀ L h m) (hS : ∀ a ∈ S, a ≠ L ∧ h₀.get? a = none) : Fr h₀ L h' m :=
  ⟨F.ns.at' fun o e => k _ o e fun q => (hS _ q).1 rfl, fun b o e => k b o (F.keep b o e) (fun q => by have := (hS _ q).2; rw [this] at e; cases e), F.above⟩
theorem Kept.news {S : List Addr} {h₀ h h' : Heap} {L : Addr} {news : List (Addr × Obj)} (k : Kept S h h') (N : News h₀ L h news) (hS : ∀ p ∈ news, p.1 ∉ S) : News h₀ L h' news :=
  fun p hp => ⟨k _ _ (N p hp).1 (hS p hp), (N p hp).2⟩
noncomputable def LeaveF (h : Heap) (S : List Addr) (g : Heap) (R : Result → Shared → Prop) (v : Value) (s' : Shared) : Prop :=
  ∃ L' m' news', Fr g L' s'.heap m' ∧ News g L' s'.heap news' ∧ (Kept S h s'.heap → (∀ p ∈ news', s'.heap.get? p.1 = some p.2 ∧ (p.1 ∉ S → h.get? p.1 = none)) → R (.ok (.ret v)) s')
theorem leaveF_ {h : Heap} {S : List Addr} {g : Heap} {R : Result → Shared → Prop} {v : Value} {s' : Shared} {L' : Addr} {m' : Str → Option Value} {news' : List (Addr × Obj)} (F' : Fr g L' s'.heap m') (N' : News g L' s'.heap news')
    (k : Kept S h s'.heap → (∀ p ∈ news', s'.heap.get? p.1 = some p.2 ∧ (p.1 ∉ S → h.get? p.1 = none)) → R (.ok (.ret v)) s') : LeaveF h S g R v s' := ⟨L', m', news', F', N', k⟩
/-- the same, out of rfl's sight -/
structure IsAd (a b : List Addr) : Prop where
  eq : a = b
theorem IsAd.rfl {a : List Addr} : IsAd a a := ⟨Eq.refl a⟩
/-- all of l lies below d -/
noncomputable def LtA (d : Addr) (l : List Addr) : Prop := ∀ x ∈ l, @LT.lt Nat _ x d
/-- d is none of l -/
noncomputable def NeA (d : Addr) (l : List Addr) : Prop := ∀ x ∈ l, @Ne Nat x d
theorem ltA_of {d : Addr} {news : List (Addr × Obj)} (h : ∀ p ∈ news, p.1 < d) : LtA d (news.map (·.1)) := fun x hx => by
  obtain ⟨p, hp, e⟩ := List.mem_map.mp hx
  rw [← e]; exact h p hp
theorem neA_of {d : Addr} {news : List (Addr × Obj)} (h : ∀ p ∈ news, p.1 ≠ d) : NeA d (news.map (·.1)) := fun x hx => by
  obtain ⟨p, hp, e⟩ := List.mem_map.mp hx
  rw [← e]; exact h p hp
theorem LtA.up {d x : Addr} {as : List Addr} (l2 : d < x) (H : LtA d as) : LtA x (d :: as) := fun y hy => by
  rcases List.mem_cons.mp hy with rfl | hy
  · exact l2
  · exact Nat.lt_trans (H y hy) l2
theorem LtA.ne {d b : Addr} {as : List Addr} (H : LtA d as) (m : b ∈ as) : @Ne Nat d b := (Nat.ne_of_lt (H b m)).symm
theorem LtA.en {d b : Addr} {as : List Addr} (H : LtA d as) (m : b ∈ as) : @Ne Nat b d := Nat.ne_of_lt (H b m)
theorem NeA.ne {d b : Addr} {as : List Addr} (H : NeA d as) (m : b ∈ as) : @Ne Nat d b := (H b m).symm
theorem NeA.en {d b : Addr} {as : List Addr} (H : NeA d as) (m : b ∈ as) : @Ne Nat b d := H b m
theorem LtA.lt {d b : Addr} {as : List Addr} (H : LtA d as) (m : b ∈ as) : @LT.lt Nat _ b d := H b m
theorem LtA.neA {d : Addr} {as : List Addr} (H : LtA d as) : NeA d as := fun y hy => Nat.ne_of_lt (H y hy)
theorem LtA.all {d : Addr} {as : List Addr} {l : List (Addr × Obj)} (H : LtA d as) (e : l.map (·.1) = as) : ∀ p ∈ l, p.1 ≠ d := fun p hp => Nat.ne_of_lt (H p.1 (e ▸ List.mem_map_of_mem hp))
theorem NeA.all {d : Addr} {as : List Addr} {l : List (Addr × Obj)} (H : NeA d as) (e : l.map (·.1) = as) : ∀ p ∈ l, p.1 ≠ d := fun p hp => H p.1 (e ▸ List.mem_map_of_mem hp)
theorem allCons {α : Type} {P : α → Prop} {x : α} {l : List α} (a : P x) (b : ∀ y ∈ l, P y) : ∀ y ∈ x :: l, P y := List.forall_mem_cons.mpr ⟨a, b⟩
theorem neCons {d : Addr} {x : Addr × Obj} {l : List (Addr × Obj)} (a : @Ne Nat x.1 d) (b : ∀ y ∈ l, y.1 ≠ d) : ∀ y ∈ x :: l, y.1 ≠ d := allCons a b
section
variable {α : Type} {a b c d e f g h i j k l m n o q : α} {r : List α}
theorem mm0 : q ∈ q :: r := .head _
theorem mm1 : q ∈ a :: q :: r := .tail _ mm0
theorem mm2 : q ∈ a :: b :: q :: r := .tail _ mm1
theorem mm3 : q ∈ a :: b :: c :: q :: r := .tail _ mm2
theorem mm4 : q ∈ a :: b :: c :: d :: q :: r := .tail _ mm3
theorem mm5 : q ∈ a :: b :: c :: d :: e :: q :: r := .tail _ mm4
theorem mm6 : q ∈ a :: b :: c :: d :: e :: f :: q :: r := .tail _ mm5
theorem mm7 : q ∈ a :: b :: c :: d :: e :: f :: g :: q :: r := .tail _ mm6
theorem mm8 : q ∈ a :: b :: c :: d :: e :: f :: g :: h :: q :: r := .tail _ mm7
theorem mm9 : q ∈ a :: b :: c :: d :: e :: f :: g :: h :: i :: q :: r := .tail _ mm8
theorem mm10 : q ∈ a :: b :: c :: d :: e :: f :: g :: h :: i :: j :: q :: r := .tail _ mm9
theorem mm11 : q ∈ a :: b :: c :: d :: e :: f :: g :: h :: i :: j :: k :: q :: r := .tail _ mm10
end
section
variable {prog : Program} {w : World} {A A₀ : Around} {E : Value → Shared → Prop} {s : Shared} {K : Frag} {C L : Addr} {h₀ base : Heap} {m mg mb : Str → Option Value} {news : List (Addr × Obj)} {p : Program} {loose : List Str} {mean : ExcName → Option Value} {Q : Value → Shared → Prop}
theorem fEnter0 {env : Env} {outer : List Env} {R : Result → Shared → Prop} {name qual : Str} {params : Arguments} {body : List Stmt} {scope : Scope} {dV kV doc pm cdv ct oc : Value} {an od : Option Addr} {osl : Array (Option Value)} {f : Addr} {args : Args} {binds : List (Str × Value)}
    (B : Below A₀ base outer h₀) (F : Fr h₀ L s.heap m) (X₀ : K.In h₀) (N : News h₀ L s.heap news) (T : Top p loose mean mg mb h₀) (hA : A.frames = some (env :: outer)) (hf : env.frame = some L) (hke : env.scope.kind = .function)
    (ho : K.lookup f = some ⟨oc, od, .func (fnOf name qual params body scope dV kV doc pm an cdv ct), osl⟩) (hcd : codeIn K cdv qual = true) (hroom : A.depth < recursionLimit)
    (hbind : BindsTo s (fnOf name qual params body scope dV kV doc pm an cdv ct) args binds) (hloc : ∀ y ∈ binds, scope.names.lookup y.1 = some .local)
    (h : ∀ g L' h₁, Kept (news.map (·.1)) s.heap g → Fr g L' h₁ (fun y => binds.reverse.lookup y) → News g L' h₁ news → Below A base (env :: outer) g → K.In g → Top p loose mean mg mb g → (∀ p ∈ news, p.1 < L') → 
      wpAny (model prog w) (A.deeper (envOf qual scope L' f cdv)) (execs body (envOf qual scope L' f cdv))
        (fun fl s' => LeaveF s.heap (news.map (·.1)) g R (match fl with | .ret v => v | _ => .none) s')
        (fun e s' => wpAny (model prog w) (A.deeper (envOf qual scope L' f cdv)) (leaving (envOf qual scope L' f cdv) e) (fun _ s'' => R (.error e) s'') (fun e' s'' => R (.error e') s'') s')
        { s with heap := h₁, toks := s.toks + binds.length })
    (hco : scope.isCoroutine = false) (hgen : scope.isGenerator = false) (hk : scope.kind = .function)
    (hcell : ∀ x ∈ scope.names, x.2 ≠ .cell) : codeAny (model prog w) A (.call (.ref f) args) R s := by
  obtain ⟨FG, BG, st, _⟩ := groundX (R := R) B F N hA hf hke
  have kg : Kept (news.map (·.1)) s.heap (hideAll s.heap (news.map (·.1))) := fun b o e n => hideAll_get _ e n
  refine codeAny_call_def (fd := fnOf name qual params body scope dV kV doc pm an cdv ct) (body := body) (binds := binds) hroom ((X₀.keeps F.keep) _ _ ho) rfl (T.nolimit.keeps F.keep) (codeRec_of (X₀.keeps F.keep) hcd) rfl hbind hcell hloc (fun h₁ hns hk₁ => ?_) hco hgen hk
  refine wpAny_mono (h _ s.heap.objs.size h₁ kg ⟨hns, fun b o e => hk₁ b o (of_hideAll _ e), Nat.le_of_eq (hideAll_size _ _)⟩
    (fun p hp => ⟨hk₁ _ _ (N p hp).1, Nat.ne_of_lt (Heap.lt_size (N p hp).1), hideAll_none _ (List.mem_map_of_mem hp)⟩) BG (X₀.keeps st) (T.keeps st) (fun p hp => Heap.lt_size (N p hp).1)) (fun fl s' hl => ?_) fun _ _ y => y
  obtain ⟨L', m', news', F', N', k⟩ := hl
  refine k (fun b o e n => F'.keep b o (kg b o e n)) fun p hp => ⟨(N' p hp).1, fun n => ?_⟩
  cases q : s.heap.get? p.1 with
  | none => rfl
  | some o => have := kg _ _ q n; rw [(N' p hp).2.2] at this; cases this
theorem fEnter {env : Env} {outer : List Env} {R : Result → Shared → Prop} {name qual : Str} {params : Arguments} {body : List Stmt} {scope : Scope} {dV kV doc pm cdv ct oc : Value} {an od : Option Addr} {osl : Array (Option Value)} {f : Addr} {args : Args} {binds : List (Str × Value)} {as : List Addr}
    (B : Below A₀ base outer h₀) (F : Fr h₀ L s.heap m) (X₀ : K.In h₀) (N : News h₀ L s.heap news) (T : Top p loose mean mg mb h₀) (hA : A.frames = some (env :: outer)) (hf : env.frame = some L) (hke : env.scope.kind = .function)
    (ho : K.lookup f = some ⟨oc, od, .func (fnOf name qual params body scope dV kV doc pm an cdv ct), osl⟩) (hcd : codeIn K cdv qual = true) (hroom : A.depth < recursionLimit)
    (hbind : BindsTo s (fnOf name qual params body scope dV kV doc pm an cdv ct) args binds) (hloc : ∀ y ∈ binds, scope.names.lookup y.1 = some .local) (has : IsAd (news.map (·.1)) as)
    (h : ∀ g L' h₁ tk E1, let A1 := A.deeper (envOf qual scope L' f cdv); let Q1 : Flow → Shared → Prop := fun fl s' => LeaveF s.heap as g R (match fl with | .ret v => v | _ => .none) s'; let m1 : Str → Option Value := fun y => binds.reverse.lookup y
      PassesOwn (model prog w) A1 (envOf qual scope L' f cdv) E1 → Kept as s.heap g → Fr g L' h₁ m1 → News g L' h₁ news → Below A base (env :: outer) g → K.In g → Top p loose mean mg mb g → LtA L' as →
      wpAny (model prog w) A1 (execs body (envOf qual scope L' f cdv)) Q1 E1 { s with heap := h₁, toks := tk })
    (hco : scope.isCoroutine = false) (hgen : scope.isGenerator = false) (hk : scope.kind = .function)
    (hcell : ∀ x ∈ scope.names, x.2 ≠ .cell) : codeAny (model prog w) A (.call (.ref f) args) R s := by
  obtain ⟨has⟩ := has
  subst has
  exact fEnter0 B F X₀ N T hA hf hke ho hcd hroom hbind hloc (fun g L' h₁ a b c d e f g' => h g L' h₁ _ _ PassesOwn.leaving a b c d e f (ltA_of g')) hco hgen hk hcell
theorem fEnterC0 {env : Env} {outer : List Env} {R : Result → Shared → Prop} {name qual : Str} {params : Arguments} {body : List Stmt} {scope : Scope} {dV kV doc pm cdv ct oc : Value} {an od : Option Addr} {osl : Array (Option Value)} {f : Addr} {args : Args} {binds : List (Str × Value)}
    (B : Below A₀ base outer h₀) (F : Fr h₀ L s.heap m) (X₀ : K.In h₀) (N : News h₀ L s.heap news) (T : Top p loose mean mg mb h₀) (hA : A.frames = some (env :: outer)) (hf : env.frame = some L) (hke : env.scope.kind = .function)
    (ho : K.lookup f = some ⟨oc, od, .func (fnOf name qual params body scope dV kV doc pm an cdv ct), osl⟩) (hcd : codeIn K cdv qual = true) (hroom : A.depth < recursionLimit)
    (hbind : BindsTo s (fnOf name qual params body scope dV kV doc pm an cdv ct) args binds) (hkind : (binds.all fun y => scope.names.lookup y.1 == some .local || scope.names.lookup y.1 == some .cell) = true)
    (hnd : ((cellsFrom 0 scope.names []).map (·.1)).Nodup)
    (h : ∀ g L' h₁ tk cells, Kept (news.map (·.1)) s.heap g → Fr g L' h₁ (bindL (envOfC qual scope L' f cdv).kindOf binds fun _ => none) → News g L' h₁ (cells ++ news) →
      CellsAre (bindC (envOfC qual scope L' f cdv).kindOf binds fun _ => none) (cellsFrom (L' + 1) scope.names []) cells → Below A base (env :: outer) g → K.In g → Top p loose mean mg mb g → (∀ p ∈ news, p.1 < L') →
      wpAny (model prog w) (A.deeper (envOfC qual scope L' f cdv)) (execs body (envOfC qual scope L' f cdv))
        (fun fl s' => LeaveF s.heap (news.map (·.1)) g R (match fl with | .ret v => v | _ => .none) s')
        (fun e s' => wpAny (model prog w) (A.deeper (envOfC qual scope L' f cdv)) (leaving (envOfC qual scope L' f cdv) e) (fun _ s'' => R (.error e) s'') (fun e' s'' => R (.error e') s'') s')
        { s with heap := h₁, toks := tk })
    (hco : scope.isCoroutine = false) (hgen : scope.isGenerator = false) (hk : scope.kind = .function) : codeAny (model prog w) A (.call (.ref f) args) R s := by
  obtain ⟨FG, BG, st, _⟩ := groundX (R := R) B F N hA hf hke
  have kg : Kept (news.map (·.1)) s.heap (hideAll s.heap (news.map (·.1))) := fun b o e n => hideAll_get _ e n
  refine codeAny_call_function hroom ((X₀.keeps F.keep) _ _ ho) rfl hco hgen rfl (codeRec_of (X₀.keeps F.keep) hcd) (hbind _ _ _ _ ?_)
  refine wpAny_newFunctionEnv_cells hk (kindsX hkind _) fun env' he s' x => ?_
  subst he
  refine ⟨(T.nolimit.keeps F.keep).keeps x.toInCall.keep, codeAny_func ?_⟩
  obtain ⟨h₁, tk, rfl, _⟩ := x.done
  have hk₁ := x.toInCall.keep
  obtain ⟨cells, NC, Y⟩ := Cl.news (h₀ := s.heap) (Nat.le_refl _) fun n c hm => ⟨x.cell n c (lookup_of_mem_nodup (cellsFrom_names scope.names 0 (s.heap.objs.size + 1) [] [] rfl ▸ hnd) hm), x.above n c hm⟩
  refine wpAny_mono (h _ s.heap.objs.size h₁ tk cells kg ⟨x.toInCall.ns, fun b o e => hk₁ b o (of_hideAll _ e), Nat.le_of_eq (hideAll_size _ _)⟩ (fun p hp => ?_) Y BG (X₀.keeps st) (T.keeps st) (fun p hp => Heap.lt_size (N p hp).1)) (fun fl s' hl => ?_) fun _ _ y => y
  · rcases List.mem_append.mp hp with hp | hp
    · refine ⟨(NC p hp).1, (NC p hp).2.1, ?_⟩
      cases q : (hideAll s.heap (news.map (·.1))).get? p.1 with
      | none => rfl
      | some o => have := of_hideAll _ q; rw [(NC p hp).2.2] at this; cases this
    · exact ⟨hk₁ _ _ (N p hp).1, Nat.ne_of_lt (Heap.lt_size (N p hp).1), hideAll_none _ (List.mem_map_of_mem hp)⟩
  · obtain ⟨L', m', news', F', N', k⟩ := hl
    refine k (fun b o e n => F'.keep b o (kg b o e n)) fun p hp => ⟨(N' p hp).1, fun n => ?_⟩
    cases q : s.heap.get? p.1 with
    | none => rfl
    | some o => have := kg _ _ q n; rw [(N' p hp).2.2] at this; cases this
theorem fEnterC {env : Env} {outer : List Env} {R : Result → Shared → Prop} {name qual : Str} {params : Arguments} {body : List Stmt} {scope : Scope} {dV kV doc pm cdv ct oc : Value} {an od : Option Addr} {osl : Array (Option Value)} {f : Addr} {args : Args} {binds : List (Str × Value)} {as : List Addr}
    (B : Below A₀ base outer h₀) (F : Fr h₀ L s.heap m) (X₀ : K.In h₀) (N : News h₀ L s.heap news) (T : Top p loose mean mg mb h₀) (hA : A.frames = some (env :: outer)) (hf : env.frame = some L) (hke : env.scope.kind = .function)
    (ho : K.lookup f = some ⟨oc, od, .func (fnOf name qual params body scope dV kV doc pm an cdv ct), osl⟩) (hcd : codeIn K cdv qual = true) (hroom : A.depth < recursionLimit)
    (hbind : BindsTo s (fnOf name qual params body scope dV kV doc pm an cdv ct) args binds) (hkind : (binds.all fun y => scope.names.lookup y.1 == some .local || scope.names.lookup y.1 == some .cell) = true)
    (hnd : ((cellsFrom 0 scope.names []).map (·.1)).Nodup) (has : IsAd (news.map (·.1)) as)
    (h : ∀ g L' h₁ tk cells E1, let A1 := A.deeper (envOfC qual scope L' f cdv); let Q1 : Flow → Shared → Prop := fun fl s' => LeaveF s.heap as g R (match fl with | .ret v => v | _ => .none) s'; let m1 : Str → Option Value := bindL (envOfC qual scope L' f cdv).kindOf binds fun _ => none
      PassesOwn (model prog w) A1 (envOfC qual scope L' f cdv) E1 → Kept as s.heap g → Fr g L' h₁ m1 → News g L' h₁ (cells ++ news) →
      CellsAre (bindC (envOfC qual scope L' f cdv).kindOf binds fun _ => none) (cellsFrom (L' + 1) scope.names []) cells → Below A base (env :: outer) g → K.In g → Top p loose mean mg mb g → LtA L' as →
      wpAny (model prog w) A1 (execs body (envOfC qual scope L' f cdv)) Q1 E1 { s with heap := h₁, toks := tk })
    (hco : scope.isCoroutine = false) (hgen : scope.isGenerator = false) (hk : scope.kind = .function) : codeAny (model prog w) A (.call (.ref f) args) R s := by
  obtain ⟨has⟩ := has
  subst has
  exact fEnterC0 B F X₀ N T hA hf hke ho hcd hroom hbind hkind hnd (fun g L' h₁ tk cells a b c y d e f g' => h g L' h₁ tk cells _ PassesOwn.leaving a b c y d e f (ltA_of g')) hco hgen hk
end
theorem room1 {p n c x b : Nat} (k : Nat) (h : p + n < c) (e : x = p + k) (hb : k + b ≤ n) : x + b < c := by rw [e, Nat.add_assoc]; exact Nat.lt_of_le_of_lt (Nat.add_le_add_left hb p) h
theorem room0 {p n c x : Nat} (k : Nat) (h : p + n < c) (e : x = p + k) (hb : k ≤ n) : x < c := by rw [e]; exact Nat.lt_of_le_of_lt (Nat.add_le_add_left hb p) h
theorem wd1 : True := by
  (k_with "M.F adr" => with_reducible first | exact mm0 | exact mm1 | exact mm2 | exact mm3 | exact mm4 | exact mm5 | exact mm6 | exact mm7 | exact mm8 | exact mm9 | exact mm10 | exact mm11)
  trivial
local macro_rules | `(tactic| k_mem) => `(tactic| walk_at "F k_mem")
theorem wd2 : True := by
  (k_with "M.F k_mem" => walk_at "F adr")
  trivial
theorem wd3 : True := by
  (k_with "M.F rm" => first | (refine room1 0 (by assumption) (by exact rfl) (by exact Nat.le_of_ble_eq_true rfl)) | (refine room1 1 (by assumption) (by exact rfl) (by exact Nat.le_of_ble_eq_true rfl)) | (refine room1 3 (by assumption) (by exact rfl) (by exact Nat.le_of_ble_eq_true rfl)) | (refine room0 0 (by assumption) (by exact rfl) (by exact Nat.le_of_ble_eq_true rfl)) | (refine room0 1 (by assumption) (by exact rfl) (by exact Nat.le_of_ble_eq_true rfl)) | (refine room0 3 (by assumption) (by exact rfl) (by exact Nat.le_of_ble_eq_true rfl)) | (refine room1 2 (by assumption) (by exact rfl) (by exact Nat.le_of_ble_eq_true rfl)) | (refine room1 4 (by assumption) (by exact rfl) (by exact Nat.le_of_ble_eq_true rfl)) | (refine room1 6 (by assumption) (by exact rfl) (by exact Nat.le_of_ble_eq_true rfl)) | fail)
  trivial
local macro_rules | `(tactic| ktr_room) => `(tactic| walk_at "F ktr_room")
theorem wd4 : True := by
  (k_with "M.F ktr_room" => walk_at "F rm")
  trivial
local macro_rules | `(tactic| ktr_units) => `(tactic| walk_at "F ktr_units")
theorem wd5 : True := by
  (k_with "M.F ktr_units" => walk_at "F rm")
  trivial
theorem wd6 : True := by
  (k_with "M.F lt" => first | (refine LtA.lt (by with_reducible assumption) (by walk_at "F adr")) | fail)
  trivial
local macro_rules | `(tactic| k_ne) => `(tactic| walk_at "F k_ne")
theorem wd7 : True := by
  (k_with "M.F k_ne" => first | with_reducible assumption | (refine Ne.symm ?_; with_reducible assumption) | (refine LtA.ne (by with_reducible assumption) (by walk_at "F adr")) | (refine LtA.en (by with_reducible assumption) (by walk_at "F adr")) | (refine NeA.ne (by with_reducible assumption) (by walk_at "F adr")) | (refine NeA.en (by with_reducible assumption) (by walk_at "F adr")) | fail)
  trivial
local macro_rules | `(tactic| k_all) => `(tactic| walk_at "F k_all")
theorem wd8 : True := by
  (k_with "M.F k_all" => first | exact List.forall_mem_nil _ | (refine LtA.all (by with_reducible assumption) (by exact rfl)) | (refine NeA.all (by with_reducible assumption) (by exact rfl)) | (refine neCons (by k_ne) (by k_all)) | fail)
  trivial
local macro_rules | `(tactic| k_lt $h) => `(tactic| ((replace $h := ltA_of $h); (dsimp only [List.map] at $h:ident)))
local macro_rules | `(tactic| k_lt2 $h) => `(tactic| have lx' := LtA.up $h (by with_reducible assumption))
theorem wd9 : True := by
  (k_with "M.F as" => ((try dsimp only [List.map]); exact IsAd.rfl))
  trivial
theorem wd10 : True := by
  (k_with "M.F enterC" => first | (k_dflt (refine fEnterC (by k_asm) (by k_asm) (by k_asm) (by k_asm) (by k_asm) (by exact rfl) (by exact rfl) (by assumption) (by k_is) (by k_is) (by ktr_room) (by first | exact BindsTo.of_eq rfl | exact binds_K (by k_in) rfl (by k_is) rfl rfl rfl) (by exact rfl) (by decide +kernel) (by walk_at "F as") ?_ (by exact rfl) (by exact rfl) (by exact rfl); k_whole; intro _ _ _ _ _ _ _ _ _ _ _ _ N' Y' _ _ _ _; k_cells Y'; (try dsimp only [List.cons_append, List.nil_append] at N'))) | fail)
  trivial
theorem wd11 : True := by
  (k_with "M.F enter" => first | (k_dflt (refine fEnter (by k_asm) (by k_asm) (by k_asm) (by k_asm) (by k_asm) (by exact rfl) (by exact rfl) (by assumption) (by k_is) (by k_is) (by ktr_room) (by exact BindsTo.of_eq rfl) (by exact locs rfl) (by walk_at "F as") ?_ (by exact rfl) (by exact rfl) (by exact rfl) (by decide); k_whole; intro _ _ _ _ _ _ _ _ _ _ _ _ _ _ _ _)) | fail)
  trivial
theorem wd12 : True := by
  (k_with "M.compareOp NotEq ref ref" => first | (k_here; (with_reducible show wpAny _ _ (compareOp CmpOp.NotEq (Value.ref _) (Value.ref _)) _ _ _); (with_unfolding_all refine ne_intsK (by is_list) (by l_intsC) (by is_list) (by l_intsC) (by ktr_units) ?_; k_whole)) | fail)
  trivial
theorem wd13 : True := by
  (k_with "M.LeaveF" => first | (k_dflt (refine leaveF_ (by k_asm) (by k_asm) ?_; k_whole); intro _ _; (try dsimp only)) | fail)
  trivial
theorem offLoop : True := by w_top off; trivial
section
variable {prog : Program} {w : World} {A : Around} {E : Value → Shared → Prop} {s : Shared} {env : Env} {h₀ : Heap} {x : Str} {body : List Stmt} {Q : Flow → Shared → Prop}
/-- a turn's end: the iterator lies as it lay, the word holds of the frame and of the rest of the ledger -/
noncomputable def TEnd (h₀ : Heap) (L I : Addr) (it : Obj) (J : (Str → Option Value) → List (Addr × Obj) → Prop) (s₁ s₂ : Shared) : Prop :=
  ∃ h' tk m' nx, s₂ = { s₁ with heap := h', toks := tk } ∧ Fr h₀ L h' m' ∧ News h₀ L h' ((I, it) :: nx) ∧ (∀ p ∈ nx, p.1 ≠ I) ∧ J m' nx
noncomputable def TPost (h₀ : Heap) (L I : Addr) (it : Obj) (J : (Str → Option Value) → List (Addr × Obj) → Prop) (s₁ : Shared) (Q : Flow → Shared → Prop) (f : Flow) (s₂ : Shared) : Prop :=
  match f with
  | .ret v => Q (.ret v) s₂
  | .brk => Q .next s₂
  | _ => TEnd h₀ L I it J s₁ s₂
theorem TEnd.intro {L I : Addr} {it : Obj} {J : (Str → Option Value) → List (Addr × Obj) → Prop} {s₁ : Shared} {h' : Heap} {tk : Nat} {m' : Str → Option Value} {nx : List (Addr × Obj)}
    (F : Fr h₀ L h' m') (N : News h₀ L h' ((I, it) :: nx)) (hn : ∀ p ∈ nx, p.1 ≠ I) (hj : J m' nx) : TEnd h₀ L I it J s₁ { s₁ with heap := h', toks := tk } := ⟨h', tk, m', nx, rfl, F, N, hn, hj⟩
/-- off the loop's name and the names that its body stores the frame is as it was -/
noncomputable def Off (x : Str) (stored : List Str) (m₀ : Str → Option Value) (J : (Str → Option Value) → List (Addr × Obj) → Prop) (m' : Str → Option Value) (nx : List (Addr × Obj)) : Prop :=
  (∀ y, y ≠ x → stored.contains y = false → m' y = m₀ y) ∧ J m' nx
theorem off_eq {x : Str} {stored : List Str} {m₀ m : Str → Option Value} {v : Option Value} (h : ∀ y, y ≠ x → stored.contains y = false → m y = m₀ y) :
    (fun y => if y = x then v else m y) = fun y => if y = x then v else if stored.contains y then m y else m₀ y := by
  funext y
  by_cases h1 : y = x
  · simp only [if_pos h1]
  · simp only [if_neg h1]
    cases h2 : stored.contains y with
    | true => simp only [if_true]
    | false => simp only [Bool.false_eq_true, if_false]; exact h y h1 h2
theorem off_eq2 {x : Str} {stored : List Str} {m₀ m : Str → Option Value} (h : ∀ y, y ≠ x → stored.contains y = false → m y = m₀ y) :
    m = fun y => if y = x then m y else if stored.contains y then m y else m₀ y := by
  funext y
  by_cases h1 : y = x
  · rw [if_pos h1]
  · rw [if_neg h1]
    cases h2 : stored.contains y with
    | true => rw [if_pos rfl]
    | false => rw [if_neg Bool.false_ne_true]; exact h y h1 h2
theorem loop_core0 {I : Addr} {fp : List Addr} {n : Nat} {P : Nat → Value → Prop} {St : Nat → Heap → Prop} {m : Str → Option Value} {news : List (Addr × Obj)} (J : Nat → (Str → Option Value) → List (Addr × Obj) → Prop)
    (W : Walks prog w A I fp [I] n P St) (hI : I ∈ fp) (live : ∀ i h, St i h → ∃ o, h.get? I = some o) (hIL : I ≠ env.locals) (hI0 : h₀.get? I = none) (hIn : ∀ p ∈ news, p.1 ≠ I)
    (hfp : ∀ b ∈ fp, b ≠ I → (∃ o, h₀.get? b = some o) ∨ (∃ o, ∀ i m nx, J i m nx → (b, o) ∈ nx))
    (hst : St 0 s.heap) (F : Fr h₀ env.locals s.heap m) (N : News h₀ env.locals s.heap news) (hj : J 0 m news)
    (turn : ∀ i v m₁ nx it h tk, i < n → P i v → J i m₁ nx → (∀ p ∈ nx, p.1 ≠ I) → Fr h₀ env.locals h (fun y => if y = x then some v else m₁ y) → News h₀ env.locals h ((I, it) :: nx) →
      let Q1 : Flow → Shared → Prop := TPost h₀ env.locals I it (J (i + 1)) { s with heap := h, toks := tk } Q; wpAny (model prog w) A (execs body env) Q1 E { s with heap := h, toks := tk })
    (done : ∀ m₁ nx h tk, J n m₁ nx → Fr h₀ env.locals h m₁ → News h₀ env.locals h nx → Q .next { s with heap := h, toks := tk }) :
    LoopAtV prog w A h₀ env x body Q E (.ref I) s := by
  refine ⟨I, fp, [I], n, P, St, m, news, J, rfl, W, ?_, ?_, ?_, hst, F, N, hj, ?_, ?_⟩
  · intro hL
    rcases Classical.em (env.locals = I) with e | e
    · exact hIL e.symm
    · rcases hfp _ hL e with ⟨o, ho⟩ | ⟨o, ho⟩
      · exact absurd (Nat.lt_of_lt_of_le (Heap.lt_size ho) F.above) (Nat.lt_irrefl _)
      · exact (N _ (ho _ _ _ hj)).2.1 rfl
  · intro b hb
    rw [List.mem_singleton.mp hb]; exact hI0
  · intro p hp hb
    exact hIn p hp (List.mem_singleton.mp hb)
  · rintro i v m₁ nx s₁ own ⟨hh, tk, rfl⟩ hin hP hJ hofs hown hget hall hst₁ F₁ N₁
    obtain ⟨it, hit⟩ := live _ _ hst₁
    have hmI : (I, it) ∈ own := hall I hI hI0 it hit
    have hne : ∀ p ∈ nx, p.1 ≠ I := fun p hp e => hofs p hp (List.mem_singleton.mpr e)
    have N₂ : News h₀ env.locals hh ((I, it) :: nx) := fun p hp => N₁ p ((List.mem_cons.mp hp).elim (fun e => List.mem_append_left _ (e ▸ hmI)) fun e => List.mem_append_right _ e)
    refine wpAny_mono (turn i v m₁ nx it hh tk hin hP hJ hne F₁ N₂) (fun f s₂ p => ?_) fun _ _ e => e
    have fin : TEnd h₀ env.locals I it (J (i + 1)) { s with heap := hh, toks := tk } s₂ → LoopStepU h₀ env.locals [I] own (J (i + 1)) { s with heap := hh, toks := tk } .next s₂ := by
      rintro ⟨h', tk', m', nx', e, F', N', hn', hj'⟩
      refine ⟨rfl, h', tk', m', nx', e, F', ?_, fun p hp hb => hn' p hp (List.mem_singleton.mp hb), hj'⟩
      intro p hp
      rcases List.mem_append.mp hp with hp | hp
      · rcases Classical.em (p.1 = I) with e1 | e1
        · have h1 := hget p hp
          rw [e1] at h1
          have h2 : p.2 = it := Option.some.inj (h1.symm.trans hit)
          have h3 : p = (I, it) := Prod.ext e1 h2
          rw [h3]; exact N' _ (List.mem_cons_self ..)
        · rcases hfp p.1 (hown p hp) e1 with ⟨o, ho⟩ | ⟨o, ho⟩
          · have := (N₁ p (List.mem_append_left _ hp)).2.2
            rw [ho] at this; cases this
          · have h1 := (N₁ _ (List.mem_append_right _ (ho _ _ _ hJ))).1
            have h2 := hget p hp
            have h3 : p.2 = o := Option.some.inj (h2.symm.trans h1)
            have h4 : p = (p.1, o) := Prod.ext rfl h3
            rw [h4]; exact N' _ (List.mem_cons_of_mem _ (ho _ _ _ hj'))
      · exact N' p (List.mem_cons_of_mem _ hp)
    cases f with
    | ret v => exact .ret p
    | brk => exact .brk p
    | next => exact .next (fin p)
    | cont => exact .cont (fin p)
  · rintro h' tk m' nx F' N' _ hJ
    exact done m' nx h' tk hJ F' N'
theorem loop_core {I : Addr} {fp : List Addr} {n : Nat} {P : Nat → Value → Prop} {St : Nat → Heap → Prop} {m : Str → Option Value} {news : List (Addr × Obj)} (stored : List Str) (J : Nat → (Str → Option Value) → List (Addr × Obj) → Prop)
    (W : Walks prog w A I fp [I] n P St) (hI : I ∈ fp) (live : ∀ i h, St i h → ∃ o, h.get? I = some o) (hIL : I ≠ env.locals) (hI0 : h₀.get? I = none) (hIn : ∀ p ∈ news, p.1 ≠ I)
    (hfp : ∀ b ∈ fp, b ≠ I → (∃ o, h₀.get? b = some o) ∨ (∃ o, ∀ i m nx, J i m nx → (b, o) ∈ nx))
    (hst : St 0 s.heap) (F : Fr h₀ env.locals s.heap m) (N : News h₀ env.locals s.heap news) (hj : J 0 m news)
    (turn : ∀ i v u nx it h tk, i < n → P i v → J i u nx → (∀ p ∈ nx, p.1 ≠ I) → Fr h₀ env.locals h (fun y => if y = x then some v else if stored.contains y then u y else m y) → News h₀ env.locals h ((I, it) :: nx) →
      let Q1 : Flow → Shared → Prop := TPost h₀ env.locals I it (Off x stored m (J (i + 1))) { s with heap := h, toks := tk } Q; wpAny (model prog w) A (execs body env) Q1 E { s with heap := h, toks := tk })
    (done : ∀ u nx h tk, J n u nx → Fr h₀ env.locals h (fun y => if y = x then u y else if stored.contains y then u y else m y) → News h₀ env.locals h nx → Q .next { s with heap := h, toks := tk }) :
    LoopAtV prog w A h₀ env x body Q E (.ref I) s := by
  refine loop_core0 (fun i => Off x stored m (J i)) W hI live hIL hI0 hIn (fun b hb hbI => (hfp b hb hbI).imp id fun ⟨o, ho⟩ => ⟨o, fun i m nx hx => ho i m nx hx.2⟩) hst F N ⟨fun _ _ _ => rfl, hj⟩ ?_ ?_
  · intro i v m₁ nx it h tk hi hP hJ hnx F₁ N₁
    rw [off_eq hJ.1] at F₁
    exact turn i v m₁ nx it h tk hi hP hJ.2 hnx F₁ N₁
  · intro m₁ nx h tk hJ F₁ N₁
    rw [off_eq2 hJ.1] at F₁
    exact done m₁ nx h tk hJ.2 F₁ N₁
/-- a for over a list that lies below the frame, or that the ledger keeps -/
theorem iter_list {l : Addr} {vs : List Value} {m : Str → Option Value} {news : List (Addr × Obj)} (stored : List Str) (J : Nat → (Str → Option Value) → List (Addr × Obj) → Prop)
    (hh : A.handled = none) (hl : s.heap.IsList l vs.toArray) (hb : (∃ o, h₀.get? l = some o) ∨ (∃ o, ∀ i m nx, J i m nx → (l, o) ∈ nx))
    (F : Fr h₀ env.locals s.heap m) (N : News h₀ env.locals s.heap news) (hj : J 0 m news)
    (turn : ∀ i v u' nx I it h tk, vs[i]? = some v → J i u' nx → (∀ p ∈ nx, p.1 ≠ I) → (∀ p ∈ news, p.1 < I) → Fr h₀ env.locals h (fun y => if y = x then some v else if stored.contains y then u' y else m y) → News h₀ env.locals h ((I, it) :: nx) →
      let Q1 : Flow → Shared → Prop := TPost h₀ env.locals I it (Off x stored m (J (i + 1))) { s with heap := h, toks := tk } Q; wpAny (model prog w) A (execs body env) Q1 E { s with heap := h, toks := tk })
    (done : ∀ u' nx h tk, J vs.length u' nx → Fr h₀ env.locals h (fun y => if y = x then u' y else if stored.contains y then u' y else m y) → News h₀ env.locals h nx → Q .next { s with heap := h, toks := tk }) :
    wpAny (model prog w) A (pyIter (.ref l)) (fun it s₂ => LoopAtV prog w A h₀ env x body Q E it s₂) E s := by
  obtain ⟨ol, hol, _⟩ := id hl
  have hne : l ≠ s.heap.objs.size := Nat.ne_of_lt (Heap.lt_size hol)
  have hlt : ∀ p ∈ news, p.1 < s.heap.objs.size := fun p hp => Heap.lt_size (N p hp).1
  refine wpAny_pyIter_list hl ?_
  have W := Walks.list (prog := prog) (w := w) hh s.heap.objs.size l hne vs.toArray
  have hlen : vs.toArray.size = vs.length := by simp
  rw [hlen] at W
  refine loop_core stored J W (List.mem_cons_self ..) (fun i h st => let ⟨⟨o, ho, _⟩, _⟩ := st; ⟨o, ho⟩) (fun e => absurd F.ns.lt (e ▸ Nat.lt_irrefl _)) (next_is_new F) (fun p hp => Nat.ne_of_lt (hlt p hp)) ?_
    ⟨⟨_, Heap.get?_push_size _ rfl, rfl, rfl⟩, hl.at fun o e => Heap.get?_push_of_some _ e⟩ (F.push _) (fun p hp => ⟨Heap.get?_push_of_some _ (N p hp).1, (N p hp).2⟩) hj ?_ done
  · intro b hbm hbI
    rcases List.mem_cons.mp hbm with e | hbm
    · exact absurd e hbI
    · rw [List.mem_singleton.mp hbm]; exact hb
  · intro i v u' nx it h tk hi hP hJ hnx F₁ N₁
    exact turn i v u' nx _ it h tk (by simpa using hP) hJ hnx hlt F₁ N₁
/-- a for over reversed(l): the iterator lies in the ledger, the list below -/
theorem iter_rev {l I : Addr} {vs : List Value} {m : Str → Option Value} {news : List (Addr × Obj)} (stored : List Str) (J : Nat → (Str → Option Value) → List (Addr × Obj) → Prop)
    (hh : A.handled = none) (hl : s.heap.IsList l vs.toArray) (hb : (∃ o, h₀.get? l = some o) ∨ (∃ o, ∀ i m nx, J i m nx → (l, o) ∈ nx)) (hne : l ≠ I)
    (F : Fr h₀ env.locals s.heap m) (N : News h₀ env.locals s.heap ((I, revObj l ((vs.length : Int) - 1)) :: news)) (hnI : ∀ p ∈ news, p.1 ≠ I) (hj : J 0 m news)
    (turn : ∀ i v u' nx it h tk, vs[vs.length - 1 - i]? = some v → i < vs.length → J i u' nx → (∀ p ∈ nx, p.1 ≠ I) → Fr h₀ env.locals h (fun y => if y = x then some v else if stored.contains y then u' y else m y) → News h₀ env.locals h ((I, it) :: nx) →
      let Q1 : Flow → Shared → Prop := TPost h₀ env.locals I it (Off x stored m (J (i + 1))) { s with heap := h, toks := tk } Q; wpAny (model prog w) A (execs body env) Q1 E { s with heap := h, toks := tk })
    (done : ∀ u' nx h tk, J vs.length u' nx → Fr h₀ env.locals h (fun y => if y = x then u' y else if stored.contains y then u' y else m y) → News h₀ env.locals h nx → Q .next { s with heap := h, toks := tk }) :
    wpAny (model prog w) A (pyIter (.ref I)) (fun it s₂ => LoopAtV prog w A h₀ env x body Q E it s₂) E s := by
  have hIx := N _ (List.mem_cons_self ..)
  have hit : s.heap.IsRevIter I l ((vs.length : Int) - 1) := ⟨_, hIx.1, rfl, rfl⟩
  refine wpAny_pyIter_revIter hit ?_
  have W := Walks.listRev (prog := prog) (w := w) hh I l hne vs.toArray
  have hlen : vs.toArray.size = vs.length := by simp
  rw [hlen] at W
  refine loop_core stored J W (List.mem_cons_self ..) (fun i h st => let ⟨_, ⟨o, ho, _⟩, _⟩ := st; ⟨o, ho⟩) hIx.2.1 hIx.2.2 hnI ?_
    ⟨Nat.zero_le _, by simpa using hit, hl⟩ F (fun p hp => N p (List.mem_cons_of_mem _ hp)) hj ?_ done
  · intro b hbm hbI
    rcases List.mem_cons.mp hbm with e | hbm
    · exact absurd e hbI
    · rw [List.mem_singleton.mp hbm]; exact hb
  · intro i v u' nx it h tk hi hP hJ hnx F₁ N₁
    exact turn i v u' nx it h tk (by simpa using hP) hi hJ hnx F₁ N₁
/-- a for over a dict's keys, the dict below the frame or kept by the ledger -/
theorem iter_dict {K : Type} [DecidableEq K] {knd : KeyKind prog w K} {d : Addr} {kvs : List (K × Value)} {ep : Nat} {m : Str → Option Value} {news : List (Addr × Obj)} (stored : List Str) (J : Nat → (Str → Option Value) → List (Addr × Obj) → Prop)
    (hh : A.handled = none) (hd : s.heap.DictAt knd d kvs ep) (lo : (d == sysModules) = false) (hb : (∃ o, h₀.get? d = some o) ∨ (∃ o, ∀ i m nx, J i m nx → (d, o) ∈ nx))
    (F : Fr h₀ env.locals s.heap m) (N : News h₀ env.locals s.heap news) (hj : J 0 m news)
    (turn : ∀ i k u v u' nx I it h tk, kvs[i]? = some (k, u) → knd.is k v = true → J i u' nx → (∀ p ∈ nx, p.1 ≠ I) → (∀ p ∈ news, p.1 < I) → Fr h₀ env.locals h (fun y => if y = x then some v else if stored.contains y then u' y else m y) → News h₀ env.locals h ((I, it) :: nx) →
      let Q1 : Flow → Shared → Prop := TPost h₀ env.locals I it (Off x stored m (J (i + 1))) { s with heap := h, toks := tk } Q; wpAny (model prog w) A (execs body env) Q1 E { s with heap := h, toks := tk })
    (done : ∀ u' nx h tk, J kvs.length u' nx → Fr h₀ env.locals h (fun y => if y = x then u' y else if stored.contains y then u' y else m y) → News h₀ env.locals h nx → Q .next { s with heap := h, toks := tk }) :
    wpAny (model prog w) A (pyIter (.ref d)) (fun it s₂ => LoopAtV prog w A h₀ env x body Q E it s₂) E s := by
  obtain ⟨ol, _, hol, _⟩ := id hd
  have hne : d ≠ s.heap.objs.size := Nat.ne_of_lt (Heap.lt_size hol)
  have hlt : ∀ p ∈ news, p.1 < s.heap.objs.size := fun p hp => Heap.lt_size (N p hp).1
  refine wpAny_pyIter_dict lo hd ?_
  have W := Walks.dictKeys (prog := prog) (w := w) (knd := knd) hh s.heap.objs.size d hne kvs ep
  refine loop_core stored J W (List.mem_cons_self ..) (fun i h st => let ⟨⟨o, ho, _⟩, _⟩ := st; ⟨o, ho⟩) (fun e => absurd F.ns.lt (e ▸ Nat.lt_irrefl _)) (next_is_new F) (fun p hp => Nat.ne_of_lt (hlt p hp)) ?_
    ⟨⟨_, Heap.get?_push_size _ rfl, rfl, rfl⟩, hd.at' fun o e => Heap.get?_push_of_some _ e⟩ (F.push _) (fun p hp => ⟨Heap.get?_push_of_some _ (N p hp).1, (N p hp).2⟩) hj ?_ done
  · intro b hbm hbI
    rcases List.mem_cons.mp hbm with e | hbm
    · exact absurd e hbI
    · rw [List.mem_singleton.mp hbm]; exact hb
  · rintro i v u' nx it h tk hi ⟨k, u, h1, h2⟩ hJ hnx F₁ N₁
    exact turn i k u v u' nx _ it h tk h1 h2 hJ hnx hlt F₁ N₁
/-- a for over a range by ones -/
theorem iter_range {r : Addr} {a₀ b₀ : Int} {t₀ u₀ v₀ : Tok} {n : Nat} {m : Str → Option Value} {news : List (Addr × Obj)} (stored : List Str) (J : Nat → (Str → Option Value) → List (Addr × Obj) → Prop)
    (c : Int) (hh : A.handled = none) (hr : IsRange s.heap r a₀ b₀ c t₀ u₀ v₀) (hsmall : Builtin.Range.small a₀ b₀ c = true) (hn : Builtin.Range.rangeSize a₀ b₀ c = (n : Int))
    (F : Fr h₀ env.locals s.heap m) (N : News h₀ env.locals s.heap news) (hj : J 0 m news)
    (turn : ∀ i t u' nx I it h tk, i < n → J i u' nx → (∀ p ∈ nx, p.1 ≠ I) → (∀ p ∈ news, p.1 < I) → Fr h₀ env.locals h (fun y => if y = x then some (.int (a₀ + (i : Int) * c) t) else if stored.contains y then u' y else m y) → News h₀ env.locals h ((I, it) :: nx) →
      let Q1 : Flow → Shared → Prop := TPost h₀ env.locals I it (Off x stored m (J (i + 1))) { s with heap := h, toks := tk } Q; wpAny (model prog w) A (execs body env) Q1 E { s with heap := h, toks := tk })
    (done : ∀ u' nx h tk, J n u' nx → Fr h₀ env.locals h (fun y => if y = x then u' y else if stored.contains y then u' y else m y) → News h₀ env.locals h nx → Q .next { s with heap := h, toks := tk }) :
    wpAny (model prog w) A (pyIter (.ref r)) (fun it s₂ => LoopAtV prog w A h₀ env x body Q E it s₂) E s := by
  have hlt : ∀ p ∈ news, p.1 < s.heap.objs.size := fun p hp => Heap.lt_size (N p hp).1
  refine wpAny_pyIter_range hr hsmall ?_
  have W := Walks.range (prog := prog) (w := w) hh s.heap.objs.size a₀ c n
  refine loop_core stored J W (List.mem_cons_self ..) (fun i h st => ⟨_, st⟩) (fun e => absurd F.ns.lt (e ▸ Nat.lt_irrefl _)) (next_is_new F) (fun p hp => Nat.ne_of_lt (hlt p hp)) ?_
    (by show IsRangeIter _ _ _ _ _; rw [hn]; simpa using Heap.get?_push_size _ rfl) (F.push _) (fun p hp => ⟨Heap.get?_push_of_some _ (N p hp).1, (N p hp).2⟩) hj ?_ done
  · intro b hbm hbI
    exact absurd (List.mem_singleton.mp hbm) hbI
  · rintro i v u' nx it h tk hi ⟨t, rfl⟩ hJ hnx F₁ N₁
    exact turn i t u' nx _ it h tk hi hJ hnx hlt F₁ N₁
noncomputable def WEnd (h₀ : Heap) (L : Addr) (stored : List Str) (m : Str → Option Value) (J : Nat → (Str → Option Value) → List (Addr × Obj) → Prop) (n : Nat) (s s₃ : Shared) : Prop :=
  ∃ n' h' tk' m' nx', n' < n ∧ s₃ = { s with heap := h', toks := tk' } ∧ Fr h₀ L h' m' ∧ (∀ y, stored.contains y = false → m' y = m y) ∧ News h₀ L h' nx' ∧ J n' m' nx'
theorem WEnd.intro {L : Addr} {stored : List Str} {m m' : Str → Option Value} {J : Nat → (Str → Option Value) → List (Addr × Obj) → Prop} {n : Nat} {s : Shared} {h' : Heap} {tk' : Nat} {nx' : List (Addr × Obj)} (n' : Nat) (hn : n' < n) (F : Fr h₀ L h' m') (hm : ∀ y, stored.contains y = false → m' y = m y) (N : News h₀ L h' nx') (hj : J n' m' nx') :
    WEnd h₀ L stored m J n s { s with heap := h', toks := tk' } := ⟨n', h', tk', m', nx', hn, rfl, F, hm, N, hj⟩
noncomputable def WPost (h₀ : Heap) (L : Addr) (stored : List Str) (m : Str → Option Value) (J : Nat → (Str → Option Value) → List (Addr × Obj) → Prop) (n : Nat) (s : Shared) (Q : Flow → Shared → Prop) (f : Flow) (s₃ : Shared) : Prop :=
  match f with
  | .ret v => Q (.ret v) s₃
  | .brk => Q .next s₃
  | _ => WEnd h₀ L stored m J n s s₃
theorem while_core {test : Expr} {pos : Pos} {n₀ : Nat} {m : Str → Option Value} {news : List (Addr × Obj)} (stored : List Str) (J : Nat → (Str → Option Value) → List (Addr × Obj) → Prop) (hj : J n₀ m news)
    (F : Fr h₀ env.locals s.heap m) (N : News h₀ env.locals s.heap news)
    (turn : ∀ n u nx h tk, J n u nx → Fr h₀ env.locals h (fun y => if stored.contains y then u y else m y) → News h₀ env.locals h nx →
      wpAny (model prog w) A (isTrue test env (eval test env)) (fun b s₂ => if b then wpAny (model prog w) A (execs body env) (WPost h₀ env.locals stored m J n s Q) (fun _ _ => False) s₂ else Q .next s₂) (fun _ _ => False) { s with heap := h, toks := tk }) :
    wpAny (model prog w) A (exec (.While test body [] pos) env) Q E s := by
  have offW : ∀ {u : Str → Option Value}, (∀ y, stored.contains y = false → u y = m y) → u = fun y => if stored.contains y then u y else m y := by
    intro u hu
    funext y
    cases h : stored.contains y with
    | true => rw [if_pos rfl]
    | false => rw [if_neg Bool.false_ne_true]; exact hu y h
  refine wpAny_While (codeAny_whileLoop (R := fun r s' => match r with | .ok f => Q f s' | .error e => cameBackBy (model prog w) A env E e s')
    (fun n s' => ∃ h tk u nx, s' = { s with heap := h, toks := tk } ∧ Fr h₀ env.locals h u ∧ (∀ y, stored.contains y = false → u y = m y) ∧ News h₀ env.locals h nx ∧ J n u nx) ?_ n₀
    ⟨s.heap, s.toks, m, news, rfl, F, fun _ _ => rfl, N, hj⟩)
  rintro n s' ⟨h, tk, u, nx, rfl, F₁, hu, N₁, hJ⟩
  rw [offW hu] at F₁
  refine wpAny_mono (turn n u nx h tk hJ F₁ N₁) (fun b s₂ hb => ?_) fun _ _ x => x.elim
  cases b with
  | false =>
    rw [if_neg Bool.false_ne_true] at hb ⊢
    exact wpAny_execs_nil hb
  | true =>
    rw [if_pos rfl] at hb ⊢
    refine wpAny_mono hb (fun f s₃ hf => ?_) fun _ _ x => x.elim
    have fin : WEnd h₀ env.locals stored m J n s s₃ →
        ∃ m', m' < n ∧ ∃ h tk u nx, s₃ = { s with heap := h, toks := tk } ∧ Fr h₀ env.locals h u ∧ (∀ y, stored.contains y = false → u y = m y) ∧ News h₀ env.locals h nx ∧ J m' u nx := by
      rintro ⟨n', h', tk', m', nx', hn, e, F', hm, N', hj'⟩
      exact ⟨n', hn, h', tk', m', nx', e, F', hm, N', hj'⟩
    cases f with
    | next => exact fin hf
    | cont => exact fin hf
    | brk => exact hf
    | ret v => exact hf
theorem frKnow {g h : Heap} {L : Addr} {m : Str → Option Value} {a : Str} {v : Option Value} (F : Fr g L h m) (e : m a = v) : Fr g L h (fun y => if y = a then v else m y) := by
  have : (fun y => if y = a then v else m y) = m := by
    funext y
    by_cases q : y = a
    · rw [if_pos q, q, e]
    · rw [if_neg q]
  rw [this]; exact F
end
section
open PyProof.Rows.LCg PyProof.Rows.LCt
variable {prog : Program} {w : World} {A : Around} {s : Shared} {h₀ : Heap} {L : Addr} {m : Str → Option Value} {env : Env}
theorem compEnd_mono {s₁ s₂ : Shared} {I C D : Addr} {oI oC oD : Obj} {S : List (Addr × Obj) → Prop} {r r' : Value → List (Addr × Obj) → Prop} {y : Value} (h : CompEnd h₀ L m s₁ I oI C oC D oD S r y s₂) (hr : ∀ news, r y news → r' y news) : CompEnd h₀ L m s₁ I oI C oC D oD S r' y s₂ :=
  let ⟨h', tk, news', e, F, N, off, hS, hrr⟩ := h; ⟨h', tk, news', e, F, N, off, hS, hr _ hrr⟩
theorem compT_inv {ct elt : Expr} {x : Str} {scope : Scope} {cl : List (Str × Addr)} {S : List (Addr × Obj) → Prop} {P : Nat → Value → Prop} {Fin : List Value → List (Addr × Obj) → Prop} {n : Nat} {news : List (Addr × Obj)} (J : Nat → List Value → List (Addr × Obj) → Prop) (hj : J 0 [] news)
    (turn : ∀ i v I oI C oC D m₂ h tk (E' : Value → Shared → Prop) ys nx, i < n → P i v → J i ys nx → NsObj oC m₂ → m₂ x = some v → Fr h₀ L h m → News h₀ L h ((I, oI) :: (C, oC) :: (D, lst ys) :: nx) → Off3 I C D nx → ((@Ne Nat I C) ∧ (@Ne Nat I D) ∧ (@Ne Nat C D)) →
      wpAny (model prog w) A (isTrue ct (compEnvC scope cl C env) (eval ct (compEnvC scope cl C env))) (fun ok s' => if ok = true then
        wpAny (model prog w) A (eval elt (compEnvC scope cl C env)) (CompEnd h₀ L m { s with heap := h, toks := tk } I oI C oC D (lst ys) S (fun y nx' => J (i + 1) (ys ++ [y]) nx')) E' s'
        else CompEnd h₀ L m { s with heap := h, toks := tk } I oI C oC D (lst ys) S (fun _ nx' => J (i + 1) ys nx') Value.none s') E' { s with heap := h, toks := tk })
    (done : ∀ ys nx, J n ys nx → Fin ys nx) : CompRestT prog w A h₀ L m env ct elt x scope cl s S P Fin n 0 [] news := by
  have key : ∀ k i ys nx, i + k = n → J i ys nx → CompRestT prog w A h₀ L m env ct elt x scope cl s S P Fin k i ys nx := by
    intro k
    induction k with
    | zero => intro i ys nx e hJ; obtain rfl : i = n := e; exact done _ _ hJ
    | succ k ih =>
      intro i ys nx e hJ
      refine CompRestT.succ fun v I oI C oC D m₂ h tk E' hP hC hx F N off ne => ?_
      refine wpAny_mono (turn i v I oI C oC D m₂ h tk E' ys nx (by omega) hP hJ hC hx F N off ne) (fun ok s' hok => ?_) fun _ _ x => x
      cases ok with
      | true =>
        rw [if_pos rfl] at hok ⊢
        exact wpAny_mono hok (fun y s₂ hy => compEnd_mono hy fun nx' hj' => ih (i + 1) _ _ (by omega) hj') fun _ _ x => x
      | false =>
        rw [if_neg Bool.false_ne_true] at hok ⊢
        exact compEnd_mono hok fun nx' hj' => ih (i + 1) _ _ (by omega) hj'
  exact key n 0 [] news (Nat.zero_add n) hj
theorem compU_inv {elt : Expr} {x : Str} {scope : Scope} {cl : List (Str × Addr)} {S : List (Addr × Obj) → Prop} {P : Nat → Value → Prop} {Fin : List Value → List (Addr × Obj) → Prop} {n : Nat} {news : List (Addr × Obj)} (J : Nat → List Value → List (Addr × Obj) → Prop) (hj : J 0 [] news)
    (turn : ∀ i v I oI C oC D m₂ h tk (E' : Value → Shared → Prop) ys nx, i < n → P i v → J i ys nx → NsObj oC m₂ → m₂ x = some v → Fr h₀ L h m → News h₀ L h ((I, oI) :: (C, oC) :: (D, lst ys) :: nx) → Off3 I C D nx → ((@Ne Nat I C) ∧ (@Ne Nat I D) ∧ (@Ne Nat C D)) →
      wpAny (model prog w) A (eval elt (compEnvC scope cl C env)) (CompEnd h₀ L m { s with heap := h, toks := tk } I oI C oC D (lst ys) S (fun y nx' => J (i + 1) (ys ++ [y]) nx')) E' { s with heap := h, toks := tk })
    (done : ∀ ys nx, J n ys nx → Fin ys nx) : CompRest prog w A h₀ L m env elt x scope cl s S P Fin n 0 [] news := by
  have key : ∀ k i ys nx, i + k = n → J i ys nx → CompRest prog w A h₀ L m env elt x scope cl s S P Fin k i ys nx := by
    intro k
    induction k with
    | zero => intro i ys nx e hJ; obtain rfl : i = n := e; exact done _ _ hJ
    | succ k ih =>
      intro i ys nx e hJ
      refine CompRest.succ fun v I oI C oC D m₂ h tk E' hP hC hx F N off ne => ?_
      exact wpAny_mono (turn i v I oI C oC D m₂ h tk E' ys nx (by omega) hP hJ hC hx F N off ne) (fun y s₂ hy => compEnd_mono hy fun nx' hj' => ih (i + 1) _ _ (by omega) hj') fun _ _ x => x
  exact key n 0 [] news (Nat.zero_add n) hj
end
theorem rsz {a b : Int} {n : Nat} (h : b = a + n) : Builtin.Range.rangeSize a b 1 = (n : Int) := by
  unfold Builtin.Range.rangeSize
  simp
  split <;> omega
theorem rszD {n : Nat} : Builtin.Range.rangeSize ((n : Int) - 1) (-1) (-1) = (n : Int) := by
  unfold Builtin.Range.rangeSize
  simp
  omega
theorem rsm {a b c : Int} (h : 0 ≤ a + 10 ∧ a < 1000 ∧ 0 ≤ b + 10 ∧ b < 1000) (hc : c = 1 ∨ c = -1) : Builtin.Range.small a b c = true := by
  unfold Builtin.Range.small
  have hs : 0 ≤ Builtin.Range.rangeSize a b c ∧ Builtin.Range.rangeSize a b c < 2000 := by
    unfold Builtin.Range.rangeSize
    rcases hc with rfl | rfl <;> simp <;> split <;> omega
  rcases hc with rfl | rfl <;> simp [Builtin.Range.rangeFitsLong] <;> omega
noncomputable def Stop (P : Prop) : Prop := P
theorem Stop.intro {P : Prop} (h : Stop P) : P := h
/-- a mark in the context: the walk stops at a loop's iterator -/
structure StopIter : Prop where
structure StopComp : Prop where
structure StopWhile : Prop where
/-- the walk stops at what the next line does by hand -/
structure StopX : Prop where
structure StopAt (a : Addr) : Prop where
theorem Stop.out {P : Prop} (h : P) : Stop P := h
theorem stopX {P : Prop} (_ : StopX) (h : Stop P) : P := h
theorem stopSet {M : Model} {A : Around} {a : Addr} {k v : Value} {Q : Unit → Shared → Prop} {E : Value → Shared → Prop} {s : Shared} (_ : StopAt a) (h : Stop (wpAny M A (setItem (.ref a) k v) Q E s)) : wpAny M A (setItem (.ref a) k v) Q E s := h
theorem stopSub {M : Model} {A : Around} {a : Addr} {x y : Expr} {v : Value} {Q E : Value → Shared → Prop} {s : Shared} (_ : StopAt a) (h : Stop (wpAny M A (subscriptTail x y (.ref a) v) Q E s)) : wpAny M A (subscriptTail x y (.ref a) v) Q E s := h
theorem stopLen {M : Model} {A : Around} {a : Addr} {Q E : Value → Shared → Prop} {s : Shared} (_ : StopAt a) (h : Stop (wpAny M A (call (.builtin "len") [.ref a]) Q E s)) : wpAny M A (call (.builtin "len") [.ref a]) Q E s := h
theorem callWithM1 {M : Model} {A : Around} {env : Env} {E : Value → Shared → Prop} {s : Shared} {pos : Pos} {id : String} {first : List Value} {e : Expr} {rest : List Expr} {Q : Value → Shared → Prop}
    (h : wpAny M A (spliced (backTo pos (starEach (e :: rest) env))) (fun vs s₁ => wpAny M A (call (.builtin id) (first ++ vs)) Q E s₁) E s)
    (he : starEach (e :: rest) env = (false, eval e env) :: starEach rest env) (hp : (backTo pos (starEach rest env)).any (·.1) = false) :
    wpAny M A (callWith pos (Value.builtin id, first).1 (Value.builtin id, first).2 (backTo pos (starEach (e :: rest) env)) []) Q E s := callWith_method1 h he hp
theorem wd14 : True := by
  (k_with "M.setItem ref str" => with_reducible refine stopSet (by with_reducible assumption) ?_)
  trivial
theorem wd15 : True := by
  (k_with "M.setItem ref ref" => with_reducible refine stopSet (by with_reducible assumption) ?_)
  trivial
theorem wd16 : True := by
  (k_with "M.subscriptTail Attribute Name UnaryOp ref int" => with_reducible refine stopSub (by with_reducible assumption) ?_)
  trivial
theorem wd17 : True := by
  (k_with "M.subscriptTail Name UnaryOp ref int" => with_reducible refine stopSub (by with_reducible assumption) ?_)
  trivial
theorem wd18 : True := by
  (k_with "M.call builtin:str.join" => refine stopX (by with_reducible assumption) ?_)
  trivial
theorem wd19 : True := by
  (k_with "M.call builtin:len" => with_reducible refine stopLen (by with_reducible assumption) ?_)
  trivial
theorem wd20 : True := by
  (k_with "M.callWith" => first | (with_reducible refine callWithM1 ?_ (by with_unfolding_all exact rfl) (by with_unfolding_all exact rfl)) | (with_reducible refine callWith_method1 ?_ (by with_unfolding_all exact rfl) (by with_unfolding_all exact rfl)) | fail)
  trivial
theorem wd21 : True := by
  (k_with "M.getAttr ref" => first | (k_here; k_dflt (refine get_own (by k_asm) (by k_asm) (by k_inst) (by k_is) (by k_is) (by k_is) (by k_is) (by k_get) (by k_handed) ?_; k_whole)) | fail)
  trivial
theorem wd22 : True := by
  (k_with "M.subscriptTail Attribute Name Name ref str" => first | (k_here; k_dflt (refine tab_tail (knd := strKind _ _) (enc := PyData.str) (by k_tabat) ?_; k_whole)) | fail)
  trivial
theorem wd23 : True := by
  (k_with "M.subscriptTail Subscript" => first | (k_here; (with_reducible show wpAny _ _ (subscriptTail _ _ (Value.ref _) (Value.int _ _)) _ _ _); (with_unfolding_all refine kde_neg (by is_list) (by decide) (by decide) (by exact rfl) (by exact rfl) ?_ (by with_unfolding_all rfl)); k_whole) | fail)
  trivial
theorem wd24 : True := by
  (k_with "M.subscriptTail Name Name ref int" => with_reducible refine stopSub (by with_reducible assumption) ?_)
  trivial
local macro_rules | `(tactic| walk_at "pyIter ref") => `(tactic| refine stopX (by with_reducible assumption) ?_)
local macro_rules | `(tactic| walk_at "pyIter ref") => `(tactic| ((have _ := (by with_reducible assumption : StopIter)); refine Stop.intro ?_))
theorem wd25 : True := by
  (k_with "M.eval ListComp" => ((have _ := (by with_reducible assumption : StopComp)); refine Stop.intro ?_))
  trivial
theorem wd26 : True := by
  (k_with "M.CompSrcT" => ((have _ := (by with_reducible assumption : StopComp)); refine Stop.intro ?_))
  trivial
theorem wd27 : True := by
  (k_with "M.CompSrc" => ((have _ := (by with_reducible assumption : StopComp)); refine Stop.intro ?_))
  trivial
theorem wd28 : True := by
  (k_with "M.CompEnd" => ((have _ := (by with_reducible assumption : StopComp)); refine Stop.intro ?_))
  trivial
theorem wd29 : True := by
  (k_with "M.exec While Compare cons nil" => ((have _ := (by with_reducible assumption : StopWhile)); refine Stop.intro ?_))
  trivial
theorem wd30 : True := by
  (k_with "M.exec For Name Subscript cons nil" => first | ((have _ := (by with_reducible assumption : StopIter)); (rename Fr _ _ _ _ => lF'); (with_unfolding_all refine For_invVF lF' (by exact rfl) (by exact rfl) ?_; k_whole)) | fail)
  trivial
theorem wd31 : True := by
  (k_with "M.exec For Name Call cons nil" => first | ((have _ := (by with_reducible assumption : StopIter)); (rename Fr _ _ _ _ => lF'); (with_unfolding_all refine For_invVF lF' (by exact rfl) (by exact rfl) ?_; k_whole)) | fail)
  trivial
theorem wd32 : True := by
  (k_with "M.F sameW" => (intro _ h2; simp only [List.contains_cons, List.contains_nil, Bool.or_false, Bool.or_eq_false_iff, beq_eq_false_iff_ne, ne_eq] at h2; simp only [h2, if_false, List.contains_cons, List.contains_nil, Bool.or_false, beq_iff_eq, Bool.or_eq_true, or_false, false_or, not_false_eq_true]))
  trivial
theorem wd33 : True := by
  (k_with "M.WPost" => (dsimp only [WPost]))
  trivial
theorem wd34 : True := by
  (k_with "M.F same" => (intro _ h1 h2; first | rfl | (simp only [if_neg h1, h2, Bool.false_eq_true, if_false]; done) | (simp only [List.contains_cons, List.contains_nil, Bool.or_false, Bool.or_eq_false_iff, beq_eq_false_iff_ne, ne_eq] at h1 h2; simp [h1, h2]; done) | (simp_all; done)))
  trivial
theorem wd35 : True := by
  (k_with "M.TPost" => (dsimp only [TPost]))
  trivial
theorem offData : True := by w_top off; trivial
theorem Kept.all {h h' : Heap} (k : Kept [] h h') : ∀ b o, h.get? b = some o → h'.get? b = some o := fun b o e => k b o e (fun q => nomatch q)
theorem Kept.fr0 {h₀ h h' : Heap} {L : Addr} {m : Str → Option Value} (k : Kept [] h h') (F : Fr h₀ L h m) : Fr h₀ L h' m := k.fr F (fun _ q => nomatch q)
theorem Kept.news0 {h₀ h h' : Heap} {L : Addr} {news : List (Addr × Obj)} (k : Kept [] h h') (N : News h₀ L h news) : News h₀ L h' news := k.news N (fun _ _ q => nomatch q)
theorem news_new {S : List Addr} {h₀ h h' : Heap} {L d : Addr} {o : Obj} {m : Str → Option Value} {news : List (Addr × Obj)} (F : Fr h₀ L h m) (N : News h₀ L h' news) (No : News h₀ L h news) (hd : h'.get? d = some o ∧ (d ∉ S → h.get? d = none)) (hS : d ∉ S) :
    News h₀ L h' ((d, o) :: news) ∧ ∀ p ∈ news, p.1 ≠ d := by
  have hn := hd.2 hS
  refine ⟨fun p hp => ?_, fun p hp e => ?_⟩
  · rcases List.mem_cons.mp hp with rfl | hp
    · refine ⟨hd.1, fun e => ?_, ?_⟩
      · obtain ⟨oL, _, _, hL, _⟩ := F.ns
        have e : d = L := e
        rw [← e, hn] at hL; cases hL
      · cases q : h₀.get? d with
        | none => rfl
        | some o' => rw [F.keep _ _ q] at hn; cases hn
    · exact N p hp
  · have := (No p hp).1
    rw [e, hn] at this; cases this
theorem Kept.list {S : List Addr} {h h' : Heap} {l : Addr} {items : Array Value} (k : Kept S h h') (x : h.IsList l items) (n : l ∉ S) : h'.IsList l items := let ⟨o, ho, r⟩ := x; ⟨o, k _ _ ho n, r⟩
theorem instKept {S : List Addr} {h h' : Heap} {x C dx : Addr} {od : Obj} (k : Kept S h h') (I : InstAt h x (instObj C dx) C (some od)) (hx : x ∉ S) (hd : dx ∉ S) : InstAt h' x (instObj C dx) C (some od) :=
  ⟨k _ _ I.at_ hx, I.cls, I.no, k _ _ I.dict hd⟩
theorem instUp {h₀ h : Heap} {L : Addr} {m : Str → Option Value} {x C dx : Addr} {od : Obj} (I : InstAt h₀ x (instObj C dx) C (some od)) (F : Fr h₀ L h m) : InstAt h x (instObj C dx) C (some od) :=
  ⟨F.keep _ _ I.at_, I.cls, I.no, F.keep _ _ I.dict⟩
theorem listUp {h₀ h : Heap} {L : Addr} {m : Str → Option Value} {l : Addr} {items : Array Value} (I : h₀.IsList l items) (F : Fr h₀ L h m) : h.IsList l items := let ⟨o, ho, r⟩ := I; ⟨o, F.keep _ _ ho, r⟩
theorem instUpF {h₀ h : Heap} {L : Addr} {m : Str → Option Value} {x C dx : Addr} {od : Obj} (F : Fr h₀ L h m) (I : InstAt h₀ x (instObj C dx) C (some od)) : InstAt h x (instObj C dx) C (some od) := instUp I F
theorem listUpF {h₀ h : Heap} {L : Addr} {m : Str → Option Value} {l : Addr} {items : Array Value} (F : Fr h₀ L h m) (I : h₀.IsList l items) : h.IsList l items := listUp I F
noncomputable abbrev ent (P : Params) (k : Str) (t : Tok) (v : Value) : DictEntry := ⟨PyData.keyHash P k, .str k t, v⟩
/-- the dict of the Names object -/
noncomputable abbrev nmD (P : Params) (tk : Nat → Tok) (aa sa ra : Addr) : Obj := dictOf
  [ent P "module" (tk 0) (.str "M" (tk 1)), ent P "aliases" (tk 2) (.ref aa), ent P "scopes" (tk 3) (.ref sa), ent P "narrowed" (tk 4) (.ref ra), ent P "marks" (tk 5) (.bool true)] 5
/-- the dict of a Type object -/
noncomputable abbrev tyD (P : Params) (tk : Nat → Tok) (num : Int) (form : Str) (size : Int) (bv : Value) (len : Int) (fl pl hl : Addr) (mo lb : Str) : Obj := dictOf
  [ent P "number" (tk 0) (.int num (tk 1)), ent P "form" (tk 2) (.str form (tk 3)), ent P "size" (tk 4) (.int size (tk 5)), ent P "base" (tk 6) bv, ent P "length" (tk 7) (.int len (tk 8)), ent P "fields" (tk 9) (.ref fl),
   ent P "level" (tk 10) (.int 0 (tk 11)), ent P "params" (tk 12) (.ref pl), ent P "module" (tk 13) (.str mo (tk 14)), ent P "label" (tk 15) (.str lb (tk 16)), ent P "hidden" (tk 17) (.ref hl), ent P "exno" (tk 18) (.int 0 (tk 19))] 12
noncomputable def optVal (t : Tok) : Option Str → Value
  | some k => .str k t
  | none => .none
noncomputable def plainS (x : Str) : Bool := (signs x).all (fun a => Txt.isalpha a || Txt.isdigit a) && (x != "")
theorem tabUp {prog : Program} {w : World} {K : Type} [DecidableEq K] {knd : KeyKind prog w K} {enc : K → PyData} {h₀ h : Heap} {L d : Addr} {m : Str → Option Value} {D : List (PyData × PyData)} (T : TabAt knd enc h₀ d D) (F : Fr h₀ L h m) : TabAt knd enc h d D := T.keep F.keep
theorem tabKept {prog : Program} {w : World} {K : Type} [DecidableEq K] {knd : KeyKind prog w K} {enc : K → PyData} {S : List Addr} {h h' : Heap} {d : Addr} {D : List (PyData × PyData)} (k : Kept S h h') (T : TabAt knd enc h d D) (hS : d ∉ S) : TabAt knd enc h' d D :=
  let ⟨lo, kvs, hd, hf⟩ := T
  let ⟨o, ho, hx⟩ := Heap.dictOf_iff.mp hd
  ⟨lo, kvs, Heap.dictOf_iff.mpr ⟨o, k _ _ ho hS, hx⟩, hf⟩
theorem nmA {h₀ h : Heap} {L a : Addr} {o : Obj} {r : List (Addr × Obj)} (_ : News h₀ L h ((a, o) :: r)) : ∃ y, y = a := ⟨_, rfl⟩
theorem nmB {h₀ h : Heap} {L a : Addr} {o : Obj} {p : Addr × Obj} {r : List (Addr × Obj)} (_ : News h₀ L h (p :: (a, o) :: r)) : ∃ y, y = a := ⟨_, rfl⟩
theorem nmC {h₀ h : Heap} {L a : Addr} {o : Obj} {p q : Addr × Obj} {r : List (Addr × Obj)} (_ : News h₀ L h (p :: q :: (a, o) :: r)) : ∃ y, y = a := ⟨_, rfl⟩
theorem newOne {h₀ h h' : Heap} {L d : Addr} {o : Obj} {m : Str → Option Value} (F : Fr h₀ L h m) (hd : h'.get? d = some o) (hn : h.get? d = none) : h'.get? d = some o ∧ d ≠ L ∧ h₀.get? d = none := by
  refine ⟨hd, fun e => ?_, ?_⟩
  · obtain ⟨oL, _, _, hL, _⟩ := F.ns
    rw [← e, hn] at hL; cases hL
  · cases q : h₀.get? d with
    | none => rfl
    | some o' => rw [F.keep _ _ q] at hn; cases hn
theorem newsCons {h₀ h' : Heap} {L d : Addr} {o : Obj} {news : List (Addr × Obj)} (h : h'.get? d = some o ∧ d ≠ L ∧ h₀.get? d = none) (N : News h₀ L h' news) : News h₀ L h' ((d, o) :: news) := fun p hp => by
  rcases List.mem_cons.mp hp with rfl | hp
  · exact h
  · exact N p hp
theorem Kept.drop1 {h h' : Heap} {a : Addr} {o : Obj} (k : Kept [a] h h') (e : h.get? a = some o) (e' : h'.get? a = some o) : Kept [] h h' := fun b ob hb _ => by
  by_cases q : b = a
  · subst q; rw [e] at hb; cases hb; exact e'
  · exact k b ob hb (by simpa using q)
theorem notMem1 {x a : Nat} (h1 : x ≠ a) : x ∉ [a] := fun q => h1 (List.mem_singleton.mp q)
theorem notMem2 {x a b : Nat} (h1 : x ≠ a) (h2 : x ≠ b) : x ∉ [a, b] := fun q => (List.mem_cons.mp q).elim h1 (notMem1 h2)
theorem notMem3 {x a b c : Nat} (h1 : x ≠ a) (h2 : x ≠ b) (h3 : x ≠ c) : x ∉ [a, b, c] := fun q => (List.mem_cons.mp q).elim h1 (notMem2 h2 h3)
theorem notMem4 {x a b c d : Nat} (h1 : x ≠ a) (h2 : x ≠ b) (h3 : x ≠ c) (h4 : x ≠ d) : x ∉ [a, b, c, d] := fun q => (List.mem_cons.mp q).elim h1 (notMem3 h2 h3 h4)
theorem wd36 : True := by
  (k_with "M.F notin" => first | exact notMem1 (by k_ne) | exact notMem2 (by k_ne) (by k_ne) | exact notMem3 (by k_ne) (by k_ne) (by k_ne) | exact notMem4 (by k_ne) (by k_ne) (by k_ne) (by k_ne))
  trivial
theorem neGet {h : Heap} {a b : Nat} {o : Obj} (ha : h.get? a = none) (hb : h.get? b = some o) : @Ne Nat a b := fun e => by rw [e, hb] at ha; cases ha
noncomputable def basicD : List (PyData × PyData) := [(.str "boolean", .str "BOOLEAN"), (.str "char", .str "CHAR"), (.str "byte", .str "BYTE"), (.str "integer", .str "INTEGER"), (.str "set", .str "SET")]
local macro_rules | `(tactic| k_tabat) => `(tactic| walk_at "F k_tabat")
theorem wd37 : True := by
  (k_with "M.F k_tabat" => first | (refine tabUp (by assumption) (by assumption)) | fail)
  trivial
local macro_rules | `(tactic| k_inst) => `(tactic| walk_at "F k_inst")
theorem wd38 : True := by
  (k_with "M.F k_inst" => first | (refine instUpF (by assumption) (by assumption)) | fail)
  trivial
theorem offPlain : True := by w_top off; trivial
theorem fill_plain : (Challenge.rw_nu0330_01.foot = Challenge.rw_nu0330_01.foot) ∧ hd.heap_39 = hd.heap_39 := by k_fill; exact ⟨rfl, rfl⟩
section
variable {w : World} {dp un : Nat} {gd : Option (List Code)} {cn : Str} {cs : Scope} {a : Addr} {ccd : Value} {cl : List (Str × Addr)} {outer : List Env} {A₀ : Around} {base h₀ : Heap} {L : Addr} {m mg mb : Str → Option Value} {mean : ExcName → Option Value} {s : Shared} {Q E : Value → Shared → Prop}
theorem plain_ct {x : Str} {t : Tok} (B : Below A₀ base outer h₀) (F : Fr h₀ L s.heap m) (X : (hd.heap_39 w.params).In h₀) (T : Top pv lo mean mg mb h₀) (hk : cs.kind = .function) (hdp : dp + 10 < recursionLimit) (hun : un + 200 < cLine)
    {news : List (Addr × Obj)} (N₀ : News h₀ L s.heap news)
    (hret : ∀ h' tk', Kept [] s.heap h' → Fr h₀ L h' m → News h₀ L h' news → Q (.bool (plainS x)) { s with heap := h', toks := tk' }) :
    wpAny (model prg w) (ktrTop dp un gd cn cs L a ccd cl outer) (call (.ref 35) [.str x t]) Q E s := by
  have N : News h₀ L s.heap [] := News.nil
  refine wpAny_call ?_
  walk_at "F enter"
  k_steps
  · rename List.find? _ _ = some _ => hf
    have hm := List.mem_of_find?_eq_some hf
    have hc := List.find?_some hf
    rename Kept _ _ _ => hK
    have e : plainS x = false := by
      unfold plainS
      rw [Bool.and_eq_false_iff]
      refine .inl (List.all_eq_false.mpr ⟨_, hm, ?_⟩)
      cases h1 : Txt.isalpha _ <;> cases h2 : Txt.isdigit _ <;> simp_all
    rw [e] at hret
    exact hret _ _ hK (hK.fr0 F) (hK.news0 N₀)
  · rename (∀ a, a ∈ signs _ → _) => hc
    rename Kept _ _ _ => hK
    have e : plainS x = (x != "") := by
      unfold plainS
      have : (signs x).all (fun a => Txt.isalpha a || Txt.isdigit a) = true := by
        refine List.all_eq_true.mpr fun y hy => ?_
        have := hc y hy
        cases h1 : Txt.isalpha y <;> cases h2 : Txt.isdigit y <;> simp_all
      rw [this]; rfl
    rw [e] at hret
    exact hret _ _ hK (hK.fr0 F) (hK.news0 N₀)
theorem basic_ct (B : Below A₀ base outer h₀) (F : Fr h₀ L s.heap m) (X : (hd.heap_39 w.params).In h₀) (T : Top pv lo mean mg mb h₀) (hk : cs.kind = .function) (hdp : dp + 10 < recursionLimit) (hun : un + 200 < cLine)
    {news : List (Addr × Obj)} (N₀ : News h₀ L s.heap news)
    (hret : ∀ d o h' tk', Kept [] s.heap h' → Fr h₀ L h' m → News h₀ L h' ((d, o) :: news) → (∀ p ∈ news, p.1 ≠ d) → StrTab prg w h' d basicD → Q (.ref d) { s with heap := h', toks := tk' }) :
    wpAny (model prg w) (ktrTop dp un gd cn cs L a ccd cl outer) (call (.ref 28) []) Q E s := by
  have N : News h₀ L s.heap [] := News.nil
  refine wpAny_call ?_
  walk_at "F enter"
  k_steps
  rename Kept _ _ _ => hK
  rename (∀ p, p ∈ _ → _ ∧ _) => hN
  have h1 := news_new F (hK.news0 N₀) N₀ (hN _ (.head _)) (fun q => nomatch q)
  exact hret _ _ _ _ hK (hK.fr0 F) h1.1 h1.2 (TabAt.ofNews (by assumption) (.head _) (by assumption) (by assumption) (by assumption))
end
theorem offNameOf : True := by w_top off; trivial
section
variable {w : World} {dp un : Nat} {gd : Option (List Code)} {cn : Str} {cs : Scope} {a : Addr} {ccd : Value} {cl : List (Str × Addr)} {outer : List Env} {A₀ : Around} {base h₀ : Heap} {L : Addr} {m mg mb : Str → Option Value} {mean : ExcName → Option Value} {s : Shared} {Q E : Value → Shared → Prop}
theorem flat_str {v : Value} {x : Str} (h : PyProof.V.Flat v (.str x)) : ∃ t, v = .str x t := by
  have := h {objs := #[]}
  cases this with
  | str x t => exact ⟨t, rfl⟩
theorem flat_int {v : Value} {x : Int} (h : PyProof.V.Flat v (.int x)) : ∃ t, v = .int x t := by
  have := h {objs := #[]}
  cases this with
  | int x t => exact ⟨t, rfl⟩
theorem lookupSS (al : List (Str × Str)) (k : Str) : PySem.Spec.lookup (.str k) (al.map fun p => (PyData.str p.1, PyData.str p.2)) = (al.lookup k).map PyData.str := by
  induction al with
  | nil => rfl
  | cons p r ih =>
    obtain ⟨a, b⟩ := p
    simp only [List.map_cons, PySem.Spec.lookup, List.lookup_cons, PyProof.V.same_str, ih]
    by_cases h : a = k
    · subst h; simp
    · have h' : (k == a) = false := by simpa using fun e => h (Eq.symm e)
      simp [h, h']
theorem lookupSI (al : List (Str × Int)) (k : Str) : PySem.Spec.lookup (.str k) (al.map fun p => (PyData.str p.1, PyData.int p.2)) = (al.lookup k).map PyData.int := by
  induction al with
  | nil => rfl
  | cons p r ih =>
    obtain ⟨a, b⟩ := p
    simp only [List.map_cons, PySem.Spec.lookup, List.lookup_cons, PyProof.V.same_str, ih]
    by_cases h : a = k
    · subst h; simp
    · have h' : (k == a) = false := by simpa using fun e => h (Eq.symm e)
      simp [h, h']
theorem modName_ct {na nd aa sa ra : Addr} {nk : Nat → Tok} {al : List (Str × Str)} {mo : Str} {t : Tok} (B : Below A₀ base outer h₀) (F : Fr h₀ L s.heap m) (X : (hd.heap_39 w.params).In h₀) (T : Top pv lo mean mg mb h₀) (hk : cs.kind = .function) (hdp : dp + 10 < recursionLimit) (hun : un + 200 < cLine)
    {news : List (Addr × Obj)} (N₀ : News h₀ L s.heap news)
    (hN : InstAt s.heap na (instObj 111 nd) 111 (some (nmD w.params nk aa sa ra))) (hA : StrTab prg w s.heap aa (al.map fun p => (.str p.1, .str p.2)))
    (hret : ∀ t h' tk', Kept [] s.heap h' → Fr h₀ L h' m → News h₀ L h' news → Q (.str ((al.lookup mo).getD mo) t) { s with heap := h', toks := tk' }) :
    wpAny (model prg w) (ktrTop dp un gd cn cs L a ccd cl outer) (call (.ref 87) [.ref na, .str mo t]) Q E s := by
  have N : News h₀ L s.heap [] := News.nil
  refine wpAny_call ?_
  walk_at "F enter"
  rename Kept _ s.heap _ => KG
  have hN' := instKept KG hN (fun q => nomatch q) (fun q => nomatch q)
  have hA' := tabKept KG hA (fun q => nomatch q)
  k_steps
  rename Kept _ s.heap (Shared.heap _) => hK
  rename PyProof.V.Flat _ _ => hv
  rw [lookupSS] at hv
  have e : ((al.lookup mo).map PyData.str).getD (PyData.str mo) = PyData.str ((al.lookup mo).getD mo) := by cases al.lookup mo <;> rfl
  rw [e] at hv
  obtain ⟨t', rfl⟩ := flat_str hv
  exact hret _ _ _ hK (hK.fr0 F) (hK.news0 N₀)
theorem taken_ct {na nd aa sa ra : Addr} {nk : Nat → Tok} {scs : List (Addr × List (Str × Int))} {x : Str} {t : Tok} (B : Below A₀ base outer h₀) (F : Fr h₀ L s.heap m) (X : (hd.heap_39 w.params).In h₀) (T : Top pv lo mean mg mb h₀) (hk : cs.kind = .function) (hdp : dp + 10 < recursionLimit) (hun : un + 200 < cLine)
    {news : List (Addr × Obj)} (N₀ : News h₀ L s.heap news)
    (hN : InstAt s.heap na (instObj 111 nd) 111 (some (nmD w.params nk aa sa ra))) (hS : s.heap.IsList sa (scs.map fun p => Value.ref p.1).toArray)
    (hsc : ∀ p ∈ scs, StrTab prg w s.heap p.1 (p.2.map fun q => (.str q.1, .int q.2)))
    (hret : ∀ h' tk', Kept [] s.heap h' → Fr h₀ L h' m → News h₀ L h' news → Q (.bool (scs.any fun p => (p.2.lookup x).isSome)) { s with heap := h', toks := tk' }) :
    wpAny (model prg w) (ktrTop dp un gd cn cs L a ccd cl outer) (call (.ref 80) [.ref na, .str x t]) Q E s := by
  have N : News h₀ L s.heap [] := News.nil
  refine wpAny_call ?_
  walk_at "F enter"
  rename Kept _ s.heap _ => KG
  have hN' := instKept KG hN (fun q => nomatch q) (fun q => nomatch q)
  have hS' := KG.list hS (fun q => nomatch q)
  have hsc' := fun p hp => tabKept KG (hsc p hp) (fun q => nomatch q)
  have sX := StopX.mk
  k_steps
  refine Stop.out ?_
  clear sX
  rename Fr _ _ _ _ => F2
  rename News _ _ _ _ => N2
  k_dflt (refine iter_list (vs := scs.map fun p => Value.ref p.1) [] (fun i _ nx => nx = [] ∧ ∀ j, j < i → ∀ p, scs[j]? = some p → p.2.lookup x = none) rfl (listUp hS' F2) (.inl ?_) F2 N2 ⟨rfl, fun j hj => absurd hj (Nat.not_lt_zero _)⟩ ?_ ?_)
  · obtain ⟨o, ho, _⟩ := hS'; exact ⟨o, ho⟩
  · rintro i v u nx I it h tk hv ⟨rfl, hJ⟩ hne _ F3 N3
    clear F2 N2
    rw [List.getElem?_map] at hv
    obtain ⟨p, hp, rfl⟩ := Option.map_eq_some_iff.mp hv
    have hT := hsc' p (List.mem_of_getElem? hp)
    k_steps
    · rename Kept _ s.heap (Shared.heap _) => hK
      rename Option.isSome _ = true => hs
      rw [lookupSI, Option.isSome_map] at hs
      have e : (scs.any fun p => (p.2.lookup x).isSome) = true := List.any_eq_true.mpr ⟨p, List.mem_of_getElem? hp, hs⟩
      rw [e] at hret
      exact hret _ _ hK (hK.fr0 F) (hK.news0 N₀)
    · rename Option.isSome _ = false => hs
      rw [lookupSI, Option.isSome_map] at hs
      refine TEnd.intro (nx := []) (by assumption) (by assumption) (fun _ q => nomatch q) ⟨by walk_at "F same", rfl, fun j hj q hq => ?_⟩
      rcases Nat.lt_succ_iff_lt_or_eq.mp hj with hj | rfl
      · exact hJ j hj q hq
      · rw [hp] at hq; cases hq
        simpa using hs
  · rintro u nx h tk ⟨rfl, hJ⟩ F3 N3
    clear F2 N2
    k_steps
    rename Kept _ s.heap (Shared.heap _) => hK
    have e : (scs.any fun p => (p.2.lookup x).isSome) = false := by
      rw [List.any_eq_false]
      intro p hp
      obtain ⟨j, hj⟩ := List.getElem?_of_mem hp
      have := hJ j (by rw [List.length_map]; exact (List.getElem?_eq_some_iff.mp hj).1) p hj
      simp [this]
    rw [e] at hret
    exact hret _ _ hK (hK.fr0 F) (hK.news0 N₀)
end
theorem wd39 : True := by
  (k_with "M.call ref" => first | ((with_reducible show wpAny _ _ (call (.ref 28) _) _ _ _); k_dflt (refine basic_ct (by k_asm) (by k_asm) (by k_asm) (by k_asm) (by first | exact rfl | assumption) (by ktr_room) (by ktr_units) (by k_asm) ?_; k_whole); intro _ _ _ _ _ _ _ _ _; (try k_sweep)) | fail)
  trivial
theorem wd40 : True := by
  (k_with "M.call ref" => first | ((with_reducible show wpAny _ _ (call (.ref 35) _) _ _ _); k_dflt (refine plain_ct (by k_asm) (by k_asm) (by k_asm) (by k_asm) (by first | exact rfl | assumption) (by ktr_room) (by ktr_units) (by k_asm) ?_; k_whole); intro _ _ _ _ _; (try k_sweep)) | fail)
  trivial
theorem wd41 : True := by
  (k_with "M.call ref" => first | ((with_reducible show wpAny _ _ (call (.ref 87) _) _ _ _); k_dflt (refine modName_ct (by k_asm) (by k_asm) (by k_asm) (by k_asm) (by first | exact rfl | assumption) (by ktr_room) (by ktr_units) (by k_asm) (by k_inst) (by k_tabat) ?_; k_whole); intro _ _ _ _ _ _; (try k_sweep)) | fail)
  trivial
theorem offScope : True := by w_top off; trivial
theorem flatAt {kvs : List (Str × Value)} : ∀ {kv : List (Str × Int)} {i : Nat} {k : Str} {u : Value}, PyProof.V.FlatPairs PyData.str kvs (kv.map fun q => (.str q.1, .int q.2)) → kvs[i]? = some (k, u) → ∃ n, kv[i]? = some (k, n) := by
  induction kvs with
  | nil => intro kv i k u h e; simp at e
  | cons x r ih =>
    intro kv i k u h e
    cases kv with
    | nil => cases h
    | cons y q =>
      obtain ⟨y1, y2⟩ := y
      simp only [List.map_cons] at h
      generalize hq : q.map (fun q => (PyData.str q.1, PyData.int q.2)) = D at h
      cases h with
      | cons hv hr =>
        subst hq
        cases i with
        | zero => simp only [List.getElem?_cons_zero] at e ⊢; cases e; exact ⟨_, rfl⟩
        | succ i => simp only [List.getElem?_cons_succ] at e ⊢; exact ih hr e
theorem flatKeys {kvs : List (Str × Value)} : ∀ {kv : List (Str × Int)}, PyProof.V.FlatPairs PyData.str kvs (kv.map fun q => (.str q.1, .int q.2)) → kvs.map (·.1) = kv.map (·.1) := by
  induction kvs with
  | nil => intro kv h; cases kv with | nil => rfl | cons _ _ => cases h
  | cons x r ih =>
    intro kv h
    cases kv with
    | nil => cases h
    | cons y q =>
      obtain ⟨y1, y2⟩ := y
      simp only [List.map_cons] at h
      generalize hq : q.map (fun q => (PyData.str q.1, PyData.int q.2)) = D at h
      cases h with
      | cons hv hr => subst hq; simp only [List.map_cons]; rw [ih hr]
theorem lookup_nodup {kv : List (Str × Int)} : ∀ {i : Nat} {k : Str} {n : Int}, (kv.map (·.1)).Nodup → kv[i]? = some (k, n) → kv.lookup k = some n := by
  induction kv with
  | nil => intro i k n _ e; simp at e
  | cons y q ih =>
    intro i k n hn e
    obtain ⟨y1, y2⟩ := y
    rw [List.map_cons, List.nodup_cons] at hn
    cases i with
    | zero => simp only [List.getElem?_cons_zero] at e; cases e; simp [List.lookup_cons]
    | succ i =>
      simp only [List.getElem?_cons_succ] at e
      have hne : ¬ k = y1 := fun h => hn.1 (h ▸ List.mem_map.mpr ⟨_, List.mem_of_getElem? e, rfl⟩)
      have : (k == y1) = false := by simpa using hne
      rw [List.lookup_cons, this]
      exact ih hn.2 e
section
variable {w : World} {A : Around} {E : Value → Shared → Prop} {s : Shared} {env : Env} {h₀ : Heap} {x : Str} {body : List Stmt} {Q : Flow → Shared → Prop}
theorem iter_scope {d : Addr} {kv : List (Str × Int)} {m : Str → Option Value} {news : List (Addr × Obj)} (stored : List Str) (J : Nat → (Str → Option Value) → List (Addr × Obj) → Prop)
    (hh : A.handled = none) (T : StrTab prg w h₀ d (kv.map fun q => (.str q.1, .int q.2)))
    (F : Fr h₀ env.locals s.heap m) (N : News h₀ env.locals s.heap news) (hj : J 0 m news)
    (turn : ∀ i k n t u' nx I it h tk, kv[i]? = some (k, n) → PySem.Spec.lookup (.str k) (kv.map fun q => (PyData.str q.1, PyData.int q.2)) = some (.int n) → J i u' nx → (∀ p ∈ nx, p.1 ≠ I) → (∀ p ∈ news, p.1 < I) → Fr h₀ env.locals h (fun y => if y = x then some (.str k t) else if stored.contains y then u' y else m y) → News h₀ env.locals h ((I, it) :: nx) →
      let Q1 : Flow → Shared → Prop := TPost h₀ env.locals I it (Off x stored m (J (i + 1))) { s with heap := h, toks := tk } Q; wpAny (model prg w) A (execs body env) Q1 E { s with heap := h, toks := tk })
    (done : ∀ u' nx h tk, J kv.length u' nx → Fr h₀ env.locals h (fun y => if y = x then u' y else if stored.contains y then u' y else m y) → News h₀ env.locals h nx → Q .next { s with heap := h, toks := tk }) :
    wpAny (model prg w) A (pyIter (.ref d)) (fun it s₂ => LoopAtV prg w A h₀ env x body Q E it s₂) E s := by
  obtain ⟨lo, kvs, hd, hf⟩ := T
  obtain ⟨o, es, ep, ho, hx⟩ := hd
  have hks := flatKeys hf
  have hnd : (kv.map (·.1)).Nodup := hks ▸ hx.2.2.2.2
  have hlen : kvs.length = kv.length := by simpa using congrArg List.length hks
  have hDA : s.heap.DictAt (PySem.strKind prg w) d kvs ep := ⟨o, es, F.keep _ _ ho, hx.1, hx.2.1, hx.2.2.1, hx.2.2.2.1, hx.2.2.2.2⟩
  refine iter_dict stored J hh hDA lo (.inl ⟨o, ho⟩) F N hj ?_ (by rw [hlen]; exact done)
  intro i k u v u' nx I it h tk hk hv hJ hne hlt F₁ N₁
  obtain ⟨n, hn⟩ := flatAt hf hk
  obtain ⟨t, rfl⟩ := Value.isStrOf_shape hv
  refine turn i k n t u' nx I it h tk hn ?_ hJ hne hlt F₁ N₁
  rw [lookupSI, lookup_nodup hnd hn]; rfl
end
theorem offNameOf2 : True := by w_top off; trivial
/-- the first name of the innermost scope (the list's head) that means the number and that no scope further in has -/
noncomputable def nameIn (num : Int) (hid : Str → Bool) : List (List (Str × Int)) → Option Str
  | [] => none
  | sc :: r => match sc.find? (fun q => decide (q.2 = num) && !hid q.1) with
    | some q => some q.1
    | none => nameIn num (fun k => hid k || (sc.lookup k).isSome) r
theorem findAt {α : Type} {f : α → Bool} : ∀ {l : List α} {j : Nat} {q : α}, l[j]? = some q → f q = true → (∀ i, i < j → ∀ x, l[i]? = some x → f x = false) → l.find? f = some q
  | [], _, _, e, _, _ => by simp at e
  | x :: r, 0, q, e, h, _ => by simp only [List.getElem?_cons_zero] at e; cases e; simp [List.find?_cons, h]
  | x :: r, j + 1, q, e, h, hn => by
    simp only [List.getElem?_cons_succ] at e
    have h0 := hn 0 (Nat.zero_lt_succ _) x rfl
    rw [List.find?_cons, h0]
    exact findAt e h fun i hi y hy => hn (i + 1) (Nat.succ_lt_succ hi) y (by simpa using hy)
theorem findNone {α : Type} {f : α → Bool} {l : List α} (h : ∀ i, i < l.length → ∀ x, l[i]? = some x → f x = false) : l.find? f = none := by
  rw [List.find?_eq_none]
  intro x hx
  obtain ⟨i, hi⟩ := List.getElem?_of_mem hx
  simp [h i (List.getElem?_eq_some_iff.mp hi).1 x hi]
theorem revAt {α : Type} {l : List α} {i : Nat} {p : α} (hi : i < l.length) (hp : l[l.length - 1 - i]? = some p) : l.reverse.drop i = p :: l.reverse.drop (i + 1) := by
  have hlt : i < l.reverse.length := by rw [List.length_reverse]; exact hi
  rw [List.drop_eq_getElem_cons hlt]
  congr 1
  have : l.reverse[i]? = some p := by rw [List.getElem?_reverse hi]; exact hp
  exact Option.some.inj ((List.getElem?_eq_getElem hlt).symm.trans this)
theorem takeLook {kv : List (Str × Int)} {j : Nat} {k : Str} {n : Int} (hk : kv[j]? = some (k, n)) (x : Str) : ((kv.take (j + 1)).lookup x).isSome = (decide (x = k) || ((kv.take j).lookup x).isSome) := by
  induction kv generalizing j with
  | nil => simp at hk
  | cons y q ih =>
    obtain ⟨y1, y2⟩ := y
    cases j with
    | zero =>
      simp only [List.getElem?_cons_zero] at hk; cases hk
      simp only [List.take_succ_cons, List.take_zero, List.lookup_cons, List.lookup_nil]
      by_cases h : x = k
      · simp [h]
      · have : (x == k) = false := by simpa using h
        simp [h, this]
    | succ j =>
      simp only [List.getElem?_cons_succ] at hk
      rw [List.take_succ_cons, List.take_succ_cons, List.lookup_cons, List.lookup_cons]
      by_cases h : x = y1
      · simp [h]
      · have : (x == y1) = false := by simpa using h
        simp only [this]; exact ih hk
theorem anyMem {x a b : Str} : ([a, b].any fun y => y == x) = true ↔ x = a ∨ x = b := by
  simp only [List.any_cons, List.any_nil, Bool.or_false, Bool.or_eq_true, beq_iff_eq]
  exact ⟨fun h => h.imp Eq.symm Eq.symm, fun h => h.imp Eq.symm Eq.symm⟩
theorem putLook {D : List (PyData × PyData)} {k x : Str} {v : PyData} : (PySem.Spec.lookup (.str x) (PyProof.V.putD (.str k) v D)).isSome = (decide (x = k) || (PySem.Spec.lookup (.str x) D).isSome) := by
  by_cases h : x = k
  · subst h; rw [PyProof.V.lookup_putK_same PyProof.V.keyEnc_str]; simp
  · rw [PyProof.V.lookup_putK_other PyProof.V.keyEnc_str h]; simp [h]
theorem wd42 : True := by
  (k_with "M.exec For Name Name cons nil" => first | (k_here; (rename Fr _ _ _ _ => lF'); (with_unfolding_all refine For_invVF lF' (by exact rfl) (by exact rfl) ?_; k_whole)) | fail)
  trivial
section
variable {w : World} {dp un : Nat} {gd : Option (List Code)} {cn : Str} {cs : Scope} {a : Addr} {ccd : Value} {cl : List (Str × Addr)} {outer : List Env} {A₀ : Around} {base h₀ : Heap} {L : Addr} {m mg mb : Str → Option Value} {mean : ExcName → Option Value} {s : Shared} {Q E : Value → Shared → Prop}
noncomputable def nameOf (scs : List (List (Str × Int))) (al : List (Str × Str)) (num : Int) (mo lb : Str) : Option Str :=
  match nameIn num (fun _ => false) scs.reverse with
  | some k => some k
  | none => if mo = "" ∨ mo = "M" then none else if plainS lb then some ((al.lookup mo).getD mo ++ "." ++ lb) else none
theorem nameOf_ct {na nd aa sa ra ta td fl pl hl : Addr} {nk tk : Nat → Tok} {scs : List (Addr × List (Str × Int))} {al : List (Str × Str)} {num size len : Int} {form mo lb : Str} {bv : Value}
    (B : Below A₀ base outer h₀) (F : Fr h₀ L s.heap m) (X : (hd.heap_39 w.params).In h₀) (T : Top pv lo mean mg mb h₀) (hk : cs.kind = .function) (hdp : dp + 20 < recursionLimit) (hun : un + 400 < cLine)
    {news : List (Addr × Obj)} (N₀ : News h₀ L s.heap news)
    (hN : InstAt s.heap na (instObj 111 nd) 111 (some (nmD w.params nk aa sa ra))) (hS : s.heap.IsList sa (scs.map fun p => Value.ref p.1).toArray)
    (hsc : ∀ p ∈ scs, StrTab prg w s.heap p.1 (p.2.map fun q => (.str q.1, .int q.2))) (hA : StrTab prg w s.heap aa (al.map fun p => (.str p.1, .str p.2)))
    (hT : InstAt s.heap ta (instObj 182 td) 182 (some (tyD w.params tk num form size bv len fl pl hl mo lb)))
    (hf : (PySem.Spec.lookup (.str form) basicD).isSome = false) (hlb : lb.length ≤ 100) (hal : ((al.lookup mo).getD mo).length ≤ 100)
    (hn1 : scs.length ≤ 100) (hn2 : ∀ p ∈ scs, p.2.length ≤ 10)
    (hret : ∀ t h' tk', Kept [] s.heap h' → Fr h₀ L h' m → News h₀ L h' news → Q (optVal t (nameOf (scs.map (·.2)) al num mo lb)) { s with heap := h', toks := tk' }) :
    wpAny (model prg w) (ktrTop dp un gd cn cs L a ccd cl outer) (call (.ref 94) [.ref na, .ref ta]) Q E s := by
  have N : News h₀ L s.heap [] := News.nil
  refine wpAny_call ?_
  walk_at "F enter"
  rename Kept _ s.heap _ => KG
  have hN' := instKept KG hN (fun q => nomatch q) (fun q => nomatch q)
  have hT' := instKept KG hT (fun q => nomatch q) (fun q => nomatch q)
  have hS' := KG.list hS (fun q => nomatch q)
  have hA' := tabKept KG hA (fun q => nomatch q)
  have hsc' := fun p hp => tabKept KG (hsc p hp) (fun q => nomatch q)
  have sX := StopX.mk
  k_steps
  refine Stop.out ?_
  clear sX
  rename Fr _ _ _ _ => F2
  rename News _ _ _ _ => N2
  rename Obj.IsDictOf (strKind prg w) _ _ => hs2
  rename PyProof.V.FlatPairs PyData.str [] [] => fs2
  rename_i ha _ _ _ _ _ _ _ ria _ _
  refine iter_rev (l := sa) (vs := scs.map fun p => Value.ref p.1) [Str.ofString "name"]
    (fun i _ nx => ∃ o kvs D, nx = [(ha, o)] ∧ o.IsDictOf (strKind prg w) kvs ∧ PyProof.V.FlatPairs PyData.str kvs D ∧ D.length ≤ 10 * i ∧
      nameIn num (fun _ => false) (scs.map (·.2)).reverse = nameIn num (fun k => (PySem.Spec.lookup (.str k) D).isSome) ((scs.map (·.2)).reverse.drop i))
    rfl (listUp hS' F2) (.inl ?_) ?_ F2 (fun p hp => N2 p ?_) ?_ ⟨_, [], [], rfl, hs2, fs2, Nat.zero_le _, rfl⟩ ?_ ?_
  · obtain ⟨o, ho, _⟩ := hS'; exact ⟨o, ho⟩
  · obtain ⟨o, ho, _⟩ := hS'
    have := (N2 _ (.head _)).2.2
    rintro rfl
    rw [ho] at this; cases this
  · simp only [List.mem_cons, List.not_mem_nil, or_false] at hp ⊢
    rcases hp with h | h <;> simp [h]
  · k_all
  · intro i v u nx it h tk hv hi hj hne F3 N3 Q1
    clear F2 N2 hs2 fs2
    obtain ⟨o, kvs, D, e, hd, hf, hDl, hJ⟩ := hj
    subst e
    rw [List.length_map] at hv hi
    rw [List.getElem?_map] at hv
    obtain ⟨p, hp, rfl⟩ := Option.map_eq_some_iff.mp hv
    clear hv
    have hTp := hsc' p (List.mem_of_getElem? hp)
    have hpl := hn2 p (List.mem_of_getElem? hp)
    have hdrop := revAt (l := scs.map (·.2)) (p := p.2) (i := i) (by simpa using hi) (by simp [hp])
    have sX := StopX.mk
    k_steps
    refine Stop.out ?_
    clear sX
    rename Fr _ _ _ _ => F2
    rename News _ _ _ _ => N2
    refine iter_scope (d := p.1) (kv := p.2) [] (fun j _ nx => nx = [(ria, it), (ha, o)] ∧ ∀ j', j' < j → ∀ q, p.2[j']? = some q → (decide (q.2 = num) && !(PySem.Spec.lookup (.str q.1) D).isSome) = false)
      rfl hTp F2 N2 ⟨rfl, fun j hj => absurd hj (Nat.not_lt_zero _)⟩ ?_ ?_
    · intro j k n t u1 nx1 I1 it1 h1 tk1 hk hl hj1 hne1 hlt1 F4 N4 Q2
      clear F2 N2
      obtain ⟨e, hJ1⟩ := hj1
      subst e
      k_steps
      · refine TEnd.intro (nx := [(ria, it), (ha, o)]) (by assumption) (by assumption) hne1 ⟨by walk_at "F same", rfl, fun j' hj' q hq => ?_⟩
        rcases Nat.lt_succ_iff_lt_or_eq.mp hj' with hj' | rfl
        · exact hJ1 j' hj' q hq
        · rw [hk] at hq; cases hq; dsimp only; simp_all
      · rename Kept _ s.heap (Shared.heap _) => hK
        have e : nameIn num (fun _ => false) (scs.map (·.2)).reverse = some k := by
          rw [hJ, hdrop, nameIn, findAt hk (by dsimp only; simp_all) hJ1]
        unfold nameOf at hret
        rw [e] at hret
        exact hret t _ _ hK (hK.fr0 F) (hK.news0 N₀)
      · refine TEnd.intro (nx := [(ria, it), (ha, o)]) (by assumption) (by assumption) hne1 ⟨by walk_at "F same", rfl, fun j' hj' q hq => ?_⟩
        rcases Nat.lt_succ_iff_lt_or_eq.mp hj' with hj' | rfl
        · exact hJ1 j' hj' q hq
        · rw [hk] at hq; cases hq; dsimp only; simp_all
    · intro u1 nx1 h1 tk1 hj1 F4 N4
      clear F2 N2
      obtain ⟨e, hJ1⟩ := hj1
      subst e
      have sX := StopX.mk
      k_steps
      refine Stop.out ?_
      clear sX
      rename Fr _ _ _ _ => F2
      rename News _ _ _ _ => N2
      refine iter_scope (d := p.1) (kv := p.2) [] (fun j _ nx => ∃ o' kvs' D', nx = [(ria, it), (ha, o')] ∧ o'.IsDictOf (strKind prg w) kvs' ∧ PyProof.V.FlatPairs PyData.str kvs' D' ∧ D'.length ≤ D.length + j ∧
          ∀ k, (PySem.Spec.lookup (.str k) D').isSome = ((PySem.Spec.lookup (.str k) D).isSome || ((p.2.take j).lookup k).isSome))
        rfl hTp F2 N2 ⟨o, kvs, D, rfl, hd, hf, Nat.le_refl _, fun k => by simp⟩ ?_ ?_
      · intro j k n t u2 nx2 I2 it2 h2 tk2 hk hl hj2 hne2 hlt2 F5 N5 Q3
        clear F2 N2
        obtain ⟨o', kvs', D', e, hd', hf', hDl', hD'⟩ := hj2
        subst e
        have sX := StopAt.mk (a := ha)
        k_steps
        refine Stop.out ?_
        clear sX
        rename Fr _ _ _ _ => F2
        rename News _ _ _ _ => N2
        have hn3 := neA_of hne2
        dsimp only [List.map] at hn3
        have hjl := (List.getElem?_eq_some_iff.mp hk).1
        refine setItem_K PyProof.V.same_str (strKind_is _ _ _ _) (PyProof.V.Flat.bool _) F2 N2 (by k_updF) hd' hf' (fun h3 o3 F6 N6 hd3 hf3 => ?_) (by rw [sizeLine_eq]; omega)
        clear F2 N2
        k_steps
        refine TEnd.intro (nx := [(ria, it), (ha, o3)]) (by assumption) (by assumption) ?_ ⟨by walk_at "F same", o3, _, _, rfl, hd3, hf3, ?_, fun x => ?_⟩
        · k_all
        · have := PyProof.V.putD_length_le (.str k) (.bool true) D'; omega
        · rw [putLook, hD', takeLook hk]
          cases decide (x = k) <;> cases (PySem.Spec.lookup (.str x) D).isSome <;> rfl
      · intro u2 nx2 h2 tk2 hj2 F5 N5
        clear F2 N2
        obtain ⟨o', kvs', D', e, hd', hf', hDl', hD'⟩ := hj2
        subst e
        k_steps
        refine TEnd.intro (nx := [(ha, o')]) (by assumption) (by assumption) ?_ ⟨by walk_at "F same", o', _, _, rfl, hd', hf', ?_, ?_⟩
        · simpa using hne
        · omega
        · rw [hJ, hdrop, nameIn, findNone hJ1]
          dsimp only
          congr 1
          funext k
          rw [hD', List.take_length]
  · intro u nx h tk hj F3 N3
    clear F2 N2
    obtain ⟨o, kvs, D, e, hd, hf, hDl, hJ⟩ := hj
    subst e
    have e0 : nameIn num (fun _ => false) (scs.map (·.2)).reverse = none := by
      rw [hJ, List.drop_eq_nil_of_le (by simp)]; rfl
    unfold nameOf at hret
    rw [e0] at hret
    dsimp only at hret
    k_steps
    · rename Kept _ s.heap (Shared.heap _) => hK
      rename List.any _ _ = true => hm
      rw [if_pos (anyMem.mp hm)] at hret
      exact hret 0 _ _ hK (hK.fr0 F) (hK.news0 N₀)
    · rename Kept _ s.heap (Shared.heap _) => hK
      rename List.any _ _ = false => hm
      rename plainS lb = true => hp
      rw [if_neg (fun h => Bool.false_ne_true (hm.symm.trans (anyMem.mpr h))), if_pos hp] at hret
      exact hret _ _ _ hK (hK.fr0 F) (hK.news0 N₀)
    · rename Kept _ s.heap (Shared.heap _) => hK
      rename List.any _ _ = false => hm
      rename plainS lb = false => hp
      rw [if_neg (fun h => Bool.false_ne_true (hm.symm.trans (anyMem.mpr h))), if_neg (by rw [hp]; exact Bool.false_ne_true)] at hret
      exact hret 0 _ _ hK (hK.fr0 F) (hK.news0 N₀)
/-- the Names object, its scopes and its aliases -/
structure NmAt (w : World) (h : Heap) (na nd aa sa ra : Addr) (nk : Nat → Tok) (scs : List (Addr × List (Str × Int))) (al : List (Str × Str)) : Prop where
  inst : InstAt h na (instObj 111 nd) 111 (some (nmD w.params nk aa sa ra))
  list : h.IsList sa (scs.map fun p => Value.ref p.1).toArray
  tabs : ∀ p ∈ scs, StrTab prg w h p.1 (p.2.map fun q => (.str q.1, .int q.2))
  alis : StrTab prg w h aa (al.map fun p => (.str p.1, .str p.2))
  n1 : scs.length ≤ 100
  n2 : ∀ p ∈ scs, p.2.length ≤ 10
  n3 : ∀ k, ((al.lookup k).getD k).length ≤ k.length + 20
theorem NmAt.keep {w : World} {h h' : Heap} {na nd aa sa ra : Addr} {nk : Nat → Tok} {scs : List (Addr × List (Str × Int))} {al : List (Str × Str)} (M : NmAt w h na nd aa sa ra nk scs al) (k : Kept [] h h') : NmAt w h' na nd aa sa ra nk scs al :=
  ⟨instKept k M.inst (fun q => nomatch q) (fun q => nomatch q), k.list M.list (fun q => nomatch q), fun p hp => tabKept k (M.tabs p hp) (fun q => nomatch q), tabKept k M.alis (fun q => nomatch q), M.n1, M.n2, M.n3⟩
theorem NmAt.up {w : World} {h₀ h : Heap} {L : Addr} {m : Str → Option Value} {na nd aa sa ra : Addr} {nk : Nat → Tok} {scs : List (Addr × List (Str × Int))} {al : List (Str × Str)} (M : NmAt w h₀ na nd aa sa ra nk scs al) (F : Fr h₀ L h m) : NmAt w h na nd aa sa ra nk scs al :=
  M.keep fun b o e _ => F.keep b o e
theorem NmAt.upF {w : World} {h₀ h : Heap} {L : Addr} {m : Str → Option Value} {na nd aa sa ra : Addr} {nk : Nat → Tok} {scs : List (Addr × List (Str × Int))} {al : List (Str × Str)} (F : Fr h₀ L h m) (M : NmAt w h₀ na nd aa sa ra nk scs al) : NmAt w h na nd aa sa ra nk scs al := M.up F
theorem nameOf_k {na nd aa sa ra ta td fl pl hl : Addr} {nk tk : Nat → Tok} {scs : List (Addr × List (Str × Int))} {al : List (Str × Str)} {num size len : Int} {form mo lb : Str} {bv : Value}
    (B : Below A₀ base outer h₀) (F : Fr h₀ L s.heap m) (X : (hd.heap_39 w.params).In h₀) (T : Top pv lo mean mg mb h₀) (hk : cs.kind = .function) (hdp : dp + 20 < recursionLimit) (hun : un + 400 < cLine)
    {news : List (Addr × Obj)} (N₀ : News h₀ L s.heap news) (hM : NmAt w s.heap na nd aa sa ra nk scs al)
    (hT : InstAt s.heap ta (instObj 182 td) 182 (some (tyD w.params tk num form size bv len fl pl hl mo lb)))
    (hf : (PySem.Spec.lookup (.str form) basicD).isSome = false) (hlb : lb.length ≤ 50) (hmo : mo.length ≤ 50)
    (hret : ∀ t h' tk', Kept [] s.heap h' → Fr h₀ L h' m → News h₀ L h' news → Q (optVal t (nameOf (scs.map (·.2)) al num mo lb)) { s with heap := h', toks := tk' }) :
    wpAny (model prg w) (ktrTop dp un gd cn cs L a ccd cl outer) (call (.ref 94) [.ref na, .ref ta]) Q E s :=
  nameOf_ct B F X T hk hdp hun N₀ hM.inst hM.list hM.tabs hM.alis hT hf (by omega) (by have := hM.n3 mo; omega) hM.n1 hM.n2 hret
/-- a basic type is written by its own name -/
theorem nameOfB_k {na ta td fl pl hl : Addr} {tk : Nat → Tok} {num size len : Int} {form mo lb x : Str} {bv : Value}
    (B : Below A₀ base outer h₀) (F : Fr h₀ L s.heap m) (X : (hd.heap_39 w.params).In h₀) (T : Top pv lo mean mg mb h₀) (hk : cs.kind = .function) (hdp : dp + 20 < recursionLimit) (hun : un + 400 < cLine)
    {news : List (Addr × Obj)} (N₀ : News h₀ L s.heap news)
    (hT : InstAt s.heap ta (instObj 182 td) 182 (some (tyD w.params tk num form size bv len fl pl hl mo lb)))
    (hf : PySem.Spec.lookup (.str form) basicD = some (.str x))
    (hret : ∀ t h' tk', Kept [] s.heap h' → Fr h₀ L h' m → News h₀ L h' news → Q (.str x t) { s with heap := h', toks := tk' }) :
    wpAny (model prg w) (ktrTop dp un gd cn cs L a ccd cl outer) (call (.ref 94) [.ref na, .ref ta]) Q E s := by
  have N : News h₀ L s.heap [] := News.nil
  have hf1 : (PySem.Spec.lookup (.str form) basicD).isSome = true := by rw [hf]; rfl
  refine wpAny_call ?_
  walk_at "F enter"
  rename Kept _ s.heap _ => KG
  have hT' := instKept KG hT (fun q => nomatch q) (fun q => nomatch q)
  k_steps
  rename Kept _ s.heap (Shared.heap _) => hK
  exact hret _ _ _ hK (hK.fr0 F) (hK.news0 N₀)
end
theorem wd43 : True := by
  (k_with "M.call ref" => first | ((with_reducible show wpAny _ _ (call (.ref 94) _) _ _ _); k_dflt (refine nameOf_k (by k_asm) (by k_asm) (by k_asm) (by k_asm) (by first | exact rfl | assumption) (by ktr_room) (by ktr_units) (by k_asm) (by first | assumption | (refine NmAt.upF (by assumption) (by assumption))) (by k_inst) (by assumption) (by first | assumption | decide) (by first | assumption | decide) ?_; k_whole); intro _ _ _ _ _ _; (try k_sweep)) | fail)
  trivial
theorem wd44 : True := by
  (k_with "M.call ref" => first | ((with_reducible show wpAny _ _ (call (.ref 94) _) _ _ _); k_dflt (refine nameOfB_k (by k_asm) (by k_asm) (by k_asm) (by k_asm) (by first | exact rfl | assumption) (by ktr_room) (by ktr_units) (by k_asm) (by k_inst) (by assumption) ?_; k_whole); intro _ _ _ _ _ _; (try k_sweep)) | fail)
  trivial
theorem offDraw : True := by w_top off; trivial
theorem draw_ct {w : World} {dp un : Nat} {gd : Option (List Code)} {cn : Str} {cs : Scope} {a : Addr} {ccd : Value} {cl : List (Str × Addr)} {outer : List Env} {A₀ : Around} {base h₀ : Heap} {L : Addr} {m mg mb : Str → Option Value} {mean : ExcName → Option Value} {s : Shared} {Q E : Value → Shared → Prop}
    {fa : Addr} {vs : List Value} {ns : List Int} {n : Nat} {lim : Int} {t : Tok}
    (B : Below A₀ base outer h₀) (F : Fr h₀ L s.heap m) (X : (hd.heap_39 w.params).In h₀) (N : News h₀ L s.heap [(fa, listOf vs.toArray n)]) (T : Top pv lo mean mg mb h₀) (hk : cs.kind = .function) (hdp : dp + 10 < recursionLimit) (hun : un + 200 < cLine)
    (hi : IntsAre vs ns) (hlen : ns.length ≤ 200) (hl0 : 0 < lim) (hl1 : lim < 100)
    (hret : ∀ r t vs' ns' n' h' tk', 0 ≤ r → r < lim → IntsAre vs' ns' → ns'.length ≤ ns.length → Kept [fa] s.heap h' → h'.get? fa = some (listOf vs'.toArray n') → Q (.int r t) { s with heap := h', toks := tk' }) :
    wpAny (model prg w) (ktrTop dp un gd cn cs L a ccd cl outer) (call (.ref 257) [.ref fa, .int lim t]) Q E s := by
  refine wpAny_call ?_
  have hLen := hi.length
  walk_at "F enter"
  k_steps
  · rename Kept _ s.heap (Shared.heap _) => hK
    refine hret _ _ vs ns n _ _ (Int.le_refl 0) hl0 hi (Nat.le_refl _) hK ?_
    exact News.get (by assumption) (by k_mem)
  · have hpos : 0 < vs.length := by
      rename decide (ns = []) = _ => hq
      cases ns with
      | nil => simp at hq
      | cons _ _ => rw [hLen]; simp
    k_steps
    rename Kept _ s.heap (Shared.heap _) => hK
    refine hret _ _ _ _ _ _ _ ?_ ?_ (by assumption) ?_ hK (News.get (by assumption) (by k_mem))
    · have := Int.emod_nonneg (ns.getLastD 0) (Int.ne_of_gt hl0)
      rwa [Int.fmod_eq_emod_of_nonneg _ (Int.le_of_lt hl0)]
    · exact Int.fmod_lt_of_pos _ hl0
    · simp
theorem offMut : True := by w_top off; trivial
section
variable {w : World} {dp un : Nat} {gd : Option (List Code)} {cn : Str} {cs : Scope} {a : Addr} {ccd : Value} {cl : List (Str × Addr)} {outer : List Env} {A₀ : Around} {base h₀ : Heap} {L : Addr} {m mg mb : Str → Option Value} {mean : ExcName → Option Value} {s : Shared} {Q E : Value → Shared → Prop}
theorem lastAt (vs : List Value) (x : Value) : (vs ++ [x]).toArray[((-1 : Int) + ((vs ++ [x]).toArray.size : Int)).toNat]? = some x := by
  have : ((-1 : Int) + ((vs ++ [x]).toArray.size : Int)).toNat = vs.length := by simp; omega
  rw [this]; simp
theorem enter_ct {na nd aa sa ra d : Addr} {nk : Nat → Tok} {vs : List Value} {o : Obj} {kvs : List (Str × Value)} {D : List (PyData × PyData)} {x : Str} {v : Int} {t u : Tok}
    (B : Below A₀ base outer h₀) (F : Fr h₀ L s.heap m) (X : (hd.heap_39 w.params).In h₀) (T : Top pv lo mean mg mb h₀) (hk : cs.kind = .function) (hdp : dp + 10 < recursionLimit) (hun : un + 200 < cLine)
    (N : News h₀ L s.heap [(d, o)]) (hI : InstAt s.heap na (instObj 111 nd) 111 (some (nmD w.params nk aa sa ra))) (hS : s.heap.IsList sa (vs ++ [Value.ref d]).toArray)
    (g1 : na ≠ d ∧ nd ≠ d ∧ sa ≠ d) (hl : vs.length ≤ 100) (hd' : o.IsDictOf (strKind prg w) kvs) (hf' : PyProof.V.FlatPairs PyData.str kvs D) (hD : D.length ≤ 100)
    (hret : ∀ o' h' tk', Kept [d] s.heap h' → h'.get? d = some o' → o'.IsDictOf (strKind prg w) (stored kvs x (.int v u)) → PyProof.V.FlatPairs PyData.str (stored kvs x (.int v u)) (PyProof.V.putD (.str x) (.int v) D) → Q .none { s with heap := h', toks := tk' }) :
    wpAny (model prg w) (ktrTop dp un gd cn cs L a ccd cl outer) (call (.ref 59) [.ref na, .str x t, .int v u]) Q E s := by
  refine wpAny_call ?_
  walk_at "F enter"
  rename Kept _ s.heap _ => KG
  have hI' := instKept KG hI (by simp; exact g1.1) (by simp; exact g1.2.1)
  have hS' := KG.list hS (by simp; exact g1.2.2)
  have sX := StopAt.mk (a := sa)
  k_steps
  refine Stop.out ?_
  replace sX := StopAt.mk (a := d)
  rename Fr _ _ _ _ => F2
  rename News _ _ _ _ => N2
  refine tail_any (listUp hS' F2).typeIs slot_list_getitem.lookup (wpAny_getItem_list_neg (x := .ref d) (listUp hS' F2) (by decide) (by simp; omega) (by decide) (lastAt vs _) ?_) (by with_unfolding_all rfl)
  k_steps
  refine Stop.out ?_
  clear sX
  refine setItem_K PyProof.V.same_str (strKind_is _ _ _ _) (PyProof.V.Flat.int _ _) F2 N2 (by k_updF) hd' hf' (fun h3 o3 F6 N6 hd3 hf3 => ?_) (by rw [sizeLine_eq]; omega)
  clear F2 N2
  k_steps
  rename Kept _ s.heap (Shared.heap _) => hK
  rename (∀ p, p ∈ _ → _ ∧ _) => hN
  exact hret _ _ _ hK (hN (d, _) (by k_mem)).1 hd3 hf3
theorem open_ct {na nd aa sa ra : Addr} {nk : Nat → Tok} {vs : List Value} {n : Nat}
    (B : Below A₀ base outer h₀) (F : Fr h₀ L s.heap m) (X : (hd.heap_39 w.params).In h₀) (T : Top pv lo mean mg mb h₀) (hk : cs.kind = .function) (hdp : dp + 10 < recursionLimit) (hun : un + 200 < cLine)
    (N : News h₀ L s.heap [(sa, listOf vs.toArray n)]) (hI : InstAt s.heap na (instObj 111 nd) 111 (some (nmD w.params nk aa sa ra)))
    (g1 : na ≠ sa ∧ nd ≠ sa) (hl : vs.length ≤ 100)
    (hret : ∀ d o n' h' tk', Kept [sa] s.heap h' → h'.get? sa = some (listOf (vs ++ [Value.ref d]).toArray n') → s.heap.get? d = none → h'.get? d = some o → (d == sysModules) = false → o.IsDictOf (strKind prg w) [] → Q .none { s with heap := h', toks := tk' }) :
    wpAny (model prg w) (ktrTop dp un gd cn cs L a ccd cl outer) (call (.ref 66) [.ref na]) Q E s := by
  refine wpAny_call ?_
  walk_at "F enter"
  rename Kept _ s.heap _ => KG
  have hI' := instKept KG hI (by simp; exact g1.1) (by simp; exact g1.2)
  k_steps
  rename Kept _ s.heap (Shared.heap _) => hK
  rename (∀ p, p ∈ _ → _ ∧ _) => hN
  have e : ∀ d, vs.toArray.push d = (vs ++ [d]).toArray := fun d => by simp
  rw [e] at hN
  refine hret _ _ _ _ _ hK (hN (sa, _) (by k_mem)).1 ((hN (_, _) (.head _)).2 ?_) (hN (_, _) (.head _)).1 (by assumption) (by assumption)
  exact notMem1 (by k_ne)
theorem close_ct {na nd aa sa ra : Addr} {nk : Nat → Tok} {vs : List Value} {x : Value} {n : Nat}
    (B : Below A₀ base outer h₀) (F : Fr h₀ L s.heap m) (X : (hd.heap_39 w.params).In h₀) (T : Top pv lo mean mg mb h₀) (hk : cs.kind = .function) (hdp : dp + 10 < recursionLimit) (hun : un + 200 < cLine)
    (N : News h₀ L s.heap [(sa, listOf (vs ++ [x]).toArray n)]) (hI : InstAt s.heap na (instObj 111 nd) 111 (some (nmD w.params nk aa sa ra)))
    (g1 : na ≠ sa ∧ nd ≠ sa) (hl : vs.length ≤ 100)
    (hret : ∀ n' h' tk', Kept [sa] s.heap h' → h'.get? sa = some (listOf vs.toArray n') → Q .none { s with heap := h', toks := tk' }) :
    wpAny (model prg w) (ktrTop dp un gd cn cs L a ccd cl outer) (call (.ref 73) [.ref na]) Q E s := by
  refine wpAny_call ?_
  walk_at "F enter"
  rename Kept _ s.heap _ => KG
  have hI' := instKept KG hI (by simp; exact g1.1) (by simp; exact g1.2)
  k_steps
  rename Fr _ _ _ _ => F2
  rename News _ _ _ _ => N2
  refine kl_pop F2 N2 (p := vs) (y := x) (kpa_last x vs) (by k_upd) (by rw [sizeLine_eq]; simp; omega) fun h3 F3 N3 => ?_
  clear F2 N2
  k_steps
  rename Kept _ s.heap (Shared.heap _) => hK
  rename (∀ p, p ∈ _ → _ ∧ _) => hN
  exact hret _ _ _ hK (hN (sa, _) (by k_mem)).1
end
theorem offFree : True := by w_top off; trivial
section
variable {w : World} {dp un : Nat} {gd : Option (List Code)} {cn : Str} {cs : Scope} {a : Addr} {ccd : Value} {cl : List (Str × Addr)} {outer : List Env} {A₀ : Around} {base h₀ : Heap} {L : Addr} {m mg mb : Str → Option Value} {mean : ExcName → Option Value} {s : Shared} {Q E : Value → Shared → Prop}
theorem freeN_k {ud : Addr} {D : List (PyData × PyData)} {t : Tok}
    (B : Below A₀ base outer h₀) (F : Fr h₀ L s.heap m) (X : (hd.heap_39 w.params).In h₀) (T : Top pv lo mean mg mb h₀) (hk : cs.kind = .function) (hdp : dp + 10 < recursionLimit) (hun : un + 200 < cLine)
    {news : List (Addr × Obj)} (N₀ : News h₀ L s.heap news) (hD : StrTab prg w s.heap ud D) (h2 : (PySem.Spec.lookup (.str "N2") D).isSome = false)
    (hret : ∀ x t h' tk', Kept [] s.heap h' → Fr h₀ L h' m → News h₀ L h' news → x = (if (PySem.Spec.lookup (.str "N") D).isSome then (if (PySem.Spec.lookup (.str "N1") D).isSome then Str.ofString "N2" else "N1") else "N") → Q (.str x t) { s with heap := h', toks := tk' }) :
    wpAny (model prg w) (ktrTop dp un gd cn cs L a ccd cl outer) (call (.ref 122) [.str "N" t, .ref ud]) Q E s := by
  have N : News h₀ L s.heap [] := News.nil
  refine wpAny_call ?_
  walk_at "F enter"
  have stopW := StopWhile.mk
  rename Kept _ s.heap _ => KG
  have hD' := tabKept KG hD (fun q => nomatch q)
  k_steps
  refine (show _ → Stop _ from id) ?_
  rename Fr _ _ _ _ => F2
  rename News _ _ _ _ => N2
  refine while_core [Str.ofString "found", Str.ofString "number"] (fun n u nx => nx = [] ∧
    ((n = 3 ∧ ∃ t v, u "found" = some (.str "N" t) ∧ u "number" = some (.int 0 v)) ∨
     (n = 2 ∧ (PySem.Spec.lookup (.str "N") D).isSome = true ∧ ∃ t v, u "found" = some (.str "N1" t) ∧ u "number" = some (.int 1 v)) ∨
     (n = 1 ∧ (PySem.Spec.lookup (.str "N") D).isSome = true ∧ (PySem.Spec.lookup (.str "N1") D).isSome = true ∧ ∃ t v, u "found" = some (.str "N2" t) ∧ u "number" = some (.int 2 v))))
    (n₀ := 3) ⟨rfl, .inl ⟨rfl, _, _, rfl, rfl⟩⟩ F2 N2 ?_
  rintro n u nx h tk ⟨rfl, hJ⟩ F3 N3
  clear F2 N2
  rcases hJ with ⟨rfl, t, v, h1, h2⟩ | ⟨rfl, hN1, t, v, h1, h2⟩ | ⟨rfl, hN1, hN2, t, v, h1, h2⟩
  all_goals (have F4 := frKnow (a := "found") (frKnow (a := "number") F3 h2) h1; clear F3; k_steps)
  · rename Option.isSome _ = true => hs
    exact WEnd.intro 2 (by decide) (by assumption) (by walk_at "F sameW") (by assumption) ⟨rfl, .inr (.inl ⟨rfl, hs, _, _, rfl, rfl⟩)⟩
  · rename Kept _ s.heap (Shared.heap _) => hK
    rename Option.isSome _ = false => hs
    refine hret _ _ _ _ hK (hK.fr0 F) (hK.news0 N₀) ?_
    rw [hs]; rfl
  · rename Option.isSome _ = true => hs
    exact WEnd.intro 1 (by decide) (by assumption) (by walk_at "F sameW") (by assumption) ⟨rfl, .inr (.inr ⟨rfl, hN1, hs, _, _, rfl, rfl⟩)⟩
  · rename Kept _ s.heap (Shared.heap _) => hK
    rename Option.isSome _ = false => hs
    refine hret _ _ _ _ hK (hK.fr0 F) (hK.news0 N₀) ?_
    rw [hN1, hs]; rfl
  · rename Kept _ s.heap (Shared.heap _) => hK
    refine hret _ _ _ _ hK (hK.fr0 F) (hK.news0 N₀) ?_
    rw [hN1, hN2]; rfl
theorem freeS_k {ud : Addr} {D : List (PyData × PyData)} {t : Tok}
    (B : Below A₀ base outer h₀) (F : Fr h₀ L s.heap m) (X : (hd.heap_39 w.params).In h₀) (T : Top pv lo mean mg mb h₀) (hk : cs.kind = .function) (hdp : dp + 10 < recursionLimit) (hun : un + 200 < cLine)
    {news : List (Addr × Obj)} (N₀ : News h₀ L s.heap news) (hD : StrTab prg w s.heap ud D) (h2 : (PySem.Spec.lookup (.str "SYSTEM") D).isSome = false)
    (hret : ∀ t h' tk', Kept [] s.heap h' → Fr h₀ L h' m → News h₀ L h' news → Q (.str "SYSTEM" t) { s with heap := h', toks := tk' }) :
    wpAny (model prg w) (ktrTop dp un gd cn cs L a ccd cl outer) (call (.ref 122) [.str "SYSTEM" t, .ref ud]) Q E s := by
  have N : News h₀ L s.heap [] := News.nil
  refine wpAny_call ?_
  walk_at "F enter"
  have stopW := StopWhile.mk
  rename Kept _ s.heap _ => KG
  have hD' := tabKept KG hD (fun q => nomatch q)
  k_steps
  refine (show _ → Stop _ from id) ?_
  rename Fr _ _ _ _ => F2
  rename News _ _ _ _ => N2
  refine while_core [Str.ofString "found", Str.ofString "number"] (fun n u nx => nx = [] ∧ ∃ t v, u "found" = some (.str "SYSTEM" t) ∧ u "number" = some (.int 0 v))
    (n₀ := 3) ⟨rfl, _, _, rfl, rfl⟩ F2 N2 ?_
  rintro n u nx h tk ⟨rfl, t, v, h1, h3⟩ F3 N3
  clear F2 N2
  have F4 := frKnow (a := "found") (frKnow (a := "number") F3 h3) h1
  clear F3
  k_steps
  rename Kept _ s.heap (Shared.heap _) => hK
  exact hret _ _ _ hK (hK.fr0 F) (hK.news0 N₀)
end
theorem offGrp : True := by w_top off; trivial
/-- the dict of an Obj object -/
noncomputable abbrev obD (P : Params) (tk : Nat → Tok) (name kind : Str) (ty : Addr) (ex : Bool) : Obj := dictOf
  [ent P "name" (tk 0) (.str name (tk 1)), ent P "kind" (tk 2) (.str kind (tk 3)), ent P "type" (tk 4) (.ref ty), ent P "place" (tk 5) (.int 0 (tk 6)), ent P "exported" (tk 7) (.bool ex), ent P "readonly" (tk 8) (.bool false),
   ent P "level" (tk 9) (.int 0 (tk 10)), ent P "module" (tk 11) (.str "" (tk 12)), ent P "value" (tk 13) .none, ent P "slot" (tk 14) (.int 0 (tk 15)), ent P "offset" (tk 16) (.int 0 (tk 17)), ent P "number" (tk 18) (.int 0 (tk 19)), ent P "isparam" (tk 20) (.bool false), ent P "narrowed" (tk 21) .none] 14
section
variable {w : World} {dp un : Nat} {gd : Option (List Code)} {cn : Str} {cs : Scope} {a : Addr} {ccd : Value} {cl : List (Str × Addr)} {outer : List Env} {A₀ : Around} {base h₀ : Heap} {L : Addr} {m mg mb : Str → Option Value} {mean : ExcName → Option Value} {s : Shared} {Q E : Value → Shared → Prop}
theorem isVar_k {oa od ty : Addr} {tk : Nat → Tok} {name kind : Str} {ex : Bool}
    (B : Below A₀ base outer h₀) (F : Fr h₀ L s.heap m) (X : (hd.heap_39 w.params).In h₀) (T : Top pv lo mean mg mb h₀) (hk : cs.kind = .function) (hdp : dp + 10 < recursionLimit) (hun : un + 200 < cLine)
    {news : List (Addr × Obj)} (N₀ : News h₀ L s.heap news)
    (hO : InstAt s.heap oa (instObj 203 od) 203 (some (obD w.params tk name kind ty ex))) (hkd : (kind == "par") = false)
    (hret : ∀ h' tk', Kept [] s.heap h' → Fr h₀ L h' m → News h₀ L h' news → Q (.bool false) { s with heap := h', toks := tk' }) :
    wpAny (model prg w) (ktrTop dp un gd cn cs L a ccd cl outer) (call (.ref 155) [.ref oa]) Q E s := by
  have N : News h₀ L s.heap [] := News.nil
  refine wpAny_call ?_
  walk_at "F enter"
  rename Kept _ s.heap _ => KG
  have hO' := instKept KG hO (fun q => nomatch q) (fun q => nomatch q)
  k_steps
  rename Kept _ s.heap (Shared.heap _) => hK
  rw [← hkd] at hret
  exact hret _ _ hK (hK.fr0 F) (hK.news0 N₀)
theorem marked_k {na nd aa sa ra oa od ty : Addr} {nk tk : Nat → Tok} {scs : List (Addr × List (Str × Int))} {al : List (Str × Str)} {name kind : Str} {ex : Bool}
    (B : Below A₀ base outer h₀) (F : Fr h₀ L s.heap m) (X : (hd.heap_39 w.params).In h₀) (T : Top pv lo mean mg mb h₀) (hk : cs.kind = .function) (hdp : dp + 10 < recursionLimit) (hun : un + 200 < cLine)
    {news : List (Addr × Obj)} (N₀ : News h₀ L s.heap news) (hM : NmAt w s.heap na nd aa sa ra nk scs al)
    (hO : InstAt s.heap oa (instObj 203 od) 203 (some (obD w.params tk name kind ty ex))) (hnm : name.length ≤ 50)
    (hret : ∀ t h' tk', Kept [] s.heap h' → Fr h₀ L h' m → News h₀ L h' news → Q (.str (name ++ (if ex then "*" else "")) t) { s with heap := h', toks := tk' }) :
    wpAny (model prg w) (ktrTop dp un gd cn cs L a ccd cl outer) (call (.ref 141) [.ref na, .ref oa]) Q E s := by
  have N : News h₀ L s.heap [] := News.nil
  refine wpAny_call ?_
  walk_at "F enter"
  rename Kept _ s.heap _ => KG
  have hO' := instKept KG hO (fun q => nomatch q) (fun q => nomatch q)
  have hI' := (hM.keep KG).inst
  k_steps
  · rename ex = true => he
    subst he
    rename Kept _ s.heap (Shared.heap _) => hK
    exact hret _ _ _ hK (hK.fr0 F) (hK.news0 N₀)
  · rename ex = false => he
    subst he
    rename Kept _ s.heap (Shared.heap _) => hK
    exact hret _ _ _ hK (hK.fr0 F) (hK.news0 N₀)
end
theorem wd45 : True := by
  (k_with "M.call ref" => first | ((with_reducible show wpAny _ _ (call (.ref 155) _) _ _ _); k_dflt (refine isVar_k (by k_asm) (by k_asm) (by k_asm) (by k_asm) (by first | exact rfl | assumption) (by ktr_room) (by ktr_units) (by k_asm) (by k_inst) (by first | assumption | decide +kernel) ?_; k_whole); intro _ _ _ _ _; (try k_sweep)) | fail)
  trivial
theorem wd46 : True := by
  (k_with "M.call ref" => first | ((with_reducible show wpAny _ _ (call (.ref 141) _) _ _ _); k_dflt (refine marked_k (by k_asm) (by k_asm) (by k_asm) (by k_asm) (by first | exact rfl | assumption) (by ktr_room) (by ktr_units) (by k_asm) (by first | assumption | (refine NmAt.upF (by assumption) (by assumption))) (by k_inst) (by first | assumption | decide +kernel) ?_; k_whole); intro _ _ _ _ _ _; (try k_sweep)) | fail)
  trivial
section
variable {w : World} {dp un : Nat} {gd : Option (List Code)} {cn : Str} {cs : Scope} {a : Addr} {ccd : Value} {cl : List (Str × Addr)} {outer : List Env} {A₀ : Around} {base h₀ : Heap} {L : Addr} {m mg mb : Str → Option Value} {mean : ExcName → Option Value} {s : Shared} {Q E : Value → Shared → Prop}
theorem grouped_k {fl o1 o2 o3 d1 d2 d3 t1 t2 t3 e1 e2 e3 : Addr} {k1 k2 k3 j1 j2 j3 : Nat → Tok} {x1 x2 x3 : Str} {b1 b2 b3 : Bool} {n : Nat} {n1 n2 n3 s1 s2 s3 l1 l2 l3 : Int} {f1 f2 f3 m1 m2 m3 y1 y2 y3 : Str} {v1 v2 v3 : Value} {p1 p2 p3 q1 q2 q3 r1 r2 r3 : Addr}
    (B : Below A₀ base outer h₀) (F : Fr h₀ L s.heap m) (X : (hd.heap_39 w.params).In h₀) (T : Top pv lo mean mg mb h₀) (hk : cs.kind = .function) (hdp : dp + 20 < recursionLimit) (hun : un + 400 < cLine)
    {news : List (Addr × Obj)} (N₀ : News h₀ L s.heap news) (N : News h₀ L s.heap [(fl, listOf #[.ref o1, .ref o2, .ref o3] n)])
    (hO1 : InstAt s.heap o1 (instObj 203 d1) 203 (some (obD w.params k1 x1 "field" t1 b1))) (hO2 : InstAt s.heap o2 (instObj 203 d2) 203 (some (obD w.params k2 x2 "field" t2 b2))) (hO3 : InstAt s.heap o3 (instObj 203 d3) 203 (some (obD w.params k3 x3 "field" t3 b3)))
    (hT1 : InstAt s.heap t1 (instObj 182 e1) 182 (some (tyD w.params j1 n1 f1 s1 v1 l1 p1 q1 r1 m1 y1))) (hT2 : InstAt s.heap t2 (instObj 182 e2) 182 (some (tyD w.params j2 n2 f2 s2 v2 l2 p2 q2 r2 m2 y2))) (hT3 : InstAt s.heap t3 (instObj 182 e3) 182 (some (tyD w.params j3 n3 f3 s3 v3 l3 p3 q3 r3 m3 y3)))
    (g1 : fl ≠ o1 ∧ fl ≠ d1 ∧ fl ≠ o2 ∧ fl ≠ d2 ∧ fl ≠ o3 ∧ fl ≠ d3 ∧ fl ≠ t1 ∧ fl ≠ e1 ∧ fl ≠ t2 ∧ fl ≠ e2 ∧ fl ≠ t3 ∧ fl ≠ e3)
    (htt : n1 = n2 → n2 = n3 → ∀ R c a1 c1 h' tk', Kept [] s.heap h' → Fr h₀ L h' m → News h₀ L h' ((R, listOf #[.ref a1] c) :: (a1, listOf #[.ref o1, .ref o2, .ref o3] c1) :: news) → Q (.ref R) { s with heap := h', toks := tk' })
    (htf : n1 = n2 → n2 ≠ n3 → ∀ R c a1 c1 a2 c2 h' tk', Kept [] s.heap h' → Fr h₀ L h' m → News h₀ L h' ((R, listOf #[.ref a1, .ref a2] c) :: (a1, listOf #[.ref o1, .ref o2] c1) :: (a2, listOf #[.ref o3] c2) :: news) → Q (.ref R) { s with heap := h', toks := tk' })
    (hft : n1 ≠ n2 → n2 = n3 → ∀ R c a1 c1 a2 c2 h' tk', Kept [] s.heap h' → Fr h₀ L h' m → News h₀ L h' ((R, listOf #[.ref a1, .ref a2] c) :: (a1, listOf #[.ref o1] c1) :: (a2, listOf #[.ref o2, .ref o3] c2) :: news) → Q (.ref R) { s with heap := h', toks := tk' })
    (hff : n1 ≠ n2 → n2 ≠ n3 → ∀ R c a1 c1 a2 c2 a3 c3 h' tk', Kept [] s.heap h' → Fr h₀ L h' m → News h₀ L h' ((R, listOf #[.ref a1, .ref a2, .ref a3] c) :: (a1, listOf #[.ref o1] c1) :: (a2, listOf #[.ref o2] c2) :: (a3, listOf #[.ref o3] c3) :: news) → Q (.ref R) { s with heap := h', toks := tk' }) :
    wpAny (model prg w) (ktrTop dp un gd cn cs L a ccd cl outer) (call (.ref 148) [.ref fl]) Q E s := by
  refine wpAny_call ?_
  walk_at "F enter"
  rename Kept _ s.heap _ => KG
  have hO1' := instKept KG hO1 (by simp; exact g1.1.symm) (by simp; exact g1.2.1.symm)
  have hO2' := instKept KG hO2 (by simp; exact g1.2.2.1.symm) (by simp; exact g1.2.2.2.1.symm)
  have hO3' := instKept KG hO3 (by simp; exact g1.2.2.2.2.1.symm) (by simp; exact g1.2.2.2.2.2.1.symm)
  have hT1' := instKept KG hT1 (by simp; exact g1.2.2.2.2.2.2.1.symm) (by simp; exact g1.2.2.2.2.2.2.2.1.symm)
  have hT2' := instKept KG hT2 (by simp; exact g1.2.2.2.2.2.2.2.2.1.symm) (by simp; exact g1.2.2.2.2.2.2.2.2.2.1.symm)
  have hT3' := instKept KG hT3 (by simp; exact g1.2.2.2.2.2.2.2.2.2.2.1.symm) (by simp; exact g1.2.2.2.2.2.2.2.2.2.2.2.symm)
  k_steps
  · rename Kept _ s.heap (Shared.heap _) => hK
    rename (∀ p, p ∈ _ → _ ∧ _) => hN
    dsimp only [List.map_cons, List.map_nil] at hK hN
    have hK0 := Kept.drop1 hK (N _ (.head _)).1 (hN (fl, _) (by k_mem)).1
    refine htt (by assumption) (by assumption) _ _ _ _ _ _ hK0 (hK0.fr0 F) (newsCons (newOne F (hN (_, _) (by k_mem)).1 ((hN (_, _) (by k_mem)).2 ?_)) (newsCons (newOne F (hN (_, _) (by k_mem)).1 ((hN (_, _) (by k_mem)).2 ?_)) (hK0.news0 N₀)))
    all_goals (refine notMem1 ?_; k_ne)
  · rename Kept _ s.heap (Shared.heap _) => hK
    rename (∀ p, p ∈ _ → _ ∧ _) => hN
    dsimp only [List.map_cons, List.map_nil] at hK hN
    have hK0 := Kept.drop1 hK (N _ (.head _)).1 (hN (fl, _) (by k_mem)).1
    refine htf (by assumption) (by assumption) _ _ _ _ _ _ _ _ hK0 (hK0.fr0 F) (newsCons (newOne F (hN (_, _) (by k_mem)).1 ((hN (_, _) (by k_mem)).2 ?_)) (newsCons (newOne F (hN (_, _) (by k_mem)).1 ((hN (_, _) (by k_mem)).2 ?_)) (newsCons (newOne F (hN (_, _) (by k_mem)).1 ((hN (_, _) (by k_mem)).2 ?_)) (hK0.news0 N₀))))
    all_goals (refine notMem1 ?_; k_ne)
  · rename Kept _ s.heap (Shared.heap _) => hK
    rename (∀ p, p ∈ _ → _ ∧ _) => hN
    dsimp only [List.map_cons, List.map_nil] at hK hN
    have hK0 := Kept.drop1 hK (N _ (.head _)).1 (hN (fl, _) (by k_mem)).1
    refine hft (by assumption) (by assumption) _ _ _ _ _ _ _ _ hK0 (hK0.fr0 F) (newsCons (newOne F (hN (_, _) (by k_mem)).1 ((hN (_, _) (by k_mem)).2 ?_)) (newsCons (newOne F (hN (_, _) (by k_mem)).1 ((hN (_, _) (by k_mem)).2 ?_)) (newsCons (newOne F (hN (_, _) (by k_mem)).1 ((hN (_, _) (by k_mem)).2 ?_)) (hK0.news0 N₀))))
    all_goals (refine notMem1 ?_; k_ne)
  · rename Kept _ s.heap (Shared.heap _) => hK
    rename (∀ p, p ∈ _ → _ ∧ _) => hN
    dsimp only [List.map_cons, List.map_nil] at hK hN
    have hK0 := Kept.drop1 hK (N _ (.head _)).1 (hN (fl, _) (by k_mem)).1
    refine hff (by assumption) (by assumption) _ _ _ _ _ _ _ _ _ _ hK0 (hK0.fr0 F) (newsCons (newOne F (hN (_, _) (by k_mem)).1 ((hN (_, _) (by k_mem)).2 ?_)) (newsCons (newOne F (hN (_, _) (by k_mem)).1 ((hN (_, _) (by k_mem)).2 ?_)) (newsCons (newOne F (hN (_, _) (by k_mem)).1 ((hN (_, _) (by k_mem)).2 ?_)) (newsCons (newOne F (hN (_, _) (by k_mem)).1 ((hN (_, _) (by k_mem)).2 ?_)) (hK0.news0 N₀)))))
    all_goals (refine notMem1 ?_; k_ne)
end
theorem offFigs : True := by w_top off; trivial
theorem wd47 : True := by
  (k_with "M.call builtin:list.append" => first | ((have _ := (by with_reducible assumption : StopIter)); (with_reducible show wpAny _ _ (call (Value.builtin _) [Value.ref _, _]) _ _ _); k_dflt (refine append_K (by k_asm) (by k_asm) (by k_upd) ?_ (by (rw [PySem.sizeLine_eq]; (try simp only [Array.size_push]); omega)); k_whole); intro _ _ _; (try k_sweep)) | fail)
  trivial
theorem nmLA {h₀ h : Heap} {L a : Addr} {n : Nat} {vs : List Value} {r : List (Addr × Obj)} (_ : News h₀ L h ((a, listOf vs.toArray n) :: r)) : ∃ y, y = vs := ⟨_, rfl⟩
section
variable {w : World} {dp un : Nat} {gd : Option (List Code)} {cn : Str} {cs : Scope} {a : Addr} {ccd : Value} {cl : List (Str × Addr)} {outer : List Env} {A₀ : Around} {base h₀ : Heap} {L : Addr} {m mg mb : Str → Option Value} {mean : ExcName → Option Value} {s : Shared} {Q E : Value → Shared → Prop}
theorem figs_k {sc : Addr} {vs : List Value} {ns : List Int}
    (B : Below A₀ base outer h₀) (F : Fr h₀ L s.heap m) (X : (hd.heap_39 w.params).In h₀) (T : Top pv lo mean mg mb h₀) (hk : cs.kind = .function) (hdp : dp + 10 < recursionLimit) (hun : un + 200 < cLine)
    {news : List (Addr × Obj)} (N₀ : News h₀ L s.heap news) (hS : s.heap.IsList sc vs.toArray) (hi : IntsAre vs ns) (hl : ns.length ≤ 63)
    (hret : ∀ f fvs fns n h' tk', Kept [] s.heap h' → Fr h₀ L h' m → News h₀ L h' ((f, listOf fvs n) :: news) → IntsAre fvs.toList fns → fns.length ≤ 140 → Q (.ref f) { s with heap := h', toks := tk' }) :
    wpAny (model prg w) (ktrTop dp un gd cn cs L a ccd cl outer) (call (.ref 250) [.ref sc]) Q E s := by
  have N : News h₀ L s.heap [] := News.nil
  have hlen := hi.length
  refine wpAny_call ?_
  walk_at "F enter"
  have stopI := StopIter.mk
  rename Kept _ s.heap _ => KG
  have hS' := KG.list hS (fun q => nomatch q)
  k_steps
  refine (show _ → Stop _ from id) ?_
  rename Fr _ _ _ _ => F2
  rename News _ _ _ _ => N2
  rename IntsAre _ (List.take 60 ns) => hi2
  obtain ⟨sl, e⟩ := nmA N2
  subst e
  obtain ⟨fo, e⟩ := nmB N2
  subst e
  obtain ⟨ws, e⟩ := nmLA N2
  subst e
  have hl2 := hi2.length
  rw [List.length_take] at hl2
  refine iter_list (prog := prg) (w := w) (vs := ws) [Str.ofString "figure", Str.ofString "lap"] (fun i _ nx => ∃ us ms n, nx = [(sl, listOf ws.toArray 0), (fo, listOf us n)] ∧ IntsAre us.toList ms ∧ ms.length ≤ 11 * i)
    rfl ⟨_, (N2 (sl, _) (.head _)).1, rfl, _, rfl⟩ (.inr ⟨listOf ws.toArray 0, ?_⟩) F2 N2 ⟨#[], [], 0, rfl, .nil, Nat.zero_le _⟩ ?_ ?_
  · rintro i m nx ⟨us, ms, n, rfl, _⟩; exact .head _
  · rintro i v u nx I it h tk hv ⟨us, ms, n, rfl, hu, hms⟩ hne hlt F3 N3
    clear F2 N2
    obtain ⟨c, t, rfl, hc⟩ := hi2.at i v hv
    have hib := (List.getElem?_eq_some_iff.mp hv).1
    have hn3 : @Ne Nat sl I ∧ @Ne Nat fo I := by simpa using hne
    have hus := hu.length
    rw [Array.length_toList] at hus
    k_steps
    all_goals (refine (show _ → Stop _ from id) ?_)
    all_goals (rename IsRange _ _ _ _ _ _ _ _ => hR; rename Fr _ _ _ _ => F2; rename News _ _ _ _ => N2)
    · refine iter_range (prog := prg) (w := w) (n := 10) [Str.ofString "figure"] (fun j u' nx => ∃ fg t us' ms' n', u' "figure" = some (.int fg t) ∧ nx = [(I, it), (sl, listOf ws.toArray 0), (fo, listOf us' n')] ∧ IntsAre us'.toList ms' ∧ ms'.length ≤ 11 * i + 1 + j)
        1 rfl hR (by decide +kernel) (by decide +kernel) F2 N2 ⟨_, _, _, ms ++ [c.fmod 97], _, rfl, rfl, (by rw [Array.toList_push]; exact IntsAre.append hu (.cons _ _ .nil)), (by rw [List.length_append]; simp; omega)⟩ ?_ ?_
      · rintro j t2 u2 nx2 I2 it2 h2 tk2 hj ⟨fg, tf, us', ms', n', hf, rfl, hu', hms'⟩ hne2 hlt2 F5 N5
        clear F2 N2
        have F6 := frKnow (a := "figure") F5 hf
        clear F5
        have hn4 : @Ne Nat I I2 ∧ @Ne Nat sl I2 ∧ @Ne Nat fo I2 := by simpa using hne2
        have hus' := hu'.length
        rw [Array.length_toList] at hus'
        k_steps
        · refine TEnd.intro (nx := [(I, it), (sl, listOf ws.toArray 0), (fo, listOf _ _)]) (by assumption) (by assumption) ?_ ⟨by walk_at "F same", _, _, _, ms' ++ [fg.fmod 97], _, rfl, rfl, (by rw [Array.toList_push]; exact IntsAre.append hu' (.cons _ _ .nil)), (by rw [List.length_append]; simp; omega)⟩
          simpa using hn4
        · exact TEnd.intro (nx := [(I, it), (sl, listOf ws.toArray 0), (fo, listOf us' n')]) (by assumption) (by assumption) hne2 ⟨by walk_at "F same", fg, tf, us', ms', n', rfl, rfl, hu', by omega⟩
      · rintro u2 nx2 h2 tk2 ⟨fg, tf, us', ms', n', hf, rfl, hu', hms'⟩ F5 N5
        clear F2 N2
        k_steps
        exact TEnd.intro (nx := [(sl, listOf ws.toArray 0), (fo, listOf us' n')]) (by assumption) (by assumption) (by simpa using hn3) ⟨by walk_at "F same", us', ms', n', rfl, hu', by omega⟩
    · refine iter_range (prog := prg) (w := w) (n := 10) [Str.ofString "figure"] (fun j u' nx => ∃ fg t us' ms' n', u' "figure" = some (.int fg t) ∧ nx = [(I, it), (sl, listOf ws.toArray 0), (fo, listOf us' n')] ∧ IntsAre us'.toList ms' ∧ ms'.length ≤ 11 * i + 1 + j)
        1 rfl hR (by decide +kernel) (by decide +kernel) F2 N2 ⟨_, _, _, ms ++ [(-c).fmod 97], _, rfl, rfl, (by rw [Array.toList_push]; exact IntsAre.append hu (.cons _ _ .nil)), (by rw [List.length_append]; simp; omega)⟩ ?_ ?_
      · rintro j t2 u2 nx2 I2 it2 h2 tk2 hj ⟨fg, tf, us', ms', n', hf, rfl, hu', hms'⟩ hne2 hlt2 F5 N5
        clear F2 N2
        have F6 := frKnow (a := "figure") F5 hf
        clear F5
        have hn4 : @Ne Nat I I2 ∧ @Ne Nat sl I2 ∧ @Ne Nat fo I2 := by simpa using hne2
        have hus' := hu'.length
        rw [Array.length_toList] at hus'
        k_steps
        · refine TEnd.intro (nx := [(I, it), (sl, listOf ws.toArray 0), (fo, listOf _ _)]) (by assumption) (by assumption) ?_ ⟨by walk_at "F same", _, _, _, ms' ++ [fg.fmod 97], _, rfl, rfl, (by rw [Array.toList_push]; exact IntsAre.append hu' (.cons _ _ .nil)), (by rw [List.length_append]; simp; omega)⟩
          simpa using hn4
        · exact TEnd.intro (nx := [(I, it), (sl, listOf ws.toArray 0), (fo, listOf us' n')]) (by assumption) (by assumption) hne2 ⟨by walk_at "F same", fg, tf, us', ms', n', rfl, rfl, hu', by omega⟩
      · rintro u2 nx2 h2 tk2 ⟨fg, tf, us', ms', n', hf, rfl, hu', hms'⟩ F5 N5
        clear F2 N2
        k_steps
        exact TEnd.intro (nx := [(sl, listOf ws.toArray 0), (fo, listOf us' n')]) (by assumption) (by assumption) (by simpa using hn3) ⟨by walk_at "F same", us', ms', n', rfl, hu', by omega⟩
  · rintro u nx h tk ⟨us, ms, n, rfl, hu, hms⟩ F3 N3
    clear F2 N2
    k_steps
    rename IntsAre _ (List.take 140 ms) => hi3
    rename Fr _ _ _ _ => F2
    rename News _ _ _ _ => N2
    obtain ⟨D3, e⟩ := nmA N2
    subst e
    obtain ⟨ws3, e⟩ := nmLA N2
    subst e
    have hl3 := hi3.length
    rw [List.length_take] at hl3
    refine kl_reverse F2 N2 rfl (by k_upd) (by rw [sizeLine_eq, List.toList_toArray, hl3]; omega) (fun h5 F5 N5 => ?_)
    clear F2 N2
    k_steps
    rename Kept _ s.heap (Shared.heap _) => hK
    rename (∀ p, p ∈ _ → _ ∧ _) => hN
    refine hret D3 _ ((List.take 140 ms).reverse) 0 _ _ hK (hK.fr0 F) (newsCons (newOne F (hN (D3, _) (.head _)).1 ((hN (D3, _) (.head _)).2 (fun q => nomatch q))) (hK.news0 N₀)) hi3.reverse (by rw [List.length_reverse, List.length_take]; omega)
end
theorem offLFree : True := by w_top off; trivial
theorem two_of {hs : List Str} {a b : Str} (hab : a ≠ b) (h1 : (hs.any fun x => x == a) = true) (h2 : (hs.any fun x => x == b) = true) : 2 ≤ hs.length := by
  match hs with
  | [] => simp at h1
  | [x] => simp at h1 h2; exact absurd (h1.symm.trans h2) hab
  | x :: y :: r => simp
noncomputable def LfJ : Bool → Nat → List Value → Prop
  | true, i, ys => (i ≤ 1 ∧ ys = []) ∨ (2 ≤ i ∧ ∃ t r, ys = .str "N2" t :: r)
  | false, i, ys => (i = 0 ∧ ys = []) ∨ (1 ≤ i ∧ ∃ t r, ys = .str "N1" t :: r)
theorem lfJ_grow {b : Bool} {i : Nat} {ys zs : List Value} (h : LfJ b i ys) (hi : 2 ≤ i) : LfJ b (i + 1) (ys ++ zs) := by
  cases b with
  | true =>
    rcases h with ⟨q, _⟩ | ⟨_, t, r, rfl⟩
    · omega
    · exact .inr ⟨by omega, t, r ++ zs, rfl⟩
  | false =>
    rcases h with ⟨q, _⟩ | ⟨_, t, r, rfl⟩
    · omega
    · exact .inr ⟨by omega, t, r ++ zs, rfl⟩
theorem lfJ_0 {b : Bool} : LfJ b 0 [] := by
  cases b with
  | true => exact .inl ⟨Nat.zero_le _, rfl⟩
  | false => exact .inl ⟨rfl, rfl⟩
theorem lfJ_0t {ys : List Value} (h : LfJ true 0 ys) : LfJ true 1 ys := by
  rcases h with ⟨_, q⟩ | ⟨q, _⟩
  · exact .inl ⟨Nat.le_refl _, q⟩
  · omega
theorem lfJ_0f {ys : List Value} {t : Tok} (h : LfJ false 0 ys) : LfJ false 1 (ys ++ [.str "N1" t]) := by
  rcases h with ⟨_, rfl⟩ | ⟨q, _⟩
  · exact .inr ⟨Nat.le_refl _, _, _, rfl⟩
  · omega
theorem lfJ_1 {b : Bool} {ys : List Value} {t : Tok} (h : LfJ b 1 ys) : LfJ b 2 (ys ++ [.str "N2" t]) := by
  cases b with
  | true =>
    rcases h with ⟨_, rfl⟩ | ⟨q, _⟩
    · exact .inr ⟨Nat.le_refl _, _, _, rfl⟩
    · omega
  | false =>
    rcases h with ⟨q, _⟩ | ⟨_, t, r, rfl⟩
    · omega
    · exact .inr ⟨by omega, t, _, rfl⟩
theorem lfJ_end {b : Bool} {n : Nat} {ys : List Value} (h : LfJ b (n + 1) ys) (hq : b = true → 2 ≤ n) : ∃ t r, ys = .str (if b then "N2" else "N1") t :: r := by
  cases b with
  | true =>
    rcases h with ⟨q, _⟩ | ⟨_, q⟩
    · have := hq rfl; omega
    · exact q
  | false =>
    rcases h with ⟨q, _⟩ | ⟨_, q⟩
    · omega
    · exact q
theorem wd48 : True := by
  (k_with "M.F compend" => (unfold Stop PyProof.Rows.LCg.CompEnd; refine ⟨_, _, _, rfl, by assumption, by assumption, by assumption, trivial, ?_⟩))
  trivial
section
open PyProof.Rows.LCg
variable {w : World} {dp un : Nat} {gd : Option (List Code)} {cn : Str} {cs : Scope} {a : Addr} {ccd : Value} {cl : List (Str × Addr)} {outer : List Env} {A₀ : Around} {base h₀ : Heap} {L : Addr} {m mg mb : Str → Option Value} {mean : ExcName → Option Value} {s : Shared} {Q E : Value → Shared → Prop}
theorem lfree_k {hl : Addr} {vs : List Value} {hs : List Str} {t : Tok}
    (B : Below A₀ base outer h₀) (F : Fr h₀ L s.heap m) (X : (hd.heap_39 w.params).In h₀) (T : Top pv lo mean mg mb h₀) (hk : cs.kind = .function) (hdp : dp + 10 < recursionLimit) (hun : un + 200 < cLine)
    {news : List (Addr × Obj)} (N₀ : News h₀ L s.heap news) (hS : s.heap.IsList hl vs.toArray) (hi : StrsAre vs hs) (hl3 : hs.length ≤ 3) (h2 : (hs.any fun x => x == Str.ofString "N2") = false)
    (hret : ∀ x t h' tk', Kept [] s.heap h' → Fr h₀ L h' m → News h₀ L h' news → x = (if hs.any (fun x => x == Str.ofString "N") then (if hs.any (fun x => x == Str.ofString "N1") then Str.ofString "N2" else "N1") else "N") → Q (.str x t) { s with heap := h', toks := tk' }) :
    wpAny (model prg w) (ktrTop dp un gd cn cs L a ccd cl outer) (call (.ref 262) [.str "N" t, .ref hl]) Q E s := by
  have N : News h₀ L s.heap [] := News.nil
  refine wpAny_call ?_
  walk_at "F enterC"
  rename Kept _ s.heap _ => KG
  have hS' := KG.list hS (fun q => nomatch q)
  have stopC := StopComp.mk
  k_steps
  · refine (show _ → Stop _ from id) ?_
    rename Fr _ _ _ _ => F2
    refine PyProof.Rows.LCt.ListComp_T (F₀ := F2) (by with_unfolding_all rfl) (by decide) (by rfl) (by decide) (by rfl) ?_
    k_steps
    refine (show _ → Stop _ from id) ?_
    rename Fr _ _ _ _ => F2
    rename News _ _ _ _ => N2
    rename IsRange _ _ _ _ _ _ _ _ => hR
    refine PyProof.Rows.LCt.CompSrcT.range (n := hs.length + 1) (by rfl) F2 N2 hR ?_ ?_ ?_ (fun g => ?_)
    · exact rsm (by omega) (.inl rfl)
    · exact rsz (by omega)
    · rw [sizeLine_eq]; omega
    rename (hs.any _) = true => hN
    have hq : (hs.any fun x => x == Str.ofString "N1") = true → 2 ≤ hs.length := fun h1 => two_of (by decide) hN h1
    refine compT_inv (fun i ys nx => nx = _ ∧ LfJ (hs.any fun x => x == Str.ofString "N1") i ys)
      ⟨rfl, lfJ_0⟩ ?_ ?_
    · rintro i v I oI C oC D m₂ h tk E' ys nx hi3 ⟨t9, rfl⟩ ⟨rfl, hJ⟩ hC hx F3 N3 off ne
      clear F2 N2
      have hi4 : i < 4 := by omega
      have hi5 : i = 0 ∨ i = 1 ∨ i = 2 ∨ i = 3 := by omega
      rcases hi5 with rfl | rfl | rfl | rfl
      · have e0 : Str.ofString "N" ++ Str.ofString (toString (1 + ((0 : Nat) : Int))) = Str.ofString "N1" := by decide +kernel
        k_steps
        · rename (List.any _ _) = true => h1
          rw [e0] at h1
          rw [h1] at hJ ⊢
          walk_at "F compend"; exact ⟨rfl, lfJ_0t hJ⟩
        · rename (List.any _ _) = false => h1
          rw [e0] at h1 ⊢
          rw [h1] at hJ ⊢
          walk_at "F compend"; exact ⟨rfl, lfJ_0f hJ⟩
      · have e0 : Str.ofString "N" ++ Str.ofString (toString (1 + ((1 : Nat) : Int))) = Str.ofString "N2" := by decide +kernel
        k_steps
        · rename (List.any _ _) = true => h1
          rw [e0, h2] at h1
          cases h1
        · rw [e0] at ⊢
          walk_at "F compend"; exact ⟨rfl, lfJ_1 hJ⟩
      · k_steps
        · walk_at "F compend"
          have := lfJ_grow (zs := []) hJ (by decide)
          rw [List.append_nil] at this
          exact ⟨rfl, this⟩
        · walk_at "F compend"; exact ⟨rfl, lfJ_grow hJ (by decide)⟩
      · k_steps
        · walk_at "F compend"
          have := lfJ_grow (zs := []) hJ (by decide)
          rw [List.append_nil] at this
          exact ⟨rfl, this⟩
        · walk_at "F compend"; exact ⟨rfl, lfJ_grow hJ (by decide)⟩
    · rintro ys nx ⟨rfl, hJ⟩
      intro D h3 tk3 F3 N3 off
      have hy := lfJ_end hJ hq
      obtain ⟨t9, r9, rfl⟩ := hy
      clear hJ F2 N2
      k_steps
      rename Kept _ s.heap (Shared.heap _) => hK
      exact hret _ _ _ _ hK (hK.fr0 F) (hK.news0 N₀) (by rw [if_pos hN])
  · rename Kept _ s.heap (Shared.heap _) => hK
    rename (hs.any _) = false => h0
    exact hret _ _ _ _ hK (hK.fr0 F) (hK.news0 N₀) (by rw [h0]; rfl)
end
theorem offTText : True := by w_top off; trivial
section
variable {w : World} {dp un : Nat} {gd : Option (List Code)} {cn : Str} {cs : Scope} {a : Addr} {ccd : Value} {cl : List (Str × Addr)} {outer : List Env} {A₀ : Around} {base h₀ : Heap} {L : Addr} {m mg mb : Str → Option Value} {mean : ExcName → Option Value} {s : Shared} {Q E : Value → Shared → Prop}
theorem nameOfS_k {na nd aa sa ra ta td fl pl hl : Addr} {nk tk : Nat → Tok} {scs : List (Addr × List (Str × Int))} {al : List (Str × Str)} {num size len : Int} {form mo lb x : Str} {bv : Value}
    (B : Below A₀ base outer h₀) (F : Fr h₀ L s.heap m) (X : (hd.heap_39 w.params).In h₀) (T : Top pv lo mean mg mb h₀) (hk : cs.kind = .function) (hdp : dp + 20 < recursionLimit) (hun : un + 400 < cLine)
    {news : List (Addr × Obj)} (N₀ : News h₀ L s.heap news) (hM : NmAt w s.heap na nd aa sa ra nk scs al)
    (hT : InstAt s.heap ta (instObj 182 td) 182 (some (tyD w.params tk num form size bv len fl pl hl mo lb)))
    (hf : (PySem.Spec.lookup (.str form) basicD).isSome = false) (hlb : lb.length ≤ 50) (hmo : mo.length ≤ 50) (hx : nameOf (scs.map (·.2)) al num mo lb = some x)
    (hret : ∀ t h' tk', Kept [] s.heap h' → Fr h₀ L h' m → News h₀ L h' news → Q (.str x t) { s with heap := h', toks := tk' }) :
    wpAny (model prg w) (ktrTop dp un gd cn cs L a ccd cl outer) (call (.ref 94) [.ref na, .ref ta]) Q E s :=
  nameOf_k B F X T hk hdp hun N₀ hM hT hf hlb hmo (by rw [hx]; exact hret)
theorem nameOfN_k {na nd aa sa ra ta td fl pl hl : Addr} {nk tk : Nat → Tok} {scs : List (Addr × List (Str × Int))} {al : List (Str × Str)} {num size len : Int} {form mo lb : Str} {bv : Value}
    (B : Below A₀ base outer h₀) (F : Fr h₀ L s.heap m) (X : (hd.heap_39 w.params).In h₀) (T : Top pv lo mean mg mb h₀) (hk : cs.kind = .function) (hdp : dp + 20 < recursionLimit) (hun : un + 400 < cLine)
    {news : List (Addr × Obj)} (N₀ : News h₀ L s.heap news) (hM : NmAt w s.heap na nd aa sa ra nk scs al)
    (hT : InstAt s.heap ta (instObj 182 td) 182 (some (tyD w.params tk num form size bv len fl pl hl mo lb)))
    (hf : (PySem.Spec.lookup (.str form) basicD).isSome = false) (hlb : lb.length ≤ 50) (hmo : mo.length ≤ 50) (hx : nameOf (scs.map (·.2)) al num mo lb = none)
    (hret : ∀ h' tk', Kept [] s.heap h' → Fr h₀ L h' m → News h₀ L h' news → Q .none { s with heap := h', toks := tk' }) :
    wpAny (model prg w) (ktrTop dp un gd cn cs L a ccd cl outer) (call (.ref 94) [.ref na, .ref ta]) Q E s :=
  nameOf_k B F X T hk hdp hun N₀ hM hT hf hlb hmo (by rw [hx]; exact fun t h' tk' => hret h' tk')
end
theorem wd49 : True := by
  (k_with "M.call ref" => first | ((with_reducible show wpAny _ _ (call (.ref 94) _) _ _ _); k_dflt (refine nameOfS_k (by k_asm) (by k_asm) (by k_asm) (by k_asm) (by first | exact rfl | assumption) (by ktr_room) (by ktr_units) (by k_asm) (by first | assumption | (refine NmAt.upF (by assumption) (by assumption))) (by k_inst) (by assumption) (by first | assumption | decide) (by first | assumption | decide) (by assumption) ?_; k_whole); intro _ _ _ _ _ _; (try k_sweep)) | fail)
  trivial
theorem wd50 : True := by
  (k_with "M.call ref" => first | ((with_reducible show wpAny _ _ (call (.ref 94) _) _ _ _); k_dflt (refine nameOfN_k (by k_asm) (by k_asm) (by k_asm) (by k_asm) (by first | exact rfl | assumption) (by ktr_room) (by ktr_units) (by k_asm) (by first | assumption | (refine NmAt.upF (by assumption) (by assumption))) (by k_inst) (by assumption) (by first | assumption | decide) (by first | assumption | decide) (by assumption) ?_; k_whole); intro _ _ _ _ _; (try k_sweep)) | fail)
  trivial
section
variable {w : World} {dp un : Nat} {gd : Option (List Code)} {cn : Str} {cs : Scope} {a : Addr} {ccd : Value} {cl : List (Str × Addr)} {outer : List Env} {A₀ : Around} {base h₀ : Heap} {L : Addr} {m mg mb : Str → Option Value} {mean : ExcName → Option Value} {s : Shared} {Q E : Value → Shared → Prop}
/-- type_text where name_of gives a name -/
theorem ttNamed_k {na nd aa sa ra ta td fl pl hl : Addr} {nk tk : Nat → Tok} {scs : List (Addr × List (Str × Int))} {al : List (Str × Str)} {num size len : Int} {form mo lb x : Str} {bv : Value}
    (B : Below A₀ base outer h₀) (F : Fr h₀ L s.heap m) (X : (hd.heap_39 w.params).In h₀) (T : Top pv lo mean mg mb h₀) (hk : cs.kind = .function) (hdp : dp + 30 < recursionLimit) (hun : un + 600 < cLine)
    {news : List (Addr × Obj)} (N₀ : News h₀ L s.heap news) (hM : NmAt w s.heap na nd aa sa ra nk scs al)
    (hT : InstAt s.heap ta (instObj 182 td) 182 (some (tyD w.params tk num form size bv len fl pl hl mo lb)))
    (hf : (PySem.Spec.lookup (.str form) basicD).isSome = false) (hlb : lb.length ≤ 50) (hmo : mo.length ≤ 50) (hx : nameOf (scs.map (·.2)) al num mo lb = some x)
    (hret : ∀ t h' tk', Kept [] s.heap h' → Fr h₀ L h' m → News h₀ L h' news → Q (.str x t) { s with heap := h', toks := tk' }) :
    wpAny (model prg w) (ktrTop dp un gd cn cs L a ccd cl outer) (call (.ref 129) [.ref na, .ref ta]) Q E s := by
  have N : News h₀ L s.heap [] := News.nil
  refine wpAny_call ?_
  walk_at "F enter"
  rename Kept _ s.heap _ => KG
  have hT' := instKept KG hT (fun q => nomatch q) (fun q => nomatch q)
  have hM' := hM.keep KG
  have hI' := hM'.inst
  k_steps
  rename Kept _ s.heap (Shared.heap _) => hK
  exact hret _ _ _ hK (hK.fr0 F) (hK.news0 N₀)
theorem ttBasic_k {na nd aa sa ra ta td fl pl hl : Addr} {nk tk : Nat → Tok} {scs : List (Addr × List (Str × Int))} {al : List (Str × Str)} {num size len : Int} {form mo lb x : Str} {bv : Value}
    (B : Below A₀ base outer h₀) (F : Fr h₀ L s.heap m) (X : (hd.heap_39 w.params).In h₀) (T : Top pv lo mean mg mb h₀) (hk : cs.kind = .function) (hdp : dp + 30 < recursionLimit) (hun : un + 600 < cLine)
    {news : List (Addr × Obj)} (N₀ : News h₀ L s.heap news) (hM : NmAt w s.heap na nd aa sa ra nk scs al)
    (hT : InstAt s.heap ta (instObj 182 td) 182 (some (tyD w.params tk num form size bv len fl pl hl mo lb)))
    (hf : PySem.Spec.lookup (.str form) basicD = some (.str x))
    (hret : ∀ t h' tk', Kept [] s.heap h' → Fr h₀ L h' m → News h₀ L h' news → Q (.str x t) { s with heap := h', toks := tk' }) :
    wpAny (model prg w) (ktrTop dp un gd cn cs L a ccd cl outer) (call (.ref 129) [.ref na, .ref ta]) Q E s := by
  have N : News h₀ L s.heap [] := News.nil
  refine wpAny_call ?_
  walk_at "F enter"
  rename Kept _ s.heap _ => KG
  have hT' := instKept KG hT (fun q => nomatch q) (fun q => nomatch q)
  have hM' := hM.keep KG
  have hI' := hM'.inst
  k_steps
  rename Kept _ s.heap (Shared.heap _) => hK
  exact hret _ _ _ hK (hK.fr0 F) (hK.news0 N₀)
end
theorem offTypes : True := by w_top off; trivial
theorem wd51 : True := by
  (k_with "M.F enterD" => first | (k_dflt (refine fEnter (by k_asm) (by k_asm) (by k_asm) (by k_asm) (by k_asm) (by exact rfl) (by exact rfl) (by assumption) (by k_is) (by k_is) (by ktr_room) (by exact binds_K (by k_in) rfl (by k_is) rfl rfl rfl) (by exact locs rfl) (by walk_at "F as") ?_ (by exact rfl) (by exact rfl) (by exact rfl) (by decide); k_whole; intro _ _ _ _ _ _ _ _ _ _ _ _ _ _ _ _)) | fail)
  trivial
noncomputable def pick : List Nat → Nat → Nat
  | [], _ => 0
  | a :: _, 0 => a
  | _ :: r, n + 1 => pick r n
local macro_rules | `(tactic| k_get) => `(tactic| walk_at "F k_get")
theorem wd52 : True := by
  (k_with "M.F k_get" => with_unfolding_all rfl)
  trivial
theorem putHead {P : Params} {t : Tok} {u v k : Value} {h : Int} {r : List DictEntry} {n : Nat} : (putL (Str.ofString "counter") h k v (ent P (Str.ofString "counter") t u :: r), putN (Str.ofString "counter") (ent P (Str.ofString "counter") t u :: r) n) = (ent P (Str.ofString "counter") t v :: r, n) := by
  rfl
section
variable {w : World} {dp un : Nat} {gd : Option (List Code)} {cn : Str} {cs : Scope} {a : Addr} {ccd : Value} {cl : List (Str × Addr)} {outer : List Env} {A₀ : Around} {base h₀ : Heap} {L : Addr} {m mg mb : Str → Option Value} {mean : ExcName → Option Value} {s : Shared} {Q E : Value → Shared → Prop}
theorem tyInit_ct {x dx : Addr} {num size : Int} {form : Str} {t0 t1 t2 : Tok} {R : Result → Shared → Prop}
    (B : Below A₀ base outer h₀) (F : Fr h₀ L s.heap m) (X : (hd.heap_39 w.params).In h₀) (T : Top pv lo mean mg mb h₀) (hk : cs.kind = .function) (hdp : dp + 10 < recursionLimit) (hun : un + 200 < cLine)
    (hts : dx < x) (N : News h₀ L s.heap [(x, instObj 182 dx), (dx, dictOf [] 0)])
    (hret : ∀ tk fl pl hl h' tk', Kept [x, dx] s.heap h' → 
      (∀ p ∈ [(x, instObj 182 dx), (dx, tyD w.params tk num form size .none 0 fl pl hl "" "")], h'.get? p.1 = some p.2) → (∀ p ∈ [(fl, listOf #[] 0), (pl, listOf #[] 0), (hl, listOf #[] 0)], h'.get? p.1 = some p.2 ∧ s.heap.get? p.1 = none) → R (.ok (.ret .none)) { s with heap := h', toks := tk' }) :
    codeAny (model prg w) (ktrTop dp un gd cn cs L a ccd cl outer) (.call (.ref 179) ⟨[.ref x, .int num t0, .str form t1, .int size t2], []⟩) R s := by
  walk_at "F enter"
  have hts' := ltN hts
  k_steps
  rename Kept _ s.heap (Shared.heap _) => hK
  rename (∀ p, p ∈ _ → _ ∧ _) => hN
  dsimp only [List.map_cons, List.map_nil] at hK hN
  refine hret (pick [_, _, _, _, _, _, _, _, _, _, _, _, _, _, _, _, _, _, _, _]) _ _ _ _ _ hK
    (List.forall_mem_cons.mpr ⟨(hN (x, _) (by k_mem)).1, List.forall_mem_cons.mpr ⟨(hN (dx, _) (by k_mem)).1, List.forall_mem_nil _⟩⟩)
    (List.forall_mem_cons.mpr ⟨⟨(hN (_, _) (by k_mem)).1, (hN (_, _) (by k_mem)).2 ?_⟩, List.forall_mem_cons.mpr ⟨⟨(hN (_, _) (by k_mem)).1, (hN (_, _) (by k_mem)).2 ?_⟩, List.forall_mem_cons.mpr ⟨⟨(hN (_, _) (by k_mem)).1, (hN (_, _) (by k_mem)).2 ?_⟩, List.forall_mem_nil _⟩⟩⟩)
  all_goals walk_at "F notin"
end
/-- the counter is set in the dict's head -/
structure SetHd : Prop where
theorem wd53 : True := by
  (k_with "M.setAttr ref" => first | ((have _ := (by with_reducible assumption : SetHd)); k_here; k_dflt (refine set_dict (by k_asm) (by k_asm) (by k_asm) (by k_inst) (by exact rfl) (by k_is) (by k_is) (by k_is) (by k_is) (by exact rfl) (by exact putHead) (by k_upd) (by (simp only [List.length_cons]; omega)) ?_; k_whole; intro _ _ _; (try k_sweep))) | fail)
  trivial
section
variable {w : World} {dp un : Nat} {gd : Option (List Code)} {cn : Str} {cs : Scope} {a : Addr} {ccd : Value} {cl : List (Str × Addr)} {outer : List Env} {A₀ : Around} {base h₀ : Heap} {L : Addr} {m mg mb : Str → Option Value} {mean : ExcName → Option Value} {s : Shared} {Q E : Value → Shared → Prop}
theorem new2_ct {ts tsd kd : Addr} {c size : Int} {k0 k1 k2 t1 t2 : Tok} {rest : List DictEntry} {n : Nat} {form : Str}
    (B : Below A₀ base outer h₀) (F : Fr h₀ L s.heap m) (X : (hd.heap_39 w.params).In h₀) (T : Top pv lo mean mg mb h₀) (hk : cs.kind = .function) (hdp : dp + 20 < recursionLimit) (hun : un + 400 < cLine)
    (hts : ts ≠ tsd) (hr : rest.length ≤ 20)
    (N : News h₀ L s.heap [(ts, instObj 239 tsd), (tsd, dictOf (ent w.params "counter" k0 (.int c k1) :: ent w.params "known" k2 (.ref kd) :: rest) n)])
    (hret : ∀ tk k1' x dx fl pl hl h' tk', Kept [ts, tsd] s.heap h' → h'.get? ts = some (instObj 239 tsd) → h'.get? tsd = some (dictOf (ent w.params "counter" k0 (.int (c + 1) k1') :: ent w.params "known" k2 (.ref kd) :: rest) n) →
      (∀ p ∈ [(x, instObj 182 dx), (dx, tyD w.params tk (c + 1) form size .none 0 fl pl hl "" ""), (fl, listOf #[] 0), (pl, listOf #[] 0), (hl, listOf #[] 0)], h'.get? p.1 = some p.2 ∧ s.heap.get? p.1 = none) → Q (.ref x) { s with heap := h', toks := tk' }) :
    wpAny (model prg w) (ktrTop dp un gd cn cs L a ccd cl outer) (call (.ref 229) [.ref ts, .str form t1, .int size t2]) Q E s := by
  refine wpAny_call ?_
  walk_at "F enterD"
  have hts' := neN hts
  have sH := SetHd.mk
  k_steps
  clear sH
  refine' call_cls (fI := 179) ?k1 ?k2 ?k3 ?k4 ?k5 ?k6 ?_
  (case k1 => k_asm); (case k2 => k_asm); (case k3 => k_asm); (case k4 => k_is); (case k5 => k_is); (case k6 => k_is)
  intro x dx h1 F1 N1 l1 l2
  k_lt l1
  k_lt2 l2
  refine tyInit_ct (dp := dp + 1 + 1) (un := un + 3 + 1) (by k_asm) F1 (by k_asm) (by k_asm) (by first | exact rfl | assumption) (by ktr_room) (by ktr_units) l2 (fun p hp => N1 p (List.mem_append_left _ hp)) ?_
  intro tk fl pl hl h2 tk2 k2 hx hn
  have hx1 : h2.get? x = some (instObj 182 dx) := hx (x, _) (by k_mem)
  have hx2 : h2.get? dx = some (tyD w.params tk (c + 1) form size .none 0 fl pl hl "" "") := hx (dx, _) (by k_mem)
  have hn1 : h2.get? fl = some (listOf #[] 0) ∧ h1.get? fl = none := hn (fl, _) (by k_mem)
  have hn2 : h2.get? pl = some (listOf #[] 0) ∧ h1.get? pl = none := hn (pl, _) (by k_mem)
  have hn3 : h2.get? hl = some (listOf #[] 0) ∧ h1.get? hl = none := hn (hl, _) (by k_mem)
  have F2 := k2.fr F1 (List.forall_mem_cons.mpr ⟨⟨(N1 (x, _) (by k_mem)).2.1, (N1 (x, _) (by k_mem)).2.2⟩, List.forall_mem_cons.mpr ⟨⟨(N1 (dx, _) (by k_mem)).2.1, (N1 (dx, _) (by k_mem)).2.2⟩, List.forall_mem_nil _⟩⟩)
  have N2 := k2.news (fun p hp => N1 p (List.mem_cons_of_mem _ (List.mem_cons_of_mem _ hp))) (List.forall_mem_cons.mpr ⟨by walk_at "F notin", List.forall_mem_cons.mpr ⟨by walk_at "F notin", List.forall_mem_nil _⟩⟩)
  have N3 := newsCons ⟨hx1, (N1 (x, _) (by k_mem)).2⟩ (newsCons ⟨hx2, (N1 (dx, _) (by k_mem)).2⟩ (newsCons (newOne F1 hn1.1 hn1.2) (newsCons (newOne F1 hn2.1 hn2.2) (newsCons (newOne F1 hn3.1 hn3.2) N2))))
  have gx := News.get N1 (.head _)
  have gdx := News.get N1 (a := dx) (.tail _ (.head _))
  have gts := News.get N1 (a := ts) (.tail _ (.tail _ (.head _)))
  have gtsd := News.get N1 (a := tsd) (.tail _ (.tail _ (.tail _ (.head _))))
  have q1 := And.intro (neGet hn1.2 gx) (And.intro (neGet hn1.2 gdx) (And.intro (neGet hn1.2 gts) (neGet hn1.2 gtsd)))
  have q2 := And.intro (neGet hn2.2 gx) (And.intro (neGet hn2.2 gdx) (And.intro (neGet hn2.2 gts) (neGet hn2.2 gtsd)))
  have q3 := And.intro (neGet hn3.2 gx) (And.intro (neGet hn3.2 gdx) (And.intro (neGet hn3.2 gts) (neGet hn3.2 gtsd)))
  obtain ⟨qa1, qa2, qa3, qa4⟩ := q1
  obtain ⟨qb1, qb2, qb3, qb4⟩ := q2
  obtain ⟨qc1, qc2, qc3, qc4⟩ := q3
  clear N1 N2
  refine ⟨rfl, ?_⟩
  k_steps
  rename Kept _ s.heap (Shared.heap _) => hK
  rename (∀ p, p ∈ _ → _ ∧ _) => hN
  dsimp only [List.map_cons, List.map_nil] at hK hN
  refine hret (pick [_, _, _, _, _, _, _, _, _, _, _, _, _, _, _, _, _, _, _, _]) _ x dx fl pl hl _ _ hK (hN (ts, _) (by k_mem)).1 (hN (tsd, _) (by k_mem)).1
    (List.forall_mem_cons.mpr ⟨⟨(hN (_, _) (by k_mem)).1, (hN (_, _) (by k_mem)).2 ?_⟩, List.forall_mem_cons.mpr ⟨⟨(hN (_, _) (by k_mem)).1, (hN (_, _) (by k_mem)).2 ?_⟩, List.forall_mem_cons.mpr ⟨⟨(hN (_, _) (by k_mem)).1, (hN (_, _) (by k_mem)).2 ?_⟩, List.forall_mem_cons.mpr ⟨⟨(hN (_, _) (by k_mem)).1, (hN (_, _) (by k_mem)).2 ?_⟩, List.forall_mem_cons.mpr ⟨⟨(hN (_, _) (by k_mem)).1, (hN (_, _) (by k_mem)).2 ?_⟩, List.forall_mem_nil _⟩⟩⟩⟩⟩)
  all_goals walk_at "F notin"
/-- what Types.known holds -/
noncomputable def KnO (w : World) (o : Obj) (xs : List (List Str × Addr × Value)) : Prop := o.ExactDict ∧ ∃ es ep, o.data = .dict es ep ∧ es.toList = xs.map (entryOfKey (tupleKind (strKind prg w))) ∧ (xs.map (·.1)).Nodup
theorem atKey_none {K : Type} [DecidableEq K] {xs : List (K × Addr × Value)} {k : K} (h : k ∉ xs.map (·.1)) : atKey xs k = none := by
  unfold atKey
  rw [Option.map_eq_none_iff, List.find?_eq_none]
  intro x hx e
  exact h (List.mem_map.mpr ⟨x, hx, by simpa using e⟩)
theorem newsSame {h₀ h h' : Heap} {L d : Addr} {news : List (Addr × Obj)} (N : News h₀ L h news) (hs : Heap.SameBut d h h') (hne : ∀ p ∈ news, p.1 ≠ d) : News h₀ L h' news :=
  fun p hp => ⟨(hs.2 p.1 (hne p hp)).trans (N p hp).1, (N p hp).2⟩
theorem newsInit8 {h₀ h : Heap} {L : Addr} {a b c d e f g i j : Addr × Obj} (N : News h₀ L h [a, b, c, d, e, f, g, i, j]) : News h₀ L h [a, b, c, d, e, f, g, i] := fun p hp => N p (List.mem_append_left [j] hp)
theorem new4_ct {ts tsd kd : Addr} {c size : Int} {k0 k1 k2 t1 t2 t3 t4 : Tok} {rest : List DictEntry} {n : Nat} {form mo lb : Str} {o : Obj} {xs : List (List Str × Addr × Value)}
    (B : Below A₀ base outer h₀) (F : Fr h₀ L s.heap m) (X : (hd.heap_39 w.params).In h₀) (T : Top pv lo mean mg mb h₀) (hk : cs.kind = .function) (hdp : dp + 20 < recursionLimit) (hun : un + 400 < cLine)
    (hts : ts ≠ tsd) (htk : ts ≠ kd) (htk2 : tsd ≠ kd) (hr : rest.length ≤ 20)
    (N : News h₀ L s.heap [(ts, instObj 239 tsd), (tsd, dictOf (ent w.params "counter" k0 (.int c k1) :: ent w.params "known" k2 (.ref kd) :: rest) n), (kd, o)])
    (hko : KnO w o xs) (hxs : ∀ x ∈ xs, IsTupleKey (strKind prg w) s.heap x.1 x.2.1 ∧ x.2.1 ∉ [ts, tsd, kd]) (hnew : [mo, lb] ∉ xs.map (·.1)) (hxl : xs.length ≤ 100) (hlb : (lb != "") = true)
    (hret : ∀ tk k1' x dx fl pl hl tp tpo o' h' tk', Kept [ts, tsd, kd] s.heap h' → h'.get? ts = some (instObj 239 tsd) → h'.get? tsd = some (dictOf (ent w.params "counter" k0 (.int (c + 1) k1') :: ent w.params "known" k2 (.ref kd) :: rest) n) →
      h'.get? kd = some o' → KnO w o' (xs ++ [([mo, lb], tp, .ref x)]) → TupKeyObj (strKind prg w) [mo, lb] tpo →
      (∀ p ∈ [(x, instObj 182 dx), (dx, tyD w.params tk (c + 1) form size .none 0 fl pl hl mo lb), (fl, listOf #[] 0), (pl, listOf #[] 0), (hl, listOf #[] 0), (tp, tpo)], h'.get? p.1 = some p.2 ∧ s.heap.get? p.1 = none) → Q (.ref x) { s with heap := h', toks := tk' }) :
    wpAny (model prg w) (ktrTop dp un gd cn cs L a ccd cl outer) (call (.ref 229) [.ref ts, .str form t1, .int size t2, .str mo t3, .str lb t4]) Q E s := by
  refine wpAny_call ?_
  walk_at "F enterD"
  rename Kept _ s.heap _ => KG
  have hts' := neN hts
  have htk' := neN htk
  have htk2' := neN htk2
  have sH := SetHd.mk
  k_steps
  clear sH
  refine' call_cls (fI := 179) ?k1 ?k2 ?k3 ?k4 ?k5 ?k6 ?_
  (case k1 => k_asm); (case k2 => k_asm); (case k3 => k_asm); (case k4 => k_is); (case k5 => k_is); (case k6 => k_is)
  intro x dx h1 F1 N1 l1 l2
  k_lt l1
  k_lt2 l2
  refine tyInit_ct (dp := dp + 1 + 1) (un := un + 3 + 1) (by k_asm) F1 (by k_asm) (by k_asm) (by first | exact rfl | assumption) (by ktr_room) (by ktr_units) l2 (fun p hp => N1 p (List.mem_append_left _ hp)) ?_
  intro tk fl pl hl h2 tk2 k2 hx hn
  have hx1 : h2.get? x = some (instObj 182 dx) := hx (x, _) (by k_mem)
  have hx2 : h2.get? dx = some (tyD w.params tk (c + 1) form size .none 0 fl pl hl "" "") := hx (dx, _) (by k_mem)
  have hn1 : h2.get? fl = some (listOf #[] 0) ∧ h1.get? fl = none := hn (fl, _) (by k_mem)
  have hn2 : h2.get? pl = some (listOf #[] 0) ∧ h1.get? pl = none := hn (pl, _) (by k_mem)
  have hn3 : h2.get? hl = some (listOf #[] 0) ∧ h1.get? hl = none := hn (hl, _) (by k_mem)
  have F2 := k2.fr F1 (List.forall_mem_cons.mpr ⟨⟨(N1 (x, _) (by k_mem)).2.1, (N1 (x, _) (by k_mem)).2.2⟩, List.forall_mem_cons.mpr ⟨⟨(N1 (dx, _) (by k_mem)).2.1, (N1 (dx, _) (by k_mem)).2.2⟩, List.forall_mem_nil _⟩⟩)
  have N2 := k2.news (fun p hp => N1 p (List.mem_cons_of_mem _ (List.mem_cons_of_mem _ hp))) (List.forall_mem_cons.mpr ⟨by walk_at "F notin", List.forall_mem_cons.mpr ⟨by walk_at "F notin", List.forall_mem_cons.mpr ⟨by walk_at "F notin", List.forall_mem_nil _⟩⟩⟩)
  have N3 := newsCons ⟨hx1, (N1 (x, _) (by k_mem)).2⟩ (newsCons ⟨hx2, (N1 (dx, _) (by k_mem)).2⟩ (newsCons (newOne F1 hn1.1 hn1.2) (newsCons (newOne F1 hn2.1 hn2.2) (newsCons (newOne F1 hn3.1 hn3.2) N2))))
  have gx := News.get N1 (.head _)
  have gdx := News.get N1 (a := dx) (.tail _ (.head _))
  have gts := News.get N1 (a := ts) (.tail _ (.tail _ (.head _)))
  have gtsd := News.get N1 (a := tsd) (.tail _ (.tail _ (.tail _ (.head _))))
  have gkd := News.get N1 (a := kd) (.tail _ (.tail _ (.tail _ (.tail _ (.head _)))))
  have qk1 := neGet hn1.2 gkd
  have qk2 := neGet hn2.2 gkd
  have qk3 := neGet hn3.2 gkd
  have q1 := And.intro (neGet hn1.2 gx) (And.intro (neGet hn1.2 gdx) (And.intro (neGet hn1.2 gts) (neGet hn1.2 gtsd)))
  have q2 := And.intro (neGet hn2.2 gx) (And.intro (neGet hn2.2 gdx) (And.intro (neGet hn2.2 gts) (neGet hn2.2 gtsd)))
  have q3 := And.intro (neGet hn3.2 gx) (And.intro (neGet hn3.2 gdx) (And.intro (neGet hn3.2 gts) (neGet hn3.2 gtsd)))
  obtain ⟨qa1, qa2, qa3, qa4⟩ := q1
  obtain ⟨qb1, qb2, qb3, qb4⟩ := q2
  obtain ⟨qc1, qc2, qc3, qc4⟩ := q3
  clear N1 N2
  refine ⟨rfl, ?_⟩
  have sX := StopAt.mk (a := kd)
  k_steps
  refine Stop.out ?_
  clear sX
  rename Fr _ _ _ _ => F5
  rename News _ _ _ _ => N5
  obtain ⟨tp, e⟩ := nmA N5
  subst e
  obtain ⟨he0, es, ep, hd1, hd2, hd3⟩ := hko
  have htup := TupKeyObj.made (knd := strKind prg w) (ItemsAre.cons (strKind_is prg w mo t3) (ItemsAre.cons (strKind_is prg w lb t4) ItemsAre.nil))
  refine wpAny_setItem_heap (knd := tupleKind (strKind prg w)) (k := [mo, lb]) (xs := xs) (tupleKind_room_in1 (by ktr_units)) (htup.key (News.get N5 (.head _)))
    ⟨o, es, ep, News.get N5 (by k_mem), he0, hd1, hd2, fun y hy => ?_, hd3⟩ (fun h5 hm5 hs5 => ?_) (by rw [sizeLine_eq]; omega)
  · obtain ⟨⟨ok, its, nn, e1, e2⟩, e3⟩ := hxs y hy
    exact ⟨ok, its, nn, F5.keep _ _ (KG _ _ e1 e3), e2⟩
  · obtain ⟨o', es', ep', ho', hc', hd', he', _, hn'⟩ := hm5
    rw [storedH_new (atKey_none hnew)] at he' hn'
    have F6 := F5.change hs5 (N5 (kd, o) (by k_mem)).2.1 (N5 (kd, o) (by k_mem)).2.2
    have N6 := newsCons ⟨ho', (N5 (kd, o) (by k_mem)).2⟩ (newsSame (newsInit8 N5) hs5 (by k_all))
    clear F5 N5
    k_steps
    rename Kept _ s.heap (Shared.heap _) => hK
    rename (∀ p, p ∈ _ → _ ∧ _) => hN
    dsimp only [List.map_cons, List.map_nil] at hK hN
    refine hret (pick [_, _, _, _, _, _, _, _, _, _, _, _, _, _, _, _, _, _, _, _]) _ x dx fl pl hl tp _ o' _ _ hK (hN (ts, _) (by k_mem)).1 (hN (tsd, _) (by k_mem)).1 (hN (kd, _) (by k_mem)).1 ⟨hc', es', ep', hd', he', hn'⟩ htup
      (List.forall_mem_cons.mpr ⟨⟨(hN (_, _) (by k_mem)).1, (hN (_, _) (by k_mem)).2 ?_⟩, List.forall_mem_cons.mpr ⟨⟨(hN (_, _) (by k_mem)).1, (hN (_, _) (by k_mem)).2 ?_⟩, List.forall_mem_cons.mpr ⟨⟨(hN (_, _) (by k_mem)).1, (hN (_, _) (by k_mem)).2 ?_⟩, List.forall_mem_cons.mpr ⟨⟨(hN (_, _) (by k_mem)).1, (hN (_, _) (by k_mem)).2 ?_⟩, List.forall_mem_cons.mpr ⟨⟨(hN (_, _) (by k_mem)).1, (hN (_, _) (by k_mem)).2 ?_⟩, List.forall_mem_cons.mpr ⟨⟨(hN (_, _) (by k_mem)).1, (hN (_, _) (by k_mem)).2 ?_⟩, List.forall_mem_nil _⟩⟩⟩⟩⟩⟩)
    all_goals walk_at "F notin"
end
theorem offNest : True := by w_top off; trivial
/-- [elt for x in iter for y in x] -/
noncomputable abbrev nestE (elt iter : Expr) (x y : Str) (px py pz : Pos) (scope : Scope) (pos : Pos) : Expr := .ListComp elt [⟨.Name x px, iter, [], 0⟩, ⟨.Name y py, .Name x pz, [], 0⟩] scope pos
theorem nest_turn0 (elt iter : Expr) (x y : Str) (px py pz : Pos) (scope : Scope) (pos : Pos) (it acc : Value) (env : Env) :
    compTurn (nestE elt iter x y px py pz scope pos) 0 it acc env = (do
      standAt iter.pos
      match ← pyNext it with
      | none => pure (.done .next)
      | some v =>
        letOwnedTupleGo (.Name x px) it v
        assign (.Name x px) env v
        let x' ← eval (.Name x pz) env
        standAt pz
        let x' ← foldedSetIterable (.Name x pz) env x'
        let _ ← runOwn (.compStart (nestE elt iter x y px py pz scope pos) 1 (← holding [x'] (pyIter x')) acc env) env
        again (.compLoop (nestE elt iter x y px py pz scope pos) 0 it acc env)) := by rfl
theorem nest_turn1 (elt iter : Expr) (x y : Str) (px py pz : Pos) (scope : Scope) (pos : Pos) (it acc : Value) (env : Env) :
    compTurn (nestE elt iter x y px py pz scope pos) 1 it acc env = (do
      standAt pz
      match ← pyNext it with
      | none => pure (.done .next)
      | some v =>
        letOwnedTupleGo (.Name y py) it v
        assign (.Name y py) env v
        (do let _ ← call (.builtin "list.append") [acc, ← eval elt env])
        again (.compLoop (nestE elt iter x y px py pz scope pos) 1 it acc env)) := by rfl
section
open PyProof.Rows.LCg
variable {prog : Program} {w : World} {A : Around} {E : Value → Shared → Prop} {R : Result → Shared → Prop} {s : Shared}
theorem nest_start1 {elt iter : Expr} {x y : Str} {px py pz : Pos} {scope : Scope} {pos : Pos} {it acc : Value} {env : Env}
    (h0 : codeAny (model prog w) A (.compLoop (nestE elt iter x y px py pz scope pos) 1 it acc env) R s)
    (h : wpAny (model prog w) A (pyIter it) (fun it' s' => codeAny (model prog w) A (.compLoop (nestE elt iter x y px py pz scope pos) 1 it' acc env) R s')
      (notedBy (model prog w) A env fun x s' => R (.error x) s') s) :
    codeAny (model prog w) A (.compStart (nestE elt iter x y px py pz scope pos) 1 it acc env) R s := by
  refine codeAny_of_tree ?_
  show wpAny _ _ ((compStart (nestE elt iter x y px py pz scope pos) 1 it acc env).onRaise (fun x => do noteFrame x env; standAt theWindowsPlace)) _ _ s
  refine wpAny_notedAt ?_
  unfold compStart
  show wpAny _ _ (ask >>= _) _ _ s
  refine wpAny_bind (wpAny_askSetting (wpAny_ite ?_))
  split
  · first
      | exact wpAny_bind (wpAny_pure (wpAny_pure (And.intro rfl h0)))
      | exact wpAny_pure (And.intro rfl h0)
  · first
      | exact wpAny_bind (wpAny_rule (wpAny_bind (wpAny_standAt (wpAny_bind (wpAny_mono h (fun it' s' h' => wpAny_pure (And.intro rfl h')) fun _ _ x => x)))))
      | (refine wpAny_bind (wpAny_rule ?_); show wpAny _ _ (standAt pz >>= _) _ _ s; exact wpAny_bind (wpAny_standAt (wpAny_bind (wpAny_mono h (fun it' s' h' => wpAny_pure (And.intro rfl h')) fun _ _ x => x))))
/-- the inner loop -/
theorem nest_inner {elt iter : Expr} {x y : Str} {px py pz : Pos} {scope : Scope} {pos : Pos} {I ax D : Addr} {cenv : Env} {items zs₀ : List Value} {m : Str → Option Value} (F : Value → Value → Prop)
    (hh : A.handled = none) (hy : cenv.kindOf y = some .local) (hp : (cenv.scope.kind == .class || (cenv.scope.kind == .module && cenv.locals != cenv.globals)) = false)
    (hDI : D ≠ I) (hDC : D ≠ cenv.locals) (hIC : I ≠ cenv.locals) (haI : ax ≠ I) (haC : ax ≠ cenv.locals) (haD : ax ≠ D)
    (hit : s.heap.IsListIter I ax 0) (hl : s.heap.IsList ax items.toArray) (hacc : s.heap.PlainList D zs₀.toArray) (hn : s.heap.Ns cenv.locals m)
    (helt : ∀ v s₂ m₂ E', v ∈ items → s₂.heap.Ns cenv.locals m₂ → m₂ y = some v → (∀ b o, b ≠ cenv.locals → b ≠ I → b ≠ D → s.heap.get? b = some o → s₂.heap.get? b = some o) →
      wpAny (model prog w) A (eval elt cenv) (fun z s₃ => F v z ∧ Keeps s₂ s₃) E' s₂)
    (hsz : zs₀.length + items.length ≤ sizeLine)
    (hR : ∀ h' tk m' zs, h'.Ns cenv.locals m' → h'.PlainList D (zs₀ ++ zs).toArray → Paired F items zs →
      (∀ b o, b ≠ cenv.locals → b ≠ I → b ≠ D → s.heap.get? b = some o → h'.get? b = some o) → R (.ok .next) { s with heap := h', toks := tk }) :
    codeAny (model prog w) A (.compLoop (nestE elt iter x y px py pz scope pos) 1 (.ref I) (.ref D) cenv) R s := by
  refine codeAny_loop rfl (fun k s' => ∃ h' tk m' zs i, s' = { s with heap := h', toks := tk } ∧ h'.IsListIter I ax i ∧ h'.IsList ax items.toArray ∧ h'.PlainList D (zs₀ ++ zs).toArray ∧ h'.Ns cenv.locals m' ∧
      Paired F (items.take i) zs ∧ i ≤ items.length ∧ k = items.length + 1 - i ∧
      ∀ b o, b ≠ cenv.locals → b ≠ I → b ≠ D → s.heap.get? b = some o → h'.get? b = some o) ?_ (items.length + 1)
    ⟨s.heap, s.toks, m, [], 0, rfl, hit, hl, by simpa using hacc, hn, .nil, Nat.zero_le _, rfl, fun _ _ _ _ _ e => e⟩
  rintro k s' ⟨H, tk, m', zs, i, rfl, hit', hl', hacc', hn', hF, hi, rfl, hk⟩
  show wpAny _ A ((compTurn (nestE elt iter x y px py pz scope pos) 1 (.ref I) (.ref D) cenv).onRaise (fun x => do noteFrame x cenv; theTreesLotGoes x)) _ _ _
  refine wpAny_noted ?_
  rw [nest_turn1]
  refine wpAny_bind (wpAny_standAt (wpAny_bind ?_))
  cases hv : items[i]? with
  | none =>
    have hsz : items.length ≤ i := List.getElem?_eq_none_iff.mp hv
    refine wpAny_pyNext_list_end hh hit' hl' (by simpa using hsz) fun h₁ he₁ => ?_
    refine wpAny_pure (hR h₁ tk m' zs (hn'.extBut he₁ (Ne.symm hIC)) (hacc'.extBut he₁ hDI) ?_ fun b o hbC hbI hbD e => he₁ b o hbI (hk b o hbC hbI hbD e))
    rwa [List.take_of_length_le hsz] at hF
  | some v =>
    have hlt : i < items.length := (List.getElem?_eq_some_iff.mp hv).1
    have hmem : v ∈ items := List.mem_of_getElem? hv
    refine wpAny_pyNext_list_item hit' hl' (x := v) (by simpa using hv) fun h₁ hit₁ hs₁ => ?_
    refine wpAny_bind (wpAny_of_eq (a := ()) rfl ?_)
    refine wpAny_bind (wpAny_assign_Name (wpAny_storeName_local hy (hn'.sameBut hs₁ (Ne.symm hIC)) (fun h₂ hn₂ hs₂ => ?_) hp))
    refine wpAny_bind (wpAny_bind (wpAny_mono (helt v _ _ _ hmem hn₂ (by simp) fun b o hbC hbI hbD e => hs₂.extBut b o hbC (hs₁.extBut b o hbI (hk b o hbC hbI hbD e))) (fun z s₄ h₄ => wpAny_bind ?_) fun _ _ e => e))
    obtain ⟨hFy, h₄, tk₄, rfl, hk₄⟩ := h₄
    have up₃ : ∀ b o, b ≠ cenv.locals → b ≠ I → H.get? b = some o → h₄.get? b = some o := fun b o hbC hbI e => hk₄ b o (hs₂.extBut b o hbC (hs₁.extBut b o hbI e))
    have hit₃ : h₄.IsListIter I ax (i + 1) := (hit₁.extBut hs₂.extBut hIC).at fun o e => hk₄ _ o e
    have hl₃ : h₄.IsList ax items.toArray := hl'.at fun o e => up₃ ax o haC haI e
    have hacc₃ : h₄.PlainList D (zs₀ ++ zs).toArray := hacc'.at fun o e => up₃ D o hDC hDI e
    have hn₃ := hn₂.keeps hk₄
    have hlz := hF.length
    rw [List.length_take] at hlz
    refine wpAny_list_append_plain (hsz := (by simp; omega)) hacc₃ fun h₅ hl₅ hs₅ => ?_
    refine wpAny_pure (wpAny_pure ⟨rfl, items.length + 1 - (i + 1), by omega, h₅, tk₄, _, zs ++ [z], i + 1, rfl, hit₃.extBut hs₅.extBut (Ne.symm hDI), hl₃.extBut hs₅.extBut haD, ?_,
        hn₃.sameBut hs₅ (Ne.symm hDC), ?_, hlt, rfl, fun b o hbC hbI hbD e => hs₅.extBut b o hbD (up₃ b o hbC hbI (hk b o hbC hbI hbD e))⟩)
    · simpa using hl₅
    · rw [List.take_add_one, hv]
      exact Paired.snoc hF hFy
/-- the outer loop -/
theorem nest_outer {elt iter : Expr} {x y : Str} {px py pz : Pos} {scope : Scope} {pos : Pos} {I l D : Addr} {cenv : Env} {rows : List (Addr × List Value)} {m : Str → Option Value} (F : Value → Value → Prop)
    (hh : A.handled = none) (hx : cenv.kindOf x = some .local) (hy : cenv.kindOf y = some .local) (hp : (cenv.scope.kind == .class || (cenv.scope.kind == .module && cenv.locals != cenv.globals)) = false)
    (hkf : cenv.scope.kind = .function) (hdb : (x == ("__debug__" : Str)) = false)
    (hDI : D ≠ I) (hDC : D ≠ cenv.locals) (hIC : I ≠ cenv.locals) (haI : l ≠ I) (haC : l ≠ cenv.locals) (haD : l ≠ D)
    (hrI : ∀ r ∈ rows, r.1 ≠ I ∧ r.1 ≠ cenv.locals ∧ r.1 ≠ D)
    (hit : s.heap.IsListIter I l 0) (hl : s.heap.IsList l (rows.map fun r => Value.ref r.1).toArray) (hr : ∀ r ∈ rows, s.heap.IsList r.1 r.2.toArray) (hacc : s.heap.PlainList D #[]) (hn : s.heap.Ns cenv.locals m)
    (helt : ∀ v s₂ m₂ E', v ∈ rows.flatMap (·.2) → s₂.heap.Ns cenv.locals m₂ → m₂ y = some v → (∀ b o, b ≠ cenv.locals → b ≠ I → b ≠ D → s.heap.get? b = some o → s₂.heap.get? b = some o) →
      wpAny (model prog w) A (eval elt cenv) (fun z s₃ => F v z ∧ Keeps s₂ s₃) E' s₂)
    (hsz : (rows.flatMap (·.2)).length ≤ sizeLine)
    (hR : ∀ h' tk m' zs, h'.Ns cenv.locals m' → h'.PlainList D zs.toArray → Paired F (rows.flatMap (·.2)) zs →
      (∀ b o, b ≠ cenv.locals → b ≠ I → b ≠ D → s.heap.get? b = some o → h'.get? b = some o) → R (.ok .next) { s with heap := h', toks := tk }) :
    codeAny (model prog w) A (.compLoop (nestE elt iter x y px py pz scope pos) 0 (.ref I) (.ref D) cenv) R s := by
  have hsz0 : 0 < s.heap.objs.size := by obtain ⟨o, e, _⟩ := hit; exact Nat.lt_of_le_of_lt (Nat.zero_le _) (Heap.lt_size e)
  refine codeAny_loop rfl (fun k s' => ∃ h' tk m' zs i, s' = { s with heap := h', toks := tk } ∧ h'.IsListIter I l i ∧ h'.PlainList D zs.toArray ∧ h'.Ns cenv.locals m' ∧
      Paired F ((rows.take i).flatMap (·.2)) zs ∧ i ≤ rows.length ∧ k = rows.length + 1 - i ∧
      ∀ b o, b ≠ cenv.locals → b ≠ I → b ≠ D → s.heap.get? b = some o → h'.get? b = some o) ?_ (rows.length + 1)
    ⟨s.heap, s.toks, m, [], 0, rfl, hit, hacc, hn, .nil, Nat.zero_le _, rfl, fun _ _ _ _ _ e => e⟩
  rintro k s' ⟨H, tk, m', zs, i, rfl, hit', hacc', hn', hF, hi, rfl, hk⟩
  show wpAny _ A ((compTurn (nestE elt iter x y px py pz scope pos) 0 (.ref I) (.ref D) cenv).onRaise (fun x => do noteFrame x cenv; theTreesLotGoes x)) _ _ _
  refine wpAny_noted ?_
  rw [nest_turn0]
  refine wpAny_bind (wpAny_standAt (wpAny_bind ?_))
  have hl' : H.IsList l (rows.map fun r => Value.ref r.1).toArray := hl.at fun o e => hk l o haC haI haD e
  cases hv : rows[i]? with
  | none =>
    have hsz : rows.length ≤ i := List.getElem?_eq_none_iff.mp hv
    refine wpAny_pyNext_list_end hh hit' hl' (by simpa using hsz) fun h₁ he₁ => ?_
    refine wpAny_pure (hR h₁ tk m' zs (hn'.extBut he₁ (Ne.symm hIC)) (hacc'.extBut he₁ hDI) ?_ fun b o hbC hbI hbD e => he₁ b o hbI (hk b o hbC hbI hbD e))
    rwa [List.take_of_length_le hsz] at hF
  | some r =>
    have hlt : i < rows.length := (List.getElem?_eq_some_iff.mp hv).1
    have hmem : r ∈ rows := List.mem_of_getElem? hv
    obtain ⟨r1, r2, r3⟩ := hrI r hmem
    refine wpAny_pyNext_list_item hit' hl' (x := .ref r.1) (by simp [hv]) fun h₁ hit₁ hs₁ => ?_
    refine wpAny_bind (wpAny_of_eq (a := ()) rfl ?_)
    refine wpAny_bind (wpAny_assign_Name (wpAny_storeName_local hx (hn'.sameBut hs₁ (Ne.symm hIC)) (fun h₂ hn₂ hs₂ => ?_) hp))
    have up₂ : ∀ b o, b ≠ cenv.locals → b ≠ I → H.get? b = some o → h₂.get? b = some o := fun b o hbC hbI e => hs₂.extBut b o hbC (hs₁.extBut b o hbI e)
    refine wpAny_bind (wpAny_Name (wpAny_loadName_local hkf hx hn₂ (if_pos rfl) ?_) hdb)
    refine wpAny_bind (wpAny_standAt (wpAny_bind (wpAny_of_eq (a := Value.ref r.1) rfl ?_)))
    have hl₂ : h₂.IsList r.1 r.2.toArray := (hr r hmem).at fun o e => up₂ _ o r2 r1 (hk _ o r2 r1 r3 e)
    have gI : ∃ o, h₂.get? I = some o := by obtain ⟨o, e, _⟩ := hit₁.extBut hs₂.extBut hIC; exact ⟨o, e⟩
    have gD : ∃ o, h₂.get? D = some o := by obtain ⟨n, e⟩ := hacc'; exact ⟨_, up₂ _ _ hDC hDI e⟩
    have gC : ∃ o, h₂.get? cenv.locals = some o := by obtain ⟨o, es, ep, e, _⟩ := hn₂; exact ⟨o, e⟩
    have gl : ∃ o, h₂.get? r.1 = some o := by obtain ⟨o, e, _⟩ := hl₂; exact ⟨o, e⟩
    have nI : I ≠ h₂.objs.size := by obtain ⟨o, e⟩ := gI; exact Nat.ne_of_lt (Heap.lt_size e)
    have nD : D ≠ h₂.objs.size := by obtain ⟨o, e⟩ := gD; exact Nat.ne_of_lt (Heap.lt_size e)
    have nC : cenv.locals ≠ h₂.objs.size := by obtain ⟨o, e⟩ := gC; exact Nat.ne_of_lt (Heap.lt_size e)
    have nl : r.1 ≠ h₂.objs.size := by obtain ⟨o, e⟩ := gl; exact Nat.ne_of_lt (Heap.lt_size e)
    refine wpAny_bind (wpAny_holding (wpAny_pyIter_list hl₂ ?_))
    have hit₃ := Heap.get?_push_size h₂ (o := { cls := .type "list_iterator", data := .fields #[.ref r.1, .int 0 0] }) rfl
    have up₃ : ∀ b o, h₂.get? b = some o → (h₂.push { cls := .type "list_iterator", data := .fields #[.ref r.1, .int 0 0] }).get? b = some o := fun b o e => Heap.get?_push_of_some _ e
    have nS : ∀ b o, s.heap.get? b = some o → b ≠ cenv.locals → b ≠ I → b ≠ D → b ≠ h₂.objs.size := fun b o e h1 h2 h3 => Nat.ne_of_lt (Heap.lt_size (up₂ b o h1 h2 (hk b o h1 h2 h3 e)))
    have inner : codeAny (model prog w) A (.compLoop (nestE elt iter x y px py pz scope pos) 1 (.ref h₂.objs.size) (.ref D) cenv)
        (fun r' s' => ∃ h' tk' m' ws, r' = .ok .next ∧ s' = { s with heap := h', toks := tk' } ∧ h'.Ns cenv.locals m' ∧ h'.PlainList D (zs ++ ws).toArray ∧ Paired F r.2 ws ∧
          (∀ b o, b ≠ cenv.locals → b ≠ h₂.objs.size → b ≠ D → h₂.get? b = some o → h'.get? b = some o))
        { s with heap := h₂.push { cls := .type "list_iterator", data := .fields #[.ref r.1, .int 0 0] }, toks := tk + 1 } := by
      refine nest_inner (items := r.2) (zs₀ := zs) (ax := r.1) F hh hy hp nD hDC (Ne.symm nC) nl r2 r3 ⟨_, hit₃, rfl, rfl⟩ (hl₂.at fun o e => up₃ _ o e) ((hacc'.at fun o e => up₂ _ o hDC hDI e).at fun o e => up₃ _ o e) (hn₂.keeps up₃) ?_ ?_ ?_
      · intro v s₂ m₂ E' hv' hns hmy hkk
        exact helt v s₂ m₂ E' (List.mem_flatMap.mpr ⟨r, hmem, hv'⟩) hns hmy fun b o h1 h2 h3 e => hkk b o h1 (nS b o e h1 h2 h3) h3 (up₃ b o (up₂ b o h1 h2 (hk b o h1 h2 h3 e)))
      · have e1 := hF.length
        have e2 : ((rows.take (i + 1)).flatMap (·.2)).length ≤ (rows.flatMap (·.2)).length := by
          conv => rhs; rw [← List.take_append_drop (i + 1) rows, List.flatMap_append, List.length_append]
          exact Nat.le_add_right _ _
        rw [List.take_add_one, hv, List.flatMap_append, List.length_append] at e2
        have e3 : ((some r).toList.flatMap (·.2)).length = r.2.length := by simp
        rw [e3, e1] at e2
        exact Nat.le_trans e2 hsz
      · intro h' tk' m₃ ws hns hpl hpa hkk
        exact ⟨h', tk', m₃, ws, rfl, rfl, hns, hpl, hpa, fun b o h1 h2 h3 e => hkk b o h1 h2 h3 (up₃ b o e)⟩
    refine wpAny_bind (wpAny_runOwn (codeAny_mono (nest_start1 inner (wpAny_pyIter_listiter (l := r.1) (i := 0) ⟨_, hit₃, rfl, rfl⟩ inner)) fun r' s' hs' => ?_))
    obtain ⟨h', tk', m₃, ws, rfl, rfl, hns, hpl, hpa, hkk⟩ := hs'
    refine wpAny_pure ⟨rfl, rows.length + 1 - (i + 1), by omega, h', tk', m₃, zs ++ ws, i + 1, rfl, ?_, hpl, hns, ?_, hlt, rfl, fun b o h1 h2 h3 e => hkk b o h1 (nS b o e h1 h2 h3) h3 (up₂ b o h1 h2 (hk b o h1 h2 h3 e))⟩
    · exact (hit₁.extBut hs₂.extBut hIC).at fun o e => hkk _ o hIC nI (Ne.symm hDI) e
    · rw [List.take_add_one, hv, List.flatMap_append]
      have app : ∀ {l₁ : List Value} {l₂ k₁ k₂ : List Value}, Paired F l₁ l₂ → Paired F k₁ k₂ → Paired F (l₁ ++ k₁) (l₂ ++ k₂) := by
        intro l₁ l₂ k₁ k₂ h
        induction h with
        | nil => exact id
        | cons h1 h2 ih => exact fun h3 => .cons h1 (ih h3)
      exact app hF (by simpa using hpa)
theorem nest_block {w : World} {A : Around} {E : Value → Shared → Prop} {s₁ : Shared} {env : Env} {l : Addr} {rows : List (Addr × List Value)}
    {elt iter : Expr} {x y : Str} {px py pz : Pos} {scope : Scope} {cl : List (Str × Addr)} {pos : Pos} {RR : Value → Addr → Result → Shared → Prop} (F : Value → Value → Prop)
    (hcell : ∀ y ∈ scope.names, y.2 ≠ .cell) (hkind : scope.kind = .function)
    (hx : scope.names.lookup x = some .local) (hy : scope.names.lookup y = some .local) (hdb : (x == ("__debug__" : Str)) = false)
    (hh : A.handled = none) (hl : s₁.heap.IsList l (rows.map fun r => Value.ref r.1).toArray)
    (hr : ∀ r ∈ rows, s₁.heap.IsList r.1 r.2.toArray) (hsz : (rows.flatMap (·.2)).length ≤ sizeLine)
    (helt : ∀ C v s₂ m₂ E', v ∈ rows.flatMap (·.2) → s₂.heap.Ns C m₂ → m₂ y = some v → (∀ b o, s₁.heap.get? b = some o → s₂.heap.get? b = some o) →
        wpAny (model prog w) A (eval elt (compEnvC scope cl C env)) (fun y s₃ => F v y ∧ Keeps s₂ s₃) E' s₂)
    (hRR : ∀ D C h' tk m' zs, s₁.heap.get? D = none → s₁.heap.get? C = none → D ≠ C → h'.Ns C m' → h'.PlainList D zs.toArray → Paired F (rows.flatMap (·.2)) zs →
        (∀ b o, s₁.heap.get? b = some o → h'.get? b = some o) → RR (.ref D) C (.ok .next) { s₁ with heap := h', toks := tk }) :
    wpAny (model prog w) A (pyIter (.ref l)) (fun it s₂ => wpAny (model prog w) A (newList []) (fun acc s₃ =>
      wpAny (model prog w) A (newFunctionEnv scope env.globals cl [] env.qual none .none (some env)) (fun cenv s₄ =>
        codeAny (model prog w) A (.compStart (nestE elt iter x y px py pz scope pos) 0 it acc { cenv with scope := relabel scope env }) (RR acc cenv.locals) s₄) E s₃) E s₂) E s₁ := by
  obtain ⟨ol, hol, _⟩ := id hl
  have hax : l < s₁.heap.objs.size := Heap.lt_size hol
  refine wpAny_pyIter_list hl (wpAny_newObj_type (hd := by size_fits) (wpAny_newFunctionEnv hcell (by intro y hy; simp at hy) (fun h₁ hns₁ hsb₁ => ?_) hkind))
  dsimp only at hns₁ hsb₁ ⊢
  generalize hH1 : s₁.heap.push { cls := .type "list_iterator", data := .fields #[.ref l, .int 0 0] } = H1 at hns₁ hsb₁ ⊢
  have hD : H1.objs.size = s₁.heap.objs.size + 1 := by rw [← hH1, Heap.size_push]
  generalize hH2 : H1.push { cls := .type "list", dict := none, data := .seq ([] : List Value).toArray } = H2 at hns₁ hsb₁ ⊢
  have hC : H2.objs.size = s₁.heap.objs.size + 2 := by rw [← hH2, Heap.size_push, hD]
  have hDI : H1.objs.size ≠ s₁.heap.objs.size := by rw [hD]; exact Nat.succ_ne_self _
  have hDC : H1.objs.size ≠ H2.objs.size := by rw [hD, hC]; exact Nat.ne_of_lt (Nat.lt_succ_self _)
  have hIC : s₁.heap.objs.size ≠ H2.objs.size := by rw [hC]; exact Nat.ne_of_lt (Nat.lt_succ_of_lt (Nat.lt_succ_self _))
  have below : ∀ b, b < s₁.heap.objs.size → b ≠ H2.objs.size ∧ b ≠ s₁.heap.objs.size ∧ b ≠ H1.objs.size := fun b hb =>
    ⟨by rw [hC]; exact Nat.ne_of_lt (Nat.lt_succ_of_lt (Nat.lt_succ_of_lt hb)), Nat.ne_of_lt hb, by rw [hD]; exact Nat.ne_of_lt (Nat.lt_succ_of_lt hb)⟩
  have old : ∀ b o, s₁.heap.get? b = some o → h₁.get? b = some o := fun b o e =>
    hsb₁.extBut b o (below b (Heap.lt_size e)).1 (Heap.get?_push_of_some _ (hH2 ▸ Heap.get?_push_of_some _ (hH1 ▸ Heap.get?_push_of_some _ e)))
  have hit : h₁.IsListIter s₁.heap.objs.size l 0 :=
    ⟨_, hsb₁.extBut _ _ hIC (Heap.get?_push_of_some _ (hH2 ▸ Heap.get?_push_of_some _ (hH1 ▸ Heap.get?_push_size _ rfl))), rfl, rfl⟩
  have hacc : h₁.PlainList H1.objs.size #[] := ⟨_, hsb₁.extBut _ _ hDC (Heap.get?_push_of_some _ (hH2 ▸ Heap.get?_push_size _ rfl))⟩
  have fresh : ∀ a, s₁.heap.objs.size ≤ a → s₁.heap.get? a = none := fun a ha => by
    cases e : s₁.heap.get? a with
    | none => rfl
    | some o' => exact absurd (Heap.lt_size e) (Nat.not_lt.mpr ha)
  have loop : ∀ s₂ : Shared, s₂ = { s₁ with heap := h₁, toks := s₁.toks + ([] : List (Str × Value)).length } →
      codeAny (model prog w) A (.compLoop (nestE elt iter x y px py pz scope pos) 0 (.ref s₁.heap.objs.size) (.ref H1.objs.size) (compEnvC scope cl H2.objs.size env))
        (RR (.ref H1.objs.size) H2.objs.size) s₂ := by
    rintro s₂ rfl
    refine nest_outer (rows := rows) (cenv := compEnvC scope cl H2.objs.size env) F hh (lookup_relabel_local hx) (lookup_relabel_local hy) (by simp [compEnvC, relabel, hkind]) (by simp [compEnvC, relabel, hkind]) hdb hDI hDC hIC (below l hax).2.1 (below l hax).1 (below l hax).2.2
      (fun r hm => ?_) hit (hl.at fun o e => old _ o e) (fun r hm => (hr r hm).at fun o e => old _ o e) hacc hns₁
      (fun v s₂ m₂ E' hv hn hm hk => helt _ v s₂ m₂ _ hv hn hm fun b o e => hk b o (below b (Heap.lt_size e)).1 (below b (Heap.lt_size e)).2.1 (below b (Heap.lt_size e)).2.2 (old b o e)) hsz fun h' tk m' zs hn ha hF hk => ?_
    · obtain ⟨o, e, _⟩ := hr r hm
      exact ⟨(below _ (Heap.lt_size e)).2.1, (below _ (Heap.lt_size e)).1, (below _ (Heap.lt_size e)).2.2⟩
    · exact hRR _ _ h' tk m' zs (fresh _ (by rw [hD]; exact Nat.le_succ _)) (fresh _ (by rw [hC]; exact Nat.le_add_right _ 2)) hDC hn ha hF
        fun b o e => hk b o (below b (Heap.lt_size e)).1 (below b (Heap.lt_size e)).2.1 (below b (Heap.lt_size e)).2.2 (old b o e)
  exact codeAny_compStart_list (loop _ rfl) (wpAny_pyIter_listiter hit (loop _ rfl))
/-- what the source of a nested comprehension must bring -/
noncomputable def NestSrc (prog : Program) (w : World) (A : Around) (env : Env) (h₀ : Heap) (L : Addr) (mm : Str → Option Value) (elt : Expr) (y : Str) (scope : Scope) (cl : List (Str × Addr)) (F : Value → Value → Prop)
    (Fin : Shared → List (Addr × Obj) → List Value → Prop) (xv : Value) (s₁ : Shared) : Prop :=
  ∃ (l : Addr) (rows : List (Addr × List Value)) (news : List (Addr × Obj)), xv = .ref l ∧ A.handled = none ∧ Fr h₀ L s₁.heap mm ∧ News h₀ L s₁.heap news ∧ s₁.heap.IsList l (rows.map fun r => Value.ref r.1).toArray ∧
      (∀ r ∈ rows, s₁.heap.IsList r.1 r.2.toArray) ∧ (rows.flatMap (·.2)).length ≤ sizeLine ∧
      (∀ C v s₂ m₂ E', v ∈ rows.flatMap (·.2) → s₂.heap.Ns C m₂ → m₂ y = some v → (∀ b o, s₁.heap.get? b = some o → s₂.heap.get? b = some o) →
        wpAny (model prog w) A (eval elt (compEnvC scope cl C env)) (fun y s₃ => F v y ∧ Keeps s₂ s₃) E' s₂) ∧
      (∀ zs, Paired F (rows.flatMap (·.2)) zs → Fin s₁ news zs)
theorem ListComp_nest {w : World} {A : Around} {E : Value → Shared → Prop} {s : Shared} {env : Env} {h₀ : Heap} {L : Addr} {mm : Str → Option Value}
    {elt iter : Expr} {x y : Str} {px py pz : Pos} {scope : Scope} {cl : List (Str × Addr)} {pos : Pos} {Q : Value → Shared → Prop} (F : Value → Value → Prop)
    (_F₀ : Fr h₀ L s.heap mm) (hclos : closureFor scope env = pure cl) (hcell : ∀ y ∈ scope.names, y.2 ≠ .cell) (hkind : scope.kind = .function)
    (hnames : ∀ y ∈ scope.names, y.2 = .local → scope.names.lookup y.1 = some .local) (hx : scope.names.lookup x = some .local) (hy : scope.names.lookup y = some .local) (hdb : (x == ("__debug__" : Str)) = false)
    (h : wpAny (model prog w) A (eval iter env) (NestSrc prog w A env h₀ L mm elt y scope cl F fun s₁ news zs => ∀ D h' tk n, Fr h₀ L h' mm → News h₀ L h' ((D, listOf zs.toArray n) :: news) → (∀ p ∈ news, p.1 ≠ D) → Q (.ref D) { s₁ with heap := h', toks := tk }) E s)
    (hs : ∀ x, foldedSetIterable iter env x = pure x := by intro _; rfl) :
    wpAny (model prog w) A (eval (nestE elt iter x y px py pz scope pos) env) Q E s := by
  rw [eval_ListComp]
  refine wpAny_comprehension_free (use := none) rfl hs hclos hkind hnames (wpAny_mono h (fun xv s₁ h₁ => ?_) fun _ _ e => e)
  obtain ⟨l, rows, news, rfl, hh, F₁, N₁, hl, hr, hsz, helt, hQ⟩ := h₁
  refine nest_block (RR := fun acc C => compPost (model prog w) A E none Q acc C) F hcell hkind hx hy hdb hh hl hr hsz helt ?_
  intro D C h' tk m' zs hD hC hDC hn ha hF kp
  refine ⟨m', hn, fun h'' hs'' => ?_⟩
  have kp2 : ∀ b o, s₁.heap.get? b = some o → h''.get? b = some o := fun b o e => hs''.extBut b o (by rintro rfl; rw [hC] at e; cases e) (kp b o e)
  obtain ⟨n, hn⟩ := ha.extBut hs''.extBut hDC
  exact hQ zs hF D h'' tk n (F₁.keeps kp2) (newsCons (newOne F₁ hn hD) (N₁.grown kp2)) (fun p hp q => by have := (N₁ p hp).1; rw [q, hD] at this; cases this)
theorem Assign_nest {w : World} {A : Around} {E : Value → Shared → Prop} {s : Shared} {env : Env} {h₀ : Heap} {mm : Str → Option Value}
    {elt iter : Expr} {x y z : Str} {px py pz pw : Pos} {scope : Scope} {cl : List (Str × Addr)} {pos spos : Pos} {Q : Flow → Shared → Prop} (F : Value → Value → Prop)
    (_F₀ : Fr h₀ env.locals s.heap mm) (hsw : swapsWith (nestE elt iter x y px py pz scope pos) (some (.Name z pw)) spos.line env = pure true)
    (hclos : closureFor scope env = pure cl) (hcell : ∀ y ∈ scope.names, y.2 ≠ .cell) (hkind : scope.kind = .function)
    (hnames : ∀ y ∈ scope.names, y.2 = .local → scope.names.lookup y.1 = some .local) (hx : scope.names.lookup x = some .local) (hy : scope.names.lookup y = some .local) (hdb : (x == ("__debug__" : Str)) = false)
    (hz : env.kindOf z = some .local) (hp : (env.scope.kind == .class || (env.scope.kind == .module && env.locals != env.globals)) = false)
    (h : wpAny (model prog w) A (eval iter env) (NestSrc prog w A env h₀ env.locals mm elt y scope cl F fun s₁ news zs => ∀ D h' tk n, Fr h₀ env.locals h' (fun u => if u = z then some (.ref D) else mm u) → News h₀ env.locals h' ((D, listOf zs.toArray n) :: news) → (∀ p ∈ news, p.1 ≠ D) →
      Q .next { s₁ with heap := h', toks := tk }) E s)
    (hs : ∀ x, foldedSetIterable iter env x = pure x := by intro _; rfl) :
    wpAny (model prog w) A (exec (.Assign [.Name z pw] (nestE elt iter x y px py pz scope pos) spos) env) Q E s := by
  rw [exec_Assign_Name_used _ _ _ _ hsw]
  refine wpAny_bind (wpAny_standAt (wpAny_bind ?_))
  show wpAny _ A (do let _ ← comprehension (nestE elt iter x y px py pz scope pos) scope env _ (newList []) false (eval iter env) (some (assign (.Name z pw) env))) _ _ s
  refine wpAny_bind (wpAny_mono (wpAny_comprehension_free (use := some (assign (.Name z pw) env)) (Q := fun _ s' => Q .next s') rfl hs hclos hkind hnames
    (wpAny_mono h (fun xv s₁ h₁ => ?_) fun _ _ e => e)) (fun _ s' hq => wpAny_pure (wpAny_pure hq)) fun _ _ e => e)
  obtain ⟨l, rows, news, rfl, hh, F₁, N₁, hl, hr, hsz, helt, hQ⟩ := h₁
  refine nest_block (RR := fun acc C => compPost (model prog w) A E (some (assign (.Name z pw) env)) (fun _ s' => Q .next s') acc C) F hcell hkind hx hy hdb hh hl hr hsz helt ?_
  intro D C h' tk m' zs hD hC hDC hnC ha hF kp
  obtain ⟨oL, _, _, hoL, _⟩ := id F₁.ns
  have hLC : env.locals ≠ C := fun e => by rw [e, hC] at hoL; cases hoL
  have hLD : env.locals ≠ D := fun e => by rw [e, hD] at hoL; cases hoL
  show wpAny _ A (assign (.Name z pw) env (.ref D)) _ _ _
  refine wpAny_assign_Name (wpAny_storeName_local hz (F₁.ns.keeps kp) (fun h₂ hn₂ hs₂ => ?_) hp)
  refine ⟨m', hnC.sameBut hs₂ (Ne.symm hLC), fun h₃ hs₃ => ?_⟩
  have kp2 : ∀ b o, b ≠ env.locals → s₁.heap.get? b = some o → h₃.get? b = some o := fun b o hb e => hs₃.extBut b o (by rintro rfl; rw [hC] at e; cases e) (hs₂.extBut b o hb (kp b o e))
  obtain ⟨n, hn⟩ := (ha.extBut hs₂.extBut (Ne.symm hLD)).extBut hs₃.extBut hDC
  have hL₀ : h₀.get? env.locals = none := Heap.get?_none_of_le F₁.above
  refine hQ zs hF D h₃ _ n ⟨hn₂.sameBut hs₃ hLC, fun b o e => kp2 b o (fun q => by rw [q, hL₀] at e; cases e) (F₁.keep b o e), F₁.above⟩
    (newsCons (newOne F₁ hn hD) (fun p hp => ⟨kp2 _ _ (N₁ p hp).2.1 (N₁ p hp).1, (N₁ p hp).2⟩)) (fun p hp q => by have := (N₁ p hp).1; rw [q, hD] at this; cases this)
end
theorem offPairs : True := by w_top off; trivial
/-- a value that is the tuple (a name, a number) -/
noncomputable def PairAt (h : Heap) (v : Value) (p : Str × Int) : Prop := ∃ t k n, v = .ref t ∧ h.IsTuple t #[.str p.1 k, .int p.2 n]
noncomputable def PairsAt (h : Heap) (vs : List Value) (ps : List (Str × Int)) : Prop := Paired (fun v p => PairAt h v p) vs ps
theorem PairAt.keep {h h' : Heap} {v : Value} {p : Str × Int} (x : PairAt h v p) (hk : ∀ b o, h.get? b = some o → h'.get? b = some o) : PairAt h' v p :=
  let ⟨t, k, n, e, o, ho, r⟩ := x; ⟨t, k, n, e, o, hk _ _ ho, r⟩
theorem pairedImp {α β : Type} {F G : α → β → Prop} : ∀ {l₁ : List α} {l₂ : List β}, Paired F l₁ l₂ → (∀ a b, F a b → G a b) → Paired G l₁ l₂
  | _, _, .nil, _ => .nil
  | _, _, .cons h t, k => .cons (k _ _ h) (pairedImp t k)
theorem PairsAt.keep {h h' : Heap} {vs : List Value} {ps : List (Str × Int)} (x : PairsAt h vs ps) (hk : ∀ b o, h.get? b = some o → h'.get? b = some o) : PairsAt h' vs ps := pairedImp x fun _ _ q => q.keep hk
theorem pairedAt {α β : Type} {F : α → β → Prop} : ∀ {l₁ : List α} {l₂ : List β}, Paired F l₁ l₂ → ∀ (i : Nat) (a : α), l₁[i]? = some a → ∃ b, l₂[i]? = some b ∧ F a b
  | _, _, .nil, _, _, h => by simp at h
  | _, _, .cons h t, 0, a, e => by simp only [List.getElem?_cons_zero] at e; cases e; exact ⟨_, rfl, h⟩
  | _, _, .cons h t, i + 1, a, e => by simp only [List.getElem?_cons_succ] at e ⊢; exact pairedAt t i a e
theorem pairedApp {α β : Type} {F : α → β → Prop} : ∀ {l₁ k₁ : List α} {l₂ k₂ : List β}, Paired F l₁ l₂ → Paired F k₁ k₂ → Paired F (l₁ ++ k₁) (l₂ ++ k₂)
  | _, _, _, _, .nil, h => h
  | _, _, _, _, .cons h t, k => .cons h (pairedApp t k)
section
open PyProof.Rows.LCg
variable {prog : Program} {w : World} {A : Around} {E : Value → Shared → Prop} {s : Shared} {env : Env} {h₀ : Heap} {body : List Stmt} {Q : Flow → Shared → Prop}
noncomputable def Off2 (a b : Str) (m₀ : Str → Option Value) (J : List (Addr × Obj) → Prop) (m' : Str → Option Value) (nx : List (Addr × Obj)) : Prop :=
  (∀ y, y ≠ b → y ≠ a → m' y = m₀ y) ∧ J nx
theorem off2_eq {a b : Str} {m₀ m : Str → Option Value} {x y : Option Value} (h : ∀ z, z ≠ b → z ≠ a → m z = m₀ z) :
    (fun z => if z = b then y else if z = a then x else m z) = fun z => if z = b then y else if z = a then x else m₀ z := by
  funext z
  by_cases h1 : z = b
  · simp only [if_pos h1]
  · simp only [if_neg h1]
    by_cases h2 : z = a
    · simp only [if_pos h2]
    · simp only [if_neg h2]; exact h z h1 h2
theorem off2_eq2 {a b : Str} {m₀ m : Str → Option Value} (h : ∀ z, z ≠ b → z ≠ a → m z = m₀ z) :
    m = fun z => if z = b then m z else if z = a then m z else m₀ z := by
  funext z
  by_cases h1 : z = b
  · rw [if_pos h1]
  · rw [if_neg h1]
    by_cases h2 : z = a
    · rw [if_pos h2]
    · rw [if_neg h2]; exact h z h1 h2
/-- for a, b in a list of pairs that lies below the frame -/
theorem iter_pairs {l : Addr} {vs : List Value} {ps : List (Str × Int)} {a b : Str} {pa pb tp : Pos} {kk : Nat} {m : Str → Option Value} {news : List (Addr × Obj)} (J : Nat → List (Addr × Obj) → Prop)
    (hh : A.handled = none) (ha : env.kindOf a = some .local) (hb : env.kindOf b = some .local) (hp : (env.scope.kind == .class || (env.scope.kind == .module && env.locals != env.globals)) = false)
    (hl : h₀.IsList l vs.toArray) (hps : PairsAt h₀ vs ps)
    (F : Fr h₀ env.locals s.heap m) (N : News h₀ env.locals s.heap news) (hj : J 0 news)
    (turn : ∀ i k n t1 t2 nx I it h tk, ps[i]? = some (k, n) → J i nx → (∀ p ∈ nx, p.1 ≠ I) → (∀ p ∈ news, p.1 < I) → Fr h₀ env.locals h (fun y => if y = b then some (.int n t2) else if y = a then some (.str k t1) else m y) → News h₀ env.locals h ((I, it) :: nx) →
      let Q1 : Flow → Shared → Prop := TPost h₀ env.locals I it (Off2 a b m (J (i + 1))) { s with heap := h, toks := tk } Q; wpAny (model prog w) A (execs body env) Q1 E { s with heap := h, toks := tk })
    (done : ∀ (u : Str → Option Value) nx h tk, J ps.length nx → Fr h₀ env.locals h (fun y => if y = b then u y else if y = a then u y else m y) → News h₀ env.locals h nx → Q .next { s with heap := h, toks := tk }) :
    wpAny (model prog w) A (pyIter (.ref l)) (fun it s₂ => TurnsAt prog w A h₀ env (.Tuple [.Name a pa, .Name b pb] kk tp) body Q E it s₂) E s := by
  have hl1 := listUp hl F
  obtain ⟨ol, hol, _⟩ := id hl1
  obtain ⟨ol0, hol0, _⟩ := id hl
  have hne : l ≠ s.heap.objs.size := Nat.ne_of_lt (Heap.lt_size hol)
  have hlt : ∀ p ∈ news, p.1 < s.heap.objs.size := fun p hp => Heap.lt_size (N p hp).1
  have hI0 := next_is_new F
  have hIL : s.heap.objs.size ≠ env.locals := fun e => absurd F.ns.lt (e ▸ Nat.lt_irrefl _)
  have hlL : l ≠ env.locals := fun e => Nat.lt_irrefl _ (Nat.lt_of_lt_of_le (e ▸ Heap.lt_size hol0) F.above)
  refine wpAny_pyIter_list hl1 ?_
  have W := KTurns.ofWalks (target := .Tuple [.Name a pa, .Name b pb] kk tp) (Walks.list (prog := prog) (w := w) hh s.heap.objs.size l hne vs.toArray) fun i v s Q E st q => letGo_listiter st.1 q
  have hlen : vs.toArray.size = vs.length := by simp
  have hlp := Paired.length hps
  rw [hlen, hlp] at W
  refine ⟨s.heap.objs.size, _, _, ps.length, _, _, _, m, news, fun i => Off2 a b m (J i), rfl, W, ?_, ?_, ?_, ⟨⟨_, Heap.get?_push_size _ rfl, rfl, rfl⟩, hl1.at fun o e => Heap.get?_push_of_some _ e⟩, F.push _,
    (fun p hp => ⟨Heap.get?_push_of_some _ (N p hp).1, (N p hp).2⟩), ⟨fun _ _ _ => rfl, hj⟩, ?_, ?_⟩
  · intro hL
    rcases List.mem_cons.mp hL with e | hL
    · exact hIL e.symm
    · exact hlL (List.mem_singleton.mp hL).symm
  · intro c hc
    rw [List.mem_singleton.mp hc]; exact hI0
  · intro p hp hc
    exact Nat.ne_of_lt (hlt p hp) (List.mem_singleton.mp hc)
  · intro i v m₁ nx hh1 tk own hin hP hJ hofs hown hget hall hst₁ F₁ N₁
    have hP' : vs.toArray[i]? = some v := hP
    rw [List.getElem?_toArray] at hP'
    obtain ⟨⟨k, n⟩, hpi, t, t1, t2, rfl, htup⟩ := pairedAt hps i v hP'
    obtain ⟨⟨it, hit, _⟩, _⟩ := hst₁
    have hmI : (s.heap.objs.size, it) ∈ own := hall _ (List.mem_cons_self ..) hI0 it hit
    have hne : ∀ p ∈ nx, p.1 ≠ s.heap.objs.size := fun p hp e => hofs p hp (List.mem_singleton.mpr e)
    have N₂ : News h₀ env.locals hh1 ((s.heap.objs.size, it) :: nx) := fun p hp => N₁ p ((List.mem_cons.mp hp).elim (fun e => List.mem_append_left _ (e ▸ hmI)) fun e => List.mem_append_right _ e)
    refine kcp_assign (x := .str k t1) (y := .int n t2) hh (by obtain ⟨o, ho, r⟩ := htup; exact ⟨o, F₁.keep _ _ ho, r⟩) ha hb hp F₁.ns fun h' tk' hns hkk => ?_
    have F₂ : Fr h₀ env.locals h' (fun y => if y = b then some (.int n t2) else if y = a then some (.str k t1) else m₁ y) :=
      ⟨hns, fun c o e => hkk c o (Nat.ne_of_lt (Nat.lt_of_lt_of_le (Heap.lt_size e) F₁.above)) (F₁.keep c o e), F₁.above⟩
    rw [off2_eq hJ.1] at F₂
    refine wpAny_mono (turn i k n t1 t2 nx s.heap.objs.size it h' tk' hpi hJ.2 hne hlt F₂ (fun p hp => ⟨hkk _ _ (N₂ p hp).2.1 (N₂ p hp).1, (N₂ p hp).2⟩)) (fun f s₂ p => ?_) fun _ _ e => e
    have fin : TEnd h₀ env.locals s.heap.objs.size it (Off2 a b m (J (i + 1))) { s with heap := h', toks := tk' } s₂ → LoopStepU h₀ env.locals [s.heap.objs.size] own (Off2 a b m (J (i + 1))) { s with heap := hh1, toks := tk } .next s₂ := by
      rintro ⟨h', tk', m', nx', e, F', N', hn', hj'⟩
      refine ⟨rfl, h', tk', m', nx', e, F', ?_, fun p hp hb => hn' p hp (List.mem_singleton.mp hb), hj'⟩
      intro p hp
      rcases List.mem_append.mp hp with hp | hp
      · rcases List.mem_cons.mp (hown p hp) with e1 | e1
        · have h1 := hget p hp
          rw [e1] at h1
          have h2 : p.2 = it := Option.some.inj (h1.symm.trans hit)
          have h3 : p = (s.heap.objs.size, it) := Prod.ext e1 h2
          rw [h3]; exact N' _ (List.mem_cons_self ..)
        · have h1 := (N₁ p (List.mem_append_left _ hp)).2.2
          rw [List.mem_singleton.mp e1, hol0] at h1; cases h1
      · exact N' p (List.mem_cons_of_mem _ hp)
    cases f with
    | ret v => exact .ret p
    | brk => exact .brk p
    | next => exact .next (fin p)
    | cont => exact .cont (fin p)
  · intro h' tk m' nx F' N' _ hJ
    have F'' := F'
    rw [off2_eq2 hJ.1] at F''
    exact done m' nx h' tk hJ.2 F'' N'
theorem PairAt.inj {h : Heap} {v : Value} {p q : Str × Int} (a : PairAt h v p) (b : PairAt h v q) : p.1 = q.1 := by
  obtain ⟨t, k, n, rfl, o, ho, _, n1, hd⟩ := a
  obtain ⟨t', k', n', e, o', ho', _, n2, hd'⟩ := b
  cases e
  rw [ho] at ho'; cases ho'
  rw [hd] at hd'
  injection hd' with e1 e2
  have := congrArg (fun x => x[0]?) e1
  simp at this
  exact this.1
/-- the name of a pair -/
theorem pair0 {cenv : Env} {w : World} {p1 p2 p3 : Pos} {m₂ : Str → Option Value} {v : Value} {p : Str × Int} {E' : Value → Shared → Prop} (hkf : cenv.scope.kind = .function) (hx : cenv.kindOf "pair" = some .local) (hn : s.heap.Ns cenv.locals m₂) (hv : m₂ "pair" = some v) (hp : PairAt s.heap v p) :
    wpAny (model prog w) A (eval (.Subscript (.Name "pair" p1) (.Constant (.int 0) 0 p2) p3) cenv) (fun y s₃ => (∃ t, y = .str p.1 t) ∧ Keeps s s₃) E' s := by
  obtain ⟨t, k, n, rfl, ht⟩ := hp
  refine wpAny_Subscript_Constant_late ?_
  refine wpAny_Name (wpAny_loadName_local hkf hx hn hv ?_) (by decide)
  refine wpAny_Constant_int ?_
  refine ⟨"tuple", _, PySem.F.slot_tuple_getitem.lookup, ?_, ?_⟩
  · obtain ⟨o, ho, hc, _⟩ := ht
    exact ⟨o, ho, hc⟩
  · exact getItem_tuple (x := .str p.1 k) (j := 0) ht (by decide) (by decide) (by rfl) (by rfl) ⟨⟨k, rfl⟩, _, _, rfl, fun _ _ e => e⟩
noncomputable def NameF (g : Heap) (v z : Value) : Prop := ∀ p, PairAt g v p → ∃ t, z = .str p.1 t
theorem nameF_strs {g : Heap} : ∀ {vs zs : List Value} {ps : List (Str × Int)}, Paired (NameF g) vs zs → PairsAt g vs ps → StrsAre zs (ps.map (·.1))
  | _, _, _, .nil, .nil => .nil
  | _, _, _, .cons h t, .cons k r => by
    obtain ⟨t1, rfl⟩ := h _ k
    exact .cons _ _ (nameF_strs t r)
theorem pairsFlat {g : Heap} : ∀ {rows : List (Addr × List Value × List (Str × Int))}, (∀ r ∈ rows, PairsAt g r.2.1 r.2.2) → PairsAt g (rows.flatMap (·.2.1)) (rows.flatMap (·.2.2))
  | [], _ => .nil
  | r :: q, h => pairedApp (h r (.head _)) (pairsFlat fun x hx => h x (.tail _ hx))
theorem flatLen : ∀ {rows : List (Addr × List Value × List (Str × Int))}, (∀ r ∈ rows, r.2.1.length ≤ 10) → (rows.flatMap (·.2.1)).length ≤ 10 * rows.length
  | [], _ => Nat.le_refl _
  | r :: q, h => by
    have h1 := h r (.head _)
    have h2 := flatLen (rows := q) fun x hx => h x (.tail _ hx)
    rw [List.flatMap_cons, List.length_append, List.length_cons]
    omega
theorem nestSrc_rows {w : World} {s₁ : Shared} {g : Heap} {L : Addr} {mm : Str → Option Value} {l : Addr} {rows : List (Addr × List Value × List (Str × Int))} {news : List (Addr × Obj)} {p1 p2 p3 : Pos} {scope : Scope} {cl : List (Str × Addr)} {Fin : Shared → List (Addr × Obj) → List Value → Prop}
    (hh : A.handled = none) (hkind : scope.kind = .function) (hy : scope.names.lookup (Str.ofString "pair") = some .local) (F : Fr g L s₁.heap mm) (N : News g L s₁.heap news) (hl : s₁.heap.IsList l (rows.map fun r => Value.ref r.1).toArray)
    (hr : ∀ r ∈ rows, g.IsList r.1 r.2.1.toArray ∧ PairsAt g r.2.1 r.2.2) (hn : rows.length ≤ 20) (hn2 : ∀ r ∈ rows, r.2.2.length ≤ 10)
    (fin : ∀ zs, StrsAre zs ((rows.flatMap (·.2.2)).map (·.1)) → Fin s₁ news zs) :
    NestSrc prog w A env g L mm (.Subscript (.Name "pair" p1) (.Constant (.int 0) 0 p2) p3) "pair" scope cl (NameF g) Fin (.ref l) s₁ := by
  have hps := pairsFlat fun r h => (hr r h).2
  have e : (rows.map fun r => (r.1, r.2.1)).flatMap (·.2) = rows.flatMap (·.2.1) := by rw [List.flatMap_map]
  refine ⟨l, rows.map fun r => (r.1, r.2.1), news, rfl, hh, F, N, ?_, ?_, ?_, ?_, ?_⟩
  · rw [List.map_map]; exact hl
  · intro r h
    obtain ⟨r', h', rfl⟩ := List.mem_map.mp h
    exact listUp (hr r' h').1 F
  · rw [e]
    have := flatLen (rows := rows) fun r h => by rw [Paired.length (hr r h).2]; exact hn2 r h
    rw [sizeLine_eq]; omega
  · intro C v s₂ m₂ E' hv hns hm hk
    rw [e] at hv
    obtain ⟨i, hi⟩ := List.getElem?_of_mem hv
    obtain ⟨p, _, hp⟩ := pairedAt hps i v hi
    refine wpAny_mono (pair0 (p := p) (by simp [compEnvC, relabel, hkind]) (lookup_relabel_local hy) hns hm (hp.keep fun b o q => hk b o (F.keep b o q))) (fun y s₃ h => ⟨fun q hq => ?_, h.2⟩) fun _ _ x => x
    obtain ⟨⟨t, rfl⟩, _⟩ := h
    exact ⟨t, by rw [hp.inj hq]⟩
  · intro zs hz
    rw [e] at hz
    exact fin zs (nameF_strs hz hps)
theorem hpSlice {rows : List (Addr × List Value × List (Str × Int))} (k : Nat) {a : Int} (h : a = k) : slicePick (List.map (fun r => Value.ref r.1) rows).toArray (some a) none none = ((rows.drop k).map fun r => Value.ref r.1).toArray := by
  subst h
  rw [slicePick_from', List.toList_toArray, List.map_drop]
end
theorem offLawName : True := by w_top off; trivial
/-- the law's own table of scopes: a list of lists of pairs -/
structure HpAt (h : Heap) (ha : Addr) (rows : List (Addr × List Value × List (Str × Int))) : Prop where
  list : h.IsList ha (rows.map fun r => Value.ref r.1).toArray
  rows : ∀ r ∈ rows, h.IsList r.1 r.2.1.toArray ∧ PairsAt h r.2.1 r.2.2
theorem HpAt.keep {h h' : Heap} {ha : Addr} {rows : List (Addr × List Value × List (Str × Int))} (x : HpAt h ha rows) (hk : ∀ b o, h.get? b = some o → h'.get? b = some o) : HpAt h' ha rows :=
  ⟨x.list.at fun o e => hk _ o e, fun r hr => ⟨(x.rows r hr).1.at fun o e => hk _ o e, (x.rows r hr).2.keep hk⟩⟩
theorem len_hp {w : World} {A : Around} {E : Value → Shared → Prop} {s : Shared} {g : Heap} {L : Addr} {m : Str → Option Value} {ha : Addr} {rows : List (Addr × List Value × List (Str × Int))} {Q : Value → Shared → Prop} (H : HpAt g ha rows) (F : Fr g L s.heap m) (hn : rows.length ≤ 20)
    (h : Q (.int rows.length (s.toks + 1)) { s with toks := s.toks + 1 + 1 }) : wpAny (model prg w) A (call (.builtin "len") [.ref ha]) Q E s := by
  have e : ((rows.map fun r => Value.ref r.1).toArray.size : Int) = rows.length := by simp
  refine len_list (listUp H.list F) (by rw [e]; omega) ?_
  rw [e]; exact h
theorem wd54 : True := by
  (k_with "M.call builtin:len" => first | ((have _ := (by with_reducible assumption : StopIter)); refine len_hp (by assumption) (by assumption) (by assumption) ?_) | fail)
  trivial
theorem lookAny : ∀ {sc : List (Str × Int)} {k : Str}, (sc.map (·.1)).any (· == k) = (sc.lookup k).isSome
  | [], _ => rfl
  | (a, b) :: r, k => by
    rw [List.map_cons, List.any_cons, List.lookup_cons, lookAny (sc := r)]
    by_cases h : k = a
    · subst h; simp
    · have h1 : (k == a) = false := by simpa using h
      have h2 : (a == k) = false := by simpa using Ne.symm h
      simp only [h1, h2, Bool.false_or]
theorem seenStep {rows : List (Addr × List Value × List (Str × Int))} {i : Nat} {r : Addr × List Value × List (Str × Int)} (hi : i < rows.length) (hr : rows[rows.length - 1 - i]? = some r) (k : Str) :
    (((rows.drop (rows.length - (i + 1))).flatMap (·.2.2)).map (·.1)).any (· == k) = ((((rows.drop (rows.length - i)).flatMap (·.2.2)).map (·.1)).any (· == k) || (r.2.2.lookup k).isSome) := by
  have h1 : rows.length - (i + 1) = rows.length - 1 - i := by omega
  have h2 : rows.length - i = rows.length - 1 - i + 1 := by omega
  have h3 : rows.length - 1 - i < rows.length := by omega
  have h4 : rows[rows.length - 1 - i] = r := Option.some.inj ((List.getElem?_eq_getElem h3).symm.trans hr)
  rw [h1, h2, List.drop_eq_getElem_cons h3, h4, List.flatMap_cons, List.map_append, List.any_append, lookAny (sc := r.2.2), Bool.or_comm]
theorem wd55 : True := by
  (k_with "M.exec For Tuple Subscript cons nil" => ((have _ := (by with_reducible assumption : StopIter)); (rename Fr _ _ _ _ => lF'); (with_unfolding_all refine' For_turns lF' ?_; k_whole)))
  trivial
theorem nmG {S : List Addr} {h g : Heap} (_ : Kept S h g) : ∃ y, y = g := ⟨_, rfl⟩
section
variable {w : World} {dp un : Nat} {gd : Option (List Code)} {cn : Str} {cs : Scope} {a : Addr} {ccd : Value} {cl : List (Str × Addr)} {outer : List Env} {A₀ : Around} {base h₀ : Heap} {L : Addr} {m mg mb : Str → Option Value} {mean : ExcName → Option Value} {s : Shared} {Q E : Value → Shared → Prop}
theorem lawName_k {ha ta td aa fl pl hl : Addr} {tk : Nat → Tok} {rows : List (Addr × List Value × List (Str × Int))} {num size len : Int} {form mo lb x : Str} {bv : Value} {to : Tok}
    (B : Below A₀ base outer h₀) (F : Fr h₀ L s.heap m) (X : (hd.heap_39 w.params).In h₀) (T : Top pv lo mean mg mb h₀) (hk : cs.kind = .function) (hdp : dp + 20 < recursionLimit) (hun : un + 400 < cLine)
    {news : List (Addr × Obj)} (N₀ : News h₀ L s.heap news)
    (hH : HpAt s.heap ha rows) (hA : StrTab prg w s.heap aa [(.str "N", .str x), (.str "SYSTEM", .str "SYSTEM")])
    (hT : InstAt s.heap ta (instObj 182 td) 182 (some (tyD w.params tk num form size bv len fl pl hl mo lb)))
    (hmo : mo = "M" ∨ (mo = "N" ∧ (lb = "U" ∨ lb = "U^"))) (hx : x.length ≤ 2)
    (hn1 : rows.length ≤ 20) (hn2 : ∀ r ∈ rows, r.2.2.length ≤ 10)
    (hret : ∀ t h' tk', Kept [] s.heap h' → Fr h₀ L h' m → News h₀ L h' news → Q (optVal t (nameOf (rows.map (·.2.2)) [("N", x), ("SYSTEM", "SYSTEM")] num mo lb)) { s with heap := h', toks := tk' }) :
    wpAny (model prg w) (ktrTop dp un gd cn cs L a ccd cl outer) (call (.ref 267) [.ref ha, .ref ta, .ref aa, .str "M" to]) Q E s := by
  have N : News h₀ L s.heap [] := News.nil
  refine wpAny_call ?_
  walk_at "F enter"
  have stopI := StopIter.mk
  have stopC := StopComp.mk
  rename Kept _ s.heap _ => KG
  obtain ⟨g, e⟩ := nmG KG
  subst e
  have hT' := instKept KG hT (fun q => nomatch q) (fun q => nomatch q)
  have hA' := tabKept KG hA (fun q => nomatch q)
  have hH' := hH.keep KG.all
  have hHl := hH'.list
  k_steps
  refine (show _ → Stop _ from id) ?_
  rename Fr _ _ _ _ => F2
  rename News _ _ _ _ => N2
  rename IsRange _ _ _ _ _ _ _ _ => hR
  refine iter_range (prog := prg) (w := w) (n := rows.length) [Str.ofString "inner_names_seen", Str.ofString "name", Str.ofString "figure"]
    (fun i _ nx => nx = [] ∧ nameIn num (fun _ => false) (rows.map (·.2.2)).reverse = nameIn num (fun k => (((rows.drop (rows.length - i)).flatMap (·.2.2)).map (·.1)).any (· == k)) ((rows.map (·.2.2)).reverse.drop i))
    (-1) rfl hR (rsm (by omega) (.inr rfl)) rszD F2 N2 ⟨rfl, by rw [List.drop_zero, List.drop_eq_nil_of_le (by exact Nat.le_refl _)]; rfl⟩ ?_ ?_
  · rintro i t u nx I it h tk hi ⟨rfl, hJ⟩ hne hlt F3 N3
    clear F2 N2
    have hd : rows.length - 1 - i < rows.length := by omega
    k_steps
    refine Assign_nest (NameF g) (by assumption) (by with_unfolding_all rfl) (by with_unfolding_all rfl) (by decide) (by rfl) (by decide) (by rfl) (by rfl) (by decide) (by rfl) (by rfl) ?_
    k_steps
    rename Fr _ _ _ _ => F2
    rename News _ _ _ _ => N2
    rw [hpSlice (rows.length - i) (by omega)] at N2
    refine nestSrc_rows (rows := rows.drop (rows.length - i)) rfl (by rfl) (by rfl) F2 N2 ⟨_, (N2 (_, _) (.head _)).1, rfl, _, rfl⟩ (fun r h => hH'.rows r (List.mem_of_mem_drop h)) (by rw [List.length_drop]; omega) (fun r h => hn2 r (List.mem_of_mem_drop h)) ?_
    intro zs hzs D h2 tk2 n2 F5 N5 hD
    clear F2 N2
    have sX := StopAt.mk (a := ha)
    k_steps
    refine Stop.out ?_
    clear sX
    obtain ⟨r, hr⟩ : ∃ r, rows[rows.length - 1 - i]? = some r := ⟨_, List.getElem?_eq_getElem hd⟩
    have hrm := List.mem_of_getElem? hr
    obtain ⟨hrl, hrp⟩ := hH'.rows r hrm
    rename Fr _ _ _ _ => F2
    refine item_list (listUp hHl F2) (by omega) (by omega) (x := .ref r.1) ?_ ?_
    · have e : (↑rows.length - 1 + ↑i * -1 : Int).toNat = rows.length - 1 - i := by omega
      rw [e]; simp [hr]
    have N7 : News _ _ _ [(D, W.listOf zs.toArray n2), (I, it)] := fun p hp => N5 p (by simp only [List.mem_cons, List.not_mem_nil, or_false] at hp ⊢; rcases hp with h | h <;> simp [h])
    refine iter_pairs (vs := r.2.1) (ps := r.2.2) (fun j nx => nx = [(D, W.listOf zs.toArray n2), (I, it)] ∧ ∀ j', j' < j → ∀ q, r.2.2[j']? = some q → (decide (q.2 = num) && !(((rows.drop (rows.length - i)).flatMap (·.2.2)).map (·.1)).any (· == q.1)) = false)
      rfl (by rfl) (by rfl) (by rfl) hrl hrp F2 N7 ⟨rfl, fun j' hj' => absurd hj' (Nat.not_lt_zero _)⟩ ?_ ?_
    · rintro j k n t1 t2 nx I2 it2 h3 tk3 hjk ⟨rfl, hJ2⟩ hne2 hlt2 F7 N8
      clear F2 N5 N7
      k_steps
      · refine TEnd.intro (nx := [(D, W.listOf zs.toArray n2), (I, it)]) (by assumption) (by assumption) hne2 ⟨fun y h1 h2 => by rw [if_neg h1, if_neg h2], rfl, fun j' hj' q hq => ?_⟩
        rcases Nat.lt_succ_iff_lt_or_eq.mp hj' with hj' | rfl
        · exact hJ2 j' hj' q hq
        · rw [hjk] at hq; cases hq; dsimp only; simp_all
      · rename Kept _ s.heap (Shared.heap _) => hK
        rename n = num => e1
        rename (List.any _ _) = false => e2
        have e3 : (decide (n = num) && !((((rows.drop (rows.length - i)).flatMap (·.2.2)).map (·.1)).any (· == k))) = true := by rw [e2, decide_eq_true e1]; rfl
        have e : nameIn num (fun _ => false) (rows.map (·.2.2)).reverse = some k := by
          rw [hJ, revAt (l := rows.map (·.2.2)) (p := r.2.2) (i := i) (by simpa using hi) (by simp [hr]), nameIn, findAt hjk e3 hJ2]
        unfold nameOf at hret
        rw [e] at hret
        exact hret t1 _ _ hK (hK.fr0 F) (hK.news0 N₀)
      · refine TEnd.intro (nx := [(D, W.listOf zs.toArray n2), (I, it)]) (by assumption) (by assumption) hne2 ⟨fun y h1 h2 => by rw [if_neg h1, if_neg h2], rfl, fun j' hj' q hq => ?_⟩
        rcases Nat.lt_succ_iff_lt_or_eq.mp hj' with hj' | rfl
        · exact hJ2 j' hj' q hq
        · rw [hjk] at hq; cases hq; dsimp only; simp_all
    · rintro u2 nx h3 tk3 ⟨rfl, hJ2⟩ F7 N8
      clear F2 N5 N7
      k_steps
      refine TEnd.intro (nx := []) (by assumption) (fun p hp => N8 p (by rw [List.mem_singleton.mp hp]; exact .tail _ (.head _))) (fun _ q => nomatch q) ⟨by walk_at "F same", rfl, ?_⟩
      rw [hJ, revAt (l := rows.map (·.2.2)) (p := r.2.2) (i := i) (by simpa using hi) (by simp [hr]), nameIn, findNone hJ2]
      dsimp only
      congr 1
      funext k
      exact (seenStep hi hr k).symm
  · rintro u nx h tk' ⟨rfl, hJ⟩ F3 N3
    clear F2 N2
    have hz : List.drop rows.length (rows.map (·.2.2)).reverse = [] := List.drop_eq_nil_of_le (by simp)
    rw [hz] at hJ
    have hJ' : nameIn num (fun _ => false) (rows.map (·.2.2)).reverse = none := hJ
    unfold nameOf at hret
    rw [hJ'] at hret
    rcases hmo with rfl | ⟨rfl, rfl | rfl⟩
    · k_steps
      rename Kept _ s.heap (Shared.heap _) => hK
      dsimp only at hret
      rw [if_pos (.inr rfl)] at hret
      exact hret 0 _ _ hK (hK.fr0 F) (hK.news0 N₀)
    · k_steps
      rename Kept _ s.heap (Shared.heap _) => hK
      have e1 : plainS "U" = true := by decide +kernel
      dsimp only at hret
      rw [if_neg (by decide), if_pos e1] at hret
      exact hret _ _ _ hK (hK.fr0 F) (hK.news0 N₀)
    · k_steps
      rename Kept _ s.heap (Shared.heap _) => hK
      have e1 : ¬ plainS "U^" = true := by decide +kernel
      dsimp only at hret
      rw [if_neg (by decide), if_neg e1] at hret
      exact hret 0 _ _ hK (hK.fr0 F) (hK.news0 N₀)
end
theorem offNInit : True := by w_top off; trivial
theorem ite3 {x' : Str} {a b : Bool} (h : x' = (if a = true then (if b = true then Str.ofString "N2" else "N1") else "N")) : x' = Str.ofString "N" ∨ x' = Str.ofString "N1" ∨ x' = Str.ofString "N2" := by
  cases a <;> cases b <;> simp at h <;> simp [h]
theorem nm3 {h₀ h : Heap} {L a : Addr} {o : Obj} {p q r : Addr × Obj} {l : List (Addr × Obj)} (_ : News h₀ L h (p :: q :: r :: (a, o) :: l)) : ∃ y, y = a := ⟨_, rfl⟩
theorem nm4 {h₀ h : Heap} {L a : Addr} {o : Obj} {p q r u : Addr × Obj} {l : List (Addr × Obj)} (_ : News h₀ L h (p :: q :: r :: u :: (a, o) :: l)) : ∃ y, y = a := ⟨_, rfl⟩
theorem takeAny {hs : List Str} {j : Nat} {x : Str} (h : hs[j]? = some x) (k : Str) : ((hs.take (j + 1)).any fun y => y == k) = (decide (k = x) || (hs.take j).any fun y => y == k) := by
  rw [List.take_add_one, h, List.any_append]
  simp only [Option.toList_some, List.any_cons, List.any_nil, Bool.or_false]
  rw [Bool.or_comm]
  congr 1
  by_cases e : k = x
  · subst e; simp
  · have : (x == k) = false := by simpa using Ne.symm e
    simp [e, this]
theorem wd56 : True := by
  (k_with "M.exec For Name BinOp cons nil" => first | ((rename Fr _ _ _ _ => lF'); (with_unfolding_all refine For_invVF lF' (by exact rfl) (by exact rfl) ?_; k_whole)) | fail)
  trivial
theorem wd57 : True := by
  (k_with "M.call ref" => first | ((with_reducible show wpAny _ _ (call (.ref 122) _) _ _ _); k_dflt (refine freeN_k (by k_asm) (by k_asm) (by k_asm) (by k_asm) (by first | exact rfl | assumption) (by ktr_room) (by ktr_units) (by k_asm) (by k_tabat) (by assumption) ?_; k_whole); intro _ _ _ _ _ _ _ _; (try k_sweep)) | fail)
  trivial
theorem wd58 : True := by
  (k_with "M.call ref" => first | ((with_reducible show wpAny _ _ (call (.ref 122) _) _ _ _); k_dflt (refine freeS_k (by k_asm) (by k_asm) (by k_asm) (by k_asm) (by first | exact rfl | assumption) (by ktr_room) (by ktr_units) (by k_asm) (by k_tabat) (by assumption) ?_; k_whole); intro _ _ _ _ _ _; (try k_sweep)) | fail)
  trivial
section
variable {w : World} {dp un : Nat} {gd : Option (List Code)} {cn : Str} {cs : Scope} {a : Addr} {ccd : Value} {cl : List (Str × Addr)} {outer : List Env} {A₀ : Around} {base h₀ : Heap} {L : Addr} {m mg mb : Str → Option Value} {mean : ExcName → Option Value} {s : Shared} {Q E : Value → Shared → Prop}
theorem nmInit_ct {x dx il hl : Addr} {hvs : List Value} {hs : List Str} {t0 t1 : Tok} {R : Result → Shared → Prop}
    (B : Below A₀ base outer h₀) (F : Fr h₀ L s.heap m) (X : (hd.heap_39 w.params).In h₀) (T : Top pv lo mean mg mb h₀) (hk : cs.kind = .function) (hdp : dp + 20 < recursionLimit) (hun : un + 400 < cLine)
    (hts : dx < x) (N : News h₀ L s.heap [(x, instObj 111 dx), (dx, dictOf [] 0)])
    (hI : s.heap.IsList il #[.str "N" t1]) (hH : s.heap.IsList hl hvs.toArray) (hHs : StrsAre hvs hs) (hlen : hs.length ≤ 3)
    (g1 : il ≠ x ∧ il ≠ dx ∧ hl ≠ x ∧ hl ≠ dx)
    (hsub : ∀ k ∈ hs, k = Str.ofString "T" ∨ k = Str.ofString "U" ∨ k = Str.ofString "N" ∨ k = Str.ofString "N1")
    (hret : ∀ tk aa sa ra d0 od oa h' tk' xN, Kept [x, dx] s.heap h' → (∀ p ∈ [(x, instObj 111 dx), (dx, nmD w.params tk aa sa ra)], h'.get? p.1 = some p.2) →
      (∀ p ∈ [(aa, oa), (sa, listOf #[.ref d0] 0), (d0, od), (ra, listOf #[] 0)], h'.get? p.1 = some p.2 ∧ s.heap.get? p.1 = none) →
      StrTab prg w h' aa [(.str "N", .str xN), (.str "SYSTEM", .str "SYSTEM")] → (d0 == sysModules) = false → od.IsDictOf (strKind prg w) [] →
      xN = (if hs.any (fun x => x == Str.ofString "N") then (if hs.any (fun x => x == Str.ofString "N1") then Str.ofString "N2" else "N1") else "N") → (@LT.lt Nat _ aa d0 ∧ @LT.lt Nat _ d0 sa) → R (.ok (.ret .none)) { s with heap := h', toks := tk' }) :
    codeAny (model prg w) (ktrTop dp un gd cn cs L a ccd cl outer) (.call (.ref 52) ⟨[.ref x, .str "M" t0, .ref il, .ref hl], []⟩) R s := by
  walk_at "F enterD"
  have hts' := ltN hts
  have g11 := neN g1.1
  have g12 := neN g1.2.1
  have g13 := neN g1.2.2.1
  have g14 := neN g1.2.2.2
  have stopI := StopIter.mk
  rename Kept _ s.heap _ => KG
  have hI' := KG.list hI (by walk_at "F notin")
  have hH' := KG.list hH (by walk_at "F notin")
  k_steps
  refine (show _ → Stop _ from id) ?_
  rename Fr _ _ _ _ => F2
  rename News _ _ _ _ => N2
  rename_i aa _ _ _ _ _ _ _ _ _ d0 _ _ _ _ _ _ _ _ sa _ _ _ _ ra _ _ _ _ ud _ _ _ _ _ _ _ _ _ _
  have hHs' := hHs.length
  refine iter_list (prog := prg) (w := w) (vs := hvs) [] (fun i _ nx => ∃ o kvs D, nx = [(ud, o), (ra, _), (sa, _), (d0, _), (aa, _), (x, _), (dx, _)] ∧ o.IsDictOf (strKind prg w) kvs ∧ PyProof.V.FlatPairs PyData.str kvs D ∧ D.length ≤ i ∧
      ∀ k, (PySem.Spec.lookup (.str k) D).isSome = ((hs.take i).any fun y => y == k))
    rfl (listUp hH' F2) (.inl ?_) F2 N2 ⟨_, [], [], rfl, by assumption, .nil, Nat.zero_le _, fun k => rfl⟩ ?_ ?_
  · obtain ⟨o, ho, _⟩ := hH'; exact ⟨o, ho⟩
  · intro i v u nx I it h tk hv hj hne hlt F3 N3 Q1
    clear F2 N2
    obtain ⟨o, kvs, D, e, hd, hf, hDl, hJ⟩ := hj
    subst e
    have hib := (List.getElem?_eq_some_iff.mp hv).1
    obtain ⟨k, t, rfl, hk1⟩ := hHs.item i v hv
    have sX := StopAt.mk (a := ud)
    k_steps
    refine Stop.out ?_
    clear sX
    rename Fr _ _ _ _ => F2
    rename News _ _ _ _ => N2
    have hn3 := neA_of hne
    dsimp only [List.map] at hn3
    refine setItem_K PyProof.V.same_str (strKind_is _ _ _ _) (PyProof.V.Flat.bool _) F2 N2 (by k_updF) hd hf (fun h3 o3 F6 N6 hd3 hf3 => ?_) (by rw [sizeLine_eq]; omega)
    clear F2 N2
    k_steps
    refine TEnd.intro (nx := [(ud, o3), (ra, _), (sa, _), (d0, _), (aa, _), (x, _), (dx, _)]) (by assumption) (by assumption) ?_ ⟨by walk_at "F same", o3, _, _, rfl, hd3, hf3, ?_, fun y => ?_⟩
    · k_all
    · have := PyProof.V.putD_length_le (.str k) (.bool true) D; omega
    · rw [putLook, hJ, takeAny hk1]
  · intro u nx h tk hj F3 N3
    clear F2 N2
    obtain ⟨o, kvs, D, e, hd, hf, hDl, hJ⟩ := hj
    subst e
    rw [hHs', List.take_length] at hJ
    repeat (rename StopIter => q9; clear q9)
    have h2 : (PySem.Spec.lookup (.str "N2") D).isSome = false := by
      rw [hJ, List.any_eq_false]
      intro y hy
      rcases hsub y hy with rfl | rfl | rfl | rfl <;> decide
    have h3 : ∀ x', x' = Str.ofString "N" ∨ x' = Str.ofString "N1" ∨ x' = Str.ofString "N2" → (PySem.Spec.lookup (.str "SYSTEM") (PyProof.V.putD (.str x') (.bool true) D)).isSome = false := by
      intro x' hx'
      rw [putLook, hJ, Bool.or_eq_false_iff]
      refine ⟨by rcases hx' with rfl | rfl | rfl <;> decide, List.any_eq_false.mpr fun y hy => ?_⟩
      rcases hsub y hy with rfl | rfl | rfl | rfl <;> decide
    have sX := StopAt.mk (a := ud)
    k_steps
    refine Stop.out ?_
    clear sX
    rename Fr _ _ _ _ => F2
    rename News _ _ _ _ => N2
    rename _ = (if Option.isSome _ = true then _ else _) => hx
    have hx3 := h3 _ (ite3 hx)
    refine setItem_K PyProof.V.same_str (strKind_is _ _ _ _) (PyProof.V.Flat.bool _) F2 N2 (by k_updF) hd hf (fun h3 o3 F6 N6 hd3 hf3 => ?_) (by rw [sizeLine_eq]; omega)
    k_steps
    rename Kept _ s.heap (Shared.heap _) => hK
    rename (∀ p, p ∈ _ → _ ∧ _) => hN
    dsimp only [List.map_cons, List.map_nil] at hK hN
    rw [hJ, hJ] at hx
    refine hret (pick [_, _, _, _, _, _]) aa sa ra d0 _ _ _ _ _ hK
      (List.forall_mem_cons.mpr ⟨(hN (x, _) (by k_mem)).1, List.forall_mem_cons.mpr ⟨(hN (dx, _) (by k_mem)).1, List.forall_mem_nil _⟩⟩)
      (List.forall_mem_cons.mpr ⟨⟨(hN (aa, _) (by k_mem)).1, (hN (_, _) (by k_mem)).2 ?_⟩, List.forall_mem_cons.mpr ⟨⟨(hN (sa, _) (by k_mem)).1, (hN (_, _) (by k_mem)).2 ?_⟩, List.forall_mem_cons.mpr ⟨⟨(hN (d0, _) (by k_mem)).1, (hN (_, _) (by k_mem)).2 ?_⟩, List.forall_mem_cons.mpr ⟨⟨(hN (ra, _) (by k_mem)).1, (hN (_, _) (by k_mem)).2 ?_⟩, List.forall_mem_nil _⟩⟩⟩⟩)
      (TabAt.ofNews (by assumption) (by k_mem) (by assumption) (by assumption) (by assumption)) (by assumption) (by assumption) hx ⟨by walk_at "F lt", by walk_at "F lt"⟩
    all_goals walk_at "F notin"
end
theorem offTInit : True := by w_top off; trivial
/-- the dict of the Types object -/
noncomputable abbrev tsR (P : Params) (tk : Nat → Tok) (bx cx yx ix mx nx ox : Addr) : List DictEntry := [ent P "boolean" (tk 3) (.ref bx), ent P "char" (tk 4) (.ref cx), ent P "byte" (tk 5) (.ref yx), ent P "integer" (tk 6) (.ref ix), ent P "mask" (tk 7) (.ref mx), ent P "nil" (tk 8) (.ref nx), ent P "none" (tk 9) (.ref ox)]
noncomputable abbrev tsD (P : Params) (k0 k1 k2 : Tok) (c : Int) (kd : Addr) (rest : List DictEntry) : Obj := dictOf (ent P "counter" k0 (.int c k1) :: ent P "known" k2 (.ref kd) :: rest) 9
theorem knO_nil {w : World} {o : Obj} (h : o.IsDictOf (strKind prg w) []) : KnO w o [] := by
  obtain ⟨es, ep, h1, h2, h3, h4, h5⟩ := h
  refine ⟨h1, es, ep, h2, ?_, List.nodup_nil⟩
  generalize es.toList = l at h4
  cases h4
  rfl
theorem newNe {h₀ h h' : Heap} {L x a : Addr} {o o' : Obj} {news : List (Addr × Obj)} (N : News h₀ L h news) (hx : h'.get? x = some o ∧ h.get? x = none) (ha : (a, o') ∈ news) : @Ne Nat x a := fun e => by have := (N _ ha).1; rw [← e, hx.2] at this; cases this
section
variable {w : World} {dp un : Nat} {gd : Option (List Code)} {cn : Str} {cs : Scope} {a : Addr} {ccd : Value} {cl : List (Str × Addr)} {outer : List Env} {A₀ : Around} {base h₀ : Heap} {L : Addr} {m mg mb : Str → Option Value} {mean : ExcName → Option Value} {s : Shared} {Q E : Value → Shared → Prop}
theorem new2_V {ts tsd kd : Addr} {o : Obj} {c size : Int} {k0 k1 k2 t1 t2 : Tok} {rest : List DictEntry} {n : Nat} {form : Str} {news : List (Addr × Obj)}
    (B : Below A₀ base outer h₀) (F : Fr h₀ L s.heap m) (X : (hd.heap_39 w.params).In h₀) (T : Top pv lo mean mg mb h₀) (hk : cs.kind = .function) (hdp : dp + 20 < recursionLimit) (hun : un + 400 < cLine)
    (N : News h₀ L s.heap ((kd, o) :: (ts, instObj 239 tsd) :: (tsd, dictOf (ent w.params "counter" k0 (.int c k1) :: ent w.params "known" k2 (.ref kd) :: rest) n) :: news))
    (hts : ts ≠ tsd) (hkd : kd ≠ ts ∧ kd ≠ tsd) (hne : ∀ p ∈ news, p.1 ≠ ts ∧ p.1 ≠ tsd) (hr : rest.length ≤ 20)
    (hret : ∀ tk k1' x dx fl pl hl h' tk', Fr h₀ L h' m →
      News h₀ L h' ((kd, o) :: (ts, instObj 239 tsd) :: (tsd, dictOf (ent w.params "counter" k0 (.int (c + 1) k1') :: ent w.params "known" k2 (.ref kd) :: rest) n) :: (x, instObj 182 dx) :: (dx, tyD w.params tk (c + 1) form size .none 0 fl pl hl "" "") :: news) →
      (@Ne Nat x ts ∧ @Ne Nat x tsd ∧ @Ne Nat dx ts ∧ @Ne Nat dx tsd ∧ @Ne Nat x kd ∧ @Ne Nat dx kd) → Q (.ref x) { s with heap := h', toks := tk' }) :
    wpAny (model prg w) (ktrTop dp un gd cn cs L a ccd cl outer) (call (.ref 229) [.ref ts, .str form t1, .int size t2]) Q E s := by
  have m1 := N (ts, _) (.tail _ (.head _))
  have m2 := N (tsd, _) (.tail _ (.tail _ (.head _)))
  refine new2_ct (kd := kd) (c := c) (k0 := k0) (k1 := k1) (k2 := k2) (n := n) B F X T hk hdp hun hts hr (fun p hp => ?_) (fun tk k1' x dx fl pl hl h' tk' K g1 g2 g => ?_)
  · rcases List.mem_cons.mp hp with rfl | hp
    · exact m1
    · rw [List.mem_singleton.mp hp]; exact m2
  · have q1 := g (x, _) (.head _)
    have q2 := g (dx, _) (.tail _ (.head _))
    refine hret tk k1' x dx fl pl hl h' tk' (K.fr F ?_) ?_ ⟨newNe N q1 (.tail _ (.head _)), newNe N q1 (.tail _ (.tail _ (.head _))), newNe N q2 (.tail _ (.head _)), newNe N q2 (.tail _ (.tail _ (.head _))), newNe N q1 (.head _), newNe N q2 (.head _)⟩
    · exact List.forall_mem_cons.mpr ⟨m1.2, List.forall_mem_cons.mpr ⟨m2.2, List.forall_mem_nil _⟩⟩
    · have N1 : News h₀ L h' ((kd, o) :: news) := K.news (fun p hp => N p (by rcases List.mem_cons.mp hp with rfl | hp; exact .head _; exact .tail _ (.tail _ (.tail _ hp)))) (fun p hp => by
        rcases List.mem_cons.mp hp with rfl | hp
        · exact notMem2 hkd.1 hkd.2
        · exact notMem2 (hne p hp).1 (hne p hp).2)
      exact newsCons (N1 _ (.head _)) (newsCons ⟨g1, m1.2⟩ (newsCons ⟨g2, m2.2⟩ (newsCons (newOne F q1.1 q1.2) (newsCons (newOne F q2.1 q2.2) fun p hp => N1 p (.tail _ hp)))))
theorem new2_W {ts tsd kd : Addr} {o : Obj} {c size : Int} {k0 k1 k2 t1 t2 : Tok} {rest : List DictEntry} {n : Nat} {form : Str} {news : List (Addr × Obj)}
    (B : Below A₀ base outer h₀) (F : Fr h₀ L s.heap m) (X : (hd.heap_39 w.params).In h₀) (T : Top pv lo mean mg mb h₀) (hk : cs.kind = .function) (hdp : dp + 20 < recursionLimit) (hun : un + 400 < cLine)
    (N : News h₀ L s.heap ((kd, o) :: (ts, instObj 239 tsd) :: (tsd, dictOf (ent w.params "counter" k0 (.int c k1) :: ent w.params "known" k2 (.ref kd) :: rest) n) :: news))
    (hts : ts ≠ tsd) (hkd : kd ≠ ts ∧ kd ≠ tsd) (hne : ∀ p ∈ news, p.1 ≠ ts ∧ p.1 ≠ tsd) (hr : rest.length ≤ 20)
    (hret : ∀ x k1' h' tk', Fr h₀ L h' m →
      News h₀ L h' ((kd, o) :: (ts, instObj 239 tsd) :: (tsd, dictOf (ent w.params "counter" k0 (.int (c + 1) k1') :: ent w.params "known" k2 (.ref kd) :: rest) n) :: news) → Q (.ref x) { s with heap := h', toks := tk' }) :
    wpAny (model prg w) (ktrTop dp un gd cn cs L a ccd cl outer) (call (.ref 229) [.ref ts, .str form t1, .int size t2]) Q E s :=
  new2_V B F X T hk hdp hun N hts hkd hne hr fun tk k1' x dx fl pl hl h' tk' F' N' _ => hret x k1' h' tk' F' fun p hp => N' p (by
    rcases List.mem_cons.mp hp with rfl | hp
    · exact .head _
    · rcases List.mem_cons.mp hp with rfl | hp
      · exact .tail _ (.head _)
      · rcases List.mem_cons.mp hp with rfl | hp
        · exact .tail _ (.tail _ (.head _))
        · exact .tail _ (.tail _ (.tail _ (.tail _ (.tail _ hp)))))
end
theorem wd59 : True := by
  (k_with "M.call ref" => first | ((with_reducible show wpAny _ _ (call (.ref 229) _) _ _ _); k_dflt (refine new2_W (by k_asm) (by k_asm) (by k_asm) (by k_asm) (by first | exact rfl | assumption) (by ktr_room) (by ktr_units) (by k_asm) (by k_ne) (by exact ⟨by k_ne, by k_ne⟩) (by walk_at "F off2") (by exact Nat.le_of_ble_eq_true rfl) ?_); k_whole; intro _ _ _ _ _ _; (try k_sweep)) | fail)
  trivial
theorem wd60 : True := by
  (k_with "M.call ref" => first | ((with_reducible show wpAny _ _ (call (.ref 229) [_, .str (Str.ofString "char") _, _]) _ _ _); k_dflt (refine new2_V (by k_asm) (by k_asm) (by k_asm) (by k_asm) (by first | exact rfl | assumption) (by ktr_room) (by ktr_units) (by k_asm) (by k_ne) (by exact ⟨by k_ne, by k_ne⟩) (by walk_at "F off2") (by exact Nat.le_of_ble_eq_true rfl) ?_); k_whole; intro tk' _ _ _ _ _ _ _ tk' _ _ ne'; (repeat ((have nq' := And.left ne'); (replace ne' := And.right ne'))); (try k_sweep)) | fail)
  trivial
theorem wd61 : True := by
  (k_with "M.call ref" => first | ((with_reducible show wpAny _ _ (call (.ref 229) [_, .str (Str.ofString "integer") _, _]) _ _ _); k_dflt (refine new2_V (by k_asm) (by k_asm) (by k_asm) (by k_asm) (by first | exact rfl | assumption) (by ktr_room) (by ktr_units) (by k_asm) (by k_ne) (by exact ⟨by k_ne, by k_ne⟩) (by walk_at "F off2") (by exact Nat.le_of_ble_eq_true rfl) ?_); k_whole; intro tk' _ _ _ _ _ _ _ tk' _ _ ne'; (repeat ((have nq' := And.left ne'); (replace ne' := And.right ne'))); (try k_sweep)) | fail)
  trivial
theorem wd62 : True := by
  (k_with "M.F off2" => first | exact List.forall_mem_nil _ | (refine' List.forall_mem_cons.mpr ⟨⟨by k_ne, by k_ne⟩, ?_⟩; walk_at "F off2"))
  trivial
section
variable {w : World} {dp un : Nat} {gd : Option (List Code)} {cn : Str} {cs : Scope} {a : Addr} {ccd : Value} {cl : List (Str × Addr)} {outer : List Env} {A₀ : Around} {base h₀ : Heap} {L : Addr} {m mg mb : Str → Option Value} {mean : ExcName → Option Value} {s : Shared} {Q E : Value → Shared → Prop}
theorem tsInit_ct {x dx : Addr} {R : Result → Shared → Prop}
    (B : Below A₀ base outer h₀) (F : Fr h₀ L s.heap m) (X : (hd.heap_39 w.params).In h₀) (T : Top pv lo mean mg mb h₀) (hk : cs.kind = .function) (hdp : dp + 30 < recursionLimit) (hun : un + 600 < cLine)
    (hts : dx < x) (N : News h₀ L s.heap [(x, instObj 239 dx), (dx, dictOf [] 0)])
    (hret : ∀ tk kd od bx cx yx ix mx nx ox tkc tki cdx idx fl pl hl fl' pl' hl' h' tk', Kept [x, dx] s.heap h' → (∀ p ∈ [(x, instObj 239 dx), (dx, tsD w.params (tk 0) (tk 1) (tk 2) 7 kd (tsR w.params tk bx cx yx ix mx nx ox))], h'.get? p.1 = some p.2) →
      (∀ p ∈ [(kd, od), (ix, instObj 182 idx), (idx, tyD w.params tki 4 "integer" 4 .none 0 fl pl hl "" ""), (cx, instObj 182 cdx), (cdx, tyD w.params tkc 2 "char" 1 .none 0 fl' pl' hl' "" "")], h'.get? p.1 = some p.2 ∧ s.heap.get? p.1 = none) →
      KnO w od [] → R (.ok (.ret .none)) { s with heap := h', toks := tk' }) :
    codeAny (model prg w) (ktrTop dp un gd cn cs L a ccd cl outer) (.call (.ref 221) ⟨[.ref x], []⟩) R s := by
  walk_at "F enter"
  have hts' := ltN hts
  k_steps
  rename Kept _ s.heap (Shared.heap _) => hK
  rename (∀ p, p ∈ _ → _ ∧ _) => hN
  rename Obj.IsDictOf (strKind prg w) _ _ => hkd
  dsimp only [List.map_cons, List.map_nil] at hK hN
  refine hret (pick [_, _, _, _, _, _, _, _, _, _]) _ _ _ _ _ _ _ _ _ _ _ _ _ _ _ _ _ _ _ _ _ hK
    (List.forall_mem_cons.mpr ⟨(hN (x, _) (by k_mem)).1, List.forall_mem_cons.mpr ⟨(hN (dx, _) (by k_mem)).1, List.forall_mem_nil _⟩⟩)
    (List.forall_mem_cons.mpr ⟨⟨(hN (_, _) (.head _)).1, (hN (_, _) (.head _)).2 ?_⟩, List.forall_mem_cons.mpr ⟨⟨(hN (_, _) (by k_mem)).1, (hN (_, _) (by k_mem)).2 ?_⟩, List.forall_mem_cons.mpr ⟨⟨(hN (_, _) (by k_mem)).1, (hN (_, _) (by k_mem)).2 ?_⟩, List.forall_mem_cons.mpr ⟨⟨(hN (_, _) (by k_mem)).1, (hN (_, _) (by k_mem)).2 ?_⟩, List.forall_mem_cons.mpr ⟨⟨(hN (_, _) (by k_mem)).1, (hN (_, _) (by k_mem)).2 ?_⟩, List.forall_mem_nil _⟩⟩⟩⟩⟩)
    (knO_nil hkd)
  all_goals walk_at "F notin"
end
theorem offOInit : True := by w_top off; trivial
section
variable {w : World} {dp un : Nat} {gd : Option (List Code)} {cn : Str} {cs : Scope} {a : Addr} {ccd : Value} {cl : List (Str × Addr)} {outer : List Env} {A₀ : Around} {base h₀ : Heap} {L : Addr} {m mg mb : Str → Option Value} {mean : ExcName → Option Value} {s : Shared} {Q E : Value → Shared → Prop}
theorem obInit_ct {x dx ty : Addr} {name kind : Str} {t0 t1 t2 : Tok} {R : Result → Shared → Prop}
    (B : Below A₀ base outer h₀) (F : Fr h₀ L s.heap m) (X : (hd.heap_39 w.params).In h₀) (T : Top pv lo mean mg mb h₀) (hk : cs.kind = .function) (hdp : dp + 10 < recursionLimit) (hun : un + 200 < cLine)
    (hts : dx < x) (N : News h₀ L s.heap [(x, instObj 203 dx), (dx, dictOf [] 0)])
    (hret : ∀ tk h' tk', Kept [x, dx] s.heap h' → (∀ p ∈ [(x, instObj 203 dx), (dx, obD w.params tk name kind ty false)], h'.get? p.1 = some p.2) → R (.ok (.ret .none)) { s with heap := h', toks := tk' }) :
    codeAny (model prg w) (ktrTop dp un gd cn cs L a ccd cl outer) (.call (.ref 200) ⟨[.ref x, .str name t0, .str kind t1, .ref ty, .int 0 t2], []⟩) R s := by
  walk_at "F enter"
  have hts' := ltN hts
  k_steps
  rename Kept _ s.heap (Shared.heap _) => hK
  rename (∀ p, p ∈ _ → _ ∧ _) => hN
  dsimp only [List.map_cons, List.map_nil] at hK hN
  exact hret (pick [_, _, _, _, _, _, _, _, _, _, _, _, _, _, _, _, _, _, _, _, _, _]) _ _ hK
    (List.forall_mem_cons.mpr ⟨(hN (x, _) (by k_mem)).1, List.forall_mem_cons.mpr ⟨(hN (dx, _) (by k_mem)).1, List.forall_mem_nil _⟩⟩)
end
theorem offRec0 : True := by w_top off; trivial
section
variable {w : World} {dp un : Nat} {gd : Option (List Code)} {cn : Str} {cs : Scope} {a : Addr} {ccd : Value} {cl : List (Str × Addr)} {outer : List Env} {A₀ : Around} {base h₀ : Heap} {L : Addr} {m mg mb : Str → Option Value} {mean : ExcName → Option Value} {s : Shared} {Q E : Value → Shared → Prop}
/-- grouped of no fields -/
theorem grp0_k {ll : Addr}
    (B : Below A₀ base outer h₀) (F : Fr h₀ L s.heap m) (X : (hd.heap_39 w.params).In h₀) (T : Top pv lo mean mg mb h₀) (hk : cs.kind = .function) (hdp : dp + 10 < recursionLimit) (hun : un + 200 < cLine)
    {news : List (Addr × Obj)} (N₀ : News h₀ L s.heap news) (hL : s.heap.IsList ll #[])
    (hret : ∀ R n h' tk', Kept [] s.heap h' → Fr h₀ L h' m → News h₀ L h' ((R, listOf #[] n) :: news) → (∀ p ∈ news, p.1 ≠ R) → Q (.ref R) { s with heap := h', toks := tk' }) :
    wpAny (model prg w) (ktrTop dp un gd cn cs L a ccd cl outer) (call (.ref 148) [.ref ll]) Q E s := by
  have N : News h₀ L s.heap [] := News.nil
  refine wpAny_call ?_
  walk_at "F enter"
  have stopI := StopIter.mk
  rename Kept _ s.heap _ => KG
  have hL' := KG.list hL (fun q => nomatch q)
  k_steps
  rename Fr _ _ _ _ => F2
  rename News _ _ _ _ => N2
  refine iter_list (prog := prg) (w := w) (vs := []) [Str.ofString "last"] (fun _ _ nx => nx = [_]) rfl (listUp hL' F2) (.inl ?_) F2 N2 rfl ?_ ?_
  · obtain ⟨o, ho, _⟩ := hL'; exact ⟨o, ho⟩
  · intro i v u nx I it h tk hv
    simp at hv
  · rintro u nx h tk rfl F3 N3
    clear F2 N2
    k_steps
    rename Kept _ s.heap (Shared.heap _) => hK
    rename (∀ p, p ∈ _ → _ ∧ _) => hN
    have h1 := news_new F (hK.news0 N₀) N₀ (hN _ (.head _)) (fun q => nomatch q)
    exact hret _ _ _ _ hK (hK.fr0 F) h1.1 h1.2
/-- record_text of no fields -/
theorem recText0_k {na ta td fl pl hl ll : Addr} {tk : Nat → Tok} {num size len : Int} {form mo lb : Str}
    (B : Below A₀ base outer h₀) (F : Fr h₀ L s.heap m) (X : (hd.heap_39 w.params).In h₀) (T : Top pv lo mean mg mb h₀) (hk : cs.kind = .function) (hdp : dp + 20 < recursionLimit) (hun : un + 400 < cLine)
    {news : List (Addr × Obj)} (N₀ : News h₀ L s.heap news) (hL : s.heap.IsList ll #[])
    (hT : InstAt s.heap ta (instObj 182 td) 182 (some (tyD w.params tk num form size .none len fl pl hl mo lb)))
    (hret : ∀ t h' tk', Kept [] s.heap h' → Fr h₀ L h' m → News h₀ L h' news → Q (.str "RECORD END" t) { s with heap := h', toks := tk' }) :
    wpAny (model prg w) (ktrTop dp un gd cn cs L a ccd cl outer) (call (.ref 160) [.ref na, .ref ta, .ref ll]) Q E s := by
  have N : News h₀ L s.heap [] := News.nil
  refine wpAny_call ?_
  walk_at "F enterC"
  rename Kept _ s.heap _ => KG
  have hT' := instKept KG hT (fun q => nomatch q) (fun q => nomatch q)
  have hL' := KG.list hL (fun q => nomatch q)
  have stopI := StopIter.mk
  k_steps
  refine grp0_k (by k_asm) (by k_asm) (by k_asm) (by k_asm) (by first | exact rfl | assumption) (by ktr_room) (by ktr_units) (by k_asm) (listUp hL' (by k_asm)) ?_
  intro R n h' tk' kp' F' N' ne'
  k_sweep
  k_steps
  refine (show _ → Stop _ from id) ?_
  repeat (rename StopIter => q9; clear q9)
  rename Fr _ _ _ _ => F2
  rename News _ _ _ _ => N2
  refine iter_list (prog := prg) (w := w) (vs := []) [Str.ofString "listed"] (fun _ _ nx => nx = [(R, listOf #[] n), _, _]) rfl ⟨_, (N2 (R, _) (.head _)).1, rfl, _, rfl⟩ (.inr ⟨listOf #[] n, fun i m nx e => e ▸ .head _⟩) F2 N2 rfl ?_ ?_
  · intro i v u nx I it h tk hv
    simp at hv
  · rintro u nx h tk rfl F3 N3
    clear F2 N2
    k_steps
    rename Kept _ s.heap (Shared.heap _) => hK
    exact hret _ _ _ hK (hK.fr0 F) (hK.news0 N₀)
end
theorem wd63 : True := by
  (k_with "M.call ref" => first | ((with_reducible show wpAny _ _ (call (.ref 160) _) _ _ _); k_dflt (refine recText0_k (by k_asm) (by k_asm) (by k_asm) (by k_asm) (by first | exact rfl | assumption) (by ktr_room) (by ktr_units) (by k_asm) (by exact News.isList (by k_asm) (by k_mem)) (by k_inst) ?_; k_whole); intro _ _ _ _ _ _; (try k_sweep)) | fail)
  trivial
section
variable {w : World} {dp un : Nat} {gd : Option (List Code)} {cn : Str} {cs : Scope} {a : Addr} {ccd : Value} {cl : List (Str × Addr)} {outer : List Env} {A₀ : Around} {base h₀ : Heap} {L : Addr} {m mg mb : Str → Option Value} {mean : ExcName → Option Value} {s : Shared} {Q E : Value → Shared → Prop}
/-- structure_text of a record of no fields -/
theorem strRec0_k {na nd aa sa ra ta td fl pl hl : Addr} {nk tk : Nat → Tok} {num size len : Int} {mo lb : Str} {scs : List (Addr × List (Str × Int))} {al : List (Str × Str)}
    (B : Below A₀ base outer h₀) (F : Fr h₀ L s.heap m) (X : (hd.heap_39 w.params).In h₀) (T : Top pv lo mean mg mb h₀) (hk : cs.kind = .function) (hdp : dp + 30 < recursionLimit) (hun : un + 600 < cLine)
    {news : List (Addr × Obj)} (N₀ : News h₀ L s.heap news) (hM : NmAt w s.heap na nd aa sa ra nk scs al) (hL : s.heap.IsList fl #[])
    (hT : InstAt s.heap ta (instObj 182 td) 182 (some (tyD w.params tk num "record" size .none len fl pl hl mo lb)))
    (hret : ∀ t h' tk', Kept [] s.heap h' → Fr h₀ L h' m → News h₀ L h' news → Q (.str "RECORD END" t) { s with heap := h', toks := tk' }) :
    wpAny (model prg w) (ktrTop dp un gd cn cs L a ccd cl outer) (call (.ref 134) [.ref na, .ref ta]) Q E s := by
  have N : News h₀ L s.heap [] := News.nil
  refine wpAny_call ?_
  walk_at "F enterC"
  rename Kept _ s.heap _ => KG
  have hT' := instKept KG hT (fun q => nomatch q) (fun q => nomatch q)
  have hL' := KG.list hL (fun q => nomatch q)
  have hI' := (hM.keep KG).inst
  k_steps
  rename Kept _ s.heap (Shared.heap _) => hK
  exact hret _ _ _ hK (hK.fr0 F) (hK.news0 N₀)
end
theorem wd64 : True := by
  (k_with "M.call ref" => first | ((with_reducible show wpAny _ _ (call (.ref 134) _) _ _ _); k_dflt (refine strRec0_k (by k_asm) (by k_asm) (by k_asm) (by k_asm) (by first | exact rfl | assumption) (by ktr_room) (by ktr_units) (by k_asm) (by first | assumption | (refine NmAt.upF (by assumption) (by assumption))) ?_ (by k_inst) ?_; (first | assumption | (refine listUpF (by assumption) (by assumption))); k_whole); intro _ _ _ _ _ _; (try k_sweep)) | fail)
  trivial
section
variable {w : World} {dp un : Nat} {gd : Option (List Code)} {cn : Str} {cs : Scope} {a : Addr} {ccd : Value} {cl : List (Str × Addr)} {outer : List Env} {A₀ : Around} {base h₀ : Heap} {L : Addr} {m mg mb : Str → Option Value} {mean : ExcName → Option Value} {s : Shared} {Q E : Value → Shared → Prop}
noncomputable def told0 (o : Option Str) : Str := match o with
  | some x => x
  | none => "RECORD END"
/-- type_text of a record of no fields -/
theorem ttRec0_k {na nd aa sa ra ta td fl pl hl : Addr} {nk tk : Nat → Tok} {scs : List (Addr × List (Str × Int))} {al : List (Str × Str)} {num size len : Int} {mo lb : Str}
    (B : Below A₀ base outer h₀) (F : Fr h₀ L s.heap m) (X : (hd.heap_39 w.params).In h₀) (T : Top pv lo mean mg mb h₀) (hk : cs.kind = .function) (hdp : dp + 40 < recursionLimit) (hun : un + 800 < cLine)
    {news : List (Addr × Obj)} (N₀ : News h₀ L s.heap news) (hM : NmAt w s.heap na nd aa sa ra nk scs al) (hL : s.heap.IsList fl #[])
    (hT : InstAt s.heap ta (instObj 182 td) 182 (some (tyD w.params tk num "record" size .none len fl pl hl mo lb)))
    (hlb : lb.length ≤ 50) (hmo : mo.length ≤ 50)
    (hret : ∀ t h' tk', Kept [] s.heap h' → Fr h₀ L h' m → News h₀ L h' news → Q (.str (told0 (nameOf (scs.map (·.2)) al num mo lb)) t) { s with heap := h', toks := tk' }) :
    wpAny (model prg w) (ktrTop dp un gd cn cs L a ccd cl outer) (call (.ref 129) [.ref na, .ref ta]) Q E s := by
  have N : News h₀ L s.heap [] := News.nil
  have hf : (PySem.Spec.lookup (.str "record") basicD).isSome = false := by decide
  cases hx : nameOf (scs.map (·.2)) al num mo lb with
  | some x =>
    rw [hx] at hret
    exact ttNamed_k B F X T hk (by omega) (by omega) N₀ hM hT hf hlb hmo hx hret
  | none =>
    rw [hx] at hret
    refine wpAny_call ?_
    walk_at "F enter"
    rename Kept _ s.heap _ => KG
    have hT' := instKept KG hT (fun q => nomatch q) (fun q => nomatch q)
    have hL' := KG.list hL (fun q => nomatch q)
    have hM' := hM.keep KG
    have hI' := hM'.inst
    k_steps
    rename Kept _ s.heap (Shared.heap _) => hK
    exact hret _ _ _ hK (hK.fr0 F) (hK.news0 N₀)
end
theorem offArr : True := by w_top off; trivial
theorem wd65 : True := by
  (k_with "M.call ref" => first | ((with_reducible show wpAny _ _ (call (.ref 129) _) _ _ _); k_dflt (refine ttRec0_k (by k_asm) (by k_asm) (by k_asm) (by k_asm) (by first | exact rfl | assumption) (by ktr_room) (by ktr_units) (by k_asm) (by first | assumption | (refine NmAt.upF (by assumption) (by assumption))) ?_ (by k_inst) (by first | assumption | decide) (by first | assumption | decide) ?_; (first | assumption | (refine listUpF (by assumption) (by assumption))); k_whole); intro _ _ _ _ _ _; (try k_sweep)) | fail)
  trivial
theorem wd66 : True := by
  (k_with "M.call ref" => first | ((with_reducible show wpAny _ _ (call (.ref 129) _) _ _ _); k_dflt (refine ttNamed_k (by k_asm) (by k_asm) (by k_asm) (by k_asm) (by first | exact rfl | assumption) (by ktr_room) (by ktr_units) (by k_asm) (by first | assumption | (refine NmAt.upF (by assumption) (by assumption))) (by k_inst) ?_ ?_ ?_ (by assumption) ?_; (assumption); (first | assumption | decide); (first | assumption | decide); k_whole); intro _ _ _ _ _ _; (try k_sweep)) | fail)
  trivial
theorem recF : (PySem.Spec.lookup (.str "record") basicD).isSome = false := by decide
section
variable {w : World} {dp un : Nat} {gd : Option (List Code)} {cn : Str} {cs : Scope} {a : Addr} {ccd : Value} {cl : List (Str × Addr)} {outer : List Env} {A₀ : Around} {base h₀ : Heap} {L : Addr} {m mg mb : Str → Option Value} {mean : ExcName → Option Value} {s : Shared} {Q E : Value → Shared → Prop}
/-- structure_text of a pointer to a named record -/
theorem strPtr_k {na nd aa sa ra ta td fl pl hl tb tbd fl' pl' hl' : Addr} {nk tk tk2 : Nat → Tok} {num size len num' size' len' : Int} {mo lb mo' lb' x : Str} {bv : Value} {scs : List (Addr × List (Str × Int))} {al : List (Str × Str)}
    (B : Below A₀ base outer h₀) (F : Fr h₀ L s.heap m) (X : (hd.heap_39 w.params).In h₀) (T : Top pv lo mean mg mb h₀) (hk : cs.kind = .function) (hdp : dp + 50 < recursionLimit) (hun : un + 1000 < cLine)
    {news : List (Addr × Obj)} (N₀ : News h₀ L s.heap news) (hM : NmAt w s.heap na nd aa sa ra nk scs al)
    (hT : InstAt s.heap ta (instObj 182 td) 182 (some (tyD w.params tk num "pointer" size (.ref tb) len fl pl hl mo lb)))
    (hT2 : InstAt s.heap tb (instObj 182 tbd) 182 (some (tyD w.params tk2 num' "record" size' bv len' fl' pl' hl' mo' lb')))
    (hlb : lb'.length ≤ 50) (hmo : mo'.length ≤ 50) (hx : nameOf (scs.map (·.2)) al num' mo' lb' = some x) (hxl : x.length ≤ 1000)
    (hret : ∀ t h' tk', Kept [] s.heap h' → Fr h₀ L h' m → News h₀ L h' news → Q (.str (Str.ofString "POINTER TO " ++ x) t) { s with heap := h', toks := tk' }) :
    wpAny (model prg w) (ktrTop dp un gd cn cs L a ccd cl outer) (call (.ref 134) [.ref na, .ref ta]) Q E s := by
  have N : News h₀ L s.heap [] := News.nil
  have hf := recF
  refine wpAny_call ?_
  walk_at "F enterC"
  rename Kept _ s.heap _ => KG
  have hT' := instKept KG hT (fun q => nomatch q) (fun q => nomatch q)
  have hT2' := instKept KG hT2 (fun q => nomatch q) (fun q => nomatch q)
  have hM' := hM.keep KG
  have hI' := hM'.inst
  k_steps
  rename Kept _ s.heap (Shared.heap _) => hK
  exact hret _ _ _ hK (hK.fr0 F) (hK.news0 N₀)
/-- structure_text of an array of a record of no fields -/
theorem strArr_k {na nd aa sa ra ta td fl pl hl tb tbd fl' pl' hl' : Addr} {nk tk tk2 : Nat → Tok} {num size len num' size' len' : Int} {mo lb mo' lb' : Str} {scs : List (Addr × List (Str × Int))} {al : List (Str × Str)}
    (B : Below A₀ base outer h₀) (F : Fr h₀ L s.heap m) (X : (hd.heap_39 w.params).In h₀) (T : Top pv lo mean mg mb h₀) (hk : cs.kind = .function) (hdp : dp + 50 < recursionLimit) (hun : un + 1000 < cLine)
    {news : List (Addr × Obj)} (N₀ : News h₀ L s.heap news) (hM : NmAt w s.heap na nd aa sa ra nk scs al) (hL : s.heap.IsList fl' #[])
    (hT : InstAt s.heap ta (instObj 182 td) 182 (some (tyD w.params tk num "array" size (.ref tb) len fl pl hl mo lb)))
    (hT2 : InstAt s.heap tb (instObj 182 tbd) 182 (some (tyD w.params tk2 num' "record" size' .none len' fl' pl' hl' mo' lb')))
    (hlb : lb'.length ≤ 50) (hmo : mo'.length ≤ 50) (h0 : 0 ≤ len) (h1 : len < 1000) (hxl : (told0 (nameOf (scs.map (·.2)) al num' mo' lb')).length ≤ 1000)
    (hret : ∀ t h' tk', Kept [] s.heap h' → Fr h₀ L h' m → News h₀ L h' news → Q (.str (Str.ofString "ARRAY " ++ Str.ofString (toString len) ++ " OF " ++ told0 (nameOf (scs.map (·.2)) al num' mo' lb')) t) { s with heap := h', toks := tk' }) :
    wpAny (model prg w) (ktrTop dp un gd cn cs L a ccd cl outer) (call (.ref 134) [.ref na, .ref ta]) Q E s := by
  have N : News h₀ L s.heap [] := News.nil
  refine wpAny_call ?_
  walk_at "F enterC"
  rename Kept _ s.heap _ => KG
  have hT' := instKept KG hT (fun q => nomatch q) (fun q => nomatch q)
  have hT2' := instKept KG hT2 (fun q => nomatch q) (fun q => nomatch q)
  have hM' := hM.keep KG
  have hL' := KG.list hL (fun q => nomatch q)
  have hI' := hM'.inst
  k_steps
  rename Kept _ s.heap (Shared.heap _) => hK
  exact hret _ _ _ hK (hK.fr0 F) (hK.news0 N₀)
end
theorem wd67 : True := by
  (k_with "M.call ref" => first | ((with_reducible show wpAny _ _ (call (.ref 134) _) _ _ _); k_dflt (refine strPtr_k (by k_asm) (by k_asm) (by k_asm) (by k_asm) (by first | exact rfl | assumption) (by ktr_room) (by ktr_units) (by k_asm) (by first | assumption | (refine NmAt.upF (by assumption) (by assumption))) (by k_inst) (by k_inst) ?_ ?_ (by assumption) (by assumption) ?_; (first | assumption | decide); (first | assumption | decide); k_whole); intro _ _ _ _ _ _; (try k_sweep)) | fail)
  trivial
theorem wd68 : True := by
  (k_with "M.call ref" => first | ((with_reducible show wpAny _ _ (call (.ref 134) _) _ _ _); k_dflt (refine strArr_k (by k_asm) (by k_asm) (by k_asm) (by k_asm) (by first | exact rfl | assumption) (by ktr_room) (by ktr_units) (by k_asm) (by first | assumption | (refine NmAt.upF (by assumption) (by assumption))) ?_ (by k_inst) (by k_inst) ?_ ?_ (by assumption) (by assumption) (by assumption) ?_; (first | assumption | (refine listUpF (by assumption) (by assumption))); (first | assumption | decide); (first | assumption | decide); k_whole); intro _ _ _ _ _ _; (try k_sweep)) | fail)
  trivial
section
variable {w : World} {dp un : Nat} {gd : Option (List Code)} {cn : Str} {cs : Scope} {a : Addr} {ccd : Value} {cl : List (Str × Addr)} {outer : List Env} {A₀ : Around} {base h₀ : Heap} {L : Addr} {m mg mb : Str → Option Value} {mean : ExcName → Option Value} {s : Shared} {Q E : Value → Shared → Prop}
/-- type_text of a pointer without a name -/
theorem ttPtr_k {na nd aa sa ra ta td fl pl hl tb tbd fl' pl' hl' : Addr} {nk tk tk2 : Nat → Tok} {num size len num' size' len' : Int} {mo lb mo' lb' x : Str} {bv : Value} {scs : List (Addr × List (Str × Int))} {al : List (Str × Str)}
    (B : Below A₀ base outer h₀) (F : Fr h₀ L s.heap m) (X : (hd.heap_39 w.params).In h₀) (T : Top pv lo mean mg mb h₀) (hk : cs.kind = .function) (hdp : dp + 60 < recursionLimit) (hun : un + 1200 < cLine)
    {news : List (Addr × Obj)} (N₀ : News h₀ L s.heap news) (hM : NmAt w s.heap na nd aa sa ra nk scs al)
    (hT : InstAt s.heap ta (instObj 182 td) 182 (some (tyD w.params tk num "pointer" size (.ref tb) len fl pl hl mo lb)))
    (hT2 : InstAt s.heap tb (instObj 182 tbd) 182 (some (tyD w.params tk2 num' "record" size' bv len' fl' pl' hl' mo' lb')))
    (hlb0 : lb.length ≤ 50) (hmo0 : mo.length ≤ 50) (hn : nameOf (scs.map (·.2)) al num mo lb = none)
    (hlb : lb'.length ≤ 50) (hmo : mo'.length ≤ 50) (hx : nameOf (scs.map (·.2)) al num' mo' lb' = some x) (hxl : x.length ≤ 1000)
    (hret : ∀ t h' tk', Kept [] s.heap h' → Fr h₀ L h' m → News h₀ L h' news → Q (.str (Str.ofString "POINTER TO " ++ x) t) { s with heap := h', toks := tk' }) :
    wpAny (model prg w) (ktrTop dp un gd cn cs L a ccd cl outer) (call (.ref 129) [.ref na, .ref ta]) Q E s := by
  have N : News h₀ L s.heap [] := News.nil
  have hf : (PySem.Spec.lookup (.str "pointer") basicD).isSome = false := by decide
  refine wpAny_call ?_
  walk_at "F enter"
  rename Kept _ s.heap _ => KG
  have hT' := instKept KG hT (fun q => nomatch q) (fun q => nomatch q)
  have hT2' := instKept KG hT2 (fun q => nomatch q) (fun q => nomatch q)
  have hM' := hM.keep KG
  have hI' := hM'.inst
  k_steps
  rename Kept _ s.heap (Shared.heap _) => hK
  exact hret _ _ _ hK (hK.fr0 F) (hK.news0 N₀)
/-- type_text of an array without a name -/
theorem ttArr_k {na nd aa sa ra ta td fl pl hl tb tbd fl' pl' hl' : Addr} {nk tk tk2 : Nat → Tok} {num size len num' size' len' : Int} {mo lb mo' lb' : Str} {scs : List (Addr × List (Str × Int))} {al : List (Str × Str)}
    (B : Below A₀ base outer h₀) (F : Fr h₀ L s.heap m) (X : (hd.heap_39 w.params).In h₀) (T : Top pv lo mean mg mb h₀) (hk : cs.kind = .function) (hdp : dp + 60 < recursionLimit) (hun : un + 1200 < cLine)
    {news : List (Addr × Obj)} (N₀ : News h₀ L s.heap news) (hM : NmAt w s.heap na nd aa sa ra nk scs al) (hL : s.heap.IsList fl' #[])
    (hT : InstAt s.heap ta (instObj 182 td) 182 (some (tyD w.params tk num "array" size (.ref tb) len fl pl hl mo lb)))
    (hT2 : InstAt s.heap tb (instObj 182 tbd) 182 (some (tyD w.params tk2 num' "record" size' .none len' fl' pl' hl' mo' lb')))
    (hlb0 : lb.length ≤ 50) (hmo0 : mo.length ≤ 50) (hn : nameOf (scs.map (·.2)) al num mo lb = none)
    (hlb : lb'.length ≤ 50) (hmo : mo'.length ≤ 50) (h0 : 0 ≤ len) (h1 : len < 1000) (hxl : (told0 (nameOf (scs.map (·.2)) al num' mo' lb')).length ≤ 1000)
    (hret : ∀ t h' tk', Kept [] s.heap h' → Fr h₀ L h' m → News h₀ L h' news → Q (.str (Str.ofString "ARRAY " ++ Str.ofString (toString len) ++ " OF " ++ told0 (nameOf (scs.map (·.2)) al num' mo' lb')) t) { s with heap := h', toks := tk' }) :
    wpAny (model prg w) (ktrTop dp un gd cn cs L a ccd cl outer) (call (.ref 129) [.ref na, .ref ta]) Q E s := by
  have N : News h₀ L s.heap [] := News.nil
  have hf : (PySem.Spec.lookup (.str "array") basicD).isSome = false := by decide
  refine wpAny_call ?_
  walk_at "F enter"
  rename Kept _ s.heap _ => KG
  have hT' := instKept KG hT (fun q => nomatch q) (fun q => nomatch q)
  have hT2' := instKept KG hT2 (fun q => nomatch q) (fun q => nomatch q)
  have hL' := KG.list hL (fun q => nomatch q)
  have hM' := hM.keep KG
  have hI' := hM'.inst
  k_steps
  rename Kept _ s.heap (Shared.heap _) => hK
  exact hret _ _ _ hK (hK.fr0 F) (hK.news0 N₀)
end
theorem offNeX : True := by w_top off; trivial
/-- two addresses differ, out of omega's sight -/
structure NeH (a b : Nat) : Prop where
  ne : a ≠ b
theorem neNone {g : Heap} {a b : Addr} {o : Obj} (ha : g.get? a = none) (hb : g.get? b = some o) : a ≠ b := fun e => by rw [e, hb] at ha; cases ha
noncomputable def HAll (D : Nat) : List (Addr × Obj) → Prop
  | [] => True
  | p :: r => NeH p.1 D ∧ HAll D r
theorem hall_of {D : Addr} : ∀ {l : List (Addr × Obj)}, LCg.Off1 D l → HAll D l
  | [], _ => trivial
  | _ :: _, h => ⟨⟨h.1⟩, hall_of h.2⟩
structure Hid (P : Prop) : Prop where
  h : P
theorem wd69 : True := by
  (k_with "M.F k_ne" => first | (refine NeH.ne ?_; with_reducible assumption) | (refine Ne.symm (NeH.ne ?_); with_reducible assumption))
  trivial
local macro_rules | `(tactic| lcg_off) => `(tactic| walk_at "F lcg_off")
theorem wd70 : True := by
  (k_with "M.F lcg_off" => with_reducible assumption)
  trivial
theorem wd71 : True := by
  (k_with "M.FinE" => ((unfold LCg.FinE); intro _ _ _ _ N' o1'; (replace o1' := hall_of o1'); (try simp only [HAll, and_true] at o1'); (repeat ((have oq' := And.left o1'); (replace o1' := And.right o1'))); (try simp only [List.nil_append, List.cons_append] at N'); (try dsimp only)))
  trivial
theorem wd72 : True := by
  (k_with "M.FinA" => ((unfold LCg.FinA); intro _ _ _ _ N' o1'; (replace o1' := hall_of o1'); (try simp only [HAll, and_true] at o1'); (repeat ((have oq' := And.left o1'); (replace o1' := And.right o1'))); (try simp only [List.nil_append, List.cons_append] at N'); (try dsimp only)))
  trivial
theorem wd73 : True := by
  (k_with "M.CompRest" => (with_unfolding_all ((refine LCg.CompRest.succ ?_; intro _ _ _ _ _ _ _ _ _ _ hv' _ _ _ _ _ ne'; (first | lcg_open hv' | (obtain ⟨t9', hv9'⟩ := hv'; subst hv9')); clear ne'))))
  trivial
section
variable {prog : Program} {w : World} {A : Around} {E : Value → Shared → Prop} {s : Shared}
theorem item0 {value slice : Expr} {l : Addr} {r : List Value} {u : Tok} {x : Value} {Q : Value → Shared → Prop} (hl : s.heap.IsList l (x :: r).toArray) (h : Q x s)
    (hs : subscripted slice false (.ref l) (.int 0 u) = operate [.ref l, .int 0 u] (getItem (.ref l) (.int 0 u)) := by with_unfolding_all rfl) (hg : ∀ r, letTemporaryGo value (.ref l) r = pure () := by intro _; with_unfolding_all rfl) :
    wpAny (model prog w) A (subscriptTail value slice (.ref l) (.int 0 u)) Q E s := PyProof.Rows.item_list hl (by decide) (by decide) rfl h hs hg
theorem item1 {value slice : Expr} {l : Addr} {r : List Value} {u : Tok} {x y : Value} {Q : Value → Shared → Prop} (hl : s.heap.IsList l (y :: x :: r).toArray) (h : Q x s)
    (hs : subscripted slice false (.ref l) (.int 1 u) = operate [.ref l, .int 1 u] (getItem (.ref l) (.int 1 u)) := by with_unfolding_all rfl) (hg : ∀ r, letTemporaryGo value (.ref l) r = pure () := by intro _; with_unfolding_all rfl) :
    wpAny (model prog w) A (subscriptTail value slice (.ref l) (.int 1 u)) Q E s := PyProof.Rows.item_list hl (by decide) (by decide) rfl h hs hg
theorem item2 {value slice : Expr} {l : Addr} {r : List Value} {u : Tok} {x y z : Value} {Q : Value → Shared → Prop} (hl : s.heap.IsList l (z :: y :: x :: r).toArray) (h : Q x s)
    (hs : subscripted slice false (.ref l) (.int 2 u) = operate [.ref l, .int 2 u] (getItem (.ref l) (.int 2 u)) := by with_unfolding_all rfl) (hg : ∀ r, letTemporaryGo value (.ref l) r = pure () := by intro _; with_unfolding_all rfl) :
    wpAny (model prog w) A (subscriptTail value slice (.ref l) (.int 2 u)) Q E s := PyProof.Rows.item_list hl (by decide) (by decide) rfl h hs hg
theorem item4 {value slice : Expr} {l : Addr} {r : List Value} {u : Tok} {x y z v t : Value} {Q : Value → Shared → Prop} (hl : s.heap.IsList l (t :: v :: z :: y :: x :: r).toArray) (h : Q x s)
    (hs : subscripted slice false (.ref l) (.int 4 u) = operate [.ref l, .int 4 u] (getItem (.ref l) (.int 4 u)) := by with_unfolding_all rfl) (hg : ∀ r, letTemporaryGo value (.ref l) r = pure () := by intro _; with_unfolding_all rfl) :
    wpAny (model prog w) A (subscriptTail value slice (.ref l) (.int 4 u)) Q E s := PyProof.Rows.item_list hl (by decide) (by decide) rfl h hs hg
end
theorem wd74 : True := by
  (k_with "M.subscriptTail Name Constant ref int" => first | ((with_reducible show wpAny _ _ (subscriptTail _ _ (Value.ref _) (Value.int 4 _)) _ _ _); k_dflt (refine item4 (by exact News.isList (by k_asm) (by k_mem)) ?_; k_whole); (try dsimp only)) | fail)
  trivial
theorem wd75 : True := by
  (k_with "M.subscriptTail Name Constant ref int" => first | ((with_reducible show wpAny _ _ (subscriptTail _ _ (Value.ref _) (Value.int 2 _)) _ _ _); k_dflt (refine item2 (by exact News.isList (by k_asm) (by k_mem)) ?_; k_whole); (try dsimp only)) | fail)
  trivial
theorem wd76 : True := by
  (k_with "M.subscriptTail Name Constant ref int" => first | ((with_reducible show wpAny _ _ (subscriptTail _ _ (Value.ref _) (Value.int 1 _)) _ _ _); k_dflt (refine item1 (by exact News.isList (by k_asm) (by k_mem)) ?_; k_whole); (try dsimp only)) | fail)
  trivial
theorem wd77 : True := by
  (k_with "M.subscriptTail Name Constant ref int" => first | ((with_reducible show wpAny _ _ (subscriptTail _ _ (Value.ref _) (Value.int 0 _)) _ _ _); k_dflt (refine item0 (by exact News.isList (by k_asm) (by k_mem)) ?_; k_whole); (try dsimp only)) | fail)
  trivial
theorem offRow : True := by w_top off; trivial
/-- record_text in the program -/
noncomputable def recDef : Stmt := Challenge.pw_nu0330_01.main.body.getD 11 (.Pass ⟨0, 0, 0, 0⟩)
noncomputable def recBody : List Stmt := match recDef with
  | .FunctionDef _ _ body _ _ _ _ _ _ _ => body
  | _ => []
noncomputable def recScope : Scope := match recDef with
  | .FunctionDef _ _ _ _ _ _ s _ _ _ => s
  | _ => { kind := .function, names := [], isGenerator := false, isCoroutine := false }
noncomputable def recRow : List Stmt := match recBody.getD 3 (.Pass ⟨0, 0, 0, 0⟩) with
  | .For _ _ body _ _ => body
  | _ => []
noncomputable abbrev recCl (ce : Addr) : List (Str × Addr) := [(Str.ofString "names", ce)]
noncomputable abbrev mkd (x : Str) (b : Bool) : Str := x ++ Str.ofString (if b = true then "*" else "")
theorem joinJ {prog : Program} {w : World} {A : Around} {E : Value → Shared → Prop} {s : Shared} {x : Str} {t : Tok} {Q : Value → Shared → Prop} {D : Addr} {vs : List Value} {ys : List Str} (hl : s.heap.IsList D vs.toArray) (hi : StrsAre vs ys) (hsep : x.length ≤ 16) (hw : (ys.map (·.length)).sum + ys.length ≤ 1048576)
    (h : ∀ t' k, Q (.str (Str.join x ys) t') { s with toks := k }) : wpAny (model prog w) A (call (.builtin "str.join") [.str x t, .ref D]) Q E s :=
  join_listW hl (by rw [List.toList_toArray]; exact hi) hsep hw fun t' k => by
    have e : Txt.join x ys = Str.join x ys := StrLaws.glued_eq_join x ys
    rw [e]; exact h t' k
/-- a field of a record -/
structure Fld where
  (o d t e : Addr) (x : Str) (b : Bool) (num : Int) (z : Str)
noncomputable abbrev Fld.mk' (f : Fld) : Str := mkd f.x f.b
structure FldAt (w : World) (h : Heap) (f : Fld) : Prop where
  ob : ∃ k, InstAt h f.o (instObj 203 f.d) 203 (some (obD w.params k f.x "field" f.t f.b))
  ty : ∃ tk form size v len p q r mo lb, InstAt h f.t (instObj 182 f.e) 182 (some (tyD w.params tk f.num form size v len p q r mo lb)) ∧ PySem.Spec.lookup (.str form) basicD = some (.str f.z)
  hx : f.x.length ≤ 50
  hz : f.z.length ≤ 50
theorem FldAt.keep {w : World} {h h' : Heap} {f : Fld} (H : FldAt w h f) (k : Kept [] h h') : FldAt w h' f :=
  let ⟨a, I⟩ := H.ob
  let ⟨b1, b2, b3, b4, b5, b6, b7, b8, b9, b10, J, e⟩ := H.ty
  ⟨⟨a, instKept k I (fun q => nomatch q) (fun q => nomatch q)⟩, ⟨b1, b2, b3, b4, b5, b6, b7, b8, b9, b10, instKept k J (fun q => nomatch q) (fun q => nomatch q), e⟩, H.hx, H.hz⟩
noncomputable def rowTxt (fs : List Fld) : Str := Str.join (Str.ofString ", ") (fs.map Fld.mk') ++ Str.ofString ": " ++ (fs.map Fld.z).headD PySem.Str.empty
theorem join_len : ∀ {ys : List Str} {k : Nat}, (∀ y ∈ ys, y.length ≤ k) → (ys.map (·.length)).sum ≤ k * ys.length
  | [], _, _ => Nat.zero_le _
  | y :: ys, k, h => by
    have h1 := h y (.head _)
    have h2 := join_len (k := k) fun z hz => h z (.tail _ hz)
    rw [List.map_cons, List.sum_cons, List.length_cons, Nat.mul_succ, Nat.add_comm (k * _)]
    exact Nat.add_le_add h1 h2
theorem star_le (b : Bool) : (Str.ofString (if b = true then "*" else "")).length ≤ 1 := by cases b <;> decide
theorem mk_le {w : World} {h : Heap} {f : Fld} (H : FldAt w h f) : f.mk'.length ≤ 51 := by
  have h1 := H.hx
  have h2 := star_le f.b
  rw [Fld.mk', mkd, Str.length_append]; exact Nat.add_le_add h1 h2
theorem row_w {w : World} {h : Heap} {fs : List Fld} (H : ∀ f ∈ fs, FldAt w h f) (hl : fs.length ≤ 3) : ((fs.map Fld.mk').map (·.length)).sum + (fs.map Fld.mk').length ≤ 200 := by
  have h1 := join_len (k := 51) (ys := fs.map Fld.mk') fun y hy => by
    obtain ⟨f, hf, e⟩ := List.mem_map.mp hy
    rw [← e]; exact mk_le (H f hf)
  rw [List.length_map] at h1 ⊢
  omega
theorem join_le {w : World} {h : Heap} {fs : List Fld} (H : ∀ f ∈ fs, FldAt w h f) (hl : fs.length ≤ 3) : (Str.join (Str.ofString ", ") (fs.map Fld.mk')).length ≤ 400 := by
  have h1 := StrLaws.join_length_le (Str.ofString ", ") (fs.map Fld.mk')
  have h2 := row_w H hl
  have h3 : (Str.ofString ", ").length = 2 := by decide
  rw [h3] at h1
  omega
theorem mKnow {m : Str → Option Value} {a : Str} {v : Option Value} (e : m a = v) : (fun y => if y = a then v else m y) = m := by
  funext y
  by_cases q : y = a
  · rw [if_pos q, q, e]
  · rw [if_neg q]
theorem frIn {h₀ h : Heap} {L : Addr} {a : Str} {v : Option Value} {m₁ m₂ : Str → Option Value} (F : Fr h₀ L h (fun y => if y = a then v else m₁ y)) (e : m₁ = m₂) : Fr h₀ L h (fun y => if y = a then v else m₂ y) := e ▸ F
theorem wd78 : True := by
  (k_with "M.call ref" => refine stopX (by with_reducible assumption) ?_)
  trivial
section
variable {w : World} {dp un : Nat} {gd : Option (List Code)} {a : Addr} {ccd : Value} {outer : List Env} {A₀ : Around} {base h₀ : Heap} {L : Addr} {m mg mb : Str → Option Value} {mean : ExcName → Option Value} {s : Shared} {Q : Flow → Shared → Prop} {E : Value → Shared → Prop}
theorem row_k {na nd aa sa ra pa rw ce : Addr} {nk : Nat → Tok} {scs : List (Addr × List (Str × Int))} {al : List (Str × Str)} {oc : Obj} {fs : List Fld} {f0 : Fld} {vs : List Value} {n c : Nat} {R : List (Addr × Obj)}
    (B : Below A₀ base outer h₀) (F : Fr h₀ L s.heap m) (X : (hd.heap_39 w.params).In h₀) (T : Top pv lo mean mg mb h₀) (hdp : dp + 50 < recursionLimit) (hun : un + 1000 < cLine)
    (N : News h₀ L s.heap ((pa, listOf vs.toArray n) :: (rw, listOf (.ref f0.o :: fs.map fun f => .ref f.o).toArray c) :: (ce, oc) :: R)) (hM : NmAt w h₀ na nd aa sa ra nk scs al) (hoc : oc.data = .cell (some (.ref na)))
    (hm1 : m "row" = some (.ref rw)) (hm2 : m "parts" = some (.ref pa)) (hne : NeA pa (rw :: ce :: R.map (·.1))) (hF : ∀ f ∈ f0 :: fs, FldAt w h₀ f) (hfs : fs.length ≤ 2) (hvs : vs.length ≤ 3)
    (hret : ∀ t h' tk v, Fr h₀ L h' (fun y => if y = "listed" then v else m y) → News h₀ L h' ((pa, listOf (vs.toArray.push (.str (rowTxt (f0 :: fs)) t)) (n + 1)) :: (rw, listOf (.ref f0.o :: fs.map fun f => .ref f.o).toArray c) :: (ce, oc) :: R) → Q .next { s with heap := h', toks := tk }) :
    wpAny (model prg w) (ktrTop dp un gd (Str.ofString "record_text") recScope L a ccd (recCl ce) outer) (execs recRow (envX (Str.ofString "record_text") recScope L a ccd (recCl ce))) Q E s := by
  generalize hZ : recScope = Z
  conv at hZ => lhs; whnf
  subst hZ
  conv in (execs _ _) => arg 1; whnf
  replace F := frKnow (a := Str.ofString "row") (frKnow F hm2) ((if_neg (by decide)).trans hm1)
  dsimp only [recCl] at *
  have stopC := StopComp.mk
  k_steps
  refine (show _ → Stop _ from id) ?_
  k_dflt refine LCg.ListComp_U (F₀ := F) (by with_unfolding_all rfl) (by decide) (by rfl) (by decide) (by rfl) ?_
  k_steps
  refine (show _ → Stop _ from id) ?_
  clear stopC
  refine LCg.CompSrc.ledger (by rfl) F N (by k_mem) (by rw [sizeLine_eq, List.size_toArray, List.length_cons, List.length_map]; omega) (fun g' => ?_)
  refine compU_inv (fun i ys nx => nx = _ ∧ StrsAre ys (((f0 :: fs).take i).map Fld.mk')) ⟨rfl, .nil⟩ ?_ ?_
  · intro i v I oI C oC D m₂ h tk E' ys nx hi hv hj hC hx F3 N3 off ne
    obtain ⟨e, hys⟩ := hj
    subst e
    obtain ⟨f, hf, e⟩ : ∃ f, (f0 :: fs)[i]? = some f ∧ v = .ref f.o := by
      rw [← List.map_cons (f := fun f : Fld => Value.ref f.o), List.getElem?_toArray, List.getElem?_map] at hv
      obtain ⟨f, h1, h2⟩ := Option.map_eq_some_iff.mp hv
      exact ⟨f, h1, h2.symm⟩
    subst e
    have hfm := hF f (List.mem_of_getElem? hf)
    obtain ⟨k1, hO⟩ := hfm.ob
    have hf50 := hfm.hx
    clear F N
    k_steps
    refine (show _ → Stop _ from id) ?_
    rename Fr _ _ _ _ => F4
    rename News _ _ _ _ => N4
    refine ⟨_, _, _, rfl, F4, N4, off, .inr ⟨_, by k_mem, rfl, _, rfl⟩, rfl, ?_⟩
    rw [List.take_add_one, hf, List.map_append]
    exact StrsAre.append' hys (.cons _ _ .nil)
  · intro ys nx hj
    obtain ⟨e, hys⟩ := hj
    subst e
    intro D h3 tk3 F3 N3 off
    have hys' : StrsAre ys ((f0 :: fs).map Fld.mk') := by
      rw [List.take_of_length_le (by rw [List.size_toArray, List.length_cons, List.length_cons, List.length_map]; exact Nat.le_refl _)] at hys; exact hys
    clear F N hys
    have hD := News.isList N3 (a := D) (by k_mem)
    replace N3 := fun p hp => N3 p (List.mem_cons_of_mem _ hp)
    replace N3 : News h₀ L h3 ((pa, listOf vs.toArray n) :: (rw, listOf (.ref f0.o :: fs.map fun f => .ref f.o).toArray c) :: (ce, oc) :: R) := N3
    have sX := StopX.mk
    k_steps
    refine Stop.out ?_
    refine joinJ hD hys' (by decide) (Nat.le_trans (row_w hF (Nat.succ_le_succ hfs)) (by decide)) fun t1 k1 => ?_
    clear hys' hD
    have hjl := join_le hF (Nat.succ_le_succ hfs)
    generalize hj : Str.join (Str.ofString ", ") ((f0 :: fs).map Fld.mk') = jy at hjl ⊢
    obtain ⟨k0, hO⟩ := (hF f0 (.head _)).ob
    obtain ⟨tk0, form, size, v0, len, p0, q0, r0, mo, lb, hT, hb⟩ := (hF f0 (.head _)).ty
    have hz0 := (hF f0 (.head _)).hz
    k_steps
    refine Stop.out ?_
    clear sX
    rename Fr _ _ _ _ => F5
    rename News _ _ _ _ => N5
    refine ttBasic_k B F5 X T rfl (by ktr_room) (by ktr_units) N5 (hM.up F5) (instUp hT F5) hb ?_
    intro t6 h6 tk6 K6 F6 N6
    clear F5 N5 hO hT
    k_steps
    rename Fr _ _ _ _ => F7
    rename News _ _ _ _ => N7
    have e2 : (fun y => if y = Str.ofString "row" then some (Value.ref rw) else if y = Str.ofString "parts" then some (Value.ref pa) else m y) = m := (mKnow ((if_neg (by decide)).trans hm1)).trans (mKnow hm2)
    have e3 : jy ++ Str.ofString ": " ++ f0.z = rowTxt (f0 :: fs) := by rw [← hj]; rfl
    rw [e3] at N7
    exact hret _ _ _ _ (frIn F7 e2) N7
structure RowSp where
  (r : Addr) (c : Nat) (f0 : Fld) (fs : List Fld)
noncomputable abbrev RowSp.ob (q : RowSp) : Addr × Obj := (q.r, listOf (.ref q.f0.o :: q.fs.map fun f => .ref f.o).toArray q.c)
noncomputable abbrev RowSp.txt (q : RowSp) : Str := rowTxt (q.f0 :: q.fs)
structure RowsOk (w : World) (h : Heap) (rs : List RowSp) : Prop where
  fl : ∀ q ∈ rs, ∀ f ∈ q.f0 :: q.fs, FldAt w h f
  le : ∀ q ∈ rs, q.fs.length ≤ 2
  ln : rs.length ≤ 3
theorem recLoop_k {na nd aa sa ra pa ce R : Addr} {nk : Nat → Tok} {scs : List (Addr × List (Str × Int))} {al : List (Str × Str)} {oc : Obj} {rs : List RowSp} {n rc : Nat} {K : List (Addr × Obj)}
    (B : Below A₀ base outer h₀) (F : Fr h₀ L s.heap m) (X : (hd.heap_39 w.params).In h₀) (T : Top pv lo mean mg mb h₀) (hdp : dp + 50 < recursionLimit) (hun : un + 1000 < cLine)
    (N : News h₀ L s.heap ((pa, listOf #[] n) :: K)) (hM : NmAt w h₀ na nd aa sa ra nk scs al) (hoc : oc.data = .cell (some (.ref na))) (hok : RowsOk w h₀ rs)
    (hR : (R, listOf (rs.map fun q => Value.ref q.r).toArray rc) ∈ K) (hce : (ce, oc) ∈ K) (hrs : ∀ q ∈ rs, q.ob ∈ K) (hne : ∀ p ∈ K, p.1 ≠ pa) (hm2 : m "parts" = some (.ref pa))
    (hret : ∀ vs n h' tk m', StrsAre vs (rs.map RowSp.txt) → m' "parts" = some (.ref pa) → m' "head" = m "head" → Fr h₀ L h' m' → News h₀ L h' ((pa, listOf vs.toArray n) :: K) → Q .next { s with heap := h', toks := tk }) :
    wpAny (model prg w) (ktrTop dp un gd (Str.ofString "record_text") recScope L a ccd (recCl ce) outer) (pyIter (.ref R))
      (fun it s₂ => LoopAtV prg w (ktrTop dp un gd (Str.ofString "record_text") recScope L a ccd (recCl ce) outer) h₀ (envX (Str.ofString "record_text") recScope L a ccd (recCl ce)) "row" recRow Q E it s₂) E s := by
  refine iter_list (prog := prg) (w := w) (vs := rs.map fun q => Value.ref q.r) [Str.ofString "listed"] (fun i _ nx => ∃ vs n, nx = (pa, listOf vs.toArray n) :: K ∧ StrsAre vs ((rs.take i).map RowSp.txt))
    rfl ⟨_, (N _ (.tail _ hR)).1, rfl, _, rfl⟩ (.inr ⟨listOf (rs.map fun q => Value.ref q.r).toArray rc, fun i m nx hj => ?_⟩) F N ⟨[], n, rfl, .nil⟩ ?_ ?_
  · obtain ⟨vs, n, e, _⟩ := hj
    rw [e]; exact .tail _ hR
  · intro i v u nx I it h tk hv hj hnI hlt F1 N1 Q1
    obtain ⟨vs, n1, e, hvs⟩ := hj
    subst e
    rw [List.getElem?_map] at hv
    obtain ⟨q, hq, e⟩ := Option.map_eq_some_iff.mp hv
    subst e
    have hqm := List.mem_of_getElem? hq
    have hvl : vs.length ≤ 3 := by
      rw [hvs.length, List.length_map, List.length_take]
      exact Nat.le_trans (Nat.min_le_right ..) hok.ln
    refine row_k (n := n1) (R := (I, it) :: K) (f0 := q.f0) (fs := q.fs) (rw := q.r) (c := q.c) B F1 X T hdp hun (show News h₀ L h _ from fun p hp => ?_) hM hoc (by rfl) (Eq.trans (by rfl) hm2) ?_ (hok.fl q hqm) (hok.le q hqm) hvl ?_
    · rcases List.mem_cons.mp hp with rfl | hp
      · exact N1 _ (.tail _ (.head _))
      · rcases List.mem_cons.mp hp with rfl | hp
        · exact N1 _ (.tail _ (.tail _ (hrs q hqm)))
        · rcases List.mem_cons.mp hp with rfl | hp
          · exact N1 _ (.tail _ (.tail _ hce))
          · rcases List.mem_cons.mp hp with rfl | hp
            · exact N1 _ (.head _)
            · exact N1 _ (.tail _ (.tail _ hp))
    · intro x hx
      rcases List.mem_cons.mp hx with rfl | hx
      · exact hne _ (hrs q hqm)
      · rcases List.mem_cons.mp hx with rfl | hx
        · exact hne _ hce
        · rcases List.mem_cons.mp hx with rfl | hx
          · exact Ne.symm (hnI (pa, _) (.head _))
          · obtain ⟨p, hp, e⟩ := List.mem_map.mp hx
            rw [← e]; exact hne p hp
    · intro t h' tk' v F2 N2
      refine TEnd.intro (nx := (pa, listOf (vs ++ [Value.str (rowTxt (q.f0 :: q.fs)) t]).toArray (n1 + 1)) :: K) F2 (fun p hp => ?_) ?_ ⟨by walk_at "F same", _, _, rfl, ?_⟩
      · rw [← List.push_toArray] at hp
        rcases List.mem_cons.mp hp with rfl | hp
        · exact N2 _ (.tail _ (.tail _ (.tail _ (.head _))))
        · rcases List.mem_cons.mp hp with rfl | hp
          · exact N2 _ (.head _)
          · exact N2 _ (.tail _ (.tail _ (.tail _ (.tail _ hp))))
      · intro p hp
        rcases List.mem_cons.mp hp with rfl | hp
        · exact hnI (pa, listOf vs.toArray n1) (.head _)
        · exact hnI p (.tail _ hp)
      · rw [List.take_add_one, hq, List.map_append]
        exact StrsAre.append' hvs (.cons _ _ .nil)
  · intro u nx h tk hj F1 N1
    obtain ⟨vs, n1, e, hvs⟩ := hj
    subst e
    rw [List.length_map, List.take_length] at hvs
    exact hret vs n1 h tk _ hvs (Eq.trans (by rfl) hm2) (by rfl) F1 N1
theorem recTail_k {pa ce : Addr} {vs : List Value} {ys : List Str} {n : Nat} {th : Tok} {K : List (Addr × Obj)}
    (B : Below A₀ base outer h₀) (F : Fr h₀ L s.heap m) (X : (hd.heap_39 w.params).In h₀) (T : Top pv lo mean mg mb h₀) (hdp : dp + 50 < recursionLimit) (hun : un + 1000 < cLine)
    (N : News h₀ L s.heap ((pa, listOf vs.toArray n) :: K)) (hi : StrsAre vs ys) (hpos : ys ≠ []) (hl3 : ys.length ≤ 3) (hw : ∀ y ∈ ys, y.length ≤ 500) (hm2 : m "parts" = some (.ref pa)) (hm3 : m "head" = some (.str "RECORD" th))
    (hret : ∀ t h' tk, Fr h₀ L h' m → News h₀ L h' ((pa, listOf vs.toArray n) :: K) → Q (.ret (.str (Str.ofString "RECORD" ++ Str.ofString " " ++ Str.join (Str.ofString "; ") ys ++ Str.ofString " END") t)) { s with heap := h', toks := tk }) :
    wpAny (model prg w) (ktrTop dp un gd (Str.ofString "record_text") recScope L a ccd (recCl ce) outer) (execs (recBody.drop 4) (envX (Str.ofString "record_text") recScope L a ccd (recCl ce))) Q E s := by
  generalize hZ : recScope = Z
  conv at hZ => lhs; whnf
  subst hZ
  conv in (execs _ _) => arg 1; whnf
  have F0 := F
  replace F := frKnow (a := Str.ofString "head") (frKnow F hm2) ((if_neg (by decide)).trans hm3)
  dsimp only [recCl] at *
  have hz : ¬ (((vs.toArray.size : Nat) : Int) == 0) = true := by
    rw [List.size_toArray, hi.length]
    intro q
    exact hpos (List.length_eq_zero_iff.mp (Int.ofNat.inj (eq_of_beq q)))
  iterate 9 (first | (k_unfold; (try dsimp only)) | walk1 | (dsimp only; walk1) | (leave1; (try dsimp only)))
  refine len_list (News.isList N (by k_mem)) (by rw [List.size_toArray, hi.length]; omega) ?_
  iterate 3 (first | (k_unfold; (try dsimp only)) | walk1 | (dsimp only; walk1) | (leave1; (try dsimp only)))
  refine ite_neg hz ?_
  clear hz
  k_steps
  refine joinJ (News.isList (by k_asm) (by k_mem)) hi (by decide) ?_ fun t1 k1 => ?_
  · have h1 := join_len (k := 500) hw
    omega
  have hjl := StrLaws.join_length_le (Str.ofString "; ") ys
  have h1 := join_len (k := 500) hw
  have h3 : (Str.ofString "; ").length = 2 := by decide
  rw [h3] at hjl
  replace hjl := Nat.le_trans hjl (Nat.le_trans (Nat.add_le_add h1 (Nat.mul_le_mul_right 2 hl3)) (Nat.add_le_add_right (Nat.mul_le_mul_left 500 hl3) _) : _ ≤ 1506)
  clear h1 h3 hw hi hpos
  generalize Str.join (Str.ofString "; ") ys = jy at hjl hret ⊢
  k_steps
  exact hret _ _ _ F0 N
end
theorem offRec3 : True := by w_top off; trivial
theorem newsIn {h₀ h : Heap} {L : Addr} {l l' : List (Addr × Obj)} (N : News h₀ L h l) (s : ∀ p ∈ l', p ∈ l) : News h₀ L h l' := fun p hp => N p (s p hp)
theorem wd79 : True := by
  (k_with "M.F sub" => first | exact List.forall_mem_nil _ | (refine allCons ?_ ?_; k_mem; walk_at "F sub"))
  trivial
theorem txt_le {w : World} {h : Heap} {rs : List RowSp} (H : RowsOk w h rs) : ∀ y ∈ rs.map RowSp.txt, y.length ≤ 500 := fun y hy => by
  obtain ⟨q, hq, e⟩ := List.mem_map.mp hy
  have h1 := join_le (H.fl q hq) (Nat.succ_le_succ (H.le q hq))
  have h2 := (H.fl q hq q.f0 (.head _)).hz
  have h3 : (Str.ofString ": ").length = 2 := by decide
  rw [← e]
  show (Str.join (Str.ofString ", ") ((q.f0 :: q.fs).map Fld.mk') ++ Str.ofString ": " ++ q.f0.z).length ≤ 500
  rw [Str.length_append, Str.length_append, h3]
  omega
theorem foldQ {α : Type} {M : Model} {A : Around} {t : Sem α} {Q : α → Shared → Prop} {E : Value → Shared → Prop} {s : Shared} (h : let q1 := Q; wpAny M A t q1 E s) : wpAny M A t Q E s := h
structure StopGrp : Prop where
theorem wd80 : True := by
  (k_with "M.call ref" => ((have _ := (by with_reducible assumption : StopGrp)); (with_reducible show wpAny _ _ (call (.ref 148) _) _ _ _); refine Stop.intro ?_))
  trivial
theorem neObj {h₀ h : Heap} {L a b : Addr} {o o' : Obj} {news : List (Addr × Obj)} (N : News h₀ L h news) (h1 : (a, o) ∈ news) (h2 : (b, o') ∈ news) (ho : o ≠ o') : @Ne Nat a b := fun e => ho (Option.some.inj ((N _ h1).1.symm.trans (by have := (N _ h2).1; rw [← e] at this; exact this)))
theorem listNe {as bs : Array Value} {n k : Nat} (h : as.size ≠ bs.size) : listOf as n ≠ listOf bs k := fun e => h (by injection e with _ _ e1; injection e1 with e2; rw [e2])
section
variable {w : World} {dp un : Nat} {gd : Option (List Code)} {cn : Str} {cs : Scope} {a : Addr} {ccd : Value} {cl : List (Str × Addr)} {outer : List Env} {A₀ : Around} {base h₀ : Heap} {L : Addr} {m mg mb : Str → Option Value} {mean : ExcName → Option Value} {s : Shared} {Q E : Value → Shared → Prop}
theorem nmG0 {S : List Addr} {h g : Heap} (_ : Kept S h g) : ∃ y, y = g := ⟨_, rfl⟩
noncomputable def rowsT (n1 n2 n3 : Int) (x1 x2 x3 z1 z2 z3 : Str) (b1 b2 b3 : Bool) : Str :=
  if n1 = n2 then (if n2 = n3 then (mkd x1 b1 ++ Str.ofString ", " ++ (mkd x2 b2 ++ Str.ofString ", " ++ mkd x3 b3)) ++ Str.ofString ": " ++ z1
    else (mkd x1 b1 ++ Str.ofString ", " ++ mkd x2 b2) ++ Str.ofString ": " ++ z1 ++ Str.ofString "; " ++ (mkd x3 b3 ++ Str.ofString ": " ++ z3))
  else (if n2 = n3 then mkd x1 b1 ++ Str.ofString ": " ++ z1 ++ Str.ofString "; " ++ ((mkd x2 b2 ++ Str.ofString ", " ++ mkd x3 b3) ++ Str.ofString ": " ++ z2)
    else mkd x1 b1 ++ Str.ofString ": " ++ z1 ++ Str.ofString "; " ++ (mkd x2 b2 ++ Str.ofString ": " ++ z2 ++ Str.ofString "; " ++ (mkd x3 b3 ++ Str.ofString ": " ++ z3)))
noncomputable def recT (n1 n2 n3 : Int) (x1 x2 x3 z1 z2 z3 : Str) (b1 b2 b3 : Bool) : Str := Str.ofString "RECORD" ++ Str.ofString " " ++ rowsT n1 n2 n3 x1 x2 x3 z1 z2 z3 b1 b2 b3 ++ Str.ofString " END"
theorem recText3_f {na nd aa sa ra ta td flT plT hlT ll : Addr} {nk tk : Nat → Tok} {scs : List (Addr × List (Str × Int))} {al : List (Str × Str)}
    {num size len : Int} {form mo lb : Str} {f1 f2 f3 : Fld} {n : Nat}
    (B : Below A₀ base outer h₀) (F : Fr h₀ L s.heap m) (X : (hd.heap_39 w.params).In h₀) (T : Top pv lo mean mg mb h₀) (hk : cs.kind = .function) (hdp : dp + 60 < recursionLimit) (hun : un + 1200 < cLine)
    {news : List (Addr × Obj)} (N₀ : News h₀ L s.heap news) (N : News h₀ L s.heap [(ll, listOf #[.ref f1.o, .ref f2.o, .ref f3.o] n)]) (hM : NmAt w h₀ na nd aa sa ra nk scs al)
    (hT : InstAt h₀ ta (instObj 182 td) 182 (some (tyD w.params tk num form size .none len flT plT hlT mo lb))) (H1 : FldAt w h₀ f1) (H2 : FldAt w h₀ f2) (H3 : FldAt w h₀ f3)
    (hret : ∀ t h' tk', Kept [] s.heap h' → Fr h₀ L h' m → News h₀ L h' news → Q (.str (recT f1.num f2.num f3.num f1.x f2.x f3.x f1.z f2.z f3.z f1.b f2.b f3.b) t) { s with heap := h', toks := tk' }) :
    wpAny (model prg w) (ktrTop dp un gd cn cs L a ccd cl outer) (call (.ref 160) [.ref na, .ref ta, .ref ll]) Q E s := by
  refine wpAny_call ?_
  walk_at "F enterC"
  rename News _ _ _ _ => N1
  rename_i g L1 h1 tk1 E1 A1 Q1 mf1 hE1 KG F1 B1 X1 T1 lt1 oc dc
  have k0 : Kept [] h₀ g := fun b o e _ => KG b o (F.keep _ _ e) (fun q => by rw [List.mem_singleton.mp q, (N _ (.head _)).2.2] at e; cases e)
  have hT' := instKept k0 hT (fun q => nomatch q) (fun q => nomatch q)
  have hM' := hM.keep k0
  replace H1 := H1.keep k0
  replace H2 := H2.keep k0
  replace H3 := H3.keep k0
  have stopC := StopGrp.mk
  k_steps
  refine (show _ → Stop _ from id) ?_
  repeat (rename StopGrp => q9; clear q9)
  rename Fr g _ _ _ => F2
  rename News g _ _ _ => N2
  rename LtA _ [L1 + 1, ll] => lt2
  rename_i pa _ _
  refine foldQ ?_
  intro q
  have key : ∀ (rs : List RowSp) (R : Addr) (rc : Nat) (K : List (Addr × Obj)) (h' : Heap) (tk' : Nat) (m2 : Str → Option Value) (th : Tok), m2 (Str.ofString "parts") = some (.ref pa) → m2 (Str.ofString "head") = some (.str (Str.ofString "RECORD") th) → Fr g L1 h' m2 → News g L1 h' ((pa, listOf #[] 0) :: K) → RowsOk w g rs → (R, listOf (rs.map fun q => Value.ref q.r).toArray rc) ∈ K → (L1 + 1, oc) ∈ K → (ll, listOf #[.ref f1.o, .ref f2.o, .ref f3.o] n) ∈ K →
      (∀ q ∈ rs, q.ob ∈ K) → (∀ p ∈ K, p.1 ≠ pa) → rs ≠ [] → Str.ofString "RECORD" ++ Str.ofString " " ++ Str.join (Str.ofString "; ") (rs.map RowSp.txt) ++ Str.ofString " END" = recT f1.num f2.num f3.num f1.x f2.x f3.x f1.z f2.z f3.z f1.b f2.b f3.b → q (.ref R) { s with heap := h', toks := tk' } := by
    intro rs R rc K h' tk' m2 th hmp hmh F3 N3 hok hR hce hll hrs hne hnil htxt
    k_unfold
    refine recLoop_k (dp := dp + 1) (un := un + 3) (n := 0) B1 F3 X1 T1 (by ktr_room) (by ktr_units) N3 hM' dc hok hR hce hrs hne hmp ?_
    intro vs n' h4 tk4 m4 hvs hm4 hm5 F4 N4
    dsimp only
    refine recTail_k (dp := dp + 1) (un := un + 3) B1 F4 X1 T1 (by ktr_room) (by ktr_units) N4 hvs (fun e => hnil (List.map_eq_nil_iff.mp e)) (by rw [List.length_map]; exact hok.ln) (txt_le hok) hm4 (hm5.trans hmh) ?_
    intro t5 h5 tk5 F5 N5
    rw [htxt]
    k_steps
    rename Kept _ s.heap (Shared.heap _) => hK
    rename (∀ p, p ∈ _ → _ ∧ _) => hN
    have hK0 := Kept.drop1 hK (N _ (.head _)).1 (hN (ll, _) (.tail _ hll)).1
    exact hret _ _ _ hK0 (hK0.fr0 F) (hK0.news0 N₀)
  have gl := (N2 (ll, _) (by k_mem)).2.2
  obtain ⟨k1, hO1⟩ := H1.ob
  obtain ⟨k2, hO2⟩ := H2.ob
  obtain ⟨k3, hO3⟩ := H3.ob
  obtain ⟨tk1, g1, s1, v1, l1, p1, q1, r1, m1, y1, hT1, z1⟩ := H1.ty
  obtain ⟨tk2, g2, s2, v2, l2, p2, q2, r2, m2, y2, hT2, z2⟩ := H2.ty
  obtain ⟨tk3, g3, s3, v3, l3, p3, q3, r3, m3, y3, hT3, z3⟩ := H3.ty
  refine grouped_k (dp := dp + 1) B1 F2 X1 T1 (by first | exact rfl | assumption) (by ktr_room) (by ktr_units) N2 (fun p hp => N2 p (by rw [List.mem_singleton.mp hp]; k_mem))
    (instUp hO1 F2) (instUp hO2 F2) (instUp hO3 F2) (instUp hT1 F2) (instUp hT2 F2) (instUp hT3 F2)
    ⟨neNone gl hO1.at_, neNone gl hO1.dict, neNone gl hO2.at_, neNone gl hO2.dict, neNone gl hO3.at_, neNone gl hO3.dict, neNone gl hT1.at_, neNone gl hT1.dict, neNone gl hT2.at_, neNone gl hT2.dict, neNone gl hT3.at_, neNone gl hT3.dict⟩ ?_ ?_ ?_ ?_
  · intro c1 c2 R c a1 n1 h' tk' K2 F' N'
    refine key [⟨a1, n1, f1, [f2, f3]⟩] R c [(R, _), (a1, _), (L1 + 1, oc), (ll, _)] _ _ _ _ rfl rfl F' (newsIn N' (by walk_at "F sub")) ⟨allCons (allCons H1 (allCons H2 (allCons H3 (List.forall_mem_nil _)))) (List.forall_mem_nil _), allCons (by decide : 2 ≤ 2) (List.forall_mem_nil _), (by decide : 1 ≤ 3)⟩ mm0 mm2 mm3 (allCons mm1 (List.forall_mem_nil _)) (allCons (neObj N' (a := R) (b := pa) (by k_mem) (by k_mem) (listNe (by exact Nat.succ_ne_zero _))) (allCons (neObj N' (a := a1) (b := pa) (by k_mem) (by k_mem) (listNe (by exact Nat.succ_ne_zero _))) (allCons (by k_ne) (allCons (by k_ne) (List.forall_mem_nil _))))) (List.cons_ne_nil _ _) ?_
    unfold recT rowsT
    rw [if_pos c1, if_pos c2]
    rfl
  · intro c1 c2 R c a1 n1 a2 n2 h' tk' K2 F' N'
    refine key [⟨a1, n1, f1, [f2]⟩, ⟨a2, n2, f3, []⟩] R c [(R, _), (a1, _), (a2, _), (L1 + 1, oc), (ll, _)] _ _ _ _ rfl rfl F' (newsIn N' (by walk_at "F sub")) ⟨allCons (allCons H1 (allCons H2 (List.forall_mem_nil _))) (allCons (allCons H3 (List.forall_mem_nil _)) (List.forall_mem_nil _)), allCons (by decide : 1 ≤ 2) (allCons (by decide : 0 ≤ 2) (List.forall_mem_nil _)), (by decide : 2 ≤ 3)⟩ mm0 mm3 mm4 (allCons mm1 (allCons mm2 (List.forall_mem_nil _))) (allCons (neObj N' (a := R) (b := pa) (by k_mem) (by k_mem) (listNe (by exact Nat.succ_ne_zero _))) (allCons (neObj N' (a := a1) (b := pa) (by k_mem) (by k_mem) (listNe (by exact Nat.succ_ne_zero _))) (allCons (neObj N' (a := a2) (b := pa) (by k_mem) (by k_mem) (listNe (by exact Nat.succ_ne_zero _))) (allCons (by k_ne) (allCons (by k_ne) (List.forall_mem_nil _)))))) (List.cons_ne_nil _ _) ?_
    unfold recT rowsT
    rw [if_pos c1, if_neg c2]
    rfl
  · intro c1 c2 R c a1 n1 a2 n2 h' tk' K2 F' N'
    refine key [⟨a1, n1, f1, []⟩, ⟨a2, n2, f2, [f3]⟩] R c [(R, _), (a1, _), (a2, _), (L1 + 1, oc), (ll, _)] _ _ _ _ rfl rfl F' (newsIn N' (by walk_at "F sub")) ⟨allCons (allCons H1 (List.forall_mem_nil _)) (allCons (allCons H2 (allCons H3 (List.forall_mem_nil _))) (List.forall_mem_nil _)), allCons (by decide : 0 ≤ 2) (allCons (by decide : 1 ≤ 2) (List.forall_mem_nil _)), (by decide : 2 ≤ 3)⟩ mm0 mm3 mm4 (allCons mm1 (allCons mm2 (List.forall_mem_nil _))) (allCons (neObj N' (a := R) (b := pa) (by k_mem) (by k_mem) (listNe (by exact Nat.succ_ne_zero _))) (allCons (neObj N' (a := a1) (b := pa) (by k_mem) (by k_mem) (listNe (by exact Nat.succ_ne_zero _))) (allCons (neObj N' (a := a2) (b := pa) (by k_mem) (by k_mem) (listNe (by exact Nat.succ_ne_zero _))) (allCons (by k_ne) (allCons (by k_ne) (List.forall_mem_nil _)))))) (List.cons_ne_nil _ _) ?_
    unfold recT rowsT
    rw [if_neg c1, if_pos c2]
    rfl
  · intro c1 c2 R c a1 n1 a2 n2 a3 n3 h' tk' K2 F' N'
    refine key [⟨a1, n1, f1, []⟩, ⟨a2, n2, f2, []⟩, ⟨a3, n3, f3, []⟩] R c [(R, _), (a1, _), (a2, _), (a3, _), (L1 + 1, oc), (ll, _)] _ _ _ _ rfl rfl F' (newsIn N' (by walk_at "F sub")) ⟨allCons (allCons H1 (List.forall_mem_nil _)) (allCons (allCons H2 (List.forall_mem_nil _)) (allCons (allCons H3 (List.forall_mem_nil _)) (List.forall_mem_nil _))), allCons (by decide : 0 ≤ 2) (allCons (by decide : 0 ≤ 2) (allCons (by decide : 0 ≤ 2) (List.forall_mem_nil _))), (by decide : 3 ≤ 3)⟩ mm0 mm4 mm5 (allCons mm1 (allCons mm2 (allCons mm3 (List.forall_mem_nil _)))) (allCons (neObj N' (a := R) (b := pa) (by k_mem) (by k_mem) (listNe (by exact Nat.succ_ne_zero _))) (allCons (neObj N' (a := a1) (b := pa) (by k_mem) (by k_mem) (listNe (by exact Nat.succ_ne_zero _))) (allCons (neObj N' (a := a2) (b := pa) (by k_mem) (by k_mem) (listNe (by exact Nat.succ_ne_zero _))) (allCons (neObj N' (a := a3) (b := pa) (by k_mem) (by k_mem) (listNe (by exact Nat.succ_ne_zero _))) (allCons (by k_ne) (allCons (by k_ne) (List.forall_mem_nil _))))))) (List.cons_ne_nil _ _) ?_
    unfold recT rowsT
    rw [if_neg c1, if_neg c2]
    rfl
end
theorem offLawF : True := by w_top off; trivial
/-- a heap's objects as a ledger -/
noncomputable def entries (g : Heap) : List (Addr × Obj) := (List.range g.objs.size).filterMap fun a => (g.get? a).map fun o => (a, o)
theorem mem_entries {g : Heap} {a : Addr} {o : Obj} : (a, o) ∈ entries g ↔ g.get? a = some o := by
  unfold entries
  rw [List.mem_filterMap]
  constructor
  · rintro ⟨b, _, h⟩
    obtain ⟨o', h1, h2⟩ := Option.map_eq_some_iff.mp h
    cases h2; exact h1
  · intro h
    exact ⟨a, List.mem_range.mpr (Heap.lt_size h), by rw [h]; rfl⟩
/-- the own part of the state: written objects E, and a part g of the heap off them -/
structure GS (h₀ : Heap) (L : Addr) (h : Heap) (m : Str → Option Value) (E : List (Addr × Obj)) (g : Heap) : Prop where
  fr : Fr h₀ L h m
  nw : News h₀ L h (E ++ entries g)
  off : ∀ p ∈ E, g.get? p.1 = none
theorem GS.up {h₀ h g : Heap} {L : Addr} {m : Str → Option Value} {E : List (Addr × Obj)} (G : GS h₀ L h m E g) : Kept [] g h := fun b o e _ => (G.nw (b, o) (List.mem_append_right _ (mem_entries.mpr e))).1
/-- the own part of a heap off the addresses of X -/
noncomputable def ownH (h₀ : Heap) (L : Addr) (X : List Addr) (h : Heap) : Heap := hideAll h (L :: (X ++ (List.range h₀.objs.size).filter fun a => (h₀.get? a).isSome))
theorem ownH_iff {h₀ h : Heap} {L : Addr} {X : List Addr} {a : Addr} {o : Obj} : (ownH h₀ L X h).get? a = some o ↔ h.get? a = some o ∧ a ≠ L ∧ a ∉ X ∧ h₀.get? a = none := by
  unfold ownH
  constructor
  · intro e
    have hn : a ∉ (L :: (X ++ (List.range h₀.objs.size).filter fun a => (h₀.get? a).isSome)) := fun q => by rw [hideAll_none _ q] at e; cases e
    rw [List.mem_cons, List.mem_append, List.mem_filter, List.mem_range] at hn
    refine ⟨of_hideAll _ e, fun q => hn (.inl q), fun q => hn (.inr (.inl q)), ?_⟩
    cases q : h₀.get? a with
    | none => rfl
    | some o' => exact absurd (.inr (.inr ⟨Heap.lt_size q, by rw [q]; rfl⟩)) hn
  · rintro ⟨e, h1, h2, h3⟩
    refine hideAll_get _ e fun q => ?_
    rw [List.mem_cons, List.mem_append, List.mem_filter] at q
    rcases q with q | q | ⟨_, q⟩
    · exact h1 q
    · exact h2 q
    · rw [h3] at q; cases q
theorem absorb {h₀ h g : Heap} {L : Addr} {m : Str → Option Value} {E' : List (Addr × Obj)} (F : Fr h₀ L h m) (E : List (Addr × Obj)) (N : News h₀ L h (E' ++ entries g)) (sub : ∀ p ∈ E, p ∈ E') (off : ∀ p ∈ E, g.get? p.1 = none) :
    ∃ g', GS h₀ L h m E g' ∧ Kept [] g g' ∧ ∀ p ∈ E', (∀ q ∈ E, q.1 ≠ p.1) → g'.get? p.1 = some p.2 := by
  refine ⟨ownH h₀ L (E.map (·.1)) h, ⟨F, fun p hp => ?_, fun p hp => ?_⟩, fun b o e _ => ?_, fun p hp hq => ?_⟩
  · rcases List.mem_append.mp hp with hp | hp
    · exact N p (List.mem_append_left _ (sub p hp))
    · have := ownH_iff.mp (mem_entries.mp (show (p.1, p.2) ∈ _ from hp))
      exact ⟨this.1, this.2.1, this.2.2.2⟩
  · cases q : (ownH h₀ L (E.map (·.1)) h).get? p.1 with
    | none => rfl
    | some o => exact absurd (List.mem_map_of_mem hp) (ownH_iff.mp q).2.2.1
  · have := N (b, o) (List.mem_append_right _ (mem_entries.mpr e))
    refine ownH_iff.mpr ⟨this.1, this.2.1, fun q => ?_, this.2.2⟩
    obtain ⟨p, hp, rfl⟩ := List.mem_map.mp q
    rw [off p hp] at e; cases e
  · have := N p (List.mem_append_left _ hp)
    refine ownH_iff.mpr ⟨this.1, this.2.1, fun q => ?_, this.2.2⟩
    obtain ⟨r, hr, e⟩ := List.mem_map.mp q
    exact hq r hr e
theorem absorb0 {h₀ h : Heap} {L : Addr} {m : Str → Option Value} {E' : List (Addr × Obj)} (F : Fr h₀ L h m) (E : List (Addr × Obj)) (N : News h₀ L h E') (sub : ∀ p ∈ E, p ∈ E') :
    ∃ g', GS h₀ L h m E g' ∧ ∀ p ∈ E', (∀ q ∈ E, q.1 ≠ p.1) → g'.get? p.1 = some p.2 := by
  refine ⟨ownH h₀ L (E.map (·.1)) h, ⟨F, fun p hp => ?_, fun p hp => ?_⟩, fun p hp hq => ?_⟩
  · rcases List.mem_append.mp hp with hp | hp
    · exact N p (sub p hp)
    · have := ownH_iff.mp (mem_entries.mp (show (p.1, p.2) ∈ _ from hp))
      exact ⟨this.1, this.2.1, this.2.2.2⟩
  · cases q : (ownH h₀ L (E.map (·.1)) h).get? p.1 with
    | none => rfl
    | some o => exact absurd (List.mem_map_of_mem hp) (ownH_iff.mp q).2.2.1
  · have := N p hp
    refine ownH_iff.mpr ⟨this.1, this.2.1, fun q => ?_, this.2.2⟩
    obtain ⟨r, hr, e⟩ := List.mem_map.mp q
    exact hq r hr e
theorem GS.step {h₀ h h' g : Heap} {L : Addr} {m : Str → Option Value} {E : List (Addr × Obj)} {S : List Addr} (G : GS h₀ L h m E g) (K : Kept S h h') (hS : ∀ a ∈ S, ∃ o, g.get? a = some o) :
    ∃ g', GS h₀ L h' m E g' ∧ Kept S g g' ∧ (∀ a o, h'.get? a = some o → h.get? a = none → g'.get? a = some o) ∧ ∀ a ∈ S, ∀ o, h'.get? a = some o → g'.get? a = some o := by
  have hSo : ∀ a ∈ S, a ≠ L ∧ h₀.get? a = none ∧ a ∉ E.map (·.1) := fun a ha => by
    obtain ⟨o, ho⟩ := hS a ha
    have := G.nw (a, o) (List.mem_append_right _ (mem_entries.mpr ho))
    refine ⟨this.2.1, this.2.2, fun q => ?_⟩
    obtain ⟨p, hp, rfl⟩ := List.mem_map.mp q
    rw [G.off p hp] at ho; cases ho
  have F' := K.fr G.fr fun a ha => ⟨(hSo a ha).1, (hSo a ha).2.1⟩
  refine ⟨ownH h₀ L (E.map (·.1)) h', ⟨F', fun p hp => ?_, fun p hp => ?_⟩, fun b o e n => ?_, fun a o e n => ?_, fun a ha o e => ?_⟩
  · rcases List.mem_append.mp hp with hp | hp
    · have := G.nw p (List.mem_append_left _ hp)
      exact ⟨K _ _ this.1 fun q => (hSo _ q).2.2 (List.mem_map_of_mem hp), this.2⟩
    · have := ownH_iff.mp (mem_entries.mp (show (p.1, p.2) ∈ _ from hp))
      exact ⟨this.1, this.2.1, this.2.2.2⟩
  · cases q : (ownH h₀ L (E.map (·.1)) h').get? p.1 with
    | none => rfl
    | some o => exact absurd (List.mem_map_of_mem hp) (ownH_iff.mp q).2.2.1
  · have := G.nw (b, o) (List.mem_append_right _ (mem_entries.mpr e))
    refine ownH_iff.mpr ⟨K _ _ this.1 n, this.2.1, fun q => ?_, this.2.2⟩
    obtain ⟨p, hp, rfl⟩ := List.mem_map.mp q
    rw [G.off p hp] at e; cases e
  · have := newOne G.fr e n
    refine ownH_iff.mpr ⟨e, this.2.1, fun q => ?_, this.2.2⟩
    obtain ⟨p, hp, rfl⟩ := List.mem_map.mp q
    have := (G.nw p (List.mem_append_left _ hp)).1
    rw [n] at this; cases this
  · exact ownH_iff.mpr ⟨e, (hSo a ha).1, (hSo a ha).2.2, (hSo a ha).2.1⟩
theorem GS.out {h₀ h g : Heap} {L : Addr} {m : Str → Option Value} {E : List (Addr × Obj)} {a : Addr} {o : Obj} (G : GS h₀ L h m E g) (ha : g.get? a = some o) : GS h₀ L h m ((a, o) :: E) (hideAll g [a]) := by
  refine ⟨G.fr, fun p hp => ?_, fun p hp => ?_⟩
  · rcases List.mem_append.mp hp with hp | hp
    · rcases List.mem_cons.mp hp with rfl | hp
      · exact G.nw _ (List.mem_append_right _ (mem_entries.mpr ha))
      · exact G.nw p (List.mem_append_left _ hp)
    · exact G.nw p (List.mem_append_right _ (mem_entries.mpr (of_hideAll _ (mem_entries.mp (show (p.1, p.2) ∈ _ from hp)))))
  · rcases List.mem_cons.mp hp with rfl | hp
    · exact hideAll_none _ (.head _)
    · cases q : (hideAll g [a]).get? p.1 with
      | none => rfl
      | some o' => have := of_hideAll _ q; rw [G.off p hp] at this; cases this
theorem GS.outK {g : Heap} {a : Addr} : Kept [a] g (hideAll g [a]) := fun b o e n => hideAll_get _ e n
theorem tailOff {g : Heap} {a : Addr} (h : g.get? a = none) : ∀ p ∈ entries g, p.1 ≠ a := fun p hp e => by
  have := mem_entries.mp (show (p.1, p.2) ∈ _ from hp)
  rw [e, h] at this; cases this
theorem allLtNe {d : Addr} : ∀ {l : List (Addr × Obj)}, AllLt d l → ∀ p ∈ l, p.1 ≠ d
  | [], _, _, h => nomatch h
  | _ :: _, x, p, h => by
    rcases List.mem_cons.mp h with rfl | h
    · exact Nat.ne_of_lt x.1
    · exact allLtNe x.2 p h
theorem wd81 : True := by
  (k_with "M.F k_all" => first | (refine tailOff ?_; with_reducible assumption) | (refine allLtNe ?_; with_reducible assumption))
  trivial
theorem wd82 : True := by
  (k_with "M.F k_mem" => first | with_reducible assumption | assumption)
  trivial
theorem allLtTail {d : Addr} {p : Addr × Obj} {r : List (Addr × Obj)} (h : AllLt d (p :: r)) : AllLt d r := h.2
local macro_rules | `(tactic| k_lt $h) => `(tactic| ((have lt' := ltA_of $h); (dsimp only [List.map] at lt'); (replace $h := allLt_of $h); (repeat (replace $h := allLtTail $h))))
theorem wd83 : True := by
  (k_with "M.F sub" => first | exact List.forall_mem_nil _ | (refine List.forall_mem_cons.mpr ⟨by k_mem, ?_⟩; walk_at "F sub"))
  trivial
theorem allLtLt {d : Addr} : ∀ {l : List (Addr × Obj)}, AllLt d l → ∀ p ∈ l, p.1 < d
  | [], _, _, h => nomatch h
  | _ :: _, x, p, h => by
    rcases List.mem_cons.mp h with rfl | h
    · exact x.1
    · exact allLtLt x.2 p h
theorem upE {h₀ h g : Heap} {L : Addr} {news : List (Addr × Obj)} (N : News h₀ L h news) (hs : ∀ p ∈ entries g, p ∈ news) : Kept [] g h := fun b o e _ => (N (b, o) (hs _ (mem_entries.mpr e))).1
theorem wd84 : True := by
  (k_with "M.F ents" => (intro _ hp; repeat (first | exact hp | refine List.Mem.tail _ ?_)))
  trivial
theorem off3_set {I C D a : Addr} {o o' : Obj} {r : List (Addr × Obj)} (h : LCg.Off3 I C D ((a, o) :: r)) : LCg.Off3 I C D ((a, o') :: r) := ⟨h.1, h.2⟩
theorem off1_mem {D : Addr} : ∀ {l : List (Addr × Obj)}, LCg.Off1 D l → ∀ p ∈ l, p.1 ≠ D
  | [], _, _, h => nomatch h
  | _ :: _, x, p, h => by
    rcases List.mem_cons.mp h with rfl | h
    · exact x.1
    · exact off1_mem x.2 p h
/-- a call of a def stops the walk -/
structure StopCall : Prop where
theorem wd85 : True := by
  (k_with "M.call ref" => ((have _ := (by with_reducible assumption : StopCall)); refine Stop.intro ?_))
  trivial
theorem neObj' {h₀ h : Heap} {L a b : Addr} {o o' : Obj} {news : List (Addr × Obj)} (N : News h₀ L h news) (h1 : (a, o) ∈ news) (h2 : (b, o') ∈ news) (ho : o ≠ o') : NeH a b := ⟨fun e => ho (Option.some.inj ((N _ h1).1.symm.trans (by have := (N _ h2).1; rw [← e] at this; exact this)))⟩
theorem listCell {as : Array Value} {n : Nat} {o : Obj} {v : Option Value} (h : o.data = .cell v) : listOf as n ≠ o := fun e => by rw [← e] at h; cases h
/-- the next statement stops the walk -/
structure StopExec : Prop where
theorem wd86 : True := by
  (k_with "M.execs cons" => ((have _ := (by with_reducible assumption : StopExec)); refine Stop.intro ?_))
  trivial
theorem wd87 : True := by
  (k_with "M.F next" => (refine Stop.out ?_; (repeat (rename StopExec => q9; clear q9)); walk1; (have sx' := StopExec.mk); k_steps))
  trivial
section
variable {w : World} {dp un : Nat} {gd : Option (List Code)} {cn : Str} {cs : Scope} {a : Addr} {ccd : Value} {cl : List (Str × Addr)} {outer : List Env} {A₀ : Around} {base h₀ : Heap} {L : Addr} {m mg mb : Str → Option Value} {mean : ExcName → Option Value} {s : Shared} {Q E : Value → Shared → Prop}
theorem draw_U {fa : Addr} {vs : List Value} {ns : List Int} {n : Nat} {lim : Int} {t : Tok} {news : List (Addr × Obj)} {gg : Obj → List (Addr × Obj)}
    (B : Below A₀ base outer h₀) (F : Fr h₀ L s.heap m) (X : (hd.heap_39 w.params).In h₀) (T : Top pv lo mean mg mb h₀) (hk : cs.kind = .function) (hdp : dp + 10 < recursionLimit) (hun : un + 200 < cLine)
    (N : News h₀ L s.heap news) (U : UpdF fa (listOf vs.toArray n) news gg) (hi : IntsAre vs ns) (hlen : ns.length ≤ 200) (hl0 : 0 < lim) (hl1 : lim < 100)
    (hret : ∀ r t vs' ns' n' h' tk', 0 ≤ r → r < lim → IntsAre vs' ns' → ns'.length ≤ 200 → Fr h₀ L h' m → News h₀ L h' (gg (listOf vs'.toArray n')) → Q (.int r t) { s with heap := h', toks := tk' }) :
    wpAny (model prg w) (ktrTop dp un gd cn cs L a ccd cl outer) (call (.ref 257) [.ref fa, .int lim t]) Q E s := by
  obtain ⟨pre, post, rfl, hg, h1, h2⟩ := U.split
  have hfa := N (fa, _) (List.mem_append_right _ (.head _))
  refine draw_ct B F X (fun p hp => by rw [List.mem_singleton.mp hp]; exact hfa) T hk hdp hun hi hlen hl0 hl1 fun r t vs' ns' n' h' tk' r0 r1 hi' hl' K e => ?_
  refine hret r t vs' ns' n' h' tk' r0 r1 hi' (Nat.le_trans hl' hlen) (K.fr F fun b hb => by rw [List.mem_singleton.mp hb]; exact hfa.2) ?_
  rw [hg]
  intro p hp
  rcases List.mem_append.mp hp with hp | hp
  · have := N p (List.mem_append_left _ hp)
    exact ⟨K _ _ this.1 (fun q => h1 p hp (List.mem_singleton.mp q)), this.2⟩
  · rcases List.mem_cons.mp hp with rfl | hp
    · exact ⟨e, hfa.2⟩
    · have := N p (List.mem_append_right _ (.tail _ hp))
      exact ⟨K _ _ this.1 (fun q => h2 p hp (List.mem_singleton.mp q)), this.2⟩
end
theorem wd88 : True := by
  (k_with "M.call ref" => first | ((with_reducible show wpAny _ _ (call (.ref 257) _) _ _ _); k_dflt (refine draw_U (by k_asm) (by k_asm) (by k_asm) (by k_asm) (by first | exact rfl | assumption) (by ktr_room) (by ktr_units) (by k_asm) (by k_updF) (by assumption) (by assumption) (by decide) (by decide) ?_; k_whole); intro _ _ _ _ _ _ _ _ _ _ _ _ N'; (try dsimp only at N'); (try k_sweep)) | fail)
  trivial
theorem offLawB : True := by w_top off; trivial
/-- the law's def in the program, its body and its scope -/
noncomputable def lawDef : Stmt := Challenge.pw_nu0330_01.main.body.getLastD (.Pass ⟨0, 0, 0, 0⟩)
noncomputable def lawBody : List Stmt := match lawDef with
  | .FunctionDef _ _ body _ _ _ _ _ _ _ => body
  | _ => []
noncomputable def lawScope : Scope := match lawDef with
  | .FunctionDef _ _ _ _ _ _ s _ _ _ => s
  | _ => { kind := .function, names := [], isGenerator := false, isCoroutine := false }
noncomputable abbrev lawCl (L : Addr) : List (Str × Addr) := [(Str.ofString "letters", L + 1 + 1), (Str.ofString "figures", L + 1)]
noncomputable abbrev lawEnv (L a : Addr) (ccd : Value) : Env := envX (Str.ofString "law") lawScope L a ccd (lawCl L)
noncomputable abbrev lawAr (dp un : Nat) (gd : Option (List Code)) (L a : Addr) (ccd : Value) (outer : List Env) : Around := ktrTop dp un gd (Str.ofString "law") lawScope L a ccd (lawCl L) outer
theorem instMk {h : Heap} {x C dx : Addr} {od : Obj} (h1 : h.get? x = some (instObj C dx)) (h2 : h.get? dx = some od) : InstAt h x (instObj C dx) C (some od) := ⟨h1, rfl, rfl, h2⟩
/-- a Type object -/
noncomputable def TyAt (w : World) (h : Heap) (x dx : Addr) (num : Int) (form : Str) (size : Int) (bv : Value) (len : Int) (fl : Addr) (mo lb : Str) : Prop :=
  ∃ tk pl hl, InstAt h x (instObj 182 dx) 182 (some (tyD w.params tk num form size bv len fl pl hl mo lb))
theorem TyAt.keep {w : World} {h h' : Heap} {S : List Addr} {x dx : Addr} {num : Int} {form : Str} {size : Int} {bv : Value} {len : Int} {fl : Addr} {mo lb : Str} (T : TyAt w h x dx num form size bv len fl mo lb) (k : Kept S h h') (h1 : x ∉ S) (h2 : dx ∉ S) : TyAt w h' x dx num form size bv len fl mo lb :=
  let ⟨tk, pl, hl, I⟩ := T; ⟨tk, pl, hl, instKept k I h1 h2⟩
/-- the Types object, its counter and its table of known types -/
structure TsAt (w : World) (h : Heap) (ts tsd kd : Addr) (c : Int) (xs : List (List Str × Addr × Value)) (cx ix : Addr) : Prop where
  ex : ∃ k0 k1 k2 tk bx yx mx nx ox od, h.get? ts = some (instObj 239 tsd) ∧ h.get? tsd = some (tsD w.params k0 k1 k2 c kd (tsR w.params tk bx cx yx ix mx nx ox)) ∧ h.get? kd = some od ∧ KnO w od xs
  keys : ∀ x ∈ xs, IsTupleKey (strKind prg w) h x.1 x.2.1
  ne : tsd ≠ kd
theorem TsAt.keep {w : World} {h h' : Heap} {ts tsd kd : Addr} {c : Int} {xs : List (List Str × Addr × Value)} {cx ix : Addr} {S : List Addr} (T : TsAt w h ts tsd kd c xs cx ix) (k : Kept S h h') (h1 : ts ∉ S ∧ tsd ∉ S ∧ kd ∉ S) (h2 : ∀ x ∈ xs, x.2.1 ∉ S) : TsAt w h' ts tsd kd c xs cx ix := by
  obtain ⟨⟨k0, k1, k2, tk, bx, yx, mx, nx, ox, od, e1, e2, e3, e4⟩, K, hne⟩ := T
  refine ⟨⟨k0, k1, k2, tk, bx, yx, mx, nx, ox, od, k _ _ e1 h1.1, k _ _ e2 h1.2.1, k _ _ e3 h1.2.2, e4⟩, fun x hx => ?_, hne⟩
  obtain ⟨o, its, n, e, r⟩ := K x hx
  exact ⟨o, its, n, k _ _ e (h2 x hx), r⟩
theorem TsAt.keep0 {w : World} {h h' : Heap} {ts tsd kd : Addr} {c : Int} {xs : List (List Str × Addr × Value)} {cx ix : Addr} (T : TsAt w h ts tsd kd c xs cx ix) (k : Kept [] h h') : TsAt w h' ts tsd kd c xs cx ix :=
  T.keep k ⟨(fun q => nomatch q), (fun q => nomatch q), (fun q => nomatch q)⟩ (fun _ _ q => nomatch q)
/-- a Type object off the addresses of S -/
structure Tn (w : World) (g : Heap) (S : List Addr) (x dx : Addr) (num : Int) (form : Str) (size : Int) (bv : Value) (len : Int) (fl : Addr) (mo lb : Str) : Prop where
  ty : TyAt w g x dx num form size bv len fl mo lb
  off : x ∉ S ∧ dx ∉ S
theorem Tn.keep {w : World} {g g' : Heap} {S : List Addr} {x dx : Addr} {num : Int} {form : Str} {size : Int} {bv : Value} {len : Int} {fl : Addr} {mo lb : Str} (K : Tn w g S x dx num form size bv len fl mo lb) (k : Kept S g g') : Tn w g' S x dx num form size bv len fl mo lb :=
  ⟨K.ty.keep k K.off.1 K.off.2, K.off⟩
theorem Tn.keep0 {w : World} {g g' : Heap} {S : List Addr} {x dx : Addr} {num : Int} {form : Str} {size : Int} {bv : Value} {len : Int} {fl : Addr} {mo lb : Str} (K : Tn w g S x dx num form size bv len fl mo lb) (k : Kept [] g g') : Tn w g' S x dx num form size bv len fl mo lb :=
  ⟨K.ty.keep k (fun q => nomatch q) (fun q => nomatch q), K.off⟩
/-- the five kinds and the four letters -/
structure KindsAt (w : World) (g : Heap) (kl ll ka kb kc kd kf : Addr) (len : Int) : Prop where
  lst : ∃ n, g.get? kl = some (listOf #[.ref ka, .ref kb, .ref kc, .ref kd, .ref kf] n)
  lets : ∃ t0 t1 t2 t3 n, g.get? ll = some (listOf #[.str "T" t0, .str "U" t1, .str "N" t2, .str "N1" t3] n)
  a : ∃ dx fl, TyAt w g ka dx 8 "record" 4 .none 0 fl "M" "T" ∧ g.get? fl = some (listOf #[] 0)
  b : ∃ dx fl, TyAt w g kb dx 9 "record" 4 .none 0 fl "N" "U"
  c : ∃ dx fl, TyAt w g kc dx 10 "array" 8 (.ref ka) len fl "M" "W"
  d : ∃ dx fl, TyAt w g kd dx 11 "record" 4 .none 0 fl "N" "U^"
  f : ∃ dx fl, TyAt w g kf dx 12 "pointer" 4 (.ref kb) 0 fl "M" "v:"
theorem TyAt.keep0 {w : World} {h h' : Heap} {x dx : Addr} {num : Int} {form : Str} {size : Int} {bv : Value} {len : Int} {fl : Addr} {mo lb : Str} (T : TyAt w h x dx num form size bv len fl mo lb) (k : Kept [] h h') : TyAt w h' x dx num form size bv len fl mo lb :=
  T.keep k (fun q => nomatch q) (fun q => nomatch q)
theorem KindsAt.keep0 {w : World} {g g' : Heap} {kl ll ka kb kc kd kf : Addr} {len : Int} (K : KindsAt w g kl ll ka kb kc kd kf len) (k : Kept [] g g') : KindsAt w g' kl ll ka kb kc kd kf len := by
  obtain ⟨⟨n, e1⟩, ⟨t0, t1, t2, t3, n2, e2⟩, ⟨d1, f1, a1, a2⟩, ⟨d2, f2, b1⟩, ⟨d3, f3, c1⟩, ⟨d4, f4, x1⟩, ⟨d5, f5, y1⟩⟩ := K
  exact ⟨⟨n, k.all _ _ e1⟩, ⟨t0, t1, t2, t3, n2, k.all _ _ e2⟩, ⟨d1, f1, a1.keep0 k, k.all _ _ a2⟩, ⟨d2, f2, b1.keep0 k⟩, ⟨d3, f3, c1.keep0 k⟩, ⟨d4, f4, x1.keep0 k⟩, ⟨d5, f5, y1.keep0 k⟩⟩
theorem frBack {h₀ h : Heap} {L : Addr} {m : Str → Option Value} {a : Str} {v : Option Value} (F : Fr h₀ L h (fun y => if y = a then v else m y)) (e : m a = v) : Fr h₀ L h m := by
  have : (fun y => if y = a then v else m y) = m := by
    funext y
    by_cases q : y = a
    · rw [if_pos q, q, e]
    · rw [if_neg q]
  rw [this] at F; exact F
theorem offLawC1 : True := by w_top off; trivial
section
variable {w : World} {dp un : Nat} {gd : Option (List Code)} {a : Addr} {ccd : Value} {outer : List Env} {A₀ : Around} {base h₀ : Heap} {L : Addr} {m mg mb : Str → Option Value} {mean : ExcName → Option Value} {s : Shared} {Q : Flow → Shared → Prop} {E : Value → Shared → Prop}
theorem law1 {sc : Addr} {vs : List Value} {ns : List Int} {oc1 oc2 : Obj} {v1 v2 : Option Value}
    (B : Below A₀ base outer h₀) (F : Fr h₀ L s.heap m) (X : (hd.heap_39 w.params).In h₀) (T : Top pv lo mean mg mb h₀) (hdp : dp + 100 < recursionLimit) (hun : un + 2000 < cLine)
    (hm : m "script" = some (.ref sc)) (N : News h₀ L s.heap [(L + 1 + 1, oc2), (L + 1, oc1)]) (d2 : oc2.data = .cell v2) (d1 : oc1.data = .cell v1)
    (hS0 : h₀.IsList sc vs.toArray) (hi : IntsAre vs ns) (hl : ns.length ≤ 63) 
    (hret : ∀ fa fvs fns fn oc1' ts tsd kd ix idx cx cdx fl fl' m' g h' tk', GS h₀ L h' m' [(fa, listOf fvs.toArray fn), (L + 1 + 1, oc2), (L + 1, oc1')] g → m' "types" = some (.ref ts) → oc1'.data = .cell (some (.ref fa)) → IntsAre fvs fns → fns.length ≤ 200 →
      TsAt w g ts tsd kd 7 [] cx ix → Tn w g [ts, tsd, kd] ix idx 4 "integer" 4 .none 0 fl "" "" → Tn w g [ts, tsd, kd] cx cdx 2 "char" 1 .none 0 fl' "" "" →
      wpAny (model prg w) (lawAr dp un gd L a ccd outer) (execs (lawBody.drop 2) (lawEnv L a ccd)) Q E { s with heap := h', toks := tk' }) :
    wpAny (model prg w) (lawAr dp un gd L a ccd outer) (execs (lawBody.drop 0) (lawEnv L a ccd)) Q E s := by
  unfold lawEnv lawAr
  generalize hZ : lawScope = Z
  conv at hZ => lhs; whnf
  subst hZ
  conv in (execs _ _) => arg 1; whnf
  replace F := frKnow F hm
  have sc' := StopCall.mk
  k_steps
  refine (show _ → Stop _ from id) ?_
  refine figs_k B F X T rfl (by ktr_room) (by ktr_units) N (listUp hS0 F) hi hl ?_
  intro fa fvs fns fn h1 tk1 K1 F1 N1 hi1 hl1
  clear F N
  have e1 := neObj' N1 (a := fa) (b := L + 1) (by k_mem) (by k_mem) (listCell d1)
  have e2 := neObj' N1 (a := fa) (b := L + 1 + 1) (by k_mem) (by k_mem) (listCell d2)
  k_steps
  refine (show _ → Stop _ from id) ?_
  repeat (rename StopCall => q9; clear q9)
  rename Fr _ _ _ _ => F2
  rename News _ _ _ _ => N2
  rename Obj.data _ = Data.cell (some (Value.ref fa)) => d3
  refine' call_cls (fI := 221) ?k1 ?k2 ?k3 ?k4 ?k5 ?k6 ?_
  (case k1 => k_asm); (case k2 => k_asm); (case k3 => k_asm); (case k4 => k_is); (case k5 => k_is); (case k6 => k_is)
  intro x dx h3 F3 N3 l1 l2
  k_lt l1
  k_lt2 l2
  clear F2 N2
  try simp only [List.cons_append, List.nil_append] at N3
  obtain ⟨g1, G1, hg1⟩ := absorb0 F3 [(fa, _), (L + 1 + 1, _), (L + 1, _)] N3 (by walk_at "F sub")
  have gx : g1.get? x = some (instObj 239 dx) := hg1 (x, _) (by k_mem) (by k_all)
  have gdx : g1.get? dx = some (dictOf [] 0) := hg1 (dx, _) (by k_mem) (by k_all)
  refine tsInit_ct (dp := dp + 1) (un := un + 1) B F3 X T rfl (by ktr_room) (by ktr_units) l2 (fun p hp => N3 p (List.mem_append_left _ hp)) ?_
  intro tk kd od bx cx yx ix mx nx ox tkc tki cdx idx fl pl hl' fl' pl' hl'' h4 tk4 K4 hx4 hn4 hko
  obtain ⟨g2, G2, K2, hn2, hs2⟩ := G1.step K4 (List.forall_mem_cons.mpr ⟨⟨_, gx⟩, List.forall_mem_cons.mpr ⟨⟨_, gdx⟩, List.forall_mem_nil _⟩⟩)
  refine ⟨rfl, ?_⟩
  have gx2 := hs2 x (.head _) _ (hx4 (x, _) (by k_mem))
  have gdx2 := hs2 dx (.tail _ (.head _)) _ (hx4 (dx, _) (by k_mem))
  have q1 := hn4 (kd, _) (by k_mem)
  have q2 := hn4 (ix, _) (by k_mem)
  have q3 := hn4 (idx, _) (by k_mem)
  have q4 := hn4 (cx, _) (by k_mem)
  have q5 := hn4 (cdx, _) (by k_mem)
  have TS : TsAt w g2 x dx kd 7 [] cx ix := ⟨⟨_, _, _, _, _, _, _, _, _, _, gx2, gdx2, hn2 _ _ q1.1 q1.2, hko⟩, (fun _ q => nomatch q), Ne.symm (neGet q1.2 (N3 (dx, _) (by k_mem)).1)⟩
  have TI : TyAt w g2 ix idx 4 "integer" 4 .none 0 fl "" "" := ⟨_, _, _, instMk (hn2 _ _ q2.1 q2.2) (hn2 _ _ q3.1 q3.2)⟩
  have TC : TyAt w g2 cx cdx 2 "char" 1 .none 0 fl' "" "" := ⟨_, _, _, instMk (hn2 _ _ q4.1 q4.2) (hn2 _ _ q5.1 q5.2)⟩
  have gkd := hn2 _ _ q1.1 q1.2
  obtain ⟨es0, ep0, hda, hes0, _⟩ := hko.2
  have nd : ∀ (tk : Nat → Tok) (num : Int) (form : Str) (size : Int) (f p h : Addr), tyD w.params tk num form size .none 0 f p h "" "" ≠ od := fun tk num form size f p h e => by
    rw [← e] at hda
    injection hda with e1 e2
    rw [← e1] at hes0
    cases hes0
  have ni : ∀ b, instObj 182 b ≠ od := fun b e => by rw [← e] at hda; cases hda
  have nx1 := (N3 (x, _) (by k_mem)).1
  have nx2 := (N3 (dx, _) (by k_mem)).1
  have TI : Tn w g2 [x, dx, kd] ix idx 4 "integer" 4 .none 0 fl "" "" := ⟨TI, notMem3 (neGet q2.2 nx1) (neGet q2.2 nx2) (fun e => ni idx (Option.some.inj (q2.1.symm.trans (e ▸ q1.1)))), notMem3 (neGet q3.2 nx1) (neGet q3.2 nx2) (fun e => nd _ _ _ _ _ _ _ (Option.some.inj (q3.1.symm.trans (e ▸ q1.1))))⟩
  have TC : Tn w g2 [x, dx, kd] cx cdx 2 "char" 1 .none 0 fl' "" "" := ⟨TC, notMem3 (neGet q4.2 nx1) (neGet q4.2 nx2) (fun e => ni cdx (Option.some.inj (q4.1.symm.trans (e ▸ q1.1)))), notMem3 (neGet q5.2 nx1) (neGet q5.2 nx2) (fun e => nd _ _ _ _ _ _ _ (Option.some.inj (q5.1.symm.trans (e ▸ q1.1))))⟩
  have F5 := G2.fr
  have N5 := G2.nw
  have sx := StopExec.mk
  k_steps
  refine (show _ → Stop _ from id) ?_
  rename Fr _ _ _ _ => F6
  rename News _ _ _ _ => N6
  obtain ⟨fvl⟩ := fvs
  exact hret fa fvl fns fn _ x dx kd ix idx cx cdx fl fl' _ g2 _ _ ⟨F6, N6, G2.off⟩ rfl d3 hi1 (by omega) TS TI TC
end
theorem offLawC2 : True := by w_top off; trivial
theorem offLt {g : Heap} {d : Addr} (h : AllLt d (entries g)) : g.get? d = none := by
  cases q : g.get? d with
  | none => rfl
  | some o => exact absurd rfl (allLtNe h (d, o) (mem_entries.mpr q))
/-- a Type object of no fields, off the addresses of S -/
structure Kn (w : World) (g : Heap) (S : List Addr) (x dx : Addr) (num : Int) (form : Str) (size : Int) (bv : Value) (len : Int) (fl : Addr) (mo lb : Str) : Prop where
  ty : TyAt w g x dx num form size bv len fl mo lb
  fs : g.get? fl = some (listOf #[] 0)
  off : x ∉ S ∧ dx ∉ S ∧ fl ∉ S
theorem Kn.keep {w : World} {g g' : Heap} {S : List Addr} {x dx : Addr} {num : Int} {form : Str} {size : Int} {bv : Value} {len : Int} {fl : Addr} {mo lb : Str} (K : Kn w g S x dx num form size bv len fl mo lb) (k : Kept S g g') : Kn w g' S x dx num form size bv len fl mo lb :=
  ⟨K.ty.keep k K.off.1 K.off.2.1, k _ _ K.fs K.off.2.2, K.off⟩
theorem Kn.keep0 {w : World} {g g' : Heap} {S : List Addr} {x dx : Addr} {num : Int} {form : Str} {size : Int} {bv : Value} {len : Int} {fl : Addr} {mo lb : Str} (K : Kn w g S x dx num form size bv len fl mo lb) (k : Kept [] g g') : Kn w g' S x dx num form size bv len fl mo lb :=
  ⟨K.ty.keep k (fun q => nomatch q) (fun q => nomatch q), k _ _ K.fs (fun q => nomatch q), K.off⟩
section
variable {w : World} {dp un : Nat} {gd : Option (List Code)} {cn : Str} {cs : Scope} {a : Addr} {ccd : Value} {cl : List (Str × Addr)} {outer : List Env} {A₀ : Around} {base h₀ : Heap} {L : Addr} {m mg mb : Str → Option Value} {mean : ExcName → Option Value} {s : Shared} {Q E : Value → Shared → Prop}
theorem new4_G {ts tsd kd cx ix : Addr} {c size : Int} {t1 t2 t3 t4 : Tok} {form mo lb : Str} {xs : List (List Str × Addr × Value)} {Ex : List (Addr × Obj)} {g : Heap}
    (B : Below A₀ base outer h₀) (X : (hd.heap_39 w.params).In h₀) (T : Top pv lo mean mg mb h₀) (hk : cs.kind = .function) (hdp : dp + 20 < recursionLimit) (hun : un + 400 < cLine)
    (G : GS h₀ L s.heap m Ex g) (TS : TsAt w g ts tsd kd c xs cx ix) (hnew : [mo, lb] ∉ xs.map (·.1)) (hxl : xs.length ≤ 100) (hlb : (lb != "") = true)
    (hret : ∀ x dx fl tp g' h' tk', GS h₀ L h' m Ex g' → Kept [ts, tsd, kd] g g' → TsAt w g' ts tsd kd (c + 1) (xs ++ [([mo, lb], tp, .ref x)]) cx ix → Kn w g' [ts, tsd, kd] x dx (c + 1) form size .none 0 fl mo lb → Q (.ref x) { s with heap := h', toks := tk' }) :
    wpAny (model prg w) (ktrTop dp un gd cn cs L a ccd cl outer) (call (.ref 229) [.ref ts, .str form t1, .int size t2, .str mo t3, .str lb t4]) Q E s := by
  obtain ⟨⟨k0, k1, k2, tk, bx, yx, mx, nx, ox, od, e1, e2, e3, e4⟩, K, d3⟩ := TS
  have n1 := G.nw (ts, _) (List.mem_append_right _ (mem_entries.mpr e1))
  have n2 := G.nw (tsd, _) (List.mem_append_right _ (mem_entries.mpr e2))
  have n3 := G.nw (kd, _) (List.mem_append_right _ (mem_entries.mpr e3))
  have d1 : ts ≠ tsd := fun e => by rw [e, e2] at e1; cases e1
  obtain ⟨es, ep, hdat, _⟩ := e4.2
  have d2 : ts ≠ kd := fun e => by rw [e, e3] at e1; cases e1; cases hdat
  refine new4_ct (ts := ts) (tsd := tsd) (kd := kd) (k0 := k0) (k1 := k1) (k2 := k2) (rest := tsR w.params tk bx cx yx ix mx nx ox) (n := 9) (o := od) (xs := xs) B G.fr X T hk hdp hun d1 d2 d3 (by simp)
    (List.forall_mem_cons.mpr ⟨n1, List.forall_mem_cons.mpr ⟨n2, List.forall_mem_cons.mpr ⟨n3, List.forall_mem_nil _⟩⟩⟩) e4 (fun x hx => ?_) hnew hxl hlb ?_
  · obtain ⟨o, its, n, q1, q2, q3, q4⟩ := K x hx
    refine ⟨⟨o, its, n, G.up _ _ q1 (fun q => nomatch q), q2, q3, q4⟩, notMem3 (fun e => ?_) (fun e => ?_) (fun e => ?_)⟩
    · have q1' := q1; rw [e, e1] at q1'; cases q1'; cases q2
    · have q1' := q1; rw [e, e2] at q1'; cases q1'; cases q3
    · have q1' := q1; rw [e, e3] at q1'; cases q1'; rw [q3] at hdat; cases hdat
  · intro tk' k1' x dx fl pl hl tp tpo o' h' tkk K' h1 h2 h3 h4 h5 hn
    have i1 : ∃ o, g.get? ts = some o := ⟨_, e1⟩
    have i2 : ∃ o, g.get? tsd = some o := ⟨_, e2⟩
    have i3 : ∃ o, g.get? kd = some o := ⟨_, e3⟩
    obtain ⟨g', G', Kg, hn', hs'⟩ := G.step K' (List.forall_mem_cons.mpr ⟨i1, List.forall_mem_cons.mpr ⟨i2, List.forall_mem_cons.mpr ⟨i3, List.forall_mem_nil _⟩⟩⟩)
    have q1 := hn (x, _) (by k_mem)
    have q2 := hn (dx, _) (by k_mem)
    have q3 := hn (fl, _) (by k_mem)
    have q6 := hn (tp, _) (by k_mem)
    have ne : ∀ b, s.heap.get? b = none → b ∉ [ts, tsd, kd] := fun b hb => notMem3 (fun e => by rw [e, n1.1] at hb; cases hb) (fun e => by rw [e, n2.1] at hb; cases hb) (fun e => by rw [e, n3.1] at hb; cases hb)
    refine hret x dx fl tp g' h' tkk G' Kg ⟨⟨k0, k1', k2, tk, bx, yx, mx, nx, ox, o', hs' ts (.head _) _ h1, hs' tsd (.tail _ (.head _)) _ h2, hs' kd (.tail _ (.tail _ (.head _))) _ h3, h4⟩, fun y hy => ?_, d3⟩
      ⟨⟨_, _, _, instMk (hn' _ _ q1.1 q1.2) (hn' _ _ q2.1 q2.2)⟩, hn' _ _ q3.1 q3.2, ne _ q1.2, ne _ q2.2, ne _ q3.2⟩
    rcases List.mem_append.mp hy with hy | hy
    · obtain ⟨o, its, n, r1, r2, r3, r4⟩ := K y hy
      refine ⟨o, its, n, Kg _ _ r1 (notMem3 (fun e => ?_) (fun e => ?_) (fun e => ?_)), r2, r3, r4⟩
      · have q1' := r1; rw [e, e1] at q1'; cases q1'; cases r2
      · have q1' := r1; rw [e, e2] at q1'; cases q1'; cases r3
      · have q1' := r1; rw [e, e3] at q1'; cases q1'; rw [r3] at hdat; cases hdat
    · rw [List.mem_singleton.mp hy]
      exact h5.key (hn' _ _ q6.1 q6.2)
end
theorem offLawC3 : True := by w_top off; trivial
section
variable {w : World} {dp un : Nat} {gd : Option (List Code)} {a : Addr} {ccd : Value} {outer : List Env} {A₀ : Around} {base h₀ : Heap} {L : Addr} {m mg mb : Str → Option Value} {mean : ExcName → Option Value} {s : Shared} {Q : Flow → Shared → Prop} {E : Value → Shared → Prop}
theorem tsMem {w : World} {g : Heap} {ts tsd kd : Addr} {c : Int} {xs : List (List Str × Addr × Value)} {cx ix : Addr} (T : TsAt w g ts tsd kd c xs cx ix) :
    ∃ k0 k1 k2 tk bx yx mx nx ox, (ts, instObj 239 tsd) ∈ entries g ∧ (tsd, tsD w.params k0 k1 k2 c kd (tsR w.params tk bx cx yx ix mx nx ox)) ∈ entries g :=
  let ⟨⟨k0, k1, k2, tk, bx, yx, mx, nx, ox, od, e1, e2, _⟩, _, _⟩ := T; ⟨k0, k1, k2, tk, bx, yx, mx, nx, ox, mem_entries.mpr e1, mem_entries.mpr e2⟩
theorem law2 {fa : Addr} {fvs : List Value} {fns : List Int} {fn : Nat} {oc1 oc2 : Obj} {v2 : Option Value} {ts tsd kd ix idx cx cdx fl fl' : Addr} {g : Heap}
    (B : Below A₀ base outer h₀) (X : (hd.heap_39 w.params).In h₀) (T : Top pv lo mean mg mb h₀) (hdp : dp + 100 < recursionLimit) (hun : un + 2000 < cLine)
    (G : GS h₀ L s.heap m [(fa, listOf fvs.toArray fn), (L + 1 + 1, oc2), (L + 1, oc1)] g) (hm : m "types" = some (.ref ts))
    (TS : TsAt w g ts tsd kd 7 [] cx ix)
    (TI : Tn w g [ts, tsd, kd] ix idx 4 "integer" 4 .none 0 fl "" "") (TC : Tn w g [ts, tsd, kd] cx cdx 2 "char" 1 .none 0 fl' "" "")
    (hret : ∀ kl kn xa dxa fla xb dxb flb xc dxc flc xd dxd fld xf dxf flf xs m' g' h' tk', GS h₀ L h' m' [(kl, listOf #[.ref xa, .ref xb, .ref xc, .ref xd, .ref xf] kn), (fa, listOf fvs.toArray fn), (L + 1 + 1, oc2), (L + 1, oc1)] g' → m' "types" = some (.ref ts) → m' "kinds" = some (.ref kl) → NeH kl fa →
      TsAt w g' ts tsd kd 12 xs cx ix → Tn w g' [ts, tsd, kd] ix idx 4 "integer" 4 .none 0 fl "" "" → Tn w g' [ts, tsd, kd] cx cdx 2 "char" 1 .none 0 fl' "" "" →
      Kn w g' [ts, tsd, kd] xa dxa 8 "record" 4 .none 0 fla "M" "T" → Kn w g' [ts, tsd, kd] xb dxb 9 "record" 4 .none 0 flb "N" "U" → Kn w g' [ts, tsd, kd] xc dxc 10 "array" 8 .none 0 flc "M" "W" →
      Kn w g' [ts, tsd, kd] xd dxd 11 "record" 4 .none 0 fld "N" "U^" → Kn w g' [ts, tsd, kd] xf dxf 12 "pointer" 4 .none 0 flf "M" "v:" →
      wpAny (model prg w) (lawAr dp un gd L a ccd outer) (execs (lawBody.drop 5) (lawEnv L a ccd)) Q E { s with heap := h', toks := tk' }) :
    wpAny (model prg w) (lawAr dp un gd L a ccd outer) (execs (lawBody.drop 2) (lawEnv L a ccd)) Q E s := by
  unfold lawEnv lawAr
  generalize hZ : lawScope = Z
  conv at hZ => lhs; whnf
  subst hZ
  conv in (execs _ _) => arg 1; whnf
  have F := frKnow G.fr hm
  have N := G.nw
  simp only [List.cons_append, List.nil_append] at N
  have G1 : GS h₀ L s.heap _ _ g := ⟨F, G.nw, G.off⟩
  obtain ⟨k0, k1, k2, tk, bx, yx, mx, nx, ox, i1, i2⟩ := tsMem TS
  have sc' := StopCall.mk
  k_steps
  refine (show _ → Stop _ from id) ?_
  refine new4_G (dp := dp) (m := _) B X T rfl (by ktr_room) (by ktr_units) G1 TS (by simp only [List.map_append, List.map_cons, List.map_nil, List.nil_append, List.cons_append]; decide) (by simp) (by decide) ?_
  intro xa dxa fla tpa ga ha tka Ga Ka TSa KNa
  obtain ⟨k0, k1, k2, tk, bx, yx, mx, nx, ox, i1, i2⟩ := tsMem TSa
  have Fa := Ga.fr
  have Na := Ga.nw
  simp only [List.cons_append, List.nil_append] at Na
  clear F N
  k_steps
  refine (show _ → Stop _ from id) ?_
  refine new4_G (dp := dp) (m := _) B X T rfl (by ktr_room) (by ktr_units) Ga TSa (by simp only [List.map_append, List.map_cons, List.map_nil, List.nil_append, List.cons_append]; decide) (by simp) (by decide) ?_
  intro xb dxb flb tpb gb hb tkb Gb Kb TSb KNb
  obtain ⟨k0, k1, k2, tk, bx, yx, mx, nx, ox, i1, i2⟩ := tsMem TSb
  have Fb := Gb.fr
  have Nb := Gb.nw
  simp only [List.cons_append, List.nil_append] at Nb
  clear Fa Na
  have KNa := KNa.keep Kb
  k_steps
  refine (show _ → Stop _ from id) ?_
  refine new4_G (dp := dp) (m := _) B X T rfl (by ktr_room) (by ktr_units) Gb TSb (by simp only [List.map_append, List.map_cons, List.map_nil, List.nil_append, List.cons_append]; decide) (by simp) (by decide) ?_
  intro xc dxc flc tpc gc hc tkc Gc Kc TSc KNc
  obtain ⟨k0, k1, k2, tk, bx, yx, mx, nx, ox, i1, i2⟩ := tsMem TSc
  have Fc := Gc.fr
  have Nc := Gc.nw
  simp only [List.cons_append, List.nil_append] at Nc
  clear Fb Nb
  have KNa := KNa.keep Kc
  have KNb := KNb.keep Kc
  k_steps
  refine (show _ → Stop _ from id) ?_
  rename Fr _ _ _ _ => F3
  rename News _ _ _ _ => N3
  obtain ⟨kl, e⟩ := nmA N3
  subst e
  have o1 : gc.get? kl = none := offLt (by assumption)
  have G3 : GS h₀ L _ _ [(kl, _), (fa, _), (L + 1 + 1, _), (L + 1, _)] gc := ⟨F3, N3, List.forall_mem_cons.mpr ⟨o1, Gc.off⟩⟩
  refine new4_G (dp := dp) (m := _) B X T rfl (by ktr_room) (by ktr_units) G3 TSc (by simp only [List.map_append, List.map_cons, List.map_nil, List.nil_append, List.cons_append]; decide) (by simp) (by decide) ?_
  intro xd dxd fld tpd gdd hd tkd Gd Kd TSd KNd
  obtain ⟨k0, k1, k2, tk, bx, yx, mx, nx, ox, i1, i2⟩ := tsMem TSd
  have Fd := Gd.fr
  have Nd := Gd.nw
  simp only [List.cons_append, List.nil_append] at Nd
  clear F3 N3
  have KNa := KNa.keep Kd
  have KNb := KNb.keep Kd
  have KNc := KNc.keep Kd
  have o2 : gdd.get? kl = none := Gd.off (kl, _) (.head _)
  k_steps
  refine (show _ → Stop _ from id) ?_
  rename Fr _ _ _ _ => F5
  rename News _ _ _ _ => N5
  have G5 : GS h₀ L _ _ [(kl, _), (fa, _), (L + 1 + 1, _), (L + 1, _)] gdd := ⟨F5, N5, List.forall_mem_cons.mpr ⟨o2, (List.forall_mem_cons.mp Gd.off).2⟩⟩
  refine new4_G (dp := dp) (m := _) B X T rfl (by ktr_room) (by ktr_units) G5 TSd (by simp only [List.map_append, List.map_cons, List.map_nil, List.nil_append, List.cons_append]; decide) (by simp) (by decide) ?_
  intro xf dxf flf tpf gf hf tkf Gf Kf TSf KNf
  obtain ⟨k0, k1, k2, tk, bx, yx, mx, nx, ox, i1, i2⟩ := tsMem TSf
  have Ff := Gf.fr
  have Nf := Gf.nw
  simp only [List.cons_append, List.nil_append] at Nf
  clear F5 N5
  have KNa := KNa.keep Kf
  have KNb := KNb.keep Kf
  have KNc := KNc.keep Kf
  have KNd := KNd.keep Kf
  have o3 : gf.get? kl = none := Gf.off (kl, _) (.head _)
  have sx := StopExec.mk
  k_steps
  refine (show _ → Stop _ from id) ?_
  rename Fr _ _ _ _ => F6
  rename News _ _ _ _ => N6
  have KK := Kept.trans (S := [ts, tsd, kd]) Ka (Kept.trans Kb (Kept.trans Kc (Kept.trans Kd Kf)))
  exact hret kl _ xa dxa fla xb dxb flb xc dxc flc xd dxd fld xf dxf flf _ _ gf _ _ ⟨F6, N6, List.forall_mem_cons.mpr ⟨o3, (List.forall_mem_cons.mp Gf.off).2⟩⟩ rfl rfl ⟨by k_ne⟩ TSf (TI.keep KK) (TC.keep KK) KNa KNb KNc KNd KNf
end
theorem offLawC4 : True := by w_top off; trivial
noncomputable def fstVal (o : Obj) : Option Value := match o.data with
  | .dict es _ => es[0]?.map (·.val)
  | _ => none
theorem ty_ne {P : Params} {tk tk' : Nat → Tok} {n n' : Int} {form form' : Str} {size size' : Int} {bv bv' : Value} {len len' : Int} {f p h f' p' h' : Addr} {mo lb mo' lb' : Str} (hn : n ≠ n') : tyD P tk n form size bv len f p h mo lb ≠ tyD P tk' n' form' size' bv' len' f' p' h' mo' lb' := fun e => by
  have := congrArg fstVal e
  simp [fstVal] at this
  exact hn this.1
theorem getNe {g : Heap} {a b : Addr} {o o' : Obj} (h1 : g.get? a = some o) (h2 : g.get? b = some o') (h : o ≠ o') : a ≠ b := fun e => h (Option.some.inj (h1.symm.trans (e ▸ h2)))
section
variable {w : World} {dp un : Nat} {gd : Option (List Code)} {a : Addr} {ccd : Value} {outer : List Env} {A₀ : Around} {base h₀ : Heap} {L : Addr} {m mg mb : Str → Option Value} {mean : ExcName → Option Value} {s : Shared} {Q : Flow → Shared → Prop} {E : Value → Shared → Prop}
theorem law3 {fa kl xa dxa fla xb dxb flb xc dxc flc xd dxd fld xf dxf flf : Addr} {ts tsd kd cx ix : Addr} {c0 : Int} {xs : List (List Str × Addr × Value)} {fvs : List Value} {fns : List Int} {fn kn : Nat} {oc1 oc2 : Obj} {v2 : Option Value} {g : Heap}
    (B : Below A₀ base outer h₀) (X : (hd.heap_39 w.params).In h₀) (T : Top pv lo mean mg mb h₀) (hdp : dp + 100 < recursionLimit) (hun : un + 2000 < cLine)
    (G : GS h₀ L s.heap m [(kl, listOf #[.ref xa, .ref xb, .ref xc, .ref xd, .ref xf] kn), (fa, listOf fvs.toArray fn), (L + 1 + 1, oc2), (L + 1, oc1)] g) (hm : m "kinds" = some (.ref kl)) (hkf : NeH kl fa)
    (d2 : oc2.data = .cell v2) (d1 : oc1.data = .cell (some (.ref fa))) (hi : IntsAre fvs fns) (hfn : fns.length ≤ 200)
    (Ka : Kn w g [ts, tsd, kd] xa dxa 8 "record" 4 .none 0 fla "M" "T") (Kb : Kn w g [ts, tsd, kd] xb dxb 9 "record" 4 .none 0 flb "N" "U") (Kc : Kn w g [ts, tsd, kd] xc dxc 10 "array" 8 .none 0 flc "M" "W")
    (Kd : Kn w g [ts, tsd, kd] xd dxd 11 "record" 4 .none 0 fld "N" "U^") (Kf : Kn w g [ts, tsd, kd] xf dxf 12 "pointer" 4 .none 0 flf "M" "v:")
    (TS : TsAt w g ts tsd kd c0 xs cx ix)
    (hret : ∀ ll len fvs' fns' fn' oc2' g' h' tk', GS h₀ L h' m [(fa, listOf fvs'.toArray fn'), (L + 1 + 1, oc2'), (L + 1, oc1)] g' → oc2'.data = .cell (some (.ref ll)) → IntsAre fvs' fns' → fns'.length ≤ 200 →
      KindsAt w g' kl ll xa xb xc xd xf len → 2 ≤ len → len < 7 → TsAt w g' ts tsd kd c0 xs cx ix → Kept [dxc, dxf] g g' →
      wpAny (model prg w) (lawAr dp un gd L a ccd outer) (execs (lawBody.drop 9) (lawEnv L a ccd)) Q E { s with heap := h', toks := tk' }) :
    wpAny (model prg w) (lawAr dp un gd L a ccd outer) (execs (lawBody.drop 5) (lawEnv L a ccd)) Q E s := by
  unfold lawEnv lawAr
  generalize hZ : lawScope = Z
  conv at hZ => lhs; whnf
  subst hZ
  conv in (execs _ _) => arg 1; whnf
  obtain ⟨tkc, plc, hlc, Ic⟩ := Kc.ty
  obtain ⟨tkf, plf, hlf, If⟩ := Kf.ty
  have nef : dxf ≠ dxc := getNe If.dict Ic.dict (ty_ne (by decide))
  have G1 := (G.out Ic.dict).out (GS.outK (g := g) _ _ If.dict (notMem1 nef))
  have k1 : Kept [dxc] g (hideAll g [dxc]) := GS.outK
  have k2 : Kept [dxf] (hideAll g [dxc]) (hideAll (hideAll g [dxc]) [dxf]) := GS.outK
  have o1 : (hideAll (hideAll g [dxc]) [dxf]).get? dxf = none := G1.off (dxf, _) (.head _)
  have o2 : (hideAll (hideAll g [dxc]) [dxf]).get? dxc = none := G1.off (dxc, _) (.tail _ (.head _))
  have o3 : (hideAll (hideAll g [dxc]) [dxf]).get? kl = none := G1.off (kl, _) (.tail _ (.tail _ (.head _)))
  have o4 : (hideAll (hideAll g [dxc]) [dxf]).get? fa = none := G1.off (fa, _) (.tail _ (.tail _ (.tail _ (.head _))))
  have o5 : (hideAll (hideAll g [dxc]) [dxf]).get? (L + 1 + 1) = none := G1.off (L + 1 + 1, _) (.tail _ (.tail _ (.tail _ (.tail _ (.head _)))))
  have o7 : (hideAll (hideAll g [dxc]) [dxf]).get? (L + 1) = none := G1.off (L + 1, _) (.tail _ (.tail _ (.tail _ (.tail _ (.tail _ (.head _))))))
  have xcd : ∀ b, instObj 182 b ≠ tyD w.params tkc 10 "array" 8 .none 0 flc plc hlc "M" "W" := fun b e => by cases e
  have xfd : ∀ b, instObj 182 b ≠ tyD w.params tkf 12 "pointer" 4 .none 0 flf plf hlf "M" "v:" := fun b e => by cases e
  have K0 : Kept [dxc, dxf] g (hideAll (hideAll g [dxc]) [dxf]) := fun b o e n => k2 _ _ (k1 _ _ e (fun q => n (by rw [List.mem_singleton.mp q]; exact .head _))) (fun q => n (by rw [List.mem_singleton.mp q]; exact .tail _ (.head _)))
  have i1 : (xc, instObj 182 dxc) ∈ entries (hideAll (hideAll g [dxc]) [dxf]) := mem_entries.mpr (K0 _ _ Ic.at_ (notMem2 (getNe Ic.at_ Ic.dict (xcd _)) (getNe Ic.at_ If.dict (xfd _))))
  have i2 : (xf, instObj 182 dxf) ∈ entries (hideAll (hideAll g [dxc]) [dxf]) := mem_entries.mpr (K0 _ _ If.at_ (notMem2 (getNe If.at_ Ic.dict (xcd _)) (getNe If.at_ If.dict (xfd _))))
  generalize hideAll (hideAll g [dxc]) [dxf] = g1 at *
  have F := frKnow G1.fr hm
  have N := G1.nw
  simp only [List.cons_append, List.nil_append] at N
  have e1 : NeH dxf dxc := ⟨nef⟩
  have p1 := G.off (kl, _) (.head _)
  have p2 := G.off (fa, _) (.tail _ (.head _))
  have p3 := G.off (L + 1 + 1, _) (.tail _ (.tail _ (.head _)))
  have p4 := G.off (L + 1, _) (.tail _ (.tail _ (.tail _ (.head _))))
  have e2 : NeH kl dxc := ⟨neNone p1 Ic.dict⟩
  have e3 : NeH fa dxc := ⟨neNone p2 Ic.dict⟩
  have e4 : NeH (L + 1 + 1) dxc := ⟨neNone p3 Ic.dict⟩
  have e5 : NeH (L + 1) dxc := ⟨neNone p4 Ic.dict⟩
  have e6 : NeH kl dxf := ⟨neNone p1 If.dict⟩
  have e7 : NeH fa dxf := ⟨neNone p2 If.dict⟩
  have e8 : NeH (L + 1 + 1) dxf := ⟨neNone p3 If.dict⟩
  have e9 : NeH (L + 1) dxf := ⟨neNone p4 If.dict⟩
  have e10 := neObj' N (a := fa) (b := L + 1) (by k_mem) (by k_mem) (listCell d1)
  have e11 := neObj' N (a := fa) (b := L + 1 + 1) (by k_mem) (by k_mem) (listCell d2)
  have e12 := neObj' N (a := kl) (b := L + 1) (by k_mem) (by k_mem) (listCell d1)
  have e13 := neObj' N (a := kl) (b := L + 1 + 1) (by k_mem) (by k_mem) (listCell d2)
  have sx := StopExec.mk
  k_steps
  walk_at "F next"
  walk_at "F next"
  walk_at "F next"
  walk_at "F next"
  refine Stop.out ?_
  rename Fr _ _ _ _ => F6
  rename News _ _ _ _ => N6
  rename Obj.data _ = Data.cell (some (Value.ref _)) => d3
  obtain ⟨ll, e⟩ := nmA N6
  subst e
  have o6 : g1.get? ll = none := offLt (by assumption)
  obtain ⟨g2, G2, K2, hg⟩ := absorb (E' := [(ll, _), (dxf, _), (dxc, _), (kl, _), (fa, _), (L + 1 + 1, _), (L + 1, _)]) F6 [(fa, _), (L + 1 + 1, _), (L + 1, _)] N6 (by walk_at "F sub") (List.forall_mem_cons.mpr ⟨o4, List.forall_mem_cons.mpr ⟨o5, List.forall_mem_cons.mpr ⟨o7, List.forall_mem_nil _⟩⟩⟩)
  have K3 : Kept [dxc, dxf] g g2 := fun b o e n => K2.all _ _ (K0 _ _ e n)
  have c1 := hg (ll, _) (by k_mem) (by k_all)
  have c2 := hg (dxf, _) (by k_mem) (by k_all)
  have c3 := hg (dxc, _) (by k_mem) (by k_all)
  have c4 := hg (kl, _) (by k_mem) (by k_all)
  have hKa : ∀ {x dx fl num form size bv len mo lb}, Kn w g [ts, tsd, kd] x dx num form size bv len fl mo lb → num ≠ 10 → num ≠ 12 → TyAt w g2 x dx num form size bv len fl mo lb := fun K n1 n2 => by
    obtain ⟨tk, pl, hl, I⟩ := K.ty
    exact ⟨tk, pl, hl, instKept K3 I (notMem2 (getNe I.at_ Ic.dict (xcd _)) (getNe I.at_ If.dict (xfd _))) (notMem2 (getNe I.dict Ic.dict (ty_ne n1)) (getNe I.dict If.dict (ty_ne n2)))⟩
  have hfla : g2.get? fla = some (listOf #[] 0) := K3 _ _ Ka.fs (notMem2 (getNe Ka.fs Ic.dict (fun e => by have := congrArg Obj.data e; cases this)) (getNe Ka.fs If.dict (fun e => by have := congrArg Obj.data e; cases this)))
  have off2 : ∀ b, b ∈ [ts, tsd, kd] → b ∉ [dxc, dxf] := fun b hb => notMem2 (fun e => Kc.off.2.1 (e ▸ hb)) (fun e => Kf.off.2.1 (e ▸ hb))
  have TS2 : TsAt w g2 ts tsd kd c0 xs cx ix := TS.keep K3 ⟨off2 _ (.head _), off2 _ (.tail _ (.head _)), off2 _ (.tail _ (.tail _ (.head _)))⟩ fun x hx => by
    obtain ⟨o, its, n, q1, q2, q3, _⟩ := TS.keys x hx
    exact notMem2 (getNe q1 Ic.dict (fun e => by rw [e] at q3; cases q3)) (getNe q1 If.dict (fun e => by rw [e] at q3; cases q3))
  have G2'xc : g2.get? xc = some (instObj 182 dxc) := K2.all _ _ (mem_entries.mp i1)
  have G2'xf : g2.get? xf = some (instObj 182 dxf) := K2.all _ _ (mem_entries.mp i2)
  exact hret ll _ _ _ _ _ g2 _ _ ⟨frBack F6 hm, G2.nw, G2.off⟩ d3 (by assumption) (by assumption)
    ⟨⟨_, c4⟩, ⟨_, _, _, _, _, c1⟩, ⟨dxa, fla, hKa Ka (by decide) (by decide), hfla⟩, ⟨dxb, flb, hKa Kb (by decide) (by decide)⟩,
      ⟨dxc, flc, pick [_, _, _, _, _, _, _, _, _, _, _, _, _, _, _, _, _, _, _, _], plc, hlc, instMk (G2'xc) c3⟩, ⟨dxd, fld, hKa Kd (by decide) (by decide)⟩, ⟨dxf, flf, tkf, plf, hlf, instMk (G2'xf) c2⟩⟩ (by omega) (by omega) TS2 K3
end
theorem offLawC5 : True := by w_top off; trivial
theorem nmI {r b : Int} (_ : r < b) : ∃ y, y = r := ⟨_, rfl⟩
noncomputable def isLet (x : Str) : Prop := x = Str.ofString "T" ∨ x = Str.ofString "U" ∨ x = Str.ofString "N" ∨ x = Str.ofString "N1"
section
open PyProof.Rows.LCg
variable {prog : Program} {w : World} {A : Around} {E : Value → Shared → Prop} {s : Shared}
theorem itemLet {value slice : Expr} {l : Addr} {t0 t1 t2 t3 u : Tok} {r : Int} {Q : Value → Shared → Prop} (hl : s.heap.IsList l #[.str "T" t0, .str "U" t1, .str "N" t2, .str "N1" t3]) (h0 : 0 ≤ r) (h1 : r < 4) (h : ∀ x t, isLet x → Q (.str x t) s)
    (hs : subscripted slice false (.ref l) (.int r u) = operate [.ref l, .int r u] (getItem (.ref l) (.int r u)) := by with_unfolding_all rfl) (hg : ∀ r, letTemporaryGo value (.ref l) r = pure () := by intro _; with_unfolding_all rfl) :
    wpAny (model prog w) A (subscriptTail value slice (.ref l) (.int r u)) Q E s := by
  have hr : r = 0 ∨ r = 1 ∨ r = 2 ∨ r = 3 := by omega
  rcases hr with rfl | rfl | rfl | rfl
  · exact PyProof.Rows.item_list hl h0 (by decide) rfl (h _ _ (.inl rfl)) hs hg
  · exact PyProof.Rows.item_list hl h0 (by decide) rfl (h _ _ (.inr (.inl rfl))) hs hg
  · exact PyProof.Rows.item_list hl h0 (by decide) rfl (h _ _ (.inr (.inr (.inl rfl)))) hs hg
  · exact PyProof.Rows.item_list hl h0 (by decide) rfl (h _ _ (.inr (.inr (.inr rfl)))) hs hg
end
theorem wd89 : True := by
  (k_with "M.subscriptTail Name Call ref int" => first | (k_dflt (refine itemLet (by exact News.isList (by k_asm) (by k_mem)) (by assumption) (by assumption) ?_; k_whole); intro _ _ _) | fail)
  trivial
section
open PyProof.Rows.LCg
variable {w : World} {dp un : Nat} {gd : Option (List Code)} {a : Addr} {ccd : Value} {outer : List Env} {A₀ : Around} {base h₀ : Heap} {L : Addr} {m mg mb : Str → Option Value} {mean : ExcName → Option Value} {s : Shared} {Q : Flow → Shared → Prop} {E : Value → Shared → Prop}
theorem law4 {fa ll : Addr} {t0 t1 t2 t3 : Tok} {fvs : List Value} {fns : List Int} {fn ln : Nat} {oc1 oc2 : Obj} {g : Heap}
    (B : Below A₀ base outer h₀) (X : (hd.heap_39 w.params).In h₀) (T : Top pv lo mean mg mb h₀) (hdp : dp + 100 < recursionLimit) (hun : un + 2000 < cLine)
    (G : GS h₀ L s.heap m [(fa, listOf fvs.toArray fn), (L + 1 + 1, oc2), (L + 1, oc1)] g)
    (d2 : oc2.data = .cell (some (.ref ll))) (d1 : oc1.data = .cell (some (.ref fa))) (hi : IntsAre fvs fns) (hfn : fns.length ≤ 200)
    (hll : g.get? ll = some (listOf #[.str "T" t0, .str "U" t1, .str "N" t2, .str "N1" t3] ln))
    (hret : ∀ hl hvs hs hn fvs' fns' fn' g' h' tk', GS h₀ L h' (fun y => if y = "held" then some (.ref hl) else m y) [(fa, listOf fvs'.toArray fn'), (L + 1 + 1, oc2), (L + 1, oc1)] g' → Kept [] g g' → IntsAre fvs' fns' → fns'.length ≤ 200 →
      g'.get? hl = some (listOf hvs.toArray hn) → StrsAre hvs hs → hs.length ≤ 3 → (∀ k ∈ hs, isLet k) →
      wpAny (model prg w) (lawAr dp un gd L a ccd outer) (execs (lawBody.drop 10) (lawEnv L a ccd)) Q E { s with heap := h', toks := tk' }) :
    wpAny (model prg w) (lawAr dp un gd L a ccd outer) (execs (lawBody.drop 9) (lawEnv L a ccd)) Q E s := by
  unfold lawEnv lawAr
  generalize hZ : lawScope = Z
  conv at hZ => lhs; whnf
  subst hZ
  conv in (execs _ _) => arg 1; whnf
  have o1 : g.get? fa = none := G.off (fa, _) (.head _)
  have o2 : g.get? (L + 1 + 1) = none := G.off (L + 1 + 1, _) (.tail _ (.head _))
  have o3 : g.get? (L + 1) = none := G.off (L + 1, _) (.tail _ (.tail _ (.head _)))
  have i1 := mem_entries.mpr hll
  have F := G.fr
  have N := G.nw
  simp only [List.cons_append, List.nil_append] at N
  have e10 := neObj' N (a := fa) (b := L + 1) (by k_mem) (by k_mem) (listCell d1)
  have e11 := neObj' N (a := fa) (b := L + 1 + 1) (by k_mem) (by k_mem) (listCell d2)
  have sx := StopExec.mk
  k_steps
  refine Stop.out ?_
  (repeat (rename StopExec => q9; clear q9))
  walk1
  k_dflt (refine LCg.Assign_ListComp_U (F₀ := by k_asm) (by rfl) (by with_unfolding_all rfl) (by rfl) (by decide) (by rfl) (by decide) (by rfl) (by rfl) (by rfl) ?_)
  have sc := StopComp.mk
  k_steps
  refine Stop.out ?_
  (repeat (rename StopComp => q9; clear q9))
  rename Fr _ _ _ _ => F2
  rename News _ _ _ _ => N2
  rename IsRange _ _ _ _ _ _ _ _ => hR
  rename IntsAre _ _ => hi2
  rename _ < (4 : Int) => r1
  obtain ⟨rb, e⟩ := nmI r1
  subst e
  refine LCg.CompSrc.range (n := rb.toNat) (by rfl) F2 N2 hR (rsm (by omega) (.inl rfl)) (rsz (by omega)) (by rw [sizeLine_eq]; omega) (fun g' => ?_)
  refine compU_inv (fun i ys nx => ∃ vs ns n, nx = (fa, listOf vs.toArray n) :: (L + 1 + 1, oc2) :: (L + 1, oc1) :: entries g ∧ IntsAre vs ns ∧ ns.length ≤ 200 ∧ ∃ hs, StrsAre ys hs ∧ hs.length = i ∧ ∀ k ∈ hs, isLet k)
    ⟨_, _, _, rfl, hi2, by assumption, [], .nil, rfl, fun _ q => nomatch q⟩ ?_ ?_
  · rintro i v I oI C oC D m₂ h tk E' ys nx hi3 ⟨t9, rfl⟩ ⟨vs, ns, n, rfl, hvs, hns, hs, hys, hlen, hlet⟩ hC hx F3 N3 off ne
    clear F2 N2 ne
    have q := LCg.Off3.mem off (fa, _) (.head _)
    have e1 : NeH fa I := ⟨q.1⟩
    have e2 : NeH fa C := ⟨q.2.1⟩
    have e3 : NeH fa D := ⟨q.2.2⟩
    clear hi2 q
    k_steps
    rename isLet _ => hx1
    rename Fr _ _ _ _ => F4
    rename News _ _ _ _ => N4
    exact ⟨_, _, _, rfl, F4, N4, off3_set off, trivial, _, _, _, rfl, by assumption, by assumption, hs ++ [_], StrsAre.append' hys (.cons _ _ .nil), by rw [List.length_append, hlen]; rfl, fun k hk => by
      rcases List.mem_append.mp hk with hk | hk
      · exact hlet k hk
      · rw [List.mem_singleton.mp hk]; exact hx1⟩
  · rintro ys nx ⟨vs, ns, n, rfl, hvs, hns, hs, hys, hlen, hlet⟩
    intro D h3 tk3 F3 N3 off
    have N4 : News h₀ L h3 ([(D, LCg.lst ys), (fa, listOf vs.toArray n), (L + 1 + 1, oc2), (L + 1, oc1)] ++ entries g) := N3
    obtain ⟨g2, G2, K2, hg⟩ := absorb F3 [(fa, _), (L + 1 + 1, _), (L + 1, _)] N4 (by walk_at "F sub") (List.forall_mem_cons.mpr ⟨o1, List.forall_mem_cons.mpr ⟨o2, List.forall_mem_cons.mpr ⟨o3, List.forall_mem_nil _⟩⟩⟩)
    have c1 := hg (D, _) (by k_mem) (List.forall_mem_cons.mpr ⟨(off1_mem off (fa, _) (by k_mem)), List.forall_mem_cons.mpr ⟨(off1_mem off (L + 1 + 1, _) (by k_mem)), List.forall_mem_cons.mpr ⟨(off1_mem off (L + 1, _) (by k_mem)), List.forall_mem_nil _⟩⟩⟩)
    exact hret D ys hs _ vs ns n g2 _ _ ⟨F3, G2.nw, G2.off⟩ K2 hvs hns c1 hys (by omega) hlet
end
theorem offLawC6 : True := by w_top off; trivial
theorem tabAt_of {prog : Program} {w : World} {K : Type} [DecidableEq K] {knd : KeyKind prog w K} {enc : K → PyData} {h g : Heap} {d : Addr} {D : List (PyData × PyData)} {o : Obj} (T : TabAt knd enc h d D) (h1 : h.get? d = some o) (h2 : g.get? d = some o) : TabAt knd enc g d D :=
  let ⟨lo, kvs, hd, hf⟩ := T
  let ⟨o', ho, hx⟩ := Heap.dictOf_iff.mp hd
  ⟨lo, kvs, Heap.dictOf_iff.mpr ⟨o', by rw [h2, ← h1, ho], hx⟩, hf⟩
noncomputable def freeOf (hs : List Str) : Str := if hs.any (fun x => x == Str.ofString "N") then (if hs.any (fun x => x == Str.ofString "N1") then Str.ofString "N2" else "N1") else "N"
theorem freeOf_len (hs : List Str) : (freeOf hs).length ≤ 2 := by
  unfold freeOf
  split
  · split <;> decide
  · decide
noncomputable abbrev alOf (x : Str) : List (Str × Str) := [(Str.ofString "N", x), (Str.ofString "SYSTEM", Str.ofString "SYSTEM")]
theorem alOf_n3 {x : Str} (hx : x.length ≤ 2) (k : Str) : (((alOf x).lookup k).getD k).length ≤ k.length + 20 := by
  unfold alOf
  rw [List.lookup_cons]
  split
  · show x.length ≤ _; omega
  · rw [List.lookup_cons]
    split
    · have : (Str.ofString "SYSTEM").length = 6 := by decide
      show (Str.ofString "SYSTEM").length ≤ _; omega
    · show k.length ≤ _; omega
theorem frHeld {h₀ h : Heap} {L : Addr} {m : Str → Option Value} {u v w : Option Value} (F : Fr h₀ L h (fun y => if y = Str.ofString "aliases" then u else if y = Str.ofString "names" then v else if y = Str.ofString "held" then w else m y)) (e : m "held" = w) :
    Fr h₀ L h (fun y => if y = Str.ofString "aliases" then u else if y = Str.ofString "names" then v else m y) := by
  have : (fun y => if y = Str.ofString "held" then w else m y) = m := by
    funext y
    by_cases q : y = Str.ofString "held"
    · rw [if_pos q, q]; exact e.symm
    · rw [if_neg q]
  have e2 : (fun y => if y = Str.ofString "aliases" then u else if y = Str.ofString "names" then v else if y = Str.ofString "held" then w else m y) = (fun y => if y = Str.ofString "aliases" then u else if y = Str.ofString "names" then v else m y) := by
    funext y
    have h2 : (if y = Str.ofString "held" then w else m y) = m y := congrFun this y
    show (if y = Str.ofString "aliases" then u else if y = Str.ofString "names" then v else if y = Str.ofString "held" then w else m y) = _
    rw [h2]
  rw [e2] at F; exact F
section
variable {w : World} {dp un : Nat} {gd : Option (List Code)} {a : Addr} {ccd : Value} {outer : List Env} {A₀ : Around} {base h₀ : Heap} {L : Addr} {m mg mb : Str → Option Value} {mean : ExcName → Option Value} {s : Shared} {Q : Flow → Shared → Prop} {E : Value → Shared → Prop}
theorem law5 {fa hl : Addr} {fvs hvs : List Value} {hs : List Str} {fns : List Int} {fn hn : Nat} {oc1 oc2 : Obj} {g : Heap}
    (B : Below A₀ base outer h₀) (X : (hd.heap_39 w.params).In h₀) (T : Top pv lo mean mg mb h₀) (hdp : dp + 100 < recursionLimit) (hun : un + 2000 < cLine)
    (G : GS h₀ L s.heap m [(fa, listOf fvs.toArray fn), (L + 1 + 1, oc2), (L + 1, oc1)] g) (hm : m "held" = some (.ref hl))
    (hhl : g.get? hl = some (listOf hvs.toArray hn)) (hHs : StrsAre hvs hs) (hlen : hs.length ≤ 3) (hsub : ∀ k ∈ hs, isLet k)
    (hret : ∀ na nd aa sa ra nk d0 od la xN gk g' h' tk', GS h₀ L h' (fun y => if y = "aliases" then some (.ref la) else if y = "names" then some (.ref na) else m y) [(fa, listOf fvs.toArray fn), (L + 1 + 1, oc2), (L + 1, oc1)] g' →
      (∀ b o, g.get? b = some o → b ≠ na ∧ b ≠ nd ∧ b ≠ aa) → Kept [] g gk → Kept [] gk g' → gk.get? sa = none → gk.get? d0 = none → InstAt gk na (instObj 111 nd) 111 (some (nmD w.params nk aa sa ra)) → StrTab prg w gk aa ((alOf xN).map fun p => (.str p.1, .str p.2)) →
      StrTab prg w gk la [(.str "N", .str xN), (.str "SYSTEM", .str "SYSTEM")] → (∃ n, g'.get? sa = some (listOf #[.ref d0] n)) → g'.get? d0 = some od → od.IsDictOf (strKind prg w) [] → (d0 == sysModules) = false → xN.length ≤ 2 →
      wpAny (model prg w) (lawAr dp un gd L a ccd outer) (execs (lawBody.drop 14) (lawEnv L a ccd)) Q E { s with heap := h', toks := tk' }) :
    wpAny (model prg w) (lawAr dp un gd L a ccd outer) (execs (lawBody.drop 10) (lawEnv L a ccd)) Q E s := by
  unfold lawEnv lawAr
  generalize hZ : lawScope = Z
  conv at hZ => lhs; whnf
  subst hZ
  conv in (execs _ _) => arg 1; whnf
  have o1 : g.get? fa = none := G.off (fa, _) (.head _)
  have o2 : g.get? (L + 1 + 1) = none := G.off (L + 1 + 1, _) (.tail _ (.head _))
  have o3 : g.get? (L + 1) = none := G.off (L + 1, _) (.tail _ (.tail _ (.head _)))
  have i1 := mem_entries.mpr hhl
  have F := frKnow G.fr hm
  have N := G.nw
  simp only [List.cons_append, List.nil_append] at N
  have sc := StopCall.mk
  k_steps
  refine Stop.out ?_
  repeat (rename StopCall => q9; clear q9)
  rename Fr _ _ _ _ => F2
  rename News _ _ _ _ => N2
  obtain ⟨il, e⟩ := nmA N2
  subst e
  refine' call_cls (fI := 52) ?k1 ?k2 ?k3 ?k4 ?k5 ?k6 ?_
  (case k1 => k_asm); (case k2 => k_asm); (case k3 => k_asm); (case k4 => k_is); (case k5 => k_is); (case k6 => k_is)
  intro x dx h3 F3 N3 l1 l2
  k_lt l1
  k_lt2 l2
  clear F2 N2
  try simp only [List.nil_append, List.cons_append] at N3
  obtain ⟨g1, G1, K1, hg1⟩ := absorb (E' := [(x, _), (dx, _), (il, _), (fa, _), (L + 1 + 1, _), (L + 1, _)]) F3 [(fa, listOf fvs.toArray fn), (L + 1 + 1, oc2), (L + 1, oc1)] N3 (by walk_at "F sub") (List.forall_mem_cons.mpr ⟨o1, List.forall_mem_cons.mpr ⟨o2, List.forall_mem_cons.mpr ⟨o3, List.forall_mem_nil _⟩⟩⟩)
  have gx : g1.get? x = some (instObj 111 dx) := hg1 (x, _) (by k_mem) (by k_all)
  have gdx : g1.get? dx = some (dictOf [] 0) := hg1 (dx, _) (by k_mem) (by k_all)
  have hhl3 : h3.get? hl = some (listOf hvs.toArray hn) := (N3 (hl, _) (by k_mem)).1
  have hil3 := (N3 (il, _) (by k_mem)).1
  have hx0 : h3.get? x = some (instObj 111 dx) := (N3 (x, _) (by k_mem)).1
  have hdx0 : h3.get? dx = some (dictOf [] 0) := (N3 (dx, _) (by k_mem)).1
  have N3' := N3
  refine nmInit_ct (dp := dp + 1) (un := un + 1) B F3 X T rfl (by ktr_room) (by ktr_units) l2 (fun p hp => N3 p (List.mem_append_left _ hp)) (hvs := hvs) (hs := hs) ⟨_, hil3, rfl, _, rfl⟩ ⟨_, hhl3, rfl, _, rfl⟩ hHs hlen ?_ hsub ?_
  · refine ⟨by k_ne, by k_ne, ?_, ?_⟩
    · exact getNe hhl3 (N3 (x, _) (by k_mem)).1 (fun e => by have := congrArg Obj.data e; cases this)
    · exact getNe hhl3 (N3 (dx, _) (by k_mem)).1 (fun e => by have := congrArg Obj.data e; cases this)
  intro tkN aa sa ra d0 od oa h4 tk4 xN K4 hx4 hn4 hal lo0 hd0 hxN hord
  obtain ⟨g2, G2, K2, hn2, hs2⟩ := G1.step K4 (List.forall_mem_cons.mpr ⟨⟨_, gx⟩, List.forall_mem_cons.mpr ⟨⟨_, gdx⟩, List.forall_mem_nil _⟩⟩)
  have gx2 := hs2 x (.head _) _ (hx4 (x, _) (by k_mem))
  have gdx2 := hs2 dx (.tail _ (.head _)) _ (hx4 (dx, _) (by k_mem))
  have q1 := hn4 (aa, _) (by k_mem)
  have q2 := hn4 (sa, _) (by k_mem)
  have q3 := hn4 (d0, _) (by k_mem)
  have g3 := hn2 _ _ q3.1 q3.2
  have xl : xN.length ≤ 2 := by rw [hxN]; exact freeOf_len hs
  have NM : NmAt w g2 x dx aa sa ra tkN [(d0, [])] (alOf xN) := ⟨instMk gx2 gdx2, ⟨_, hn2 _ _ q2.1 q2.2, rfl, _, rfl⟩,
    (fun p hp => by rw [List.mem_singleton.mp hp]; exact ⟨lo0, [], Heap.dictOf_iff.mpr ⟨od, g3, hd0⟩, .nil⟩), tabAt_of hal q1.1 (hn2 _ _ q1.1 q1.2), by simp, (fun p hp => by rw [List.mem_singleton.mp hp]; simp), alOf_n3 xl⟩
  have KK : Kept [] g g2 := fun b o e _ => by
    have hb : h3.get? b = some o := (N3 (b, o) (by simp only [List.mem_cons]; exact .inr (.inr (.inr (.inr (.inr (.inr (mem_entries.mpr e)))))))).1
    exact K2 _ _ (K1.all _ _ e) (notMem2 (Nat.ne_of_lt (Nat.lt_trans (allLtLt (d := dx) (by assumption) (b, o) (mem_entries.mpr e)) l2)) (fun q => (allLtNe (d := dx) (by assumption) (b, o) (mem_entries.mpr e)) q))
  have f0 : ∀ b o, g.get? b = some o → b ≠ x ∧ b ≠ dx ∧ b ≠ aa := fun b o e => by
    have hb : h3.get? b = some o := (N3 (b, o) (by simp only [List.mem_cons]; exact .inr (.inr (.inr (.inr (.inr (.inr (mem_entries.mpr e)))))))).1
    exact ⟨Nat.ne_of_lt (Nat.lt_trans (allLtLt (d := dx) (by assumption) (b, o) (mem_entries.mpr e)) l2), (fun q => (allLtNe (d := dx) (by assumption) (b, o) (mem_entries.mpr e)) q), fun q => by have z := q1.2; rw [← q, hb] at z; cases z⟩
  have f0 := Hid.mk f0
  refine ⟨rfl, ?_⟩
  have F5 := G2.fr
  have N5 := G2.nw
  clear F3 N3 G1 K1 hg1
  have N3' := Hid.mk N3'
  simp only [List.cons_append, List.nil_append] at N5
  have i2 := mem_entries.mpr gx2
  have i3 := mem_entries.mpr gdx2
  have p1 : g2.get? fa = none := G2.off (fa, _) (.head _)
  have p2 : g2.get? (L + 1 + 1) = none := G2.off (L + 1 + 1, _) (.tail _ (.head _))
  have p3 : g2.get? (L + 1) = none := G2.off (L + 1, _) (.tail _ (.tail _ (.head _)))
  have hhl2 : g2.get? hl = some (listOf hvs.toArray hn) := KK.all _ _ hhl
  have sc := StopCall.mk
  k_steps
  refine Stop.out ?_
  repeat (rename StopCall => q9; clear q9)
  rename Fr _ _ _ _ => F6
  rename News _ _ _ _ => N6
  obtain ⟨la, e⟩ := nmA N6
  subst e
  have no2 : (hs.any fun x => x == Str.ofString "N2") = false := by
    rw [List.any_eq_false]
    intro y hy
    rcases hsub y hy with rfl | rfl | rfl | rfl <;> decide
  refine lfree_k B F6 X T rfl (by ktr_room) (by ktr_units) N6 (hl := hl) (vs := hvs) ⟨_, (N6 (hl, _) (by simp only [List.mem_cons]; exact .inr (.inr (.inr (.inr (mem_entries.mpr hhl2)))))).1, rfl, _, rfl⟩ hHs hlen no2 ?_
  intro xL t9 h7 tk7 K7 F7 N7 hxL
  clear F6 N6
  obtain rfl : xL = xN := hxL.trans hxN.symm
  have sc := StopCall.mk
  k_steps
  refine Stop.out ?_
  repeat (rename StopCall => q9; clear q9)
  rename Fr _ _ _ _ => Fa
  rename News _ _ _ _ => Na
  have NMa := NM.keep (upE Na (by walk_at "F ents"))
  refine modName_ct B Fa X T rfl (by ktr_room) (by ktr_units) Na NMa.inst NMa.alis ?_
  rw [show ((alOf xL).lookup (Str.ofString "N")).getD (Str.ofString "N") = xL from rfl]
  intro ta ha tka Ka Fa' Na'
  clear Fa Na NMa
  have sc := StopCall.mk
  k_steps
  · exact absurd (show (xL != xL) = true by assumption) (by simp)
  refine Stop.out ?_
  repeat (rename StopCall => q9; clear q9)
  rename Fr _ _ _ _ => Fb
  rename News _ _ _ _ => Nb
  have NMb := NM.keep (upE Nb (by walk_at "F ents"))
  refine modName_ct B Fb X T rfl (by ktr_room) (by ktr_units) Nb NMb.inst NMb.alis ?_
  rw [show ((alOf xL).lookup (Str.ofString "SYSTEM")).getD (Str.ofString "SYSTEM") = Str.ofString "SYSTEM" from rfl]
  intro tb hb tkb Kb Fb' Nb'
  clear Fb Nb NMb
  have sc := StopCall.mk
  k_steps
  refine Stop.out ?_
  repeat (rename StopCall => q9; clear q9)
  rename Fr _ _ _ _ => Fc
  rename News _ _ _ _ => Nc
  have NMc := NM.keep (upE Nc (by walk_at "F ents"))
  refine modName_ct B Fc X T rfl (by ktr_room) (by ktr_units) Nc NMc.inst NMc.alis ?_
  rw [show ((alOf xL).lookup (Str.ofString "Q")).getD (Str.ofString "Q") = Str.ofString "Q" from rfl]
  intro tc hc tkc Kc Fc' Nc'
  clear Fc Nc NMc
  have sc := StopCall.mk
  have sx := StopExec.mk
  k_steps
  refine Stop.out ?_
  rename Fr _ _ _ _ => F8
  rename News _ _ _ _ => N8
  obtain ⟨g3', G3, K3, hg3⟩ := absorb (E' := [(la, _), (fa, _), (L + 1 + 1, _), (L + 1, _)]) F8 [(fa, listOf fvs.toArray fn), (L + 1 + 1, oc2), (L + 1, oc1)] N8 (by walk_at "F sub") (List.forall_mem_cons.mpr ⟨p1, List.forall_mem_cons.mpr ⟨p2, List.forall_mem_cons.mpr ⟨p3, List.forall_mem_nil _⟩⟩⟩)
  have c1 := hg3 (la, _) (by k_mem) (by k_all)
  have gsa := hn2 _ _ q2.1 q2.2
  have gaa := hn2 _ _ q1.1 q1.2
  have kk : Kept [sa, d0] g3' (hideAll g3' [sa, d0]) := fun b o e n => hideAll_get _ e n
  have ku : Kept [] (hideAll g3' [sa, d0]) g3' := fun b o e _ => of_hideAll _ e
  have hin : ∀ b o, g3'.get? b = some o → b ≠ sa → b ≠ d0 → (hideAll g3' [sa, d0]).get? b = some o := fun b o e n1 n2 => kk b o e (notMem2 n1 n2)
  have n1 : x ≠ sa := getNe gx2 gsa (fun e => by have := congrArg Obj.data e; cases this)
  have n2 : dx ≠ sa := getNe gdx2 gsa (fun e => by have := congrArg Obj.data e; cases this)
  have hx3 := hx4 (x, _) (by k_mem)
  have n3 : x ≠ d0 := fun e => by have q := q3.2; rw [← e, hx0] at q; cases q
  have n4 : dx ≠ d0 := fun e => by have q := q3.2; rw [← e, hdx0] at q; cases q
  have lag : g2.get? la = none := offLt (by assumption)
  have n5 : la ≠ sa := neNone lag gsa
  have n6 : la ≠ d0 := neNone lag g3
  have f1 : ∀ b o, g.get? b = some o → b ≠ sa ∧ b ≠ d0 := fun b o e => by
    have hb := (N3'.h (b, o) (by simp only [List.mem_cons]; exact .inr (.inr (.inr (.inr (.inr (.inr (mem_entries.mpr e)))))))).1
    exact ⟨(fun q => by have z := q2.2; rw [← q, hb] at z; cases z), (fun q => by have z := q3.2; rw [← q, hb] at z; cases z)⟩
  have LA : StrTab prg w g3' la [(.str "N", .str xL), (.str "SYSTEM", .str "SYSTEM")] := ⟨by assumption, _, Heap.dictOf_iff.mpr ⟨_, c1, by assumption⟩, by assumption⟩
  exact hret x dx aa sa ra tkN d0 od la xL (hideAll g3' [sa, d0]) g3' _ _ ⟨frHeld F8 hm, G3.nw, G3.off⟩ f0.h (fun b o e _ => hin b o (K3.all _ _ (KK.all _ _ e)) (f1 b o e).1 (f1 b o e).2) ku (hideAll_none _ (.head _)) (hideAll_none _ (.tail _ (.head _)))
    (instMk (hin _ _ (K3.all _ _ gx2) n1 n3) (hin _ _ (K3.all _ _ gdx2) n2 n4)) (tabAt_of hal q1.1 (hin _ _ (K3.all _ _ gaa) (Nat.ne_of_lt (Nat.lt_trans hord.1 hord.2)) (Nat.ne_of_lt hord.1)))
    (tabAt_of LA c1 (hin _ _ c1 n5 n6)) ⟨_, K3.all _ _ gsa⟩ (K3.all _ _ g3) hd0 lo0 xl
end
theorem offLawW : True := by w_top off; trivial
section
variable {w : World} {dp un : Nat} {gd : Option (List Code)} {cn : Str} {cs : Scope} {a : Addr} {ccd : Value} {cl : List (Str × Addr)} {outer : List Env} {A₀ : Around} {base h₀ : Heap} {L : Addr} {m mg mb : Str → Option Value} {mean : ExcName → Option Value} {s : Shared} {Q E : Value → Shared → Prop}
theorem lawNameS_k {ha ta td aa fl pl hl : Addr} {tk : Nat → Tok} {rows : List (Addr × List Value × List (Str × Int))} {num size len : Int} {form mo lb x y : Str} {bv : Value} {to : Tok}
    (B : Below A₀ base outer h₀) (F : Fr h₀ L s.heap m) (X : (hd.heap_39 w.params).In h₀) (T : Top pv lo mean mg mb h₀) (hk : cs.kind = .function) (hdp : dp + 20 < recursionLimit) (hun : un + 400 < cLine)
    {news : List (Addr × Obj)} (N₀ : News h₀ L s.heap news)
    (hq : nameOf (rows.map (·.2.2)) [("N", x), ("SYSTEM", "SYSTEM")] num mo lb = some y) (hH : HpAt s.heap ha rows) (hA : StrTab prg w s.heap aa [(.str "N", .str x), (.str "SYSTEM", .str "SYSTEM")])
    (hT : InstAt s.heap ta (instObj 182 td) 182 (some (tyD w.params tk num form size bv len fl pl hl mo lb)))
    (hmo : mo = "M" ∨ (mo = "N" ∧ (lb = "U" ∨ lb = "U^"))) (hx : x.length ≤ 2)
    (hn1 : rows.length ≤ 20) (hn2 : ∀ r ∈ rows, r.2.2.length ≤ 10) 
    (hret : ∀ t h' tk', Kept [] s.heap h' → Fr h₀ L h' m → News h₀ L h' news → Q (.str y t) { s with heap := h', toks := tk' }) :
    wpAny (model prg w) (ktrTop dp un gd cn cs L a ccd cl outer) (call (.ref 267) [.ref ha, .ref ta, .ref aa, .str "M" to]) Q E s :=
  lawName_k B F X T hk hdp hun N₀ hH hA hT hmo hx hn1 hn2 (by rw [hq]; exact hret)
theorem lawNameN_k {ha ta td aa fl pl hl : Addr} {tk : Nat → Tok} {rows : List (Addr × List Value × List (Str × Int))} {num size len : Int} {form mo lb x : Str} {bv : Value} {to : Tok}
    (B : Below A₀ base outer h₀) (F : Fr h₀ L s.heap m) (X : (hd.heap_39 w.params).In h₀) (T : Top pv lo mean mg mb h₀) (hk : cs.kind = .function) (hdp : dp + 20 < recursionLimit) (hun : un + 400 < cLine)
    {news : List (Addr × Obj)} (N₀ : News h₀ L s.heap news)
    (hq : nameOf (rows.map (·.2.2)) [("N", x), ("SYSTEM", "SYSTEM")] num mo lb = none) (hH : HpAt s.heap ha rows) (hA : StrTab prg w s.heap aa [(.str "N", .str x), (.str "SYSTEM", .str "SYSTEM")])
    (hT : InstAt s.heap ta (instObj 182 td) 182 (some (tyD w.params tk num form size bv len fl pl hl mo lb)))
    (hmo : mo = "M" ∨ (mo = "N" ∧ (lb = "U" ∨ lb = "U^"))) (hx : x.length ≤ 2)
    (hn1 : rows.length ≤ 20) (hn2 : ∀ r ∈ rows, r.2.2.length ≤ 10) 
    (hret : ∀ h' tk', Kept [] s.heap h' → Fr h₀ L h' m → News h₀ L h' news → Q .none { s with heap := h', toks := tk' }) :
    wpAny (model prg w) (ktrTop dp un gd cn cs L a ccd cl outer) (call (.ref 267) [.ref ha, .ref ta, .ref aa, .str "M" to]) Q E s :=
  lawName_k B F X T hk hdp hun N₀ hH hA hT hmo hx hn1 hn2 (by rw [hq]; exact fun t h' tk' => hret h' tk')
end
theorem wd90 : True := by
  (k_with "M.call ref" => first | ((with_reducible show wpAny _ _ (call (.ref 267) _) _ _ _); k_dflt (refine lawNameS_k (by k_asm) (by k_asm) (by k_asm) (by k_asm) (by first | exact rfl | assumption) (by ktr_room) (by ktr_units) (by k_asm) (by assumption) (by (refine HpAt.keep (by assumption) (Fr.keep (by assumption)))) (by k_tabat) (by k_inst) (by assumption) (by assumption) (by assumption) (by assumption) ?_; k_whole); intro _ _ _ _ _ _; (try k_sweep)) | fail)
  trivial
theorem wd91 : True := by
  (k_with "M.call ref" => first | ((with_reducible show wpAny _ _ (call (.ref 267) _) _ _ _); k_dflt (refine lawNameN_k (by k_asm) (by k_asm) (by k_asm) (by k_asm) (by first | exact rfl | assumption) (by ktr_room) (by ktr_units) (by k_asm) (by assumption) (by (refine HpAt.keep (by assumption) (Fr.keep (by assumption)))) (by k_tabat) (by k_inst) (by assumption) (by assumption) (by assumption) (by assumption) ?_; k_whole); intro _ _ _ _ _; (try k_sweep)) | fail)
  trivial
theorem flatAny : ∀ {rows : List (Addr × List Value × List (Str × Int))} {scs : List (Addr × List (Str × Int))}, rows.map (·.2.2) = scs.map (·.2) → ∀ k : Str, (((rows.flatMap (·.2.2)).map (·.1)).any (· == k)) = (scs.any fun p => (p.2.lookup k).isSome)
  | [], [], _, _ => rfl
  | [], _ :: _, h, _ => nomatch h
  | _ :: _, [], h, _ => nomatch h
  | r :: q, p :: z, h, k => by
    simp only [List.map_cons, List.cons.injEq] at h
    rw [List.flatMap_cons, List.map_append, List.any_append, List.any_cons, lookAny, h.1, flatAny h.2 k]
/-- a value that is one of the kinds -/
noncomputable def KOk (w : World) (h : Heap) (v : Value) : Prop := ∃ x dx num form size bv len fl mo lb, v = .ref x ∧ TyAt w h x dx num form size bv len fl mo lb ∧ (PySem.Spec.lookup (.str form) basicD).isSome = false ∧ lb.length ≤ 50 ∧ mo.length ≤ 50 ∧ (mo = Str.ofString "M" ∨ (mo = Str.ofString "N" ∧ (lb = Str.ofString "U" ∨ lb = Str.ofString "U^")))
theorem KOk.keep {w : World} {h h' : Heap} {v : Value} (k : Kept [] h h') (K : KOk w h v) : KOk w h' v := by
  obtain ⟨x, dx, num, form, size, bv, len, fl, mo, lb, e, T, r⟩ := K
  exact ⟨x, dx, num, form, size, bv, len, fl, mo, lb, e, T.keep0 k, r⟩
section
variable {w : World} {dp un : Nat} {gd : Option (List Code)} {cn : Str} {cs : Scope} {a : Addr} {ccd : Value} {cl : List (Str × Addr)} {outer : List Env} {A₀ : Around} {base h₀ : Heap} {L : Addr} {m mg mb : Str → Option Value} {mean : ExcName → Option Value} {s : Shared} {Q E : Value → Shared → Prop}
theorem written_k {na nd aa sa ra ha la kl ll : Addr} {nk : Nat → Tok} {scs : List (Addr × List (Str × Int))} {rows : List (Addr × List Value × List (Str × Int))} {x : Str} {kvs lvs : List Value} {ls : List Str}
    (B : Below A₀ base outer h₀) (F : Fr h₀ L s.heap m) (X : (hd.heap_39 w.params).In h₀) (T : Top pv lo mean mg mb h₀) (hk : cs.kind = .function) (hdp : dp + 40 < recursionLimit) (hun : un + 800 < cLine)
    {news : List (Addr × Obj)} (N₀ : News h₀ L s.heap news) (hM : NmAt w s.heap na nd aa sa ra nk scs [(Str.ofString "N", x), (Str.ofString "SYSTEM", Str.ofString "SYSTEM")])
    (hH : HpAt s.heap ha rows) (hA : StrTab prg w s.heap la [(.str "N", .str x), (.str "SYSTEM", .str "SYSTEM")])
    (hK : s.heap.IsList kl kvs.toArray) (hKo : ∀ v ∈ kvs, KOk w s.heap v) (hL : s.heap.IsList ll lvs.toArray) (hLs : StrsAre lvs ls) (hx : x.length ≤ 2)
    (hn1 : rows.length ≤ 20) (hn2 : ∀ r ∈ rows, r.2.2.length ≤ 10) (heq : rows.map (·.2.2) = scs.map (·.2))
    (hret : ∀ h' tk', Kept [] s.heap h' → Fr h₀ L h' m → News h₀ L h' news → Q (.bool true) { s with heap := h', toks := tk' }) :
    wpAny (model prg w) (ktrTop dp un gd cn cs L a ccd cl outer) (call (.ref 272) [.ref na, .ref ha, .ref la, .ref kl, .ref ll]) Q E s := by
  have N : News h₀ L s.heap [] := News.nil
  refine wpAny_call ?_
  walk_at "F enter"
  have stopI := StopIter.mk
  rename Kept _ s.heap _ => KG
  obtain ⟨g, e⟩ := nmG KG
  subst e
  have hM' := hM.keep KG
  have hI' := hM'.inst
  have hS' := hM'.list
  have hH' := hH.keep KG.all
  have hA' := tabKept KG hA (fun q => nomatch q)
  have hK' := KG.list hK (fun q => nomatch q)
  have hL' := KG.list hL (fun q => nomatch q)
  have hKo' := fun v hv => KOk.keep KG (hKo v hv)
  k_steps
  refine Stop.out ?_
  repeat (rename StopIter => q9; clear q9)
  rename Fr _ _ _ _ => F2
  rename News _ _ _ _ => N2
  refine iter_list (prog := prg) (w := w) (vs := kvs) [] (fun i _ nx => nx = []) rfl (listUp hK' F2) (.inl ?_) F2 N2 rfl ?_ ?_
  · obtain ⟨o, ho, _⟩ := hK'; exact ⟨o, ho⟩
  · rintro i v u nx I it h tk hv rfl hne _ F3 N3
    clear F2 N2
    obtain ⟨tx, dx, num, form, size, bv, len, fl, mo, lb, rfl, hT, hf, hlb, hmo, hmo2⟩ := hKo' v (List.mem_of_getElem? hv)
    obtain ⟨tk9, pl9, hl9, hI9⟩ := hT
    cases hq : nameOf (scs.map (·.2)) [(Str.ofString "N", x), (Str.ofString "SYSTEM", Str.ofString "SYSTEM")] num mo lb with
    | none =>
      have hq2 : nameOf (rows.map (·.2.2)) [(Str.ofString "N", x), (Str.ofString "SYSTEM", Str.ofString "SYSTEM")] num mo lb = none := by rw [heq]; exact hq
      k_steps
      exact TEnd.intro (nx := []) (by assumption) (by assumption) (fun _ q => nomatch q) ⟨by walk_at "F same", rfl⟩
    | some y =>
      have hq2 : nameOf (rows.map (·.2.2)) [(Str.ofString "N", x), (Str.ofString "SYSTEM", Str.ofString "SYSTEM")] num mo lb = some y := by rw [heq]; exact hq
      k_steps
      · exact absurd (show (y != y) = true by assumption) (by simp)
      · exact TEnd.intro (nx := []) (by assumption) (by assumption) (fun _ q => nomatch q) ⟨by walk_at "F same", rfl⟩
  · rintro u nx h tk rfl F3 N3
    clear F2 N2
    have stopI := StopIter.mk
    k_steps
    refine Stop.out ?_
    repeat (rename StopIter => q9; clear q9)
    rename Fr _ _ _ _ => F4
    rename News _ _ _ _ => N4
    refine iter_list (prog := prg) (w := w) (vs := lvs) [] (fun i _ nx => nx = []) rfl (listUp hL' F4) (.inl ?_) F4 N4 rfl ?_ ?_
    · obtain ⟨o, ho, _⟩ := hL'; exact ⟨o, ho⟩
    · rintro i v u5 nx I it h5 tk5 hv rfl hne _ F5 N5
      clear F4 N4
      obtain ⟨k, t9, rfl, hk1⟩ := hLs.item i v hv
      have stopC := StopComp.mk
      k_steps
      refine taken_ct (scs := scs) (by k_asm) F5 (by k_asm) (by k_asm) (by first | exact rfl | assumption) (by ktr_room) (by ktr_units) N5 (instUp hI' F5) (listUp hS' F5) (fun p hp => tabUp (hM'.tabs p hp) F5) ?_
      intro h6 tk6 K6 F6 N6
      clear F5 N5
      k_steps
      refine Stop.out ?_
      repeat (rename StopComp => q9; clear q9)
      refine ListComp_nest (NameF g) F6 (by with_unfolding_all rfl) (by decide) (by rfl) (by decide) (by rfl) (by rfl) (by decide) ?_
      k_steps
      rename Fr _ _ _ _ => F7
      rename News _ _ _ _ => N7
      refine nestSrc_rows (rows := rows) rfl (by rfl) (by rfl) F7 N7 (listUp hH'.list F7) (fun r h => hH'.rows r h) hn1 hn2 ?_
      intro zs hzs D h2 tk2 n2 F8 N8 hD
      clear F7 N7
      have hfl : (((rows.flatMap (·.2.2)).map (·.1)).any (· == k)) = (scs.any fun p => (p.2.lookup k).isSome) := flatAny heq k
      k_steps
      · rename (_ != _) = true => hbad
        rw [hfl] at hbad
        exact absurd hbad (by simp)
      · rename News _ _ _ _ => N9
        exact TEnd.intro (nx := []) (by assumption) (fun p hp => N9 p (.tail _ hp)) (fun _ q => nomatch q) ⟨by walk_at "F same", rfl⟩
    · rintro u5 nx h5 tk5 rfl F5 N5
      clear F4 N4
      k_steps
      rename Kept _ s.heap (Shared.heap _) => hK9
      exact hret _ _ hK9 (hK9.fr0 F) (hK9.news0 N₀)
end
theorem offLawD : True := by w_top off; trivial
/-- what the law's loop does not change -/
structure Frz (w : World) (gk : Heap) (na nd aa sa ra : Addr) (nk : Nat → Tok) (la kl ll ka kb kc kd kf : Addr) (len : Int) (x : Str) : Prop where
  inst : InstAt gk na (instObj 111 nd) 111 (some (nmD w.params nk aa sa ra))
  alis : StrTab prg w gk aa ((alOf x).map fun p => (.str p.1, .str p.2))
  la : StrTab prg w gk la [(.str "N", .str x), (.str "SYSTEM", .str "SYSTEM")]
  kinds : KindsAt w gk kl ll ka kb kc kd kf len
  nsa : gk.get? sa = none
  xl : x.length ≤ 2
/-- the state between two turns of the law's loop -/
structure LoopSt (w : World) (gk g : Heap) (sa ha : Addr) (scs : List (Addr × List (Str × Int))) (rows : List (Addr × List Value × List (Str × Int))) (i : Nat) : Prop where
  up : Kept [] gk g
  nha : gk.get? ha = none
  sl : ∃ n, g.get? sa = some (listOf (scs.map fun p => Value.ref p.1).toArray n)
  hl : ∃ n, g.get? ha = some (listOf (rows.map fun r => Value.ref r.1).toArray n)
  ne : sa ≠ ha
  sct : ∀ p ∈ scs, StrTab prg w g p.1 (p.2.map fun q => (.str q.1, .int q.2)) ∧ gk.get? p.1 = none
  rws : ∀ r ∈ rows, (∃ n, g.get? r.1 = some (listOf r.2.1.toArray n)) ∧ PairsAt g r.2.1 r.2.2 ∧ gk.get? r.1 = none ∧ r.1 ≠ sa ∧ r.1 ≠ ha
  snd : (scs.map (·.1)).Nodup
  rnd : (rows.map (·.1)).Nodup
  eq : rows.map (·.2.2) = scs.map (·.2)
  len : 1 ≤ rows.length ∧ rows.length ≤ i + 1
  lets : ∀ r ∈ rows, (r.2.2.map (·.1)).Nodup ∧ ∀ k ∈ r.2.2.map (·.1), isLet k
  nums : ∀ r ∈ rows, ∀ q ∈ r.2.2, q.2 ≠ 13
theorem nodup_sub : ∀ (l S : List Str), l.Nodup → (∀ k ∈ l, k ∈ S) → l.length ≤ S.length
  | [], S, _, _ => Nat.zero_le _
  | k :: r, S, hn, h => by
    have hk := h k (.head _)
    have hc := List.nodup_cons.mp hn
    have h1 := nodup_sub r (S.erase k) hc.2 (fun x hx => (List.mem_erase_of_ne (fun e => hc.1 (by rw [← e]; exact hx))).mpr (h x (.tail _ hx)))
    rw [List.length_erase_of_mem hk] at h1
    have h2 := List.length_pos_of_mem hk
    rw [List.length_cons]; omega
theorem let_len {ps : List (Str × Int)} (h : (ps.map (·.1)).Nodup ∧ ∀ k ∈ ps.map (·.1), isLet k) : ps.length ≤ 4 := by
  have := nodup_sub (ps.map (·.1)) [Str.ofString "T", Str.ofString "U", Str.ofString "N", Str.ofString "N1"] h.1 (fun k hk => by
    rcases h.2 k hk with rfl | rfl | rfl | rfl <;> simp)
  simpa using this
theorem LoopSt.slen {w : World} {gk g : Heap} {sa ha : Addr} {scs : List (Addr × List (Str × Int))} {rows : List (Addr × List Value × List (Str × Int))} {i : Nat} (S : LoopSt w gk g sa ha scs rows i) : scs.length = rows.length := by
  have := congrArg List.length S.eq
  simpa using this.symm
theorem LoopSt.nm {w : World} {gk g h : Heap} {na nd aa sa ra : Addr} {nk : Nat → Tok} {la kl ll ka kb kc kd kf ha : Addr} {len : Int} {x : Str} {scs : List (Addr × List (Str × Int))} {rows : List (Addr × List Value × List (Str × Int))} {i : Nat}
    (S : LoopSt w gk g sa ha scs rows i) (Z : Frz w gk na nd aa sa ra nk la kl ll ka kb kc kd kf len x) (hi : i ≤ 12) (k : Kept [] g h) : NmAt w h na nd aa sa ra nk scs (alOf x) := by
  have kk := Kept.trans S.up k
  obtain ⟨n, hs⟩ := S.sl
  refine ⟨instKept kk Z.inst (fun q => nomatch q) (fun q => nomatch q), ⟨_, k.all _ _ hs, rfl, _, rfl⟩, fun p hp => tabKept k (S.sct p hp).1 (fun q => nomatch q), tabKept kk Z.alis (fun q => nomatch q), by have := S.slen; have := S.len; omega, fun p hp => ?_, alOf_n3 Z.xl⟩
  have hm : p.2 ∈ rows.map (·.2.2) := by rw [S.eq]; exact List.mem_map_of_mem hp
  obtain ⟨r, hr, e⟩ := List.mem_map.mp hm
  rw [← e]
  have := let_len (S.lets r hr); omega
theorem LoopSt.hp {w : World} {gk g h : Heap} {sa ha : Addr} {scs : List (Addr × List (Str × Int))} {rows : List (Addr × List Value × List (Str × Int))} {i : Nat} (S : LoopSt w gk g sa ha scs rows i) (k : Kept [] g h) : HpAt h ha rows := by
  obtain ⟨n, hh⟩ := S.hl
  refine ⟨⟨_, k.all _ _ hh, rfl, _, rfl⟩, fun r hr => ?_⟩
  obtain ⟨⟨n2, h2⟩, h3, _⟩ := S.rws r hr
  exact ⟨⟨_, k.all _ _ h2, rfl, _, rfl⟩, h3.keep k.all⟩
theorem KindsAt.ok {w : World} {g : Heap} {kl ll ka kb kc kd kf : Addr} {len : Int} (K : KindsAt w g kl ll ka kb kc kd kf len) : ∀ v ∈ [Value.ref ka, .ref kb, .ref kc, .ref kd, .ref kf], KOk w g v := by
  obtain ⟨_, _, ⟨d1, f1, a1, a2⟩, ⟨d2, f2, b1⟩, ⟨d3, f3, c1⟩, ⟨d4, f4, x1⟩, ⟨d5, f5, y1⟩⟩ := K
  have r : (PySem.Spec.lookup (.str "record") basicD).isSome = false := by decide
  have ar : (PySem.Spec.lookup (.str "array") basicD).isSome = false := by decide
  have po : (PySem.Spec.lookup (.str "pointer") basicD).isSome = false := by decide
  intro v hv
  simp only [List.mem_cons, List.not_mem_nil, or_false] at hv
  rcases hv with rfl | rfl | rfl | rfl | rfl
  · exact ⟨_, _, _, _, _, _, _, _, _, _, rfl, a1, r, by decide, by decide, .inl rfl⟩
  · exact ⟨_, _, _, _, _, _, _, _, _, _, rfl, b1, r, by decide, by decide, .inr ⟨rfl, .inl rfl⟩⟩
  · exact ⟨_, _, _, _, _, _, _, _, _, _, rfl, c1, ar, by decide, by decide, .inl rfl⟩
  · exact ⟨_, _, _, _, _, _, _, _, _, _, rfl, x1, r, by decide, by decide, .inr ⟨rfl, .inr rfl⟩⟩
  · exact ⟨_, _, _, _, _, _, _, _, _, _, rfl, y1, po, by decide, by decide, .inl rfl⟩
theorem KindsAt.ok13 {w : World} {g : Heap} {kl ll ka kb kc kd kf : Addr} {len : Int} (K : KindsAt w g kl ll ka kb kc kd kf len) : ∀ v ∈ [Value.ref ka, .ref kb, .ref kc, .ref kd, .ref kf], ∃ x dx num form size bv len fl mo lb, v = .ref x ∧ TyAt w g x dx num form size bv len fl mo lb ∧ num ≠ 13 := by
  obtain ⟨_, _, ⟨d1, f1, a1, a2⟩, ⟨d2, f2, b1⟩, ⟨d3, f3, c1⟩, ⟨d4, f4, x1⟩, ⟨d5, f5, y1⟩⟩ := K
  intro v hv
  simp only [List.mem_cons, List.not_mem_nil, or_false] at hv
  rcases hv with rfl | rfl | rfl | rfl | rfl
  · exact ⟨_, _, _, _, _, _, _, _, _, _, rfl, a1, by decide⟩
  · exact ⟨_, _, _, _, _, _, _, _, _, _, rfl, b1, by decide⟩
  · exact ⟨_, _, _, _, _, _, _, _, _, _, rfl, c1, by decide⟩
  · exact ⟨_, _, _, _, _, _, _, _, _, _, rfl, x1, by decide⟩
  · exact ⟨_, _, _, _, _, _, _, _, _, _, rfl, y1, by decide⟩
theorem putD_new {k : Str} {v : Int} {kv : List (Str × Int)} (h : (kv.map (·.1)).any (· == k) = false) : PyProof.V.putD (.str k) (.int v) (kv.map fun q => (PyData.str q.1, PyData.int q.2)) = (kv ++ [(k, v)]).map fun q => (PyData.str q.1, PyData.int q.2) := by
  unfold PyProof.V.putD
  rw [if_neg, List.map_append]
  · rfl
  · intro q
    rw [List.any_map] at q
    obtain ⟨p, hp, e⟩ := List.any_eq_true.mp q
    have e2 : p.1 = k := by simpa [PyProof.V.same_str] using e
    have := List.any_eq_false.mp h p.1 (List.mem_map_of_mem hp)
    simp [e2] at this
noncomputable def NoTup (g : Heap) (b : Addr) : Prop := ∀ o, g.get? b = some o → o.cls ≠ .type "tuple"
theorem noTup_list {g : Heap} {b : Addr} {its : Array Value} {n : Nat} (h : g.get? b = some (listOf its n)) : NoTup g b := fun o e q => by
  rw [h] at e; cases e
  injection q with q; exact absurd q (by decide)
theorem noTup_dict {w₀ : World} {g : Heap} {b : Addr} {D : List (PyData × PyData)} (h : StrTab prg w₀ g b D) : NoTup g b := fun o e q => by
  obtain ⟨_, kvs, hd, _⟩ := h
  obtain ⟨o', ho, es, ep, hx, _⟩ := Heap.dictOf_iff.mp hd
  rw [ho] at e; cases e
  rw [hx.1] at q
  injection q with q; exact absurd q (by decide)
theorem PairsAt.keepS {g g' : Heap} {S : List Addr} {vs : List Value} {ps : List (Str × Int)} (x : PairsAt g vs ps) (k : Kept S g g') (hS : ∀ b ∈ S, NoTup g b) : PairsAt g' vs ps := pairedImp x fun _ _ q => by
  obtain ⟨t, a, b, e, o, ho, hc, r⟩ := q
  exact ⟨t, a, b, e, o, k _ _ ho (fun h => hS _ h o ho hc), hc, r⟩
theorem tab_ne_list {w : World} {g : Heap} {a b : Addr} {D : List (PyData × PyData)} {its : Array Value} {n : Nat} (h : StrTab prg w g a D) (h2 : g.get? b = some (listOf its n)) : a ≠ b := fun e => by
  obtain ⟨_, kvs, hd, _⟩ := h
  obtain ⟨o', ho, es, ep, _, hx, _⟩ := Heap.dictOf_iff.mp hd
  rw [e, h2] at ho; cases ho; cases hx
theorem tab_some {w : World} {g : Heap} {a : Addr} {D : List (PyData × PyData)} (h : StrTab prg w g a D) : ∃ o, g.get? a = some o := by
  obtain ⟨_, kvs, hd, _⟩ := h
  obtain ⟨o', ho, _⟩ := Heap.dictOf_iff.mp hd
  exact ⟨o', ho⟩
theorem LoopSt.idle {w : World} {gk g g' : Heap} {sa ha : Addr} {scs : List (Addr × List (Str × Int))} {rows : List (Addr × List Value × List (Str × Int))} {i : Nat} (S : LoopSt w gk g sa ha scs rows i) (k : Kept [] g g') : LoopSt w gk g' sa ha scs rows (i + 1) :=
  ⟨Kept.trans S.up k, S.nha, S.sl.imp fun _ h => k.all _ _ h, S.hl.imp fun _ h => k.all _ _ h, S.ne, fun p hp => ⟨tabKept k (S.sct p hp).1 (fun q => nomatch q), (S.sct p hp).2⟩,
    fun r hr => ⟨(S.rws r hr).1.imp fun _ h => k.all _ _ h, (S.rws r hr).2.1.keep k.all, (S.rws r hr).2.2⟩, S.snd, S.rnd, S.eq, ⟨S.len.1, by have := S.len.2; omega⟩, S.lets, S.nums⟩
theorem upS {gk g g' : Heap} {S : List Addr} (u : Kept [] gk g) (k : Kept S g g') (hS : ∀ b ∈ S, gk.get? b = none) : Kept [] gk g' := fun b o e _ => k _ _ (u.all _ _ e) (fun q => by rw [hS b q] at e; cases e)
theorem LoopSt.opened {w : World} {gk g g' : Heap} {sa ha d l : Addr} {n1 n2 n3 : Nat} {od : Obj} {scs : List (Addr × List (Str × Int))} {rows : List (Addr × List Value × List (Str × Int))} {i : Nat} (S : LoopSt w gk g sa ha scs rows i) (hsa : gk.get? sa = none) (k : Kept [sa, ha] g g')
    (h1 : g'.get? sa = some (listOf ((scs.map fun p => Value.ref p.1) ++ [Value.ref d]).toArray n1)) (h2 : g'.get? ha = some (listOf ((rows.map fun r => Value.ref r.1) ++ [Value.ref l]).toArray n2)) (h3 : g'.get? l = some (listOf #[] n3))
    (h4 : g'.get? d = some od) (h5 : od.IsDictOf (strKind prg w) []) (h6 : (d == sysModules) = false) (hd : g.get? d = none) (hl : g.get? l = none) : LoopSt w gk g' sa ha (scs ++ [(d, [])]) (rows ++ [(l, [], [])]) (i + 1) := by
  obtain ⟨ns, hs⟩ := S.sl
  obtain ⟨nh, hh⟩ := S.hl
  have gn : ∀ b, g.get? b = none → gk.get? b = none := fun b hb => by
    cases q : gk.get? b with
    | none => rfl
    | some o => rw [S.up.all _ _ q] at hb; cases hb
  have nt : ∀ b ∈ [sa, ha], NoTup g b := List.forall_mem_cons.mpr ⟨noTup_list hs, List.forall_mem_cons.mpr ⟨noTup_list hh, List.forall_mem_nil _⟩⟩
  refine ⟨upS S.up k (List.forall_mem_cons.mpr ⟨hsa, List.forall_mem_cons.mpr ⟨S.nha, List.forall_mem_nil _⟩⟩), S.nha, ⟨_, by rw [List.map_append]; exact h1⟩, ⟨_, by rw [List.map_append]; exact h2⟩, S.ne, fun p hp => ?_, fun r hr => ?_, ?_, ?_, ?_, ⟨by simp, by have := S.len.2; simp; omega⟩, fun r hr => ?_, fun r hr => ?_⟩
  · rcases List.mem_append.mp hp with hp | hp
    · obtain ⟨t1, t2⟩ := S.sct p hp
      exact ⟨tabKept k t1 (notMem2 (tab_ne_list t1 hs) (tab_ne_list t1 hh)), t2⟩
    · rw [List.mem_singleton.mp hp]
      exact ⟨⟨h6, [], Heap.dictOf_iff.mpr ⟨od, h4, h5⟩, .nil⟩, gn _ hd⟩
  · rcases List.mem_append.mp hr with hr | hr
    · obtain ⟨⟨n, a1⟩, a2, a3, a4, a5⟩ := S.rws r hr
      exact ⟨⟨n, k _ _ a1 (notMem2 a4 a5)⟩, a2.keepS k nt, a3, a4, a5⟩
    · rw [List.mem_singleton.mp hr]
      exact ⟨⟨n3, h3⟩, .nil, gn _ hl, neNone hl hs, neNone hl hh⟩
  · rw [List.map_append, List.nodup_append]
    refine ⟨S.snd, by simp, fun a ha' b hb e => ?_⟩
    obtain ⟨p, hp, rfl⟩ := List.mem_map.mp ha'
    simp only [List.map_cons, List.map_nil, List.mem_singleton] at hb
    obtain ⟨o, ho⟩ := tab_some (S.sct p hp).1
    rw [e, hb, hd] at ho; cases ho
  · rw [List.map_append, List.nodup_append]
    refine ⟨S.rnd, by simp, fun a ha' b hb e => ?_⟩
    obtain ⟨p, hp, rfl⟩ := List.mem_map.mp ha'
    simp only [List.map_cons, List.map_nil, List.mem_singleton] at hb
    obtain ⟨⟨n, ho⟩, _⟩ := S.rws p hp
    rw [e, hb, hl] at ho; cases ho
  · rw [List.map_append, List.map_append, S.eq]; rfl
  · rcases List.mem_append.mp hr with hr | hr
    · exact S.lets r hr
    · rw [List.mem_singleton.mp hr]; exact ⟨List.nodup_nil, fun _ q => nomatch q⟩
  · rcases List.mem_append.mp hr with hr | hr
    · exact S.nums r hr
    · rw [List.mem_singleton.mp hr]; exact fun _ q => nomatch q
theorem LoopSt.closed {w : World} {gk g g' : Heap} {sa ha : Addr} {n1 n2 : Nat} {scs : List (Addr × List (Str × Int))} {rows : List (Addr × List Value × List (Str × Int))} {p : Addr × List (Str × Int)} {r : Addr × List Value × List (Str × Int)} {i : Nat} (S : LoopSt w gk g sa ha (scs ++ [p]) (rows ++ [r]) i) (hsa : gk.get? sa = none) (k : Kept [sa, ha] g g')
    (h1 : g'.get? sa = some (listOf (scs.map fun p => Value.ref p.1).toArray n1)) (h2 : g'.get? ha = some (listOf (rows.map fun r => Value.ref r.1).toArray n2)) (hr1 : 1 ≤ rows.length) : LoopSt w gk g' sa ha scs rows (i + 1) := by
  obtain ⟨ns, hs⟩ := S.sl
  obtain ⟨nh, hh⟩ := S.hl
  have nt : ∀ b ∈ [sa, ha], NoTup g b := List.forall_mem_cons.mpr ⟨noTup_list hs, List.forall_mem_cons.mpr ⟨noTup_list hh, List.forall_mem_nil _⟩⟩
  refine ⟨upS S.up k (List.forall_mem_cons.mpr ⟨hsa, List.forall_mem_cons.mpr ⟨S.nha, List.forall_mem_nil _⟩⟩), S.nha, ⟨_, h1⟩, ⟨_, h2⟩, S.ne, fun p hp => ?_, fun r hr => ?_, ?_, ?_, ?_, ⟨hr1, by have := S.len.2; simp at this; omega⟩, fun r hr => ?_, fun r hr => S.nums r (List.mem_append_left _ hr)⟩
  · obtain ⟨t1, t2⟩ := S.sct p (List.mem_append_left _ hp)
    exact ⟨tabKept k t1 (notMem2 (tab_ne_list t1 hs) (tab_ne_list t1 hh)), t2⟩
  · obtain ⟨⟨n, a1⟩, a2, a3, a4, a5⟩ := S.rws r (List.mem_append_left _ hr)
    exact ⟨⟨n, k _ _ a1 (notMem2 a4 a5)⟩, a2.keepS k nt, a3, a4, a5⟩
  · have := S.snd; rw [List.map_append] at this; exact (List.nodup_append.mp this).1
  · have := S.rnd; rw [List.map_append] at this; exact (List.nodup_append.mp this).1
  · have := S.eq
    rw [List.map_append, List.map_append] at this
    exact (List.append_inj' this rfl).1
  · exact S.lets r (List.mem_append_left _ hr)
theorem LoopSt.entered {w : World} {gk g g' : Heap} {sa ha t : Addr} {n1 n3 : Nat} {scs : List (Addr × List (Str × Int))} {rows : List (Addr × List Value × List (Str × Int))} {p : Addr × List (Str × Int)} {r : Addr × List Value × List (Str × Int)} {i : Nat} {key : Str} {num : Int}
    (S : LoopSt w gk g sa ha (scs ++ [p]) (rows ++ [r]) i) (k : Kept [p.1, r.1] g g')
    (h1 : g'.get? r.1 = some (listOf (r.2.1 ++ [Value.ref t]).toArray n1)) (h2 : StrTab prg w g' p.1 ((p.2 ++ [(key, num)]).map fun q => (PyData.str q.1, PyData.int q.2))) (h3 : ∃ a b, g'.IsTuple t #[.str key a, .int num b])
    (hk : isLet key) (hnum : num ≠ 13) (hnk : (r.2.2.map (·.1)).any (· == key) = false) : LoopSt w gk g' sa ha (scs ++ [(p.1, p.2 ++ [(key, num)])]) (rows ++ [(r.1, r.2.1 ++ [Value.ref t], r.2.2 ++ [(key, num)])]) (i + 1) := by
  obtain ⟨ns, hs⟩ := S.sl
  obtain ⟨nh, hh⟩ := S.hl
  obtain ⟨tp, gp⟩ := S.sct p (by simp)
  obtain ⟨⟨nr, ar⟩, pr, gr, rsa, rha⟩ := S.rws r (by simp)
  have nt : ∀ b ∈ [p.1, r.1], NoTup g b := List.forall_mem_cons.mpr ⟨noTup_dict tp, List.forall_mem_cons.mpr ⟨noTup_list ar, List.forall_mem_nil _⟩⟩
  have hsa : sa ∉ [p.1, r.1] := notMem2 (Ne.symm (tab_ne_list tp hs)) (Ne.symm rsa)
  have hha : ha ∉ [p.1, r.1] := notMem2 (Ne.symm (tab_ne_list tp hh)) (Ne.symm rha)
  have e0 := S.eq
  rw [List.map_append, List.map_append] at e0
  have e1 := List.append_inj' e0 rfl
  have e2 : r.2.2 = p.2 := by simpa using e1.2
  have sn := S.snd
  have rn := S.rnd
  rw [List.map_append, List.nodup_append] at sn rn
  refine ⟨upS S.up k (List.forall_mem_cons.mpr ⟨gp, List.forall_mem_cons.mpr ⟨gr, List.forall_mem_nil _⟩⟩), S.nha, ⟨ns, ?_⟩, ⟨nh, ?_⟩, S.ne, fun q hq => ?_, fun q hq => ?_, ?_, ?_, ?_, ⟨by simp, ?_⟩, fun q hq => ?_, fun q hq => ?_⟩
  · have := k _ _ hs hsa
    simpa [List.map_append] using this
  · have := k _ _ hh hha
    simpa [List.map_append] using this
  · rcases List.mem_append.mp hq with hq | hq
    · obtain ⟨t1, t2⟩ := S.sct q (List.mem_append_left _ hq)
      exact ⟨tabKept k t1 (notMem2 (fun e => sn.2.2 _ (List.mem_map_of_mem hq) p.1 (by simp) e) (tab_ne_list t1 ar)), t2⟩
    · rw [List.mem_singleton.mp hq]; exact ⟨h2, gp⟩
  · rcases List.mem_append.mp hq with hq | hq
    · obtain ⟨⟨n, a1⟩, a2, a3, a4, a5⟩ := S.rws q (List.mem_append_left _ hq)
      exact ⟨⟨n, k _ _ a1 (notMem2 (Ne.symm (tab_ne_list tp a1)) (fun e => rn.2.2 _ (List.mem_map_of_mem hq) r.1 (by simp) e))⟩, a2.keepS k nt, a3, a4, a5⟩
    · rw [List.mem_singleton.mp hq]
      obtain ⟨a, b, ht⟩ := h3
      exact ⟨⟨n1, h1⟩, pairedApp (pr.keepS k nt) (.cons ⟨t, a, b, rfl, ht⟩ .nil), gr, rsa, rha⟩
  · have := S.snd; simpa [List.map_append] using this
  · have := S.rnd; simpa [List.map_append] using this
  · rw [List.map_append, List.map_append, e1.1, e2]; rfl
  · have := S.len.2; simp at this ⊢; omega
  · rcases List.mem_append.mp hq with hq | hq
    · exact S.lets q (List.mem_append_left _ hq)
    · rw [List.mem_singleton.mp hq]
      obtain ⟨l1, l2⟩ := S.lets r (by simp)
      refine ⟨?_, fun x hx => ?_⟩
      · rw [List.map_append, List.nodup_append]
        refine ⟨l1, by simp, fun a ha' b hb e => ?_⟩
        simp only [List.map_cons, List.map_nil, List.mem_singleton] at hb
        have := List.any_eq_false.mp hnk a ha'
        simp [e, hb] at this
      · rw [List.map_append] at hx
        rcases List.mem_append.mp hx with hx | hx
        · exact l2 x hx
        · simp only [List.map_cons, List.map_nil, List.mem_singleton] at hx
          rw [hx]; exact hk
  · rcases List.mem_append.mp hq with hq | hq
    · exact S.nums q (List.mem_append_left _ hq)
    · rw [List.mem_singleton.mp hq]
      intro z hz
      rcases List.mem_append.mp hz with hz | hz
      · exact S.nums r (by simp) z hz
      · rw [List.mem_singleton.mp hz]; exact hnum
section
variable {w : World} {dp un : Nat} {gd : Option (List Code)} {cn : Str} {cs : Scope} {a : Addr} {ccd : Value} {cl : List (Str × Addr)} {outer : List Env} {A₀ : Around} {base h₀ : Heap} {L : Addr} {m mg mb : Str → Option Value} {mean : ExcName → Option Value} {s : Shared} {Q E : Value → Shared → Prop}
theorem written_L {na nd aa sa ra la kl ll ka kb kc kd kf ha : Addr} {nk : Nat → Tok} {len : Int} {x : Str} {g gk : Heap} {scs : List (Addr × List (Str × Int))} {rows : List (Addr × List Value × List (Str × Int))} {i : Nat} {Ex : List (Addr × Obj)}
    (B : Below A₀ base outer h₀) (X : (hd.heap_39 w.params).In h₀) (T : Top pv lo mean mg mb h₀) (hk : cs.kind = .function) (hdp : dp + 40 < recursionLimit) (hun : un + 800 < cLine)
    (G : GS h₀ L s.heap m Ex g) (Z : Frz w gk na nd aa sa ra nk la kl ll ka kb kc kd kf len x) (S : LoopSt w gk g sa ha scs rows i) (hi : i ≤ 12)
    (hret : ∀ h' tk', GS h₀ L h' m Ex g → Q (.bool true) { s with heap := h', toks := tk' }) :
    wpAny (model prg w) (ktrTop dp un gd cn cs L a ccd cl outer) (call (.ref 272) [.ref na, .ref ha, .ref la, .ref kl, .ref ll]) Q E s := by
  have kk := Kept.trans S.up G.up
  have KK := Z.kinds.keep0 kk
  obtain ⟨n1, e1⟩ := KK.lst
  obtain ⟨t0, t1, t2, t3, n2, e2⟩ := KK.lets
  refine written_k B G.fr X T hk hdp hun G.nw (S.nm Z hi G.up) (S.hp G.up) (tabKept kk Z.la (fun q => nomatch q)) (kvs := [.ref ka, .ref kb, .ref kc, .ref kd, .ref kf]) ⟨_, e1, rfl, _, rfl⟩ KK.ok
    (lvs := [.str "T" t0, .str "U" t1, .str "N" t2, .str "N1" t3]) ⟨_, e2, rfl, _, rfl⟩ (.cons _ _ (.cons _ _ (.cons _ _ (.cons _ _ .nil)))) Z.xl (by have := S.len; omega) (fun r hr => ?_) S.eq ?_
  · have := let_len (S.lets r hr); omega
  · intro h' tk' K F N
    exact hret h' tk' ⟨F, N, G.off⟩
end
theorem offLawE1 : True := by w_top off; trivial
/-- the parts of the law's loop -/
noncomputable def stmtAt (l : List Stmt) (n : Nat) : Stmt := (l.drop n).headD (.Pass ⟨0, 0, 0, 0⟩)
noncomputable def forBody : Stmt → List Stmt
  | .For _ _ b _ _ => b
  | _ => []
noncomputable def thenOf : Stmt → List Stmt
  | .If _ b _ _ => b
  | _ => []
noncomputable def elseOf : Stmt → List Stmt
  | .If _ _ b _ => b
  | _ => []
noncomputable def loopBody : List Stmt := forBody (stmtAt lawBody 15)
noncomputable def openB : List Stmt := thenOf (stmtAt loopBody 1)
noncomputable def closeB : List Stmt := thenOf (stmtAt (thenOf (stmtAt (elseOf (stmtAt loopBody 1)) 0)) 0)
noncomputable def enterB : List Stmt := elseOf (stmtAt (elseOf (stmtAt loopBody 1)) 0)
theorem lastOf {α : Type} {l : List α} (h : 1 ≤ l.length) : ∃ l0 x, l = l0 ++ [x] :=
  ⟨l.dropLast, l.getLast (fun e => by rw [e] at h; exact Nat.not_succ_le_zero _ h), (List.dropLast_concat_getLast _).symm⟩
section
variable {w : World} {dp un : Nat} {gd : Option (List Code)} {a : Addr} {ccd : Value} {outer : List Env} {A₀ : Around} {base h₀ : Heap} {L : Addr} {m mg mb : Str → Option Value} {mean : ExcName → Option Value} {s : Shared} {Q : Flow → Shared → Prop} {E : Value → Shared → Prop}
theorem turn_tail {na nd aa sa ra la kl ll ka kb kc kd kf ha : Addr} {nk : Nat → Tok} {len : Int} {x : Str} {g gk : Heap} {scs : List (Addr × List (Str × Int))} {rows : List (Addr × List Value × List (Str × Int))} {i : Nat} {oc2 : Obj} {Ex : List (Addr × Obj)}
    (B : Below A₀ base outer h₀) (X : (hd.heap_39 w.params).In h₀) (T : Top pv lo mean mg mb h₀) (hdp : dp + 100 < recursionLimit) (hun : un + 2000 < cLine)
    (G : GS h₀ L s.heap m Ex g) (hm1 : m "kinds" = some (.ref kl)) (hm2 : m "aliases" = some (.ref la)) (hm3 : m "names" = some (.ref na)) (hm4 : m "heaps" = some (.ref ha))
    (me : (L + 1 + 1, oc2) ∈ Ex) (d2 : oc2.data = .cell (some (.ref ll)))
    (Z : Frz w gk na nd aa sa ra nk la kl ll ka kb kc kd kf len x) (S : LoopSt w gk g sa ha scs rows i) (hi : i ≤ 12)
    (hret : ∀ h' tk', GS h₀ L h' m Ex g → Q .next { s with heap := h', toks := tk' }) :
    wpAny (model prg w) (lawAr dp un gd L a ccd outer) (execs (loopBody.drop 2) (lawEnv L a ccd)) Q E s := by
  unfold lawEnv lawAr
  generalize hZ : lawScope = Z'
  conv at hZ => lhs; whnf
  subst hZ
  conv in (execs _ _) => arg 1; whnf
  have F := frKnow (a := Str.ofString "names") (frKnow (a := Str.ofString "aliases") (frKnow (a := Str.ofString "kinds") (frKnow (a := Str.ofString "heaps") G.fr hm4) hm1) hm2) hm3
  have N := G.nw
  have mc : (L + 1 + 1, oc2) ∈ Ex ++ entries g := List.mem_append_left _ me
  have hoff := G.off
  generalize hR : Ex ++ entries g = R at N mc
  have sc := StopCall.mk
  k_steps
  refine Stop.out ?_
  repeat (rename StopCall => q9; clear q9)
  rename Fr _ _ _ _ => F2
  rename News _ _ _ _ => N2
  have F3 := frBack (frBack (frBack (frBack F2 hm3) hm2) hm1) hm4
  refine written_L (dp := dp) B X T rfl (by ktr_room) (by ktr_units) ⟨F3, hR ▸ N2, hoff⟩ Z S hi ?_
  intro h' tk' G2
  clear F2 F3 N2
  have F := frKnow (a := Str.ofString "names") (frKnow (a := Str.ofString "aliases") (frKnow (a := Str.ofString "kinds") (frKnow (a := Str.ofString "heaps") G2.fr hm4) hm1) hm2) hm3
  have N := G2.nw
  k_steps
  exact hret _ _ G2
end
theorem offLawE2 : True := by w_top off; trivial
theorem allOff {g : Heap} {a : Addr} {o : Obj} {E : List (Addr × Obj)} (hE : ∀ p ∈ E, g.get? p.1 = none) (h : g.get? a = some o) : ∀ p ∈ E ++ entries (hideAll g [a]), p.1 ≠ a := fun p hp => by
  rcases List.mem_append.mp hp with hp | hp
  · exact neNone (hE p hp) h
  · exact tailOff (hideAll_none _ (.head _)) p hp
theorem wd92 : True := by
  (k_with "M.F k_all" => with_reducible assumption)
  trivial
theorem keptVia {g g1 g2 : Heap} {a b : Addr} (k1 : Kept [a] g g1) (k2 : Kept [] (hideAll g1 [b]) g2) : Kept [a, b] g g2 := fun x o e n => by
  have n1 : x ∉ [a] := fun q => n (by rw [List.mem_singleton.mp q]; exact .head _)
  have n2 : x ∉ [b] := fun q => n (by rw [List.mem_singleton.mp q]; exact .tail _ (.head _))
  exact k2.all _ _ (hideAll_get _ (k1 _ _ e n1) n2)
theorem newOff {g1 : Heap} {l ha : Addr} {E : List (Addr × Obj)} (h1 : AllLt l (E ++ entries (hideAll g1 [ha]))) (h2 : ha < l) : g1.get? l = none ∧ ∀ q ∈ E, q.1 ≠ l := by
  refine ⟨?_, fun q hq => allLtNe h1 q (List.mem_append_left _ hq)⟩
  cases q : g1.get? l with
  | none => rfl
  | some o => exact absurd rfl (allLtNe h1 (l, o) (List.mem_append_right _ (mem_entries.mpr (hideAll_get _ q (fun e => by rw [List.mem_singleton.mp e] at h2; exact Nat.lt_irrefl _ h2)))))
theorem hideNone {g1 : Heap} {ha : Addr} {E : List (Addr × Obj)} (h : ∀ p ∈ E, g1.get? p.1 = none) : ∀ p ∈ E, (hideAll g1 [ha]).get? p.1 = none := fun p hp => by
  cases q : (hideAll g1 [ha]).get? p.1 with
  | none => rfl
  | some o' => have := of_hideAll _ q; rw [h p hp] at this; cases this
theorem backNone {S : List Addr} {g g1 : Heap} {l : Addr} (k : Kept S g g1) (h : g1.get? l = none) (hS : ∀ a ∈ S, ∃ o, g1.get? a = some o) : g.get? l = none := by
  cases q : g.get? l with
  | none => rfl
  | some o =>
    by_cases hm : l ∈ S
    · obtain ⟨o', ho⟩ := hS l hm; rw [h] at ho; cases ho
    · rw [k _ _ q hm] at h; cases h
section
variable {w : World} {dp un : Nat} {gd : Option (List Code)} {a : Addr} {ccd : Value} {outer : List Env} {A₀ : Around} {base h₀ : Heap} {L : Addr} {m mg mb : Str → Option Value} {mean : ExcName → Option Value} {s : Shared} {Q : Flow → Shared → Prop} {E : Value → Shared → Prop}
theorem openB_L {na nd aa sa ra la kl ll ka kb kc kd kf ha : Addr} {nk : Nat → Tok} {len : Int} {x : Str} {g gk : Heap} {scs : List (Addr × List (Str × Int))} {rows : List (Addr × List Value × List (Str × Int))} {i : Nat} {Ex : List (Addr × Obj)}
    (B : Below A₀ base outer h₀) (X : (hd.heap_39 w.params).In h₀) (T : Top pv lo mean mg mb h₀) (hdp : dp + 100 < recursionLimit) (hun : un + 2000 < cLine)
    (G : GS h₀ L s.heap m Ex g) (hm3 : m "names" = some (.ref na)) (hm4 : m "heaps" = some (.ref ha))
    (Z : Frz w gk na nd aa sa ra nk la kl ll ka kb kc kd kf len x) (S : LoopSt w gk g sa ha scs rows i) (hi : i ≤ 12)
    (hret : ∀ scs rows g' h' tk', GS h₀ L h' m Ex g' → LoopSt w gk g' sa ha scs rows (i + 1) → Q .next { s with heap := h', toks := tk' }) :
    wpAny (model prg w) (lawAr dp un gd L a ccd outer) (execs openB (lawEnv L a ccd)) Q E s := by
  unfold lawEnv lawAr
  generalize hZ : lawScope = Z'
  conv at hZ => lhs; whnf
  subst hZ
  conv in (execs _ _) => arg 1; whnf
  have F := frKnow (a := Str.ofString "heaps") (frKnow (a := Str.ofString "names") G.fr hm3) hm4
  have N := G.nw
  obtain ⟨sn, hsl⟩ := S.sl
  obtain ⟨hn, hhl⟩ := S.hl
  have kk := S.up
  have mna := List.mem_append_right Ex (mem_entries.mpr (kk.all _ _ Z.inst.at_))
  have mnd := List.mem_append_right Ex (mem_entries.mpr (kk.all _ _ Z.inst.dict))
  have msa := List.mem_append_right Ex (mem_entries.mpr hsl)
  generalize hR : Ex ++ entries g = R at N mna mnd msa
  have sc := StopCall.mk
  k_steps
  refine Stop.out ?_
  repeat (rename StopCall => q9; clear q9)
  rename Fr _ _ _ _ => F2
  rename News _ _ _ _ => N2
  have e1 : na ≠ sa := fun e => by have q := Z.nsa; rw [← e, Z.inst.at_] at q; cases q
  have e2 : nd ≠ sa := fun e => by have q := Z.nsa; rw [← e, Z.inst.dict] at q; cases q
  refine open_ct (dp := dp) B F2 X T rfl (by ktr_room) (by ktr_units) (fun p hp => by rw [List.mem_singleton.mp hp]; exact N2 _ msa) (instMk (N2 _ mna).1 (N2 _ mnd).1) ⟨e1, e2⟩ (by rw [List.length_map]; have := S.slen; have := S.len; omega) ?_
  intro d o n' h1 tk1 K1 c1 c2 c3 c4 c5
  obtain ⟨g1, G1, K1', hn1, hs1⟩ := G.step K1 (List.forall_mem_cons.mpr ⟨⟨_, hsl⟩, List.forall_mem_nil _⟩)
  have q1 := hs1 sa (.head _) _ c1
  have q2 := hn1 d _ c3 c2
  have kha := K1' _ _ hhl (fun q => S.ne (List.mem_singleton.mp q).symm)
  have G2 := G1.out kha
  have hoff := allOff G1.off kha
  have dn : g.get? d = none := by
    cases q : g.get? d with
    | none => rfl
    | some o' => have := G.up.all _ _ q; rw [c2] at this; cases this
  clear F2 N2 mna mnd msa hR
  have F3 := frKnow (a := Str.ofString "heaps") (frKnow (a := Str.ofString "names") G2.fr hm3) hm4
  have N3 := G2.nw
  rw [List.cons_append] at N3
  generalize hR : Ex ++ entries (hideAll g1 [ha]) = R at N3 hoff
  have hvl : (rows.map fun r => Value.ref r.1).length ≤ 14 := by rw [List.length_map]; have := S.len; omega
  generalize hvs : (rows.map fun r => Value.ref r.1) = vs at N3 hvl
  k_steps
  rename Fr _ _ _ _ => F5
  rename News _ _ _ _ => N5
  obtain ⟨l, e⟩ := nmA N5
  subst e
  subst hR
  rename AllLt _ _ => l1
  obtain ⟨u1, u2⟩ := newOff l1 (by walk_at "F lt")
  obtain ⟨g2, G3, K3, hg⟩ := absorb (E' := (l, _) :: (ha, _) :: Ex) (frBack (frBack F5 hm4) hm3) Ex N5 (fun p hp => List.mem_cons_of_mem _ (List.mem_cons_of_mem _ hp)) (hideNone G1.off)
  have z1 := hg (l, _) (.head _) u2
  have z2 := hg (ha, _) (.tail _ (.head _)) (fun q hq => hoff q (List.mem_append_left _ hq))
  refine hret _ _ g2 _ _ G3 (S.opened Z.nsa (keptVia K1' K3) (K3.all _ _ (hideAll_get _ q1 (fun q => S.ne (List.mem_singleton.mp q)))) (d := d) (l := l) (n2 := hn + 1) ?_ z1 (K3.all _ _ (hideAll_get _ q2 (fun q => ?_))) c5 c4 dn (backNone K1' u1 (List.forall_mem_cons.mpr ⟨⟨_, q1⟩, List.forall_mem_nil _⟩)))
  · rw [hvs]
    have e : vs.toArray.push (Value.ref l) = (vs ++ [Value.ref l]).toArray := by simp
    rw [← e]; exact z2
  · rw [List.mem_singleton.mp q, hhl] at dn; cases dn
theorem closeB_L {na nd aa sa ra la kl ll ka kb kc kd kf ha : Addr} {nk : Nat → Tok} {len : Int} {x : Str} {g gk : Heap} {scs : List (Addr × List (Str × Int))} {rows : List (Addr × List Value × List (Str × Int))} {i : Nat} {Ex : List (Addr × Obj)}
    (B : Below A₀ base outer h₀) (X : (hd.heap_39 w.params).In h₀) (T : Top pv lo mean mg mb h₀) (hdp : dp + 100 < recursionLimit) (hun : un + 2000 < cLine)
    (G : GS h₀ L s.heap m Ex g) (hm3 : m "names" = some (.ref na)) (hm4 : m "heaps" = some (.ref ha))
    (Z : Frz w gk na nd aa sa ra nk la kl ll ka kb kc kd kf len x) (S : LoopSt w gk g sa ha scs rows i) (hi : i ≤ 12) (hgt : 1 < rows.length)
    (hret : ∀ scs rows g' h' tk', GS h₀ L h' m Ex g' → LoopSt w gk g' sa ha scs rows (i + 1) → Q .next { s with heap := h', toks := tk' }) :
    wpAny (model prg w) (lawAr dp un gd L a ccd outer) (execs closeB (lawEnv L a ccd)) Q E s := by
  have hsl0 := S.slen
  obtain ⟨r0, r, rfl⟩ := lastOf (l := rows) (by omega)
  obtain ⟨s0, p, rfl⟩ := lastOf (l := scs) (by omega)
  have hl1 := S.len
  simp only [List.length_append, List.length_cons, List.length_nil] at hgt hl1 hsl0
  unfold lawEnv lawAr
  generalize hZ : lawScope = Z'
  conv at hZ => lhs; whnf
  subst hZ
  conv in (execs _ _) => arg 1; whnf
  have F := frKnow (a := Str.ofString "heaps") (frKnow (a := Str.ofString "names") G.fr hm3) hm4
  have N := G.nw
  obtain ⟨sn, hsl⟩ := S.sl
  obtain ⟨hn, hhl⟩ := S.hl
  rw [List.map_append] at hsl hhl
  replace hhl : g.get? ha = some (listOf ((r0.map fun r => Value.ref r.1) ++ [Value.ref r.1]).toArray hn) := hhl
  have kk := S.up
  have mna := List.mem_append_right Ex (mem_entries.mpr (kk.all _ _ Z.inst.at_))
  have mnd := List.mem_append_right Ex (mem_entries.mpr (kk.all _ _ Z.inst.dict))
  have msa := List.mem_append_right Ex (mem_entries.mpr hsl)
  generalize hR : Ex ++ entries g = R at N mna mnd msa
  have sc := StopCall.mk
  k_steps
  refine Stop.out ?_
  repeat (rename StopCall => q9; clear q9)
  rename Fr _ _ _ _ => F2
  rename News _ _ _ _ => N2
  have e1 : na ≠ sa := fun e => by have q := Z.nsa; rw [← e, Z.inst.at_] at q; cases q
  have e2 : nd ≠ sa := fun e => by have q := Z.nsa; rw [← e, Z.inst.dict] at q; cases q
  refine close_ct (dp := dp) B F2 X T rfl (by ktr_room) (by ktr_units) (x := Value.ref p.1) (fun p hp => by rw [List.mem_singleton.mp hp]; exact N2 _ msa) (instMk (N2 _ mna).1 (N2 _ mnd).1) ⟨e1, e2⟩ (by rw [List.length_map]; omega) ?_
  intro n' h1 tk1 K1 c1
  obtain ⟨g1, G1, K1', hn1, hs1⟩ := G.step K1 (List.forall_mem_cons.mpr ⟨⟨_, hsl⟩, List.forall_mem_nil _⟩)
  have q1 := hs1 sa (.head _) _ c1
  have kha := K1' _ _ hhl (fun q => S.ne (List.mem_singleton.mp q).symm)
  have G2 := G1.out kha
  have hoff := allOff G1.off kha
  clear F2 N2 mna mnd msa hR
  have F3 := frKnow (a := Str.ofString "heaps") (frKnow (a := Str.ofString "names") G2.fr hm3) hm4
  have N3 := G2.nw
  rw [List.cons_append] at N3
  generalize hR : Ex ++ entries (hideAll g1 [ha]) = R at N3 hoff
  have hvl : (r0.map fun r => Value.ref r.1).length ≤ 14 := by rw [List.length_map]; omega
  generalize hvs : (r0.map fun r => Value.ref r.1) = vs at N3 hvl
  k_steps
  refine kl_pop F3 N3 (p := vs) (y := Value.ref r.1) (kpa_last (Value.ref r.1) vs) (by k_upd) (by rw [sizeLine_eq]; simp; omega) fun h4 F5 N5 => ?_
  clear F3 N3
  k_steps
  subst hR
  obtain ⟨g2, G3, K3, hg⟩ := absorb (E' := (ha, _) :: Ex) (frBack (frBack F5 hm4) hm3) Ex N5 (fun p hp => List.mem_cons_of_mem _ hp) (hideNone G1.off)
  have z2 := hg (ha, _) (.head _) (fun q hq => hoff q (List.mem_append_left _ hq))
  refine hret s0 r0 g2 _ _ G3 (S.closed Z.nsa (keptVia K1' K3) (K3.all _ _ (hideAll_get _ q1 (fun q => S.ne (List.mem_singleton.mp q)))) (n2 := hn + 1) ?_ (by omega))
  rw [hvs]; exact z2
end
theorem offLawE3 : True := by w_top off; trivial
theorem neNone' {g : Heap} {a b : Addr} {o : Obj} (ha : g.get? a = none) (hb : g.get? b = some o) : b ≠ a := fun e => by rw [← e, hb] at ha; cases ha
theorem nmHead {h₀ h : Heap} {L a : Addr} {o : Obj} {R : List (Addr × Obj)} (N : News h₀ L h ((a, o) :: R)) : ∃ t, t = a ∧ News h₀ L h ((t, o) :: R) := ⟨_, rfl, N⟩
theorem ifSame {y a : Str} {v : Option Value} {r : Option Value} {m : Str → Option Value} (h : m a = v) (hr : r = m y) : (if y = a then v else r) = m y := by
  by_cases q : y = a
  · rw [if_pos q, q, h]
  · rw [if_neg q, hr]
noncomputable def enterI : List Stmt := thenOf (stmtAt enterB 1)
theorem LoopSt.keep0 {w : World} {gk g g' : Heap} {sa ha : Addr} {scs : List (Addr × List (Str × Int))} {rows : List (Addr × List Value × List (Str × Int))} {i : Nat} (S : LoopSt w gk g sa ha scs rows i) (k : Kept [] g g') : LoopSt w gk g' sa ha scs rows i :=
  ⟨Kept.trans S.up k, S.nha, S.sl.imp fun _ h => k.all _ _ h, S.hl.imp fun _ h => k.all _ _ h, S.ne, fun p hp => ⟨tabKept k (S.sct p hp).1 (fun q => nomatch q), (S.sct p hp).2⟩,
    fun r hr => ⟨(S.rws r hr).1.imp fun _ h => k.all _ _ h, (S.rws r hr).2.1.keep k.all, (S.rws r hr).2.2⟩, S.snd, S.rnd, S.eq, S.len, S.lets, S.nums⟩
theorem KindsAt.five {w : World} {g : Heap} {kl ll ka kb kc kd kf : Addr} {len : Int} (K : KindsAt w g kl ll ka kb kc kd kf len) : ∃ n, g.get? kl = some (listOf #[.ref ka, .ref kb, .ref kc, .ref kd, .ref kf] n) := K.lst
theorem item5 {prog : Program} {w : World} {A : Around} {E : Value → Shared → Prop} {s : Shared} {value slice : Expr} {l : Addr} {v0 v1 v2 v3 v4 : Value} {u : Tok} {r : Int} {Q : Value → Shared → Prop} (hl : s.heap.IsList l #[v0, v1, v2, v3, v4]) (h0 : 0 ≤ r) (h1 : r < 5) (h : ∀ v ∈ [v0, v1, v2, v3, v4], Q v s)
    (hs : subscripted slice false (.ref l) (.int r u) = operate [.ref l, .int r u] (getItem (.ref l) (.int r u)) := by with_unfolding_all rfl) (hg : ∀ r, letTemporaryGo value (.ref l) r = pure () := by intro _; with_unfolding_all rfl) :
    wpAny (model prog w) A (subscriptTail value slice (.ref l) (.int r u)) Q E s := by
  have hr : r = 0 ∨ r = 1 ∨ r = 2 ∨ r = 3 ∨ r = 4 := by omega
  rcases hr with rfl | rfl | rfl | rfl | rfl
  · exact PyProof.Rows.item_list hl h0 (by decide) rfl (h _ (by simp)) hs hg
  · exact PyProof.Rows.item_list hl h0 (by decide) rfl (h _ (by simp)) hs hg
  · exact PyProof.Rows.item_list hl h0 (by decide) rfl (h _ (by simp)) hs hg
  · exact PyProof.Rows.item_list hl h0 (by decide) rfl (h _ (by simp)) hs hg
  · exact PyProof.Rows.item_list hl h0 (by decide) rfl (h _ (by simp)) hs hg
section
open PyProof.Rows.LCg
variable {w : World} {dp un : Nat} {gd : Option (List Code)} {a : Addr} {ccd : Value} {outer : List Env} {A₀ : Around} {base h₀ : Heap} {L : Addr} {m mg mb : Str → Option Value} {mean : ExcName → Option Value} {s : Shared} {Q : Flow → Shared → Prop} {E : Value → Shared → Prop}
theorem enterN_L {na nd aa sa ra la kl ll ka kb kc kd kf ha : Addr} {nk : Nat → Tok} {len num : Int} {x key : Str} {tk1 tk2 : Tok} {g gk : Heap} {s0 : List (Addr × List (Str × Int))} {r0 : List (Addr × List Value × List (Str × Int))} {p : Addr × List (Str × Int)} {r : Addr × List Value × List (Str × Int)} {i : Nat} {Ex : List (Addr × Obj)}
    (B : Below A₀ base outer h₀) (X : (hd.heap_39 w.params).In h₀) (T : Top pv lo mean mg mb h₀) (hdp : dp + 100 < recursionLimit) (hun : un + 2000 < cLine)
    (G : GS h₀ L s.heap m Ex g) (hm0 : m "name" = some (.str key tk1)) (hm3 : m "names" = some (.ref na)) (hm4 : m "heaps" = some (.ref ha)) (hm5 : m "number" = some (.int num tk2))
    (Z : Frz w gk na nd aa sa ra nk la kl ll ka kb kc kd kf len x) (S : LoopSt w gk g sa ha (s0 ++ [p]) (r0 ++ [r]) i) (hi12 : i ≤ 12) (hk : isLet key) (hnum : num ≠ 13) (hnk : (r.2.2.map (·.1)).any (· == key) = false)
    (hret : ∀ scs rows g' h' tk', GS h₀ L h' m Ex g' → LoopSt w gk g' sa ha scs rows (i + 1) → Q .next { s with heap := h', toks := tk' }) :
    wpAny (model prg w) (lawAr dp un gd L a ccd outer) (execs (enterI.drop 2) (lawEnv L a ccd)) Q E s := by
  have hsl0 := S.slen
  have hl1 := S.len
  simp only [List.length_append, List.length_cons, List.length_nil] at hl1 hsl0
  have e0 := S.eq
  rw [List.map_append, List.map_append] at e0
  have e1 := List.append_inj' e0 rfl
  have e2 : r.2.2 = p.2 := by simpa using e1.2
  have lts := S.lets r (by simp)
  have hr4 := let_len lts
  obtain ⟨⟨rn, hrl⟩, hps, grn, rsa, rha⟩ := S.rws r (by simp)
  obtain ⟨tp, gp⟩ := S.sct p (by simp)
  obtain ⟨plo, kvs, pd, pf⟩ := tp
  obtain ⟨od, pg, pdd⟩ := Heap.dictOf_iff.mp pd
  unfold lawEnv lawAr
  generalize hZ : lawScope = Z'
  conv at hZ => lhs; whnf
  subst hZ
  conv in (execs _ _) => arg 1; whnf
  have F := frKnow (a := Str.ofString "number") (frKnow (a := Str.ofString "name") (frKnow (a := Str.ofString "heaps") (frKnow (a := Str.ofString "names") G.fr hm3) hm4) hm0) hm5
  have N := G.nw
  obtain ⟨sn, hsl⟩ := S.sl
  obtain ⟨hn, hhl⟩ := S.hl
  rw [List.map_append] at hsl hhl
  replace hhl : g.get? ha = some (listOf ((r0.map fun r => Value.ref r.1) ++ [Value.ref r.1]).toArray hn) := hhl
  replace hsl : g.get? sa = some (listOf ((s0.map fun r => Value.ref r.1) ++ [Value.ref p.1]).toArray sn) := hsl
  have mna := List.mem_append_right Ex (mem_entries.mpr (S.up.all _ _ Z.inst.at_))
  have mnd := List.mem_append_right Ex (mem_entries.mpr (S.up.all _ _ Z.inst.dict))
  have msa := List.mem_append_right Ex (mem_entries.mpr hsl)
  have mpg := List.mem_append_right Ex (mem_entries.mpr pg)
  generalize hR : Ex ++ entries g = R at N mna mnd msa mpg
  have sc := StopCall.mk
  k_steps
  refine Stop.out ?_
  repeat (rename StopCall => q9; clear q9)
  rename Fr _ _ _ _ => F2
  rename News _ _ _ _ => N2
  have n1 : na ≠ p.1 := fun e => by have q := Z.inst.at_; rw [e, gp] at q; cases q
  have n2 : nd ≠ p.1 := neNone' gp Z.inst.dict
  have nsp : sa ≠ p.1 := Ne.symm (tab_ne_list ⟨plo, kvs, pd, pf⟩ hsl)
  have nhp : ha ≠ p.1 := Ne.symm (tab_ne_list ⟨plo, kvs, pd, pf⟩ hhl)
  have nrp : r.1 ≠ p.1 := Ne.symm (tab_ne_list ⟨plo, kvs, pd, pf⟩ hrl)
  refine enter_ct (dp := dp) (d := p.1) (o := od) B F2 X T rfl (by ktr_room) (by ktr_units) (fun q hq => by rw [List.mem_singleton.mp hq]; exact N2 _ mpg) (instMk (N2 _ mna).1 (N2 _ mnd).1) ⟨_, (N2 _ msa).1, rfl, _, rfl⟩ ⟨n1, n2, nsp⟩ (by rw [List.length_map]; omega) pdd pf (by rw [List.length_map, ← e2]; omega) ?_
  intro o' h1 tk1 K1 c1 c2 c3
  rw [putD_new (by rw [← e2]; exact hnk)] at c3
  have c3' := Hid.mk c3
  clear c3
  obtain ⟨g1, G1, K1', hn1, hs1⟩ := G.step K1 (List.forall_mem_cons.mpr ⟨⟨_, pg⟩, List.forall_mem_nil _⟩)
  have q1 := hs1 p.1 (.head _) _ c1
  have krl := K1' _ _ hrl (fun q => nrp (List.mem_singleton.mp q))
  have khl := K1' _ _ hhl (fun q => nhp (List.mem_singleton.mp q))
  have G2 := G1.out krl
  have hoff := allOff G1.off krl
  clear F2 N2 mna mnd msa mpg hR
  have F3 := frKnow (a := Str.ofString "number") (frKnow (a := Str.ofString "name") (frKnow (a := Str.ofString "heaps") (frKnow (a := Str.ofString "names") G2.fr hm3) hm4) hm0) hm5
  have N3 := G2.nw
  have khl2 : (hideAll g1 [r.1]).get? ha = _ := hideAll_get _ khl (fun q => rha (List.mem_singleton.mp q).symm)
  have mha := List.mem_append_right Ex (mem_entries.mpr khl2)
  rw [List.cons_append] at N3
  generalize hR : Ex ++ entries (hideAll g1 [r.1]) = R at N3 hoff mha
  have hvl : r.2.1.length ≤ 14 := by rw [Paired.length hps]; omega
  generalize hvs : r.2.1 = vs at N3 hvl
  k_steps
  rename Fr _ _ _ _ => F4
  rename News _ _ _ _ => N4
  refine tail_any (show Heap.IsList _ ha _ from ⟨_, (N4 (ha, _) (by k_mem)).1, rfl, _, rfl⟩).typeIs slot_list_getitem.lookup (wpAny_getItem_list_neg (x := .ref r.1) ⟨_, (N4 (ha, _) (by k_mem)).1, rfl, _, rfl⟩ (by decide) (by simp; omega) (by decide) (lastAt _ _) ?_) (by with_unfolding_all rfl)
  have lt1 := Heap.lt_size (N4 (r.1, _) (.head _)).1
  k_steps
  rename Fr _ _ _ _ => F5
  rename News _ _ _ _ => N5
  obtain ⟨t, et, N6⟩ := nmHead N5
  clear N5
  rw [← et]
  have netr : NeH t r.1 := ⟨fun e => Nat.lt_irrefl _ (show h1.objs.size < h1.objs.size by rw [e] at et; have q : r.1 = h1.objs.size := et; rw [← q] at lt1 ⊢; exact lt1)⟩
  k_steps
  rename Fr _ _ _ _ => F7
  rename News _ _ _ _ => N7
  subst hR
  obtain ⟨g2, G3, K3, hg⟩ := absorb (E' := (t, _) :: (r.1, _) :: Ex) (frBack (frBack (frBack (frBack F7 hm5) hm0) hm4) hm3) Ex N7 (fun p hp => List.mem_cons_of_mem _ (List.mem_cons_of_mem _ hp)) (hideNone G1.off)
  have z1 := hg (t, _) (.head _) (fun q hq e => Nat.lt_irrefl h1.objs.size (by have hq2 := Heap.lt_size (G1.nw q (List.mem_append_left _ hq)).1; rw [e, et] at hq2; exact hq2))
  have z2 := hg (r.1, _) (.tail _ (.head _)) (fun q hq => hoff q (List.mem_append_left _ hq))
  refine hret _ _ g2 _ _ G3 (S.entered (keptVia K1' K3) (t := t) (n1 := rn + 1) (n3 := 0) (num := num) ?_ ⟨plo, _, Heap.dictOf_iff.mpr ⟨o', K3.all _ _ (hideAll_get _ q1 (fun q => nrp (List.mem_singleton.mp q).symm)), c2⟩, c3'.h⟩ ⟨_, _, _, z1, rfl, _, rfl⟩ hk hnum hnk)
  have e : vs.toArray.push (Value.ref t) = (vs ++ [Value.ref t]).toArray := by simp
  rw [hvs, ← e]; exact z2
end
theorem offLawE5 : True := by w_top off; trivial
section
open PyProof.Rows.LCg
variable {w : World} {dp un : Nat} {gd : Option (List Code)} {a : Addr} {ccd : Value} {outer : List Env} {A₀ : Around} {base h₀ : Heap} {L : Addr} {m mg mb : Str → Option Value} {mean : ExcName → Option Value} {s : Shared} {Q : Flow → Shared → Prop} {E : Value → Shared → Prop}
theorem enterI_L {na nd aa sa ra la kl ll ka kb kc kd kf ha fa I : Addr} {nk : Nat → Tok} {len : Int} {x key : Str} {tk1 : Tok} {g gk : Heap} {s0 : List (Addr × List (Str × Int))} {r0 : List (Addr × List Value × List (Str × Int))} {p : Addr × List (Str × Int)} {r : Addr × List Value × List (Str × Int)} {i fn : Nat} {oc1 oc2 it : Obj} {fvs : List Value} {fns : List Int}
    (B : Below A₀ base outer h₀) (X : (hd.heap_39 w.params).In h₀) (T : Top pv lo mean mg mb h₀) (hdp : dp + 100 < recursionLimit) (hun : un + 2000 < cLine)
    (G : GS h₀ L s.heap m [(I, it), (fa, listOf fvs.toArray fn), (L + 1 + 1, oc2), (L + 1, oc1)] g) (hm0 : m "name" = some (.str key tk1)) (hm1 : m "kinds" = some (.ref kl)) (hm3 : m "names" = some (.ref na)) (hm4 : m "heaps" = some (.ref ha))
    (d2 : oc2.data = .cell (some (.ref ll))) (d1 : oc1.data = .cell (some (.ref fa))) (hi : IntsAre fvs fns) (hfn : fns.length ≤ 200) (eI1 : NeH fa I) (eI2 : NeH (L + 1 + 1) I) (eI3 : NeH (L + 1) I)
    (Z : Frz w gk na nd aa sa ra nk la kl ll ka kb kc kd kf len x) (S : LoopSt w gk g sa ha (s0 ++ [p]) (r0 ++ [r]) i) (hi12 : i ≤ 12) (hk : isLet key) (hnk : (r.2.2.map (·.1)).any (· == key) = false)
    (hret : ∀ scs rows fvs' fns' fn' g' m' h' tk', GS h₀ L h' m' [(I, it), (fa, listOf fvs'.toArray fn'), (L + 1 + 1, oc2), (L + 1, oc1)] g' → (∀ y : Str, y ≠ Str.ofString "spot" → y ≠ Str.ofString "number" → m' y = m y) → IntsAre fvs' fns' → fns'.length ≤ 200 → LoopSt w gk g' sa ha scs rows (i + 1) → Q .next { s with heap := h', toks := tk' }) :
    wpAny (model prg w) (lawAr dp un gd L a ccd outer) (execs enterI (lawEnv L a ccd)) Q E s := by
  unfold lawEnv lawAr
  generalize hZ : lawScope = Z'
  conv at hZ => lhs; whnf
  subst hZ
  conv in (execs _ _) => arg 1; whnf
  have o0 : g.get? I = none := G.off (I, _) (.head _)
  have o1 : g.get? fa = none := G.off (fa, _) (.tail _ (.head _))
  have o2 : g.get? (L + 1 + 1) = none := G.off (L + 1 + 1, _) (.tail _ (.tail _ (.head _)))
  have o3 : g.get? (L + 1) = none := G.off (L + 1, _) (.tail _ (.tail _ (.tail _ (.head _))))
  have KK := Z.kinds.keep0 S.up
  obtain ⟨kn, hkl⟩ := KK.lst
  have F := frKnow (a := Str.ofString "kinds") G.fr hm1
  have N := G.nw
  have mkl := mem_entries.mpr hkl
  simp only [List.cons_append, List.nil_append] at N
  have e10 := neObj' N (a := fa) (b := L + 1) (by k_mem) (by k_mem) (listCell d1)
  have e11 := neObj' N (a := fa) (b := L + 1 + 1) (by k_mem) (by k_mem) (listCell d2)
  have sX := StopAt.mk (a := kl)
  have sx := StopExec.mk
  k_steps
  walk_at "F next"
  walk_at "F next"
  · refine Stop.out ?_
    (repeat (rename StopExec => q9; clear q9))
    rename Fr _ _ _ _ => F2
    rename News _ _ _ _ => N2
    refine enterN_L (dp := dp) (Ex := [(I, it), (fa, listOf _ _), (L + 1 + 1, oc2), (L + 1, oc1)]) B X T hdp hun ⟨F2, N2, List.forall_mem_cons.mpr ⟨o0, List.forall_mem_cons.mpr ⟨o1, List.forall_mem_cons.mpr ⟨o2, List.forall_mem_cons.mpr ⟨o3, List.forall_mem_nil _⟩⟩⟩⟩⟩
      (key := key) (tk1 := tk1) ((if_neg (by decide)).trans ((if_neg (by decide)).trans ((if_neg (by decide)).trans hm0))) ((if_neg (by decide)).trans ((if_neg (by decide)).trans ((if_neg (by decide)).trans hm3))) ((if_neg (by decide)).trans ((if_neg (by decide)).trans ((if_neg (by decide)).trans hm4))) (if_pos rfl) Z S hi12 hk (by decide) hnk ?_
    intro scs rows g' h' tk' G' S'
    exact hret _ _ _ _ _ _ _ _ _ G' (fun y h1 h2 => (if_neg h2).trans ((if_neg h1).trans (ifSame hm1 rfl))) (by assumption) (by omega) S'
  · refine Stop.out ?_
    clear sX
    rename Fr _ _ _ _ => F2
    rename News _ _ _ _ => N2
    refine item5 (v0 := .ref ka) (v1 := .ref kb) (v2 := .ref kc) (v3 := .ref kd) (v4 := .ref kf) (News.isList N2 (by k_mem)) (by assumption) (by omega) ?_
    intro v hv
    obtain ⟨y, dy, num, form, size, bv, le, fl, mo, lb, rfl, ⟨tk9, pl9, hl9, I9⟩, h13⟩ := KK.ok13 v hv
    have m1 := mem_entries.mpr I9.at_
    have m2 := mem_entries.mpr I9.dict
    k_steps
    refine Stop.out ?_
    (repeat (rename StopExec => q9; clear q9))
    rename Fr _ _ _ _ => F3
    rename News _ _ _ _ => N3
    refine enterN_L (dp := dp) (Ex := [(I, it), (fa, listOf _ _), (L + 1 + 1, oc2), (L + 1, oc1)]) B X T hdp hun ⟨F3, N3, List.forall_mem_cons.mpr ⟨o0, List.forall_mem_cons.mpr ⟨o1, List.forall_mem_cons.mpr ⟨o2, List.forall_mem_cons.mpr ⟨o3, List.forall_mem_nil _⟩⟩⟩⟩⟩
      (key := key) (tk1 := tk1) ((if_neg (by decide)).trans ((if_neg (by decide)).trans ((if_neg (by decide)).trans hm0))) ((if_neg (by decide)).trans ((if_neg (by decide)).trans ((if_neg (by decide)).trans hm3))) ((if_neg (by decide)).trans ((if_neg (by decide)).trans ((if_neg (by decide)).trans hm4))) (if_pos rfl) Z S hi12 hk h13 hnk ?_
    intro scs rows g' h' tk' G' S'
    exact hret _ _ _ _ _ _ _ _ _ G' (fun y h1 h2 => (if_neg h2).trans ((if_neg h1).trans (ifSame hm1 rfl))) (by assumption) (by omega) S'
end
theorem offLawE6 : True := by w_top off; trivial
section
open PyProof.Rows.LCg
variable {w : World} {dp un : Nat} {gd : Option (List Code)} {a : Addr} {ccd : Value} {outer : List Env} {A₀ : Around} {base h₀ : Heap} {L : Addr} {m mg mb : Str → Option Value} {mean : ExcName → Option Value} {s : Shared} {Q : Flow → Shared → Prop} {E : Value → Shared → Prop}
theorem enterB_L {na nd aa sa ra la kl ll ka kb kc kd kf ha fa I : Addr} {nk : Nat → Tok} {len : Int} {x : Str} {g gk : Heap} {scs : List (Addr × List (Str × Int))} {rows : List (Addr × List Value × List (Str × Int))} {i fn : Nat} {oc1 oc2 it : Obj} {fvs : List Value} {fns : List Int}
    (B : Below A₀ base outer h₀) (X : (hd.heap_39 w.params).In h₀) (T : Top pv lo mean mg mb h₀) (hdp : dp + 100 < recursionLimit) (hun : un + 2000 < cLine)
    (G : GS h₀ L s.heap m [(I, it), (fa, listOf fvs.toArray fn), (L + 1 + 1, oc2), (L + 1, oc1)] g) (hm1 : m "kinds" = some (.ref kl)) (hm3 : m "names" = some (.ref na)) (hm4 : m "heaps" = some (.ref ha))
    (d2 : oc2.data = .cell (some (.ref ll))) (d1 : oc1.data = .cell (some (.ref fa))) (hi : IntsAre fvs fns) (hfn : fns.length ≤ 200) (eI1 : NeH fa I) (eI2 : NeH (L + 1 + 1) I) (eI3 : NeH (L + 1) I)
    (Z : Frz w gk na nd aa sa ra nk la kl ll ka kb kc kd kf len x) (S : LoopSt w gk g sa ha scs rows i) (hi12 : i ≤ 12)
    (hret : ∀ scs rows fvs' fns' fn' g' m' h' tk', GS h₀ L h' m' [(I, it), (fa, listOf fvs'.toArray fn'), (L + 1 + 1, oc2), (L + 1, oc1)] g' → (∀ y : Str, y ≠ Str.ofString "name" → y ≠ Str.ofString "spot" → y ≠ Str.ofString "number" → m' y = m y) → IntsAre fvs' fns' → fns'.length ≤ 200 → LoopSt w gk g' sa ha scs rows (i + 1) → Q .next { s with heap := h', toks := tk' }) :
    wpAny (model prg w) (lawAr dp un gd L a ccd outer) (execs enterB (lawEnv L a ccd)) Q E s := by
  have hsl0 := S.slen
  have hl1 := S.len
  obtain ⟨r0, r, rfl⟩ := lastOf (l := rows) (by omega)
  obtain ⟨s0, p, rfl⟩ := lastOf (l := scs) (by omega)
  simp only [List.length_append, List.length_cons, List.length_nil] at hl1 hsl0
  unfold lawEnv lawAr
  generalize hZ : lawScope = Z'
  conv at hZ => lhs; whnf
  subst hZ
  conv in (execs _ _) => arg 1; whnf
  have o0 : g.get? I = none := G.off (I, _) (.head _)
  have o1 : g.get? fa = none := G.off (fa, _) (.tail _ (.head _))
  have o2 : g.get? (L + 1 + 1) = none := G.off (L + 1 + 1, _) (.tail _ (.tail _ (.head _)))
  have o3 : g.get? (L + 1) = none := G.off (L + 1, _) (.tail _ (.tail _ (.tail _ (.head _))))
  obtain ⟨sn, hsl⟩ := S.sl
  obtain ⟨hn, hhl⟩ := S.hl
  rw [List.map_append] at hsl hhl
  replace hhl : g.get? ha = some (listOf ((r0.map fun r => Value.ref r.1) ++ [Value.ref r.1]).toArray hn) := hhl
  replace hsl : g.get? sa = some (listOf ((s0.map fun r => Value.ref r.1) ++ [Value.ref p.1]).toArray sn) := hsl
  have KK := Z.kinds.keep0 S.up
  obtain ⟨kn, hkl⟩ := KK.lst
  obtain ⟨t0, t1, t2, t3, ln, hll⟩ := KK.lets
  have F := frKnow (a := Str.ofString "heaps") (frKnow (a := Str.ofString "names") (frKnow (a := Str.ofString "kinds") G.fr hm1) hm3) hm4
  have N := G.nw
  have mll := mem_entries.mpr hll
  simp only [List.cons_append, List.nil_append] at N
  have e10 := neObj' N (a := fa) (b := L + 1) (by k_mem) (by k_mem) (listCell d1)
  have e11 := neObj' N (a := fa) (b := L + 1 + 1) (by k_mem) (by k_mem) (listCell d2)
  have sx := StopExec.mk
  k_steps
  walk_at "F next"
  refine Stop.out ?_
  (repeat (rename StopExec => q9; clear q9))
  have sc := StopComp.mk
  k_steps
  refine Stop.out ?_
  (repeat (rename StopComp => q9; clear q9))
  rename Fr _ _ _ _ => F2
  rename News _ _ _ _ => N2
  rename isLet _ => hx1
  refine LCg.ListComp_U F2 (by with_unfolding_all rfl) (by decide) (by rfl) (by decide) (by rfl) ?_
  have sX := StopAt.mk (a := ha)
  k_steps
  refine Stop.out ?_
  clear sX
  obtain ⟨rn, hrl⟩ := (S.rws r (by simp)).1
  have hps := (S.rws r (by simp)).2.1
  have lts := S.lets r (by simp)
  have hr4 := let_len lts
  have hpl := Paired.length hps
  have hha : ∀ {h : Heap}, (∀ b o, g.get? b = some o → h.get? b = some o) → h.IsList ha ((r0.map fun r => Value.ref r.1) ++ [Value.ref r.1]).toArray := fun k => ⟨_, k _ _ hhl, rfl, _, rfl⟩
  have mrl := mem_entries.mpr hrl
  refine tail_any (hha (fun b o e => (N2 (b, o) (by simp only [List.mem_cons]; exact .inr (.inr (.inr (.inr (mem_entries.mpr e)))))).1)).typeIs slot_list_getitem.lookup (wpAny_getItem_list_neg (x := .ref r.1) (hha (fun b o e => (N2 (b, o) (by simp only [List.mem_cons]; exact .inr (.inr (.inr (.inr (mem_entries.mpr e)))))).1)) (by decide) (by simp; omega) (by decide) (lastAt _ _) ?_) (by with_unfolding_all rfl)
  refine LCg.CompSrc.ledger (by rfl) F2 N2 (by k_mem) (by rw [sizeLine_eq, List.size_toArray]; omega) (fun g' => ?_)
  refine compU_inv (fun i ys nx => nx = _ ∧ StrsAre ys ((r.2.2.take i).map (·.1))) ⟨rfl, .nil⟩ ?_ ?_
  · rintro j v I oI C oC D m₂ h tk E' ys nx hj hv ⟨rfl, hys⟩ hC hx F3 N3 off ne
    clear F2 N2
    obtain ⟨q, hq, hp⟩ := pairedAt hps j v (by simpa using hv)
    refine wpAny_mono (pair0 (p := q) (by rfl) (by rfl) (hC.ns (N3 (C, _) (by k_mem)).1) hx (hp.keep fun b o e => (N3 (b, o) (by simp only [List.mem_cons]; exact .inr (.inr (.inr (.inr (.inr (.inr (.inr (mem_entries.mpr e))))))))).1)) (fun y s₃ hy => ?_) fun _ _ x => x
    obtain ⟨⟨t9, rfl⟩, h9, tk9, rfl, up⟩ := hy
    exact ⟨h9, tk9, _, rfl, F3.keeps up, N3.grown up, off, .inr ⟨_, by k_mem, rfl, _, rfl⟩, rfl, by
      have e : r.2.2.take (j + 1) = r.2.2.take j ++ [q] := by rw [List.take_add_one, hq]; rfl
      rw [e, List.map_append]
      exact StrsAre.append' hys (.cons _ _ .nil)⟩
  · rintro ys nx ⟨rfl, hys⟩
    intro D h3 tk3 F3 N3 off
    clear F2 N2
    have hys' : StrsAre ys (r.2.2.map (·.1)) := by
      have e : r.2.2.take r.2.1.toArray.size = r.2.2 := List.take_of_length_le (by rw [List.size_toArray, hpl]; exact Nat.le_refl _)
      rw [e] at hys; exact hys
    clear hys hha
    have hkl4 : (r.2.2.map (·.1)).length ≤ 4 := by rw [List.length_map]; exact hr4
    have sx := StopExec.mk
    k_steps
    · rename Fr _ _ _ _ => F4
      rename News _ _ _ _ => N4
      obtain ⟨D, e⟩ := nmA N4
      subst e
      obtain ⟨g2, G2, K2, hg⟩ := absorb F4 [(I, it), (fa, listOf _ _), (L + 1 + 1, oc2), (L + 1, oc1)] (E' := [(D, lst ys), (I, it), (fa, listOf _ _), (L + 1 + 1, oc2), (L + 1, oc1)]) N4 (by walk_at "F sub") (List.forall_mem_cons.mpr ⟨o0, List.forall_mem_cons.mpr ⟨o1, List.forall_mem_cons.mpr ⟨o2, List.forall_mem_cons.mpr ⟨o3, List.forall_mem_nil _⟩⟩⟩⟩)
      refine hret _ _ _ _ _ g2 _ _ _ G2 (fun y h1 h2 h3 => (if_neg h1).trans (ifSame hm4 (ifSame hm3 (ifSame hm1 rfl)))) (by assumption) (by omega) (S.idle K2)
    · refine Stop.out ?_
      (repeat (rename StopExec => q9; clear q9))
      rename List.any _ _ = false => hnk
      rename Fr _ _ _ _ => F4
      rename News _ _ _ _ => N4
      obtain ⟨D, e⟩ := nmA N4
      subst e
      obtain ⟨g2, G2, K2, hg⟩ := absorb F4 [(I, it), (fa, listOf _ _), (L + 1 + 1, oc2), (L + 1, oc1)] (E' := [(D, lst ys), (I, it), (fa, listOf _ _), (L + 1 + 1, oc2), (L + 1, oc1)]) N4 (by walk_at "F sub") (List.forall_mem_cons.mpr ⟨o0, List.forall_mem_cons.mpr ⟨o1, List.forall_mem_cons.mpr ⟨o2, List.forall_mem_cons.mpr ⟨o3, List.forall_mem_nil _⟩⟩⟩⟩)
      clear F4 N4
      refine enterI_L (dp := dp) B X T hdp hun G2 (if_pos rfl) ((if_neg (by decide)).trans ((if_neg (by decide)).trans ((if_neg (by decide)).trans (if_pos rfl)))) ((if_neg (by decide)).trans ((if_neg (by decide)).trans (if_pos rfl))) ((if_neg (by decide)).trans (if_pos rfl)) d2 d1 (by assumption) (by omega) eI1 eI2 eI3 Z (S.keep0 K2) hi12 hx1 hnk ?_
      intro scs rows vs ns n g3 m3 h4 tk4 G3 hm h5 h6 S3
      have F := G3.fr
      have N := G3.nw
      dsimp only
      k_steps
      exact hret _ _ _ _ _ _ _ _ _ G3 (fun y h1 h2 h3 => (hm y h2 h3).trans ((if_neg h1).trans (ifSame hm4 (ifSame hm3 (ifSame hm1 rfl))))) h5 h6 S3
end
theorem offLawE7 : True := by w_top off; trivial
section
open PyProof.Rows.LCg
variable {w : World} {dp un : Nat} {gd : Option (List Code)} {a : Addr} {ccd : Value} {outer : List Env} {A₀ : Around} {base h₀ : Heap} {L : Addr} {m mg mb : Str → Option Value} {mean : ExcName → Option Value} {s : Shared} {Q : Flow → Shared → Prop} {E : Value → Shared → Prop}
theorem turn_L {na nd aa sa ra la kl ll ka kb kc kd kf ha fa I : Addr} {nk : Nat → Tok} {len : Int} {x : Str} {g gk : Heap} {scs : List (Addr × List (Str × Int))} {rows : List (Addr × List Value × List (Str × Int))} {i fn : Nat} {oc1 oc2 it : Obj} {fvs : List Value} {fns : List Int}
    (B : Below A₀ base outer h₀) (X : (hd.heap_39 w.params).In h₀) (T : Top pv lo mean mg mb h₀) (hdp : dp + 100 < recursionLimit) (hun : un + 2000 < cLine)
    (G : GS h₀ L s.heap m [(I, it), (fa, listOf fvs.toArray fn), (L + 1 + 1, oc2), (L + 1, oc1)] g) (hm1 : m "kinds" = some (.ref kl)) (hm2 : m "aliases" = some (.ref la)) (hm3 : m "names" = some (.ref na)) (hm4 : m "heaps" = some (.ref ha))
    (d2 : oc2.data = .cell (some (.ref ll))) (d1 : oc1.data = .cell (some (.ref fa))) (hi : IntsAre fvs fns) (hfn : fns.length ≤ 200) (eI1 : NeH fa I) (eI2 : NeH (L + 1 + 1) I) (eI3 : NeH (L + 1) I)
    (Z : Frz w gk na nd aa sa ra nk la kl ll ka kb kc kd kf len x) (S : LoopSt w gk g sa ha scs rows i) (hi12 : i + 1 ≤ 12)
    (hret : ∀ scs rows fvs' fns' fn' g' m' h' tk', GS h₀ L h' m' [(I, it), (fa, listOf fvs'.toArray fn'), (L + 1 + 1, oc2), (L + 1, oc1)] g' → (∀ y : Str, y ≠ Str.ofString "step" → y ≠ Str.ofString "name" → y ≠ Str.ofString "spot" → y ≠ Str.ofString "number" → m' y = m y) → IntsAre fvs' fns' → fns'.length ≤ 200 → LoopSt w gk g' sa ha scs rows (i + 1) → Q .next { s with heap := h', toks := tk' }) :
    wpAny (model prg w) (lawAr dp un gd L a ccd outer) (execs loopBody (lawEnv L a ccd)) Q E s := by
  unfold lawEnv lawAr
  generalize hZ : lawScope = Z'
  conv at hZ => lhs; whnf
  subst hZ
  conv in (execs _ _) => arg 1; whnf
  have o0 : g.get? I = none := G.off (I, _) (.head _)
  have o1 : g.get? fa = none := G.off (fa, _) (.tail _ (.head _))
  have o2 : g.get? (L + 1 + 1) = none := G.off (L + 1 + 1, _) (.tail _ (.tail _ (.head _)))
  have o3 : g.get? (L + 1) = none := G.off (L + 1, _) (.tail _ (.tail _ (.tail _ (.head _))))
  obtain ⟨hn, hhl⟩ := S.hl
  have F := frKnow (a := Str.ofString "heaps") G.fr hm4
  have N := G.nw
  have mhl := mem_entries.mpr hhl
  simp only [List.cons_append, List.nil_append] at N
  have e10 := neObj' N (a := fa) (b := L + 1) (by k_mem) (by k_mem) (listCell d1)
  have e11 := neObj' N (a := fa) (b := L + 1 + 1) (by k_mem) (by k_mem) (listCell d2)
  have sx := StopExec.mk
  have sX := StopAt.mk (a := ha)
  k_steps
  walk_at "F next"
  walk_at "F next"
  · refine Stop.out ?_
    (repeat (rename StopExec => q9; clear q9))
    rename Fr _ _ _ _ => F2
    rename News _ _ _ _ => N2
    refine openB_L (dp := dp) (Ex := [(I, it), (fa, listOf _ _), (L + 1 + 1, oc2), (L + 1, oc1)]) B X T hdp hun ⟨F2, N2, List.forall_mem_cons.mpr ⟨o0, List.forall_mem_cons.mpr ⟨o1, List.forall_mem_cons.mpr ⟨o2, List.forall_mem_cons.mpr ⟨o3, List.forall_mem_nil _⟩⟩⟩⟩⟩
      ((if_neg (by decide)).trans ((if_neg (by decide)).trans hm3)) ((if_neg (by decide)).trans (if_pos rfl)) Z S (by omega) ?_
    intro scs rows g' h' tk' G' S'
    refine turn_tail (dp := dp) B X T hdp hun G' ((if_neg (by decide)).trans ((if_neg (by decide)).trans hm1)) ((if_neg (by decide)).trans ((if_neg (by decide)).trans hm2)) ((if_neg (by decide)).trans ((if_neg (by decide)).trans hm3)) ((if_neg (by decide)).trans (if_pos rfl)) (by k_mem) d2 Z S' hi12 ?_
    intro h2 tk2 G2
    exact hret _ _ _ _ _ _ _ _ _ G2 (fun y h1 h2 h3 h4 => (if_neg h1).trans (ifSame hm4 rfl)) (by assumption) (by omega) S'
  · walk_at "F next"
    · walk_at "F next"
      refine Stop.out ?_
      clear sX
      rename Fr _ _ _ _ => F2
      rename News _ _ _ _ => N2
      refine len_list (News.isList N2 (by k_mem)) (by rw [List.size_toArray, List.length_map]; have := S.len; omega) ?_
      rw [List.size_toArray, List.length_map]
      k_steps
      · refine Stop.out ?_
        (repeat (rename StopExec => q9; clear q9))
        refine closeB_L (dp := dp) (Ex := [(I, it), (fa, listOf _ _), (L + 1 + 1, oc2), (L + 1, oc1)]) B X T hdp hun ⟨F2, N2, List.forall_mem_cons.mpr ⟨o0, List.forall_mem_cons.mpr ⟨o1, List.forall_mem_cons.mpr ⟨o2, List.forall_mem_cons.mpr ⟨o3, List.forall_mem_nil _⟩⟩⟩⟩⟩
          ((if_neg (by decide)).trans ((if_neg (by decide)).trans hm3)) ((if_neg (by decide)).trans (if_pos rfl)) Z S (by omega) (by omega) ?_
        intro scs rows g' h' tk' G' S'
        have F := G'.fr
        have N := G'.nw
        (have sx := StopExec.mk)
        dsimp only
        k_steps
        refine Stop.out ?_
        (repeat (rename StopExec => q9; clear q9))
        refine turn_tail (dp := dp) B X T hdp hun ⟨F, N, G'.off⟩ ((if_neg (by decide)).trans ((if_neg (by decide)).trans hm1)) ((if_neg (by decide)).trans ((if_neg (by decide)).trans hm2)) ((if_neg (by decide)).trans ((if_neg (by decide)).trans hm3)) ((if_neg (by decide)).trans (if_pos rfl)) (by k_mem) d2 Z S' hi12 ?_
        intro h2 tk2 G2
        exact hret _ _ _ _ _ _ _ _ _ G2 (fun y h1 h2 h3 h4 => (if_neg h1).trans (ifSame hm4 rfl)) (by assumption) (by omega) S'
      · refine Stop.out ?_
        (repeat (rename StopExec => q9; clear q9))
        refine turn_tail (dp := dp) (Ex := [(I, it), (fa, listOf _ _), (L + 1 + 1, oc2), (L + 1, oc1)]) B X T hdp hun ⟨F2, N2, List.forall_mem_cons.mpr ⟨o0, List.forall_mem_cons.mpr ⟨o1, List.forall_mem_cons.mpr ⟨o2, List.forall_mem_cons.mpr ⟨o3, List.forall_mem_nil _⟩⟩⟩⟩⟩ ((if_neg (by decide)).trans ((if_neg (by decide)).trans hm1)) ((if_neg (by decide)).trans ((if_neg (by decide)).trans hm2)) ((if_neg (by decide)).trans ((if_neg (by decide)).trans hm3)) ((if_neg (by decide)).trans (if_pos rfl)) (by k_mem) d2 Z (S.idle Kept.refl) hi12 ?_
        intro h2 tk2 G2
        exact hret _ _ _ _ _ _ _ _ _ G2 (fun y h1 h2 h3 h4 => (if_neg h1).trans (ifSame hm4 rfl)) (by assumption) (by omega) (S.idle Kept.refl)
    · refine Stop.out ?_
      (repeat (rename StopExec => q9; clear q9))
      rename Fr _ _ _ _ => F2
      rename News _ _ _ _ => N2
      refine enterB_L (dp := dp) B X T hdp hun ⟨F2, N2, List.forall_mem_cons.mpr ⟨o0, List.forall_mem_cons.mpr ⟨o1, List.forall_mem_cons.mpr ⟨o2, List.forall_mem_cons.mpr ⟨o3, List.forall_mem_nil _⟩⟩⟩⟩⟩
        ((if_neg (by decide)).trans ((if_neg (by decide)).trans hm1)) ((if_neg (by decide)).trans ((if_neg (by decide)).trans hm3)) ((if_neg (by decide)).trans (if_pos rfl)) d2 d1 (by assumption) (by omega) eI1 eI2 eI3 Z S (by omega) ?_
      intro scs rows vs ns n g3 m3 h4 tk4 G3 hm h5 h6 S3
      have k1 := (hm (Str.ofString "kinds") (by decide) (by decide) (by decide)).trans ((if_neg (by decide)).trans ((if_neg (by decide)).trans hm1))
      have k2 := (hm (Str.ofString "aliases") (by decide) (by decide) (by decide)).trans ((if_neg (by decide)).trans ((if_neg (by decide)).trans hm2))
      have k3 := (hm (Str.ofString "names") (by decide) (by decide) (by decide)).trans ((if_neg (by decide)).trans ((if_neg (by decide)).trans hm3))
      have k4 := (hm (Str.ofString "heaps") (by decide) (by decide) (by decide)).trans ((if_neg (by decide)).trans (if_pos rfl))
      have F := G3.fr
      have N := G3.nw
      (have sx := StopExec.mk)
      dsimp only
      k_steps
      refine Stop.out ?_
      (repeat (rename StopExec => q9; clear q9))
      refine turn_tail (dp := dp) B X T hdp hun ⟨F, N, G3.off⟩ k1 k2 k3 k4 (by k_mem) d2 Z S3 hi12 ?_
      intro h2 tk2 G2
      exact hret _ _ _ _ _ _ _ _ _ G2 (fun y h1 h2 h3 h4 => (hm y h2 h3 h4).trans ((if_neg h1).trans (ifSame hm4 rfl))) h5 h6 S3
end
theorem offLawC7 : True := by w_top off; trivial
section
variable {w : World} {dp un : Nat} {gd : Option (List Code)} {a : Addr} {ccd : Value} {outer : List Env} {A₀ : Around} {base h₀ : Heap} {L : Addr} {m mg mb : Str → Option Value} {mean : ExcName → Option Value} {s : Shared} {Q : Flow → Shared → Prop} {E : Value → Shared → Prop}
theorem law6 {fa na nd aa sa ra la kl ll ka kb kc kd kf d0 : Addr} {nk : Nat → Tok} {len : Int} {x : Str} {fvs : List Value} {fns : List Int} {fn : Nat} {oc1 oc2 od : Obj} {g gk : Heap} {v0 : Value}
    (B : Below A₀ base outer h₀) (X : (hd.heap_39 w.params).In h₀) (T : Top pv lo mean mg mb h₀) (hdp : dp + 100 < recursionLimit) (hun : un + 2000 < cLine)
    (G : GS h₀ L s.heap m [(fa, listOf fvs.toArray fn), (L + 1 + 1, oc2), (L + 1, oc1)] g)
    (hm0 : m "types" = some v0) (hm1 : m "kinds" = some (.ref kl)) (hm2 : m "aliases" = some (.ref la)) (hm3 : m "names" = some (.ref na))
    (d2 : oc2.data = .cell (some (.ref ll))) (d1 : oc1.data = .cell (some (.ref fa))) (hi : IntsAre fvs fns) (hfn : fns.length ≤ 200)
    (Z : Frz w gk na nd aa sa ra nk la kl ll ka kb kc kd kf len x) (ku : Kept [] gk g) (hd0 : gk.get? d0 = none) (hsa : ∃ n, g.get? sa = some (listOf #[.ref d0] n)) (hd : g.get? d0 = some od) (hdd : od.IsDictOf (strKind prg w) []) (lo0 : (d0 == sysModules) = false)
    (hE : PassesOwn (model prg w) (lawAr dp un gd L a ccd outer) (lawEnv L a ccd) E)
    (hret : ∀ i ha scs rows fvs' fns' fn' m' g' h' tk', GS h₀ L h' m' [(fa, listOf fvs'.toArray fn'), (L + 1 + 1, oc2), (L + 1, oc1)] g' → m' "types" = some v0 → m' "kinds" = some (.ref kl) → m' "aliases" = some (.ref la) → m' "names" = some (.ref na) → m' "heaps" = some (.ref ha) →
      i ≤ 11 → IntsAre fvs' fns' → fns'.length ≤ 200 → LoopSt w gk g' sa ha scs rows i →
      wpAny (model prg w) (lawAr dp un gd L a ccd outer) (execs (lawBody.drop 16) (lawEnv L a ccd)) Q E { s with heap := h', toks := tk' }) :
    wpAny (model prg w) (lawAr dp un gd L a ccd outer) (execs (lawBody.drop 14) (lawEnv L a ccd)) Q E s := by
  unfold lawEnv lawAr at hE ⊢
  generalize hZ : lawScope = Z' at hE ⊢
  conv at hZ => lhs; whnf
  subst hZ
  conv in (execs _ _) => arg 1; whnf
  have o1 : g.get? fa = none := G.off (fa, _) (.head _)
  have o2 : g.get? (L + 1 + 1) = none := G.off (L + 1 + 1, _) (.tail _ (.head _))
  have o3 : g.get? (L + 1) = none := G.off (L + 1, _) (.tail _ (.tail _ (.head _)))
  have F := frKnow (a := Str.ofString "names") (frKnow (a := Str.ofString "aliases") (frKnow (a := Str.ofString "kinds") (frKnow G.fr hm0) hm1) hm2) hm3
  have N := G.nw
  simp only [List.cons_append, List.nil_append] at N
  have e10 := neObj' N (a := fa) (b := L + 1) (by k_mem) (by k_mem) (listCell d1)
  have e11 := neObj' N (a := fa) (b := L + 1 + 1) (by k_mem) (by k_mem) (listCell d2)
  have sx := StopExec.mk
  k_steps
  walk_at "F next"
  refine Stop.out ?_
  (repeat (rename StopExec => q9; clear q9))
  rename Fr _ _ _ _ => F2
  rename News _ _ _ _ => N2
  obtain ⟨ha, e⟩ := nmA N2
  subst e
  obtain ⟨l0, e⟩ := nmB N2
  subst e
  obtain ⟨g1, G1, K1, hg1⟩ := absorb (E' := [(ha, _), (l0, _), (fa, _), (L + 1 + 1, _), (L + 1, _)]) F2 [(fa, listOf fvs.toArray fn), (L + 1 + 1, oc2), (L + 1, oc1)] N2 (by walk_at "F sub") (List.forall_mem_cons.mpr ⟨o1, List.forall_mem_cons.mpr ⟨o2, List.forall_mem_cons.mpr ⟨o3, List.forall_mem_nil _⟩⟩⟩)
  have c1 := hg1 (ha, _) (by k_mem) (by k_all)
  have c2 := hg1 (l0, _) (by k_mem) (by k_all)
  have gha : g.get? ha = none := offLt (by assumption)
  have gl0 : g.get? l0 = none := offLt (by assumption)
  have gn : ∀ b, g.get? b = none → gk.get? b = none := fun b hb => by
    cases q : gk.get? b with
    | none => rfl
    | some o => rw [ku.all _ _ q] at hb; cases hb
  obtain ⟨ns, hsa⟩ := hsa
  have S0 : LoopSt w gk g1 sa ha [(d0, [])] [(l0, [], [])] 0 := ⟨Kept.trans ku K1, gn _ gha, ⟨ns, K1.all _ _ hsa⟩, ⟨_, c1⟩, Ne.symm (neNone gha hsa), (fun p hp => by rw [List.mem_singleton.mp hp]; exact ⟨⟨lo0, [], Heap.dictOf_iff.mpr ⟨od, K1.all _ _ hd, hdd⟩, .nil⟩, hd0⟩),
    (fun r hr => by rw [List.mem_singleton.mp hr]; exact ⟨⟨_, c2⟩, .nil, gn _ gl0, neNone gl0 hsa, by k_ne⟩), by simp, by simp, rfl, by simp, fun r hr => by rw [List.mem_singleton.mp hr]; exact ⟨List.nodup_nil, fun _ q => nomatch q⟩, fun r hr => by rw [List.mem_singleton.mp hr]; exact fun _ q => nomatch q⟩
  have N3 := G1.nw
  have p1 : g1.get? fa = none := G1.off (fa, _) (.head _)
  simp only [List.cons_append, List.nil_append] at N3
  clear N2
  have sx := StopIter.mk
  k_steps
  refine Stop.out ?_
  (repeat (rename StopIter => q9; clear q9))
  rename Fr _ _ _ _ => F4
  rename News _ _ _ _ => N4
  rename IsRange _ _ _ _ _ _ _ _ => hR
  rename _ < (12 : Int) => r1
  rename IntsAre _ _ => hi2
  obtain ⟨rb, e⟩ := nmI r1
  subst e
  refine iter_range (prog := prg) (w := w) (n := rb.toNat) [Str.ofString "step", Str.ofString "name", Str.ofString "spot", Str.ofString "number"]
    (fun i _ nx => ∃ fvs fns fn g scs rows, nx = (fa, listOf fvs.toArray fn) :: (L + 1 + 1, oc2) :: (L + 1, oc1) :: entries g ∧ (g.get? fa = none ∧ g.get? (L + 1 + 1) = none ∧ g.get? (L + 1) = none) ∧ IntsAre fvs fns ∧ fns.length ≤ 200 ∧ LoopSt w gk g sa ha scs rows i)
    1 rfl hR (rsm (by omega) (.inl rfl)) (rsz (by omega)) F4 N4 ⟨_, _, _, g1, _, _, rfl, ⟨p1, G1.off (L + 1 + 1, _) (.tail _ (.head _)), G1.off (L + 1, _) (.tail _ (.tail _ (.head _)))⟩, hi2, by assumption, S0⟩ ?_ ?_
  · clear F4 N4 hi2 S0 p1 G1 hg1 K1 gn gha gl0 c1 c2 o1 o2 o3
    rintro i t u nx I it h tk hi3 ⟨vs, ns, n, g, scs, rows, rfl, ⟨o1, o2, o3⟩, hvs, hns, S⟩ hne hlt F5 N5
    have oI : g.get? I = none := by
      cases q : g.get? I with
      | none => rfl
      | some o => exact absurd rfl (hne (I, o) (.tail _ (.tail _ (.tail _ (mem_entries.mpr q)))))
    have eI1 : NeH fa I := ⟨hne (fa, _) (.head _)⟩
    have eI2 : NeH (L + 1 + 1) I := ⟨hne (L + 1 + 1, _) (.tail _ (.head _))⟩
    have eI3 : NeH (L + 1) I := ⟨hne (L + 1, _) (.tail _ (.tail _ (.head _)))⟩
    clear hne hlt
    have offs : ∀ p ∈ [(I, it), (fa, listOf vs.toArray n), (L + 1 + 1, oc2), (L + 1, oc1)], g.get? p.1 = none := List.forall_mem_cons.mpr ⟨oI, List.forall_mem_cons.mpr ⟨o1, List.forall_mem_cons.mpr ⟨o2, List.forall_mem_cons.mpr ⟨o3, List.forall_mem_nil _⟩⟩⟩⟩
    refine turn_L (dp := dp) B X T hdp hun ⟨F5, N5, offs⟩ (by rfl) (by rfl) (by rfl) (by rfl) d2 d1 hvs hns eI1 eI2 eI3 Z S (by omega) ?_
    intro scs' rows' vs' ns' n' g' m' h' tk' G' hm hi' hl' S'
    have c1 := G'.off (I, _) (.head _)
    have c2 := G'.off (fa, _) (.tail _ (.head _))
    have c3 := G'.off (L + 1 + 1, _) (.tail _ (.tail _ (.head _)))
    have c4 := G'.off (L + 1, _) (.tail _ (.tail _ (.tail _ (.head _))))
    refine TEnd.intro (nx := (fa, listOf vs'.toArray n') :: (L + 1 + 1, oc2) :: (L + 1, oc1) :: entries g') G'.fr G'.nw (List.forall_mem_cons.mpr ⟨eI1.ne, List.forall_mem_cons.mpr ⟨eI2.ne, List.forall_mem_cons.mpr ⟨eI3.ne, tailOff c1⟩⟩⟩) ⟨fun y h1 h2 => ?_, vs', ns', n', g', scs', rows', rfl, ⟨c2, c3, c4⟩, hi', hl', S'⟩
    refine (hm y ?_ ?_ ?_ ?_).trans ((if_neg h1).trans (if_neg (by rw [h2]; decide)))
    all_goals (intro e; subst e; exact absurd h2 (by decide))
  · clear F4 N4 hi2 S0 p1 G1 hg1 K1 gn gha gl0 c1 c2 o1 o2 o3
    rintro u nx h tk ⟨vs, ns, n, g, scs, rows, rfl, ⟨o1, o2, o3⟩, hvs, hns, S⟩ F5 N5
    dsimp only
    refine hret _ ha scs rows vs ns n _ g _ _ ⟨F5, N5, List.forall_mem_cons.mpr ⟨o1, List.forall_mem_cons.mpr ⟨o2, List.forall_mem_cons.mpr ⟨o3, List.forall_mem_nil _⟩⟩⟩⟩ (by rfl) (by rfl) (by rfl) (by rfl) (by rfl) (by omega) hvs hns S
end
theorem offLawE4 : True := by w_top off; trivial
section
variable {w : World} {dp un : Nat} {gd : Option (List Code)} {cn : Str} {cs : Scope} {a : Addr} {ccd : Value} {cl : List (Str × Addr)} {outer : List Env} {A₀ : Around} {base h₀ : Heap} {L : Addr} {m mg mb : Str → Option Value} {mean : ExcName → Option Value} {s : Shared} {Q E : Value → Shared → Prop}
theorem lawName_L {na nd aa sa ra la kl ll ka kb kc kd kf ha ta td fl : Addr} {nk : Nat → Tok} {len num size len' : Int} {x form mo lb : Str} {bv : Value} {to : Tok} {g gk : Heap} {scs : List (Addr × List (Str × Int))} {rows : List (Addr × List Value × List (Str × Int))} {i : Nat} {Ex : List (Addr × Obj)}
    (B : Below A₀ base outer h₀) (X : (hd.heap_39 w.params).In h₀) (T : Top pv lo mean mg mb h₀) (hk : cs.kind = .function) (hdp : dp + 40 < recursionLimit) (hun : un + 800 < cLine)
    (G : GS h₀ L s.heap m Ex g) (Z : Frz w gk na nd aa sa ra nk la kl ll ka kb kc kd kf len x) (S : LoopSt w gk g sa ha scs rows i) (hi : i ≤ 12)
    (hT : TyAt w g ta td num form size bv len' fl mo lb) (hmo : mo = "M" ∨ (mo = "N" ∧ (lb = "U" ∨ lb = "U^")))
    (hret : ∀ t h' tk', GS h₀ L h' m Ex g → Q (optVal t (nameOf (scs.map (·.2)) (alOf x) num mo lb)) { s with heap := h', toks := tk' }) :
    wpAny (model prg w) (ktrTop dp un gd cn cs L a ccd cl outer) (call (.ref 267) [.ref ha, .ref ta, .ref la, .str "M" to]) Q E s := by
  have kk := Kept.trans S.up G.up
  obtain ⟨tk, pl, hl, I⟩ := hT
  refine lawName_k B G.fr X T hk (by ktr_room) (by ktr_units) G.nw (S.hp G.up) (tabKept kk Z.la (fun q => nomatch q)) (instKept G.up I (fun q => nomatch q) (fun q => nomatch q)) hmo Z.xl (by have := S.len; omega) (fun r hr => ?_) ?_
  · have := let_len (S.lets r hr); omega
  · intro t h' tk' K F N
    rw [S.eq]
    exact hret t h' tk' ⟨F, N, G.off⟩
theorem nameIn_mem {num : Int} : ∀ {l : List (List (Str × Int))} {hid : Str → Bool} {k : Str}, nameIn num hid l = some k → ∃ r ∈ l, ∃ q ∈ r, q.1 = k ∧ q.2 = num
  | [], _, _, h => nomatch h
  | sc :: r, hid, k, h => by
    unfold nameIn at h
    cases q : sc.find? (fun q => decide (q.2 = num) && !hid q.1) with
    | some p =>
      rw [q] at h
      injection h with h
      have hp := List.find?_some q
      simp only [Bool.and_eq_true, decide_eq_true_eq] at hp
      exact ⟨sc, .head _, p, List.mem_of_find?_eq_some q, h, hp.1⟩
    | none =>
      rw [q] at h
      obtain ⟨r', hr, x⟩ := nameIn_mem h
      exact ⟨r', .tail _ hr, x⟩
theorem nameOf_len {scs : List (List (Str × Int))} {x mo lb y : Str} {num : Int} (hs : ∀ r ∈ scs, ∀ k ∈ r.map (·.1), isLet k) (hx : x.length ≤ 2) (hmo : mo.length ≤ 50) (hlb : lb.length ≤ 50) (h : nameOf scs (alOf x) num mo lb = some y) : y.length ≤ 200 := by
  unfold nameOf at h
  cases q : nameIn num (fun _ => false) scs.reverse with
  | some k =>
    rw [q] at h
    injection h with h
    obtain ⟨r, hr, p, hp, e, _⟩ := nameIn_mem q
    have := hs r (List.mem_reverse.mp hr) _ (List.mem_map_of_mem hp)
    rw [← h, ← e]
    rcases this with e | e | e | e <;> rw [e] <;> decide
  | none =>
    rw [q] at h
    dsimp only at h
    split at h
    · cases h
    · split at h
      · injection h with h
        have := alOf_n3 hx mo
        rw [← h, Str.length_append, Str.length_append]
        have e : (Str.ofString ".").length = 1 := by decide
        show _ + (Str.ofString ".").length + _ ≤ _
        omega
      · cases h
theorem nameOf_b {scs : List (List (Str × Int))} {al : List (Str × Str)} {num : Int} : ∃ y, nameOf scs al num "N" "U" = some y := by
  unfold nameOf
  cases nameIn num (fun _ => false) scs.reverse with
  | some k => exact ⟨_, rfl⟩
  | none =>
    exact ⟨_, (if_neg (by decide)).trans (if_pos (by decide +kernel))⟩
theorem LoopSt.letS {w : World} {gk g : Heap} {sa ha : Addr} {scs : List (Addr × List (Str × Int))} {rows : List (Addr × List Value × List (Str × Int))} {i : Nat} (S : LoopSt w gk g sa ha scs rows i) : ∀ r ∈ scs.map (·.2), ∀ k ∈ r.map (·.1), isLet k := fun r hr => by
  rw [← S.eq] at hr
  obtain ⟨q, hq, rfl⟩ := List.mem_map.mp hr
  exact (S.lets q hq).2
end
section
variable {w : World} {dp un : Nat} {gd : Option (List Code)} {a : Addr} {ccd : Value} {outer : List Env} {A₀ : Around} {base h₀ : Heap} {L : Addr} {m mg mb : Str → Option Value} {mean : ExcName → Option Value} {s : Shared} {Q : Flow → Shared → Prop} {E : Value → Shared → Prop}
theorem law7a {na nd aa sa ra la kl ll ka kb kc kd kf ha : Addr} {nk : Nat → Tok} {len : Int} {x : Str} {g gk : Heap} {scs : List (Addr × List (Str × Int))} {rows : List (Addr × List Value × List (Str × Int))} {i : Nat} {Ex : List (Addr × Obj)}
    (B : Below A₀ base outer h₀) (X : (hd.heap_39 w.params).In h₀) (T : Top pv lo mean mg mb h₀) (hdp : dp + 100 < recursionLimit) (hun : un + 2000 < cLine)
    (G : GS h₀ L s.heap m Ex g) (hm1 : m "kinds" = some (.ref kl)) (hm2 : m "aliases" = some (.ref la)) (hm3 : m "names" = some (.ref na)) (hm4 : m "heaps" = some (.ref ha))
    (Z : Frz w gk na nd aa sa ra nk la kl ll ka kb kc kd kf len x) (S : LoopSt w gk g sa ha scs rows i) (hi : i ≤ 12)
    (hret : ∀ t m' h' tk', GS h₀ L h' m' Ex g → (∀ y : Str, y ≠ Str.ofString "told" → y ≠ Str.ofString "due" → m' y = m y) → m' (Str.ofString "told") = some (.str (told0 (nameOf (scs.map (·.2)) (alOf x) 8 "M" "T")) t) →
      wpAny (model prg w) (lawAr dp un gd L a ccd outer) (execs (lawBody.drop 19) (lawEnv L a ccd)) Q E { s with heap := h', toks := tk' }) :
    wpAny (model prg w) (lawAr dp un gd L a ccd outer) (execs (lawBody.drop 16) (lawEnv L a ccd)) Q E s := by
  unfold lawEnv lawAr
  generalize hZ : lawScope = Z'
  conv at hZ => lhs; whnf
  subst hZ
  conv in (execs _ _) => arg 1; whnf
  have KK := Z.kinds.keep0 S.up
  obtain ⟨kn, hkl⟩ := KK.lst
  obtain ⟨dxa, fla, tya, efl⟩ := KK.a
  have F := frKnow (a := Str.ofString "names") (frKnow (a := Str.ofString "aliases") (frKnow (a := Str.ofString "kinds") (frKnow (a := Str.ofString "heaps") G.fr hm4) hm1) hm2) hm3
  have N := G.nw
  have mkl := List.mem_append_right Ex (mem_entries.mpr hkl)
  have hoff := G.off
  generalize hR : Ex ++ entries g = R at N mkl
  have sc := StopCall.mk
  k_steps
  refine Stop.out ?_
  repeat (rename StopCall => q9; clear q9)
  rename Fr _ _ _ _ => F2
  rename News _ _ _ _ => N2
  have G2 : GS h₀ L _ _ Ex g := ⟨F2, hR ▸ N2, hoff⟩
  obtain ⟨tka, pla, hla, Ia⟩ := tya
  refine ttRec0_k (dp := dp) B F2 X T rfl (by ktr_room) (by ktr_units) N2 (S.nm Z hi G2.up) ⟨_, G2.up.all _ _ efl, rfl, _, rfl⟩ (instKept G2.up Ia (fun q => nomatch q) (fun q => nomatch q)) (by decide) (by decide) ?_
  intro t h' tk' K3 F3 N3
  clear F2 N2
  have sc := StopCall.mk
  k_steps
  refine Stop.out ?_
  repeat (rename StopCall => q9; clear q9)
  rename Fr _ _ _ _ => F2
  rename News _ _ _ _ => N2
  refine lawName_L (dp := dp) (Ex := Ex) B X T rfl (by ktr_room) (by ktr_units) ⟨F2, hR ▸ N2, hoff⟩ Z S hi ⟨tka, pla, hla, Ia⟩ (.inl rfl) ?_
  intro t4 h4 tk4 G4
  clear F2 N2
  have F4 := G4.fr
  have N4 := G4.nw
  rw [hR] at N4
  cases hq : nameOf (scs.map (·.2)) (alOf x) 8 "M" "T" with
  | none =>
    rw [hq] at F4 hret
    dsimp only [optVal, told0] at F4 hret ⊢
    have sx := StopExec.mk
    k_steps
    walk_at "F next"
    refine Stop.out ?_
    (repeat (rename StopExec => q9; clear q9))
    rename Fr _ _ _ _ => F5
    rename News _ _ _ _ => N5
    exact hret t _ _ _ ⟨F5, hR ▸ N5, hoff⟩ (fun y h1 h2 => (if_neg h2).trans ((if_neg h1).trans (ifSame hm3 (ifSame hm2 (ifSame hm1 (ifSame hm4 rfl)))))) ((if_neg (by decide)).trans (if_pos rfl))
  | some y =>
    rw [hq] at F4 hret
    dsimp only [optVal, told0] at F4 hret ⊢
    have sx := StopExec.mk
    k_steps
    walk_at "F next"
    · rename (_ != _) = true => hbad
      exact absurd hbad (by simp)
    refine Stop.out ?_
    (repeat (rename StopExec => q9; clear q9))
    rename Fr _ _ _ _ => F5
    rename News _ _ _ _ => N5
    exact hret t _ _ _ ⟨F5, hR ▸ N5, hoff⟩ (fun y h1 h2 => (if_neg h2).trans ((if_neg h1).trans (ifSame hm3 (ifSame hm2 (ifSame hm1 (ifSame hm4 rfl)))))) ((if_neg (by decide)).trans (if_pos rfl))
end
theorem offLawE8 : True := by w_top off; trivial
theorem told_len {scs : List (List (Str × Int))} {x mo lb : Str} {num : Int} (hs : ∀ r ∈ scs, ∀ k ∈ r.map (·.1), isLet k) (hx : x.length ≤ 2) (hmo : mo.length ≤ 50) (hlb : lb.length ≤ 50) : (told0 (nameOf scs (alOf x) num mo lb)).length ≤ 200 := by
  cases q : nameOf scs (alOf x) num mo lb with
  | none => show (Str.ofString "RECORD END").length ≤ 200; decide
  | some y => exact nameOf_len hs hx hmo hlb q
section
variable {w : World} {dp un : Nat} {gd : Option (List Code)} {a : Addr} {ccd : Value} {outer : List Env} {A₀ : Around} {base h₀ : Heap} {L : Addr} {m mg mb : Str → Option Value} {mean : ExcName → Option Value} {s : Shared} {Q : Flow → Shared → Prop} {E : Value → Shared → Prop}
theorem law7b {na nd aa sa ra la kl ll ka kb kc kd kf ha : Addr} {nk : Nat → Tok} {len : Int} {x tx : Str} {tt : Tok} {g gk : Heap} {scs : List (Addr × List (Str × Int))} {rows : List (Addr × List Value × List (Str × Int))} {i : Nat} {Ex : List (Addr × Obj)}
    (B : Below A₀ base outer h₀) (X : (hd.heap_39 w.params).In h₀) (T : Top pv lo mean mg mb h₀) (hdp : dp + 100 < recursionLimit) (hun : un + 2000 < cLine)
    (G : GS h₀ L s.heap m Ex g) (hm1 : m "kinds" = some (.ref kl)) (hm2 : m "aliases" = some (.ref la)) (hm3 : m "names" = some (.ref na)) (hm4 : m "heaps" = some (.ref ha)) (hm5 : m "told" = some (.str tx tt))
    (htx : tx = told0 (nameOf (scs.map (·.2)) (alOf x) 8 "M" "T")) (hl0 : 0 ≤ len) (hl1 : len < 1000)
    (Z : Frz w gk na nd aa sa ra nk la kl ll ka kb kc kd kf len x) (S : LoopSt w gk g sa ha scs rows i) (hi : i ≤ 12)
    (hret : ∀ h' tk', GS h₀ L h' m Ex g → 
      wpAny (model prg w) (lawAr dp un gd L a ccd outer) (execs (lawBody.drop 20) (lawEnv L a ccd)) Q E { s with heap := h', toks := tk' }) :
    wpAny (model prg w) (lawAr dp un gd L a ccd outer) (execs (lawBody.drop 19) (lawEnv L a ccd)) Q E s := by
  unfold lawEnv lawAr
  generalize hZ : lawScope = Z'
  conv at hZ => lhs; whnf
  subst hZ
  conv in (execs _ _) => arg 1; whnf
  have KK := Z.kinds.keep0 S.up
  obtain ⟨kn, hkl⟩ := KK.lst
  obtain ⟨dxa, fla, ⟨tka, pla, hla, Ia⟩, efl⟩ := KK.a
  obtain ⟨dxc, flc, ⟨tkc, plc, hlc, Ic⟩⟩ := KK.c
  have htl : tx.length ≤ 200 := by rw [htx]; exact told_len S.letS Z.xl (by decide) (by decide)
  have F := frKnow (a := Str.ofString "names") (frKnow (a := Str.ofString "aliases") (frKnow (a := Str.ofString "kinds") (frKnow (a := Str.ofString "heaps") (frKnow (a := Str.ofString "told") G.fr hm5) hm4) hm1) hm2) hm3
  have N := G.nw
  have mkl := List.mem_append_right Ex (mem_entries.mpr hkl)
  have mc1 := List.mem_append_right Ex (mem_entries.mpr Ic.at_)
  have mc2 := List.mem_append_right Ex (mem_entries.mpr Ic.dict)
  have hoff := G.off
  generalize hR : Ex ++ entries g = R at N mkl mc1 mc2
  have sc := StopCall.mk
  k_steps
  refine Stop.out ?_
  repeat (rename StopCall => q9; clear q9)
  rename Fr _ _ _ _ => F2
  rename News _ _ _ _ => N2
  refine lawName_L (dp := dp) (Ex := Ex) B X T rfl (by ktr_room) (by ktr_units) ⟨F2, hR ▸ N2, hoff⟩ Z S hi ⟨tkc, plc, hlc, Ic⟩ (.inl rfl) ?_
  intro t4 h4 tk4 G4
  clear F2 N2
  have F4 := G4.fr
  have N4 := G4.nw
  rw [hR] at N4
  cases hq : nameOf (scs.map (·.2)) (alOf x) 10 "M" "W" with
  | some y =>
    dsimp only [optVal]
    have sx := StopExec.mk
    k_steps
    refine Stop.out ?_
    (repeat (rename StopExec => q9; clear q9))
    rename Fr _ _ _ _ => F5
    rename News _ _ _ _ => N5
    exact hret _ _ ⟨frBack (frBack (frBack (frBack (frBack F5 hm3) hm2) hm1) hm4) hm5, hR ▸ N5, hoff⟩
  | none =>
    dsimp only [optVal]
    have sc := StopCall.mk
    k_steps
    refine Stop.out ?_
    repeat (rename StopCall => q9; clear q9)
    rename Fr _ _ _ _ => F2
    rename News _ _ _ _ => N2
    have G5 : GS h₀ L _ _ Ex g := ⟨F2, hR ▸ N2, hoff⟩
    refine ttArr_k (dp := dp) B F2 X T rfl (by ktr_room) (by ktr_units) N2 (S.nm Z hi G5.up) ⟨_, G5.up.all _ _ efl, rfl, _, rfl⟩ (instKept G5.up Ic (fun q => nomatch q) (fun q => nomatch q)) (instKept G5.up Ia (fun q => nomatch q) (fun q => nomatch q)) (by decide) (by decide) hq (by decide) (by decide) hl0 hl1 (by rw [← htx]; omega) ?_
    rw [← htx]
    intro t h' tk' K3 F3 N3
    clear F2 N2
    have sx := StopExec.mk
    k_steps
    · rename (_ != _) = true => hbad
      exact absurd hbad (by simp)
    · refine Stop.out ?_
      (repeat (rename StopExec => q9; clear q9))
      rename Fr _ _ _ _ => F5
      rename News _ _ _ _ => N5
      exact hret _ _ ⟨frBack (frBack (frBack (frBack (frBack F5 hm3) hm2) hm1) hm4) hm5, hR ▸ N5, hoff⟩
theorem law7c {na nd aa sa ra la kl ll ka kb kc kd kf ha : Addr} {nk : Nat → Tok} {len : Int} {x : Str} {g gk : Heap} {scs : List (Addr × List (Str × Int))} {rows : List (Addr × List Value × List (Str × Int))} {i : Nat} {Ex : List (Addr × Obj)}
    (B : Below A₀ base outer h₀) (X : (hd.heap_39 w.params).In h₀) (T : Top pv lo mean mg mb h₀) (hdp : dp + 100 < recursionLimit) (hun : un + 2000 < cLine)
    (G : GS h₀ L s.heap m Ex g) (hm1 : m "kinds" = some (.ref kl)) (hm2 : m "aliases" = some (.ref la)) (hm3 : m "names" = some (.ref na)) (hm4 : m "heaps" = some (.ref ha))
    (Z : Frz w gk na nd aa sa ra nk la kl ll ka kb kc kd kf len x) (S : LoopSt w gk g sa ha scs rows i) (hi : i ≤ 12)
    (hret : ∀ h' tk', GS h₀ L h' m Ex g → 
      wpAny (model prg w) (lawAr dp un gd L a ccd outer) (execs (lawBody.drop 21) (lawEnv L a ccd)) Q E { s with heap := h', toks := tk' }) :
    wpAny (model prg w) (lawAr dp un gd L a ccd outer) (execs (lawBody.drop 20) (lawEnv L a ccd)) Q E s := by
  unfold lawEnv lawAr
  generalize hZ : lawScope = Z'
  conv at hZ => lhs; whnf
  subst hZ
  conv in (execs _ _) => arg 1; whnf
  have KK := Z.kinds.keep0 S.up
  obtain ⟨kn, hkl⟩ := KK.lst
  obtain ⟨dxb, flb, ⟨tkb, plb, hlb, Ib⟩⟩ := KK.b
  obtain ⟨dxf, flf, ⟨tkf, plf, hlf, If⟩⟩ := KK.f
  have F := frKnow (a := Str.ofString "names") (frKnow (a := Str.ofString "aliases") (frKnow (a := Str.ofString "kinds") (frKnow (a := Str.ofString "heaps") G.fr hm4) hm1) hm2) hm3
  have N := G.nw
  have mkl := List.mem_append_right Ex (mem_entries.mpr hkl)
  have hoff := G.off
  generalize hR : Ex ++ entries g = R at N mkl
  obtain ⟨y, hy⟩ := nameOf_b (scs := scs.map (·.2)) (al := alOf x) (num := 9)
  have hyl := nameOf_len S.letS Z.xl (by decide) (by decide) hy
  have sc := StopCall.mk
  k_steps
  refine Stop.out ?_
  repeat (rename StopCall => q9; clear q9)
  rename Fr _ _ _ _ => F2
  rename News _ _ _ _ => N2
  refine lawName_L (dp := dp) (Ex := Ex) B X T rfl (by ktr_room) (by ktr_units) ⟨F2, hR ▸ N2, hoff⟩ Z S hi ⟨tkf, plf, hlf, If⟩ (.inl rfl) ?_
  intro t4 h4 tk4 G4
  clear F2 N2
  have F4 := G4.fr
  have N4 := G4.nw
  rw [hR] at N4
  cases hq : nameOf (scs.map (·.2)) (alOf x) 12 "M" "v:" with
  | some y =>
    dsimp only [optVal]
    have sx := StopExec.mk
    k_steps
    refine Stop.out ?_
    (repeat (rename StopExec => q9; clear q9))
    rename Fr _ _ _ _ => F5
    rename News _ _ _ _ => N5
    exact hret _ _ ⟨frBack (frBack (frBack (frBack F5 hm3) hm2) hm1) hm4, hR ▸ N5, hoff⟩
  | none =>
    dsimp only [optVal]
    have sc := StopCall.mk
    k_steps
    refine Stop.out ?_
    repeat (rename StopCall => q9; clear q9)
    rename Fr _ _ _ _ => F2
    rename News _ _ _ _ => N2
    have G5 : GS h₀ L _ _ Ex g := ⟨F2, hR ▸ N2, hoff⟩
    refine ttPtr_k (dp := dp) B F2 X T rfl (by ktr_room) (by ktr_units) N2 (S.nm Z hi G5.up) (instKept G5.up If (fun q => nomatch q) (fun q => nomatch q)) (instKept G5.up Ib (fun q => nomatch q) (fun q => nomatch q)) (by decide) (by decide) hq (by decide) (by decide) hy (by omega) ?_
    intro t h' tk' K3 F3 N3
    clear F2 N2
    have sc := StopCall.mk
    k_steps
    refine Stop.out ?_
    repeat (rename StopCall => q9; clear q9)
    rename Fr _ _ _ _ => F2
    rename News _ _ _ _ => N2
    refine lawName_L (dp := dp) (Ex := Ex) B X T rfl (by ktr_room) (by ktr_units) ⟨F2, hR ▸ N2, hoff⟩ Z S hi ⟨tkb, plb, hlb, Ib⟩ (.inr ⟨rfl, .inl rfl⟩) ?_
    rw [hy]
    intro t5 h5 tk5 G5
    clear F2 N2
    have F5 := G5.fr
    have N5 := G5.nw
    rw [hR] at N5
    dsimp only [optVal]
    have sx := StopExec.mk
    k_steps
    · rename (_ != _) = true => hbad
      exact absurd hbad (by simp)
    · refine Stop.out ?_
      (repeat (rename StopExec => q9; clear q9))
      rename Fr _ _ _ _ => F5
      rename News _ _ _ _ => N5
      exact hret _ _ ⟨frBack (frBack (frBack (frBack F5 hm3) hm2) hm1) hm4, hR ▸ N5, hoff⟩
end
theorem offLawG1 : True := by w_top off; trivial
section
variable {w : World} {dp un : Nat} {gd : Option (List Code)} {a : Addr} {ccd : Value} {outer : List Env} {A₀ : Around} {base h₀ : Heap} {L : Addr} {m mg mb : Str → Option Value} {mean : ExcName → Option Value} {s : Shared} {Q : Flow → Shared → Prop} {E : Value → Shared → Prop}
theorem law8a {ts tsd kd cx ix : Addr} {xs : List (List Str × Addr × Value)} {g : Heap} {Ex : List (Addr × Obj)}
    (B : Below A₀ base outer h₀) (X : (hd.heap_39 w.params).In h₀) (T : Top pv lo mean mg mb h₀) (hdp : dp + 100 < recursionLimit) (hun : un + 2000 < cLine)
    (G : GS h₀ L s.heap m Ex g) (hm0 : m "types" = some (.ref ts)) (TS : TsAt w g ts tsd kd 12 xs cx ix)
    (hret : ∀ lo dlo fl m' g' h' tk', GS h₀ L h' m' Ex g' → (∀ y : Str, y ≠ Str.ofString "loose" → m' y = m y) → m' (Str.ofString "loose") = some (.ref lo) → Kept [ts, tsd] g g' → TyAt w g' lo dlo 13 "record" 12 .none 0 fl "" "" → g'.get? fl = some (listOf #[] 0) → g.get? fl = none → TsAt w g' ts tsd kd 13 xs cx ix →
      wpAny (model prg w) (lawAr dp un gd L a ccd outer) (execs (lawBody.drop 22) (lawEnv L a ccd)) Q E { s with heap := h', toks := tk' }) :
    wpAny (model prg w) (lawAr dp un gd L a ccd outer) (execs (lawBody.drop 21) (lawEnv L a ccd)) Q E s := by
  unfold lawEnv lawAr
  generalize hZ : lawScope = Z'
  conv at hZ => lhs; whnf
  subst hZ
  conv in (execs _ _) => arg 1; whnf
  obtain ⟨⟨k0, k1, k2, tk, bx, yx, mx, nx, ox, od, e1, e2, e3, e4⟩, K, d3⟩ := TS
  have d1 : ts ≠ tsd := fun e => by rw [e, e2] at e1; cases e1
  have F := frKnow (a := Str.ofString "types") G.fr hm0
  have N := G.nw
  have m1 := List.mem_append_right Ex (mem_entries.mpr e1)
  have m2 := List.mem_append_right Ex (mem_entries.mpr e2)
  have hoff := G.off
  generalize hR : Ex ++ entries g = R at N m1 m2
  have sc := StopCall.mk
  k_steps
  refine Stop.out ?_
  repeat (rename StopCall => q9; clear q9)
  rename Fr _ _ _ _ => F2
  rename News _ _ _ _ => N2
  have G2 : GS h₀ L _ m Ex g := ⟨frBack F2 hm0, hR ▸ N2, hoff⟩
  refine new2_ct (dp := dp) (ts := ts) (tsd := tsd) (kd := kd) (k0 := k0) (k1 := k1) (k2 := k2) (rest := tsR w.params tk bx cx yx ix mx nx ox) (n := 9) B F2 X T rfl (by ktr_room) (by ktr_units) d1 (by simp) (List.forall_mem_cons.mpr ⟨N2 _ m1, List.forall_mem_cons.mpr ⟨N2 _ m2, List.forall_mem_nil _⟩⟩) ?_
  intro tk1 k1' x dx fl pl hl h1 tk' K1 c1 c2 c3
  obtain ⟨g1, G1, K1', hn1, hs1⟩ := G2.step K1 (List.forall_mem_cons.mpr ⟨⟨_, e1⟩, List.forall_mem_cons.mpr ⟨⟨_, e2⟩, List.forall_mem_nil _⟩⟩)
  have q1 := c3 (x, _) (by k_mem)
  have q2 := c3 (dx, _) (by k_mem)
  have q3 := c3 (fl, _) (by k_mem)
  have z1 := hs1 ts (.head _) _ c1
  have z2 := hs1 tsd (.tail _ (.head _)) _ c2
  have off2 : ∀ {b o}, g.get? b = some o → o ≠ instObj 239 tsd → o ≠ tsD w.params k0 k1 k2 12 kd (tsR w.params tk bx cx yx ix mx nx ox) → b ∉ [ts, tsd] := fun e n1 n2 => notMem2 (getNe e e1 n1) (getNe e e2 n2)
  obtain ⟨es, ep, hdat, _⟩ := e4.2
  have TS1 : TsAt w g1 ts tsd kd 13 xs cx ix := by
    refine ⟨⟨k0, k1', k2, tk, bx, yx, mx, nx, ox, od, z1, z2, K1' _ _ e3 (notMem2 (fun e => ?_) (Ne.symm d3)), e4⟩, fun y hy => ?_, d3⟩
    · rw [e, e1] at e3; cases e3; cases hdat
    · obtain ⟨o, its, n, r1, r2, r3, r4⟩ := K y hy
      exact ⟨o, its, n, K1' _ _ r1 (off2 r1 (fun e => by rw [e] at r2; cases r2) (fun e => by rw [e] at r3; cases r3)), r2, r3, r4⟩
  have F3 := frKnow (a := Str.ofString "types") G1.fr hm0
  have N3 := G1.nw
  clear F2 N2
  generalize hR3 : Ex ++ entries g1 = R3 at N3
  have sx := StopExec.mk
  k_steps
  refine Stop.out ?_
  rename Fr _ _ _ _ => F4
  rename News _ _ _ _ => N4
  have hfl : g.get? fl = none := by
    cases q : g.get? fl with
    | none => rfl
    | some o' => have := G2.up.all _ _ q; rw [q3.2] at this; cases this
  exact hret x dx fl _ g1 _ _ ⟨F4, hR3 ▸ N4, G1.off⟩ (fun y h1 => (if_neg h1).trans (ifSame hm0 rfl)) (if_pos rfl) K1' ⟨_, _, _, instMk (hn1 _ _ q1.1 q1.2) (hn1 _ _ q2.1 q2.2)⟩ (hn1 _ _ q3.1 q3.2) hfl TS1
end
theorem offLawG2 : True := by w_top off; trivial
/-- a field of the loose record -/
structure Fo where
  o : Addr
  d : Addr
  nm : Str
  ty : Bool
  ex : Bool
noncomputable def FoAt (w : World) (g : Heap) (ix cx : Addr) (q : Fo) : Prop := ∃ tk, InstAt g q.o (instObj 203 q.d) 203 (some (obD w.params tk q.nm "field" (if q.ty then ix else cx) q.ex))
theorem newsSwap {h₀ h : Heap} {L : Addr} {a b : Addr × Obj} {r : List (Addr × Obj)} (N : News h₀ L h (a :: b :: r)) : News h₀ L h (b :: a :: r) := fun p hp => N p (by
  rcases List.mem_cons.mp hp with rfl | hp
  · exact .tail _ (.head _)
  · rcases List.mem_cons.mp hp with rfl | hp
    · exact .head _
    · exact .tail _ (.tail _ hp))
/-- the Types object, to be read -/
noncomputable def TsR (w : World) (g : Heap) (ts tsd : Addr) (cx ix : Addr) : Prop := ∃ k0 k1 k2 kd tk bx yx mx nx ox, g.get? ts = some (instObj 239 tsd) ∧ g.get? tsd = some (tsD w.params k0 k1 k2 13 kd (tsR w.params tk bx cx yx ix mx nx ox))
noncomputable def looseBody : List Stmt := forBody (stmtAt lawBody 22)
theorem itemTC {prog : Program} {w : World} {A : Around} {E : Value → Shared → Prop} {s : Shared} {value slice : Expr} {l ix cx : Addr} {u : Tok} {r : Int} {Q : Value → Shared → Prop} (hl : s.heap.IsList l #[.ref ix, .ref cx]) (h0 : 0 ≤ r) (h1 : r < 2) (h : ∀ b : Bool, Q (.ref (if b then ix else cx)) s)
    (hs : subscripted slice false (.ref l) (.int r u) = operate [.ref l, .int r u] (getItem (.ref l) (.int r u)) := by with_unfolding_all rfl) (hg : ∀ r, letTemporaryGo value (.ref l) r = pure () := by intro _; with_unfolding_all rfl) :
    wpAny (model prog w) A (subscriptTail value slice (.ref l) (.int r u)) Q E s := by
  have hr : r = 0 ∨ r = 1 := by omega
  rcases hr with rfl | rfl
  · exact PyProof.Rows.item_list hl h0 (by decide) rfl (h true) hs hg
  · exact PyProof.Rows.item_list hl h0 (by decide) rfl (h false) hs hg
theorem wd93 : True := by
  (k_with "M.subscriptTail List" => refine stopX (by with_reducible assumption) ?_)
  trivial
section
variable {w : World} {dp un : Nat} {gd : Option (List Code)} {a : Addr} {ccd : Value} {outer : List Env} {A₀ : Around} {base h₀ : Heap} {L : Addr} {m mg mb : Str → Option Value} {mean : ExcName → Option Value} {s : Shared} {Q : Flow → Shared → Prop} {E : Value → Shared → Prop}
theorem looseB {cx ix lo dlo fl fa I x dx ty : Addr} {tko : Nat → Tok} {g : Heap} {fn ln : Nat} {oc1 oc2 it : Obj} {fvs lvs : List Value} {fns : List Int} {v2 : Option Value} {nm : Str}
    (B : Below A₀ base outer h₀) (X : (hd.heap_39 w.params).In h₀) (T : Top pv Mine.lo mean mg mb h₀) (hdp : dp + 100 < recursionLimit) (hun : un + 2000 < cLine)
    (G : GS h₀ L s.heap m [(dx, obD w.params tko nm "field" ty false), (fl, listOf (lvs ++ [Value.ref x]).toArray ln), (I, it), (fa, listOf fvs.toArray fn), (L + 1 + 1, oc2), (L + 1, oc1)] g) (hm1 : m "loose" = some (.ref lo))
    (d2 : oc2.data = .cell v2) (d1 : oc1.data = .cell (some (.ref fa))) (hi : IntsAre fvs fns) (hfn : fns.length ≤ 200) (eI1 : NeH fa I) (eI2 : NeH (L + 1 + 1) I) (eI3 : NeH (L + 1) I)
    (y1 : NeH I dx) (y2 : NeH fa dx) (y3 : NeH (L + 1 + 1) dx) (y4 : NeH (L + 1) dx) (y5 : NeH fl dx) (f2 : NeH fa fl)
    (hx : g.get? x = some (instObj 203 dx)) (TL : TyAt w g lo dlo 13 "record" 12 .none 0 fl "" "") (hlv : lvs.length ≤ 5)
    (hret : ∀ tko' ex fvs' fns' fn' h' tk', GS h₀ L h' m [(dx, obD w.params tko' nm "field" ty ex), (fl, listOf (lvs ++ [Value.ref x]).toArray ln), (I, it), (fa, listOf fvs'.toArray fn'), (L + 1 + 1, oc2), (L + 1, oc1)] g → IntsAre fvs' fns' → fns'.length ≤ 200 → Q .next { s with heap := h', toks := tk' }) :
    wpAny (model prg w) (lawAr dp un gd L a ccd outer) (execs (looseBody.drop 1) (lawEnv L a ccd)) Q E s := by
  unfold lawEnv lawAr
  generalize hZ : lawScope = Z'
  conv at hZ => lhs; whnf
  subst hZ
  conv in (execs _ _) => arg 1; whnf
  obtain ⟨tkl, pll, hll, IL⟩ := TL
  have m1 := mem_entries.mpr hx
  have m3 := mem_entries.mpr IL.at_
  have m4 := mem_entries.mpr IL.dict
  have hoff := G.off
  have F := frKnow (a := Str.ofString "loose") G.fr hm1
  have N := G.nw
  simp only [List.cons_append, List.nil_append] at N
  have e10 := neObj' N (a := fa) (b := L + 1) (by k_mem) (by k_mem) (listCell d1)
  have e11 := neObj' N (a := fa) (b := L + 1 + 1) (by k_mem) (by k_mem) (listCell d2)
  have o0 : g.get? dx = none := hoff (dx, _) (.head _)
  have o1 : g.get? fa = none := hoff (fa, _) (.tail _ (.tail _ (.tail _ (.head _))))
  have sX := StopAt.mk (a := fl)
  k_steps
  refine Stop.out ?_
  clear sX
  rename Fr _ _ _ _ => F2
  rename News _ _ _ _ => N2
  refine tail_any (show Heap.IsList _ fl _ from ⟨_, (N2 (fl, _) (by k_mem)).1, rfl, _, rfl⟩).typeIs slot_list_getitem.lookup (wpAny_getItem_list_neg (x := .ref x) ⟨_, (N2 (fl, _) (by k_mem)).1, rfl, _, rfl⟩ (by decide) (by simp; omega) (by decide) (lastAt _ _) ?_) (by with_unfolding_all rfl)
  k_steps
  rename Fr _ _ _ _ => F3
  rename News _ _ _ _ => N3
  have w1 : g.get? fl = none := hoff (fl, _) (.tail _ (.head _))
  have w2 : g.get? I = none := hoff (I, _) (.tail _ (.tail _ (.head _)))
  have w3 : g.get? (L + 1 + 1) = none := hoff (L + 1 + 1, _) (.tail _ (.tail _ (.tail _ (.tail _ (.head _)))))
  have w4 : g.get? (L + 1) = none := hoff (L + 1, _) (.tail _ (.tail _ (.tail _ (.tail _ (.tail _ (.head _))))))
  exact hret tko _ _ _ _ _ _ ⟨frBack F3 hm1, N3, List.forall_mem_cons.mpr ⟨o0, List.forall_mem_cons.mpr ⟨w1, List.forall_mem_cons.mpr ⟨w2, List.forall_mem_cons.mpr ⟨o1, List.forall_mem_cons.mpr ⟨w3, List.forall_mem_cons.mpr ⟨w4, List.forall_mem_nil _⟩⟩⟩⟩⟩⟩⟩ (by assumption) (by omega)
theorem looseA {ts tsd cx ix lo dlo fl fa I : Addr} {g : Heap} {fn ln : Nat} {oc1 oc2 it : Obj} {fvs lvs : List Value} {fns : List Int} {v2 : Option Value} {nm : Str} {tn : Tok}
    (B : Below A₀ base outer h₀) (X : (hd.heap_39 w.params).In h₀) (T : Top pv Mine.lo mean mg mb h₀) (hdp : dp + 100 < recursionLimit) (hun : un + 2000 < cLine)
    (G : GS h₀ L s.heap m [(I, it), (fa, listOf fvs.toArray fn), (L + 1 + 1, oc2), (L + 1, oc1)] g) (hm0 : m "types" = some (.ref ts)) (hm1 : m "loose" = some (.ref lo)) (hm2 : m "name" = some (.str nm tn))
    (d2 : oc2.data = .cell v2) (d1 : oc1.data = .cell (some (.ref fa))) (hi : IntsAre fvs fns) (hfn : fns.length ≤ 200) (eI1 : NeH fa I) (eI2 : NeH (L + 1 + 1) I) (eI3 : NeH (L + 1) I)
    (TS : TsR w g ts tsd cx ix) (TL : TyAt w g lo dlo 13 "record" 12 .none 0 fl "" "") (hfl : g.get? fl = some (listOf lvs.toArray ln)) (hlv : lvs.length ≤ 5)
    (hret : ∀ x dx tb tko fvs' fns' fn' ln' g' h' tk', GS h₀ L h' m [(dx, obD w.params tko nm "field" (if tb = true then ix else cx) false), (fl, listOf (lvs ++ [Value.ref x]).toArray ln'), (I, it), (fa, listOf fvs'.toArray fn'), (L + 1 + 1, oc2), (L + 1, oc1)] g' → IntsAre fvs' fns' → fns'.length ≤ 200 → Kept [fl] g g' → g'.get? x = some (instObj 203 dx) →
      NeH I dx → NeH fa dx → NeH (L + 1 + 1) dx → NeH (L + 1) dx → NeH fl dx → NeH fa fl → wpAny (model prg w) (lawAr dp un gd L a ccd outer) (execs (looseBody.drop 1) (lawEnv L a ccd)) Q E { s with heap := h', toks := tk' }) :
    wpAny (model prg w) (lawAr dp un gd L a ccd outer) (execs (looseBody.drop 0) (lawEnv L a ccd)) Q E s := by
  unfold lawEnv lawAr
  generalize hZ : lawScope = Z'
  conv at hZ => lhs; whnf
  subst hZ
  conv in (execs _ _) => arg 1; whnf
  obtain ⟨k0, k1, k2, kd, tk, bx, yx, mx, nx, ox, e1, e2⟩ := TS
  obtain ⟨tkl, pll, hll, IL⟩ := TL
  have o0 : g.get? I = none := G.off (I, _) (.head _)
  have o1 : g.get? fa = none := G.off (fa, _) (.tail _ (.head _))
  have o2 : g.get? (L + 1 + 1) = none := G.off (L + 1 + 1, _) (.tail _ (.tail _ (.head _)))
  have o3 : g.get? (L + 1) = none := G.off (L + 1, _) (.tail _ (.tail _ (.tail _ (.head _))))
  have nI : ∀ {C b}, g.get? b = some (instObj C dlo) → b ≠ fl := fun e => getNe e hfl (fun q => by have := congrArg Obj.data q; cases this)
  have hin : ∀ {b o}, g.get? b = some o → o ≠ listOf lvs.toArray ln → (hideAll g [fl]).get? b = some o := fun e n => hideAll_get _ e (fun q => getNe e hfl n (List.mem_singleton.mp q))
  have G1 := G.out hfl
  have u1 : (hideAll g [fl]).get? (I) = none := G1.off (I, _) (.tail _ (.head _))
  have u2 : (hideAll g [fl]).get? (fa) = none := G1.off (fa, _) (.tail _ (.tail _ (.head _)))
  have u3 : (hideAll g [fl]).get? (L + 1 + 1) = none := G1.off (L + 1 + 1, _) (.tail _ (.tail _ (.tail _ (.head _))))
  have u4 : (hideAll g [fl]).get? (L + 1) = none := G1.off (L + 1, _) (.tail _ (.tail _ (.tail _ (.tail _ (.head _)))))
  have u5 : (hideAll g [fl]).get? (fl) = none := G1.off (fl, _) (.head _)
  have kh : Kept [fl] g (hideAll g [fl]) := GS.outK
  have m1 := mem_entries.mpr (hin e1 (fun q => by have := congrArg Obj.data q; cases this))
  have m2 := mem_entries.mpr (hin e2 (fun q => by have := congrArg Obj.data q; cases this))
  have m3 := mem_entries.mpr (hin IL.at_ (fun q => by have := congrArg Obj.data q; cases this))
  have m4 := mem_entries.mpr (hin IL.dict (fun q => by have := congrArg Obj.data q; cases this))
  generalize hgh : hideAll g [fl] = gh at *
  have f1 : NeH I fl := ⟨neNone o0 hfl⟩
  have f2 : NeH fa fl := ⟨neNone o1 hfl⟩
  have f3 : NeH (L + 1 + 1) fl := ⟨neNone o2 hfl⟩
  have f4 : NeH (L + 1) fl := ⟨neNone o3 hfl⟩
  have F := frKnow (a := Str.ofString "types") (frKnow (a := Str.ofString "loose") (frKnow (a := Str.ofString "name") G1.fr hm2) hm1) hm0
  have N := G1.nw
  simp only [List.cons_append, List.nil_append] at N
  have e10 := neObj' N (a := fa) (b := L + 1) (by k_mem) (by k_mem) (listCell d1)
  have e11 := neObj' N (a := fa) (b := L + 1 + 1) (by k_mem) (by k_mem) (listCell d2)
  have sc := StopCall.mk
  have sX := StopX.mk
  k_steps
  refine Stop.out ?_
  clear sX
  refine kba_turn (value' := PySem.Expr.Name (PySem.Str.ofString "_") ⟨0, 0, 0, 0⟩) (fun _ => rfl) ?_
  refine itemTC (ix := ix) (cx := cx) (News.isList (by k_asm) (by k_mem)) (by assumption) (by assumption) ?_
  intro tb
  k_steps
  refine Stop.out ?_
  repeat (rename StopCall => q9; clear q9)
  rename Fr _ _ _ _ => F2
  rename News _ _ _ _ => N2
  obtain ⟨il, e⟩ := nmA N2
  subst e
  refine' call_cls (fI := 200) ?k1 ?k2 ?k3 ?k4 ?k5 ?k6 ?_
  (case k1 => k_asm); (case k2 => k_asm); (case k3 => k_asm); (case k4 => k_is); (case k5 => k_is); (case k6 => k_is)
  intro x dx h3 F3 N3 l1 l2
  k_lt l1
  k_lt2 l2
  clear F2 N2
  try simp only [List.nil_append, List.cons_append] at N3
  obtain ⟨g1, G2, K1, hg1⟩ := absorb (E' := [(x, _), (dx, _), (il, _), (fl, _), (I, it), (fa, _), (L + 1 + 1, _), (L + 1, _)]) F3 [(I, it), (fa, listOf _ _), (L + 1 + 1, oc2), (L + 1, oc1)] N3 (by walk_at "F sub") (List.forall_mem_cons.mpr ⟨u1, List.forall_mem_cons.mpr ⟨u2, List.forall_mem_cons.mpr ⟨u3, List.forall_mem_cons.mpr ⟨u4, List.forall_mem_nil _⟩⟩⟩⟩)
  have gx : g1.get? x = some (instObj 203 dx) := hg1 (x, _) (by k_mem) (by k_all)
  have gdx : g1.get? dx = some (dictOf [] 0) := hg1 (dx, _) (by k_mem) (by k_all)
  have gfl : g1.get? fl = some (listOf lvs.toArray ln) := hg1 (fl, _) (by k_mem) (List.forall_mem_cons.mpr ⟨f1.ne, List.forall_mem_cons.mpr ⟨f2.ne, List.forall_mem_cons.mpr ⟨f3.ne, List.forall_mem_cons.mpr ⟨f4.ne, List.forall_mem_nil _⟩⟩⟩⟩)
  have frs : ∀ b o, gh.get? b = some o → b ∉ [x, dx] := fun b o e => notMem2 (Nat.ne_of_lt (Nat.lt_trans (allLtLt (d := dx) (by assumption) (b, o) (mem_entries.mpr e)) l2)) (fun q => (allLtNe (d := dx) (by assumption) (b, o) (mem_entries.mpr e)) q)
  refine obInit_ct (dp := dp + 1) (un := un + 1) B F3 X T rfl (by ktr_room) (by ktr_units) l2 (fun p hp => N3 p (List.mem_append_left _ hp)) ?_
  intro tko h4 tk4 K4 hx4
  obtain ⟨g2, G3, K2, hn2, hs2⟩ := G2.step K4 (List.forall_mem_cons.mpr ⟨⟨_, gx⟩, List.forall_mem_cons.mpr ⟨⟨_, gdx⟩, List.forall_mem_nil _⟩⟩)
  have gx2 := hs2 x (.head _) _ (hx4 (x, _) (by k_mem))
  have gdx2 := hs2 dx (.tail _ (.head _)) _ (hx4 (dx, _) (by k_mem))
  have nfx : fl ∉ [x, dx] := notMem2 (by k_ne) (by k_ne)
  have gfl2 := K2 _ _ gfl nfx
  refine ⟨rfl, ?_⟩
  have H1 : Kept [] gh g2 := fun b o e _ => K2 _ _ (K1.all _ _ e) (frs b o e)
  have nxd : x ≠ dx := Nat.ne_of_gt l2
  have G4 := (G3.out gdx2).out (hideAll_get _ gfl2 (fun q => nfx (.tail _ q)))
  have H3 : Kept [fl] g (hideAll (hideAll g2 [dx]) [fl]) := fun b o e n => by
    have e1 := H1.all _ _ (kh _ _ e n)
    exact hideAll_get _ (hideAll_get _ e1 (fun q => frs _ _ (kh _ _ e n) (by rw [List.mem_singleton.mp q]; exact .tail _ (.head _)))) n
  have hx7 : (hideAll (hideAll g2 [dx]) [fl]).get? x = some (instObj 203 dx) := hideAll_get _ (hideAll_get _ gx2 (fun q => nxd (List.mem_singleton.mp q))) (fun q => nfx (by rw [← List.mem_singleton.mp q]; exact .head _))
  have hof : ∀ p ∈ entries (hideAll (hideAll g2 [dx]) [fl]), p.1 ≠ fl := tailOff (hideAll_none _ (.head _))
  have y1 : NeH I dx := ⟨by k_ne⟩
  have y2 : NeH fa dx := ⟨by k_ne⟩
  have y3 : NeH (L + 1 + 1) dx := ⟨by k_ne⟩
  have y4 : NeH (L + 1) dx := ⟨by k_ne⟩
  have y5 : NeH fl dx := ⟨by k_ne⟩
  have F5 := G4.fr
  have N5 := G4.nw
  have hoff := G4.off
  clear F3 N3 G2 G3 G4 H1 frs hg1 hn2 hs2 K1 K2 K4 hx4 gx gdx gfl gx2 gdx2 gfl2 kh nxd nfx
  generalize hideAll (hideAll g2 [dx]) [fl] = g3 at *
  simp only [List.cons_append, List.nil_append] at N5
  have sx := StopExec.mk
  k_steps
  refine Stop.out ?_
  (repeat (rename StopExec => q9; clear q9))
  rename Fr _ _ _ _ => F6
  rename News _ _ _ _ => N6
  have e : lvs.toArray.push (Value.ref x) = (lvs ++ [Value.ref x]).toArray := by simp
  rw [e] at N6
  have w1 : g3.get? dx = none := hoff (dx, _) (.tail _ (.head _))
  have w2 : g3.get? fl = none := hoff (fl, _) (.head _)
  have w3 : g3.get? fa = none := hoff (fa, _) (.tail _ (.tail _ (.tail _ (.head _))))
  refine hret x dx tb tko _ _ _ _ g3 _ _ ⟨frBack (frBack (frBack F6 hm0) hm1) hm2, newsSwap N6, fun p hp => ?_⟩ (by assumption) (by omega) H3 hx7 y1 y2 y3 y4 y5 f2
  rcases List.mem_cons.mp hp with rfl | hp
  · exact w1
  · rcases List.mem_cons.mp hp with rfl | hp
    · exact w2
    · rcases List.mem_cons.mp hp with rfl | hp
      · exact hoff (I, _) (.tail _ (.tail _ (.head _)))
      · rcases List.mem_cons.mp hp with rfl | hp
        · exact w3
        · rcases List.mem_cons.mp hp with rfl | hp
          · exact hoff (L + 1 + 1, _) (.tail _ (.tail _ (.tail _ (.tail _ (.head _)))))
          · rw [List.mem_singleton.mp hp]; exact hoff (L + 1, _) (.tail _ (.tail _ (.tail _ (.tail _ (.tail _ (.head _))))))
theorem looseTurn {ts tsd cx ix lo dlo fl fa I : Addr} {g : Heap} {fn ln : Nat} {oc1 oc2 it : Obj} {fvs lvs : List Value} {fns : List Int} {v2 : Option Value} {nm : Str} {tn : Tok}
    (B : Below A₀ base outer h₀) (X : (hd.heap_39 w.params).In h₀) (T : Top pv Mine.lo mean mg mb h₀) (hdp : dp + 100 < recursionLimit) (hun : un + 2000 < cLine)
    (G : GS h₀ L s.heap m [(I, it), (fa, listOf fvs.toArray fn), (L + 1 + 1, oc2), (L + 1, oc1)] g) (hm0 : m "types" = some (.ref ts)) (hm1 : m "loose" = some (.ref lo)) (hm2 : m "name" = some (.str nm tn))
    (d2 : oc2.data = .cell v2) (d1 : oc1.data = .cell (some (.ref fa))) (hi : IntsAre fvs fns) (hfn : fns.length ≤ 200) (eI1 : NeH fa I) (eI2 : NeH (L + 1 + 1) I) (eI3 : NeH (L + 1) I)
    (TS : TsR w g ts tsd cx ix) (TL : TyAt w g lo dlo 13 "record" 12 .none 0 fl "" "") (hfl : g.get? fl = some (listOf lvs.toArray ln)) (hlv : lvs.length ≤ 5)
    (hret : ∀ o d ty ex fvs' fns' fn' ln' g' h' tk', GS h₀ L h' m [(I, it), (fa, listOf fvs'.toArray fn'), (L + 1 + 1, oc2), (L + 1, oc1)] g' → IntsAre fvs' fns' → fns'.length ≤ 200 → Kept [fl] g g' → g'.get? fl = some (listOf (lvs ++ [Value.ref o]).toArray ln') → FoAt w g' ix cx ⟨o, d, nm, ty, ex⟩ → Q .next { s with heap := h', toks := tk' }) :
    wpAny (model prg w) (lawAr dp un gd L a ccd outer) (execs (looseBody.drop 0) (lawEnv L a ccd)) Q E s := by
  refine looseA (dp := dp) B X T hdp hun G hm0 hm1 hm2 d2 d1 hi hfn eI1 eI2 eI3 TS TL hfl hlv ?_
  intro x dx tb tko vs1 ns1 n1 ln1 g1 h1 tk1 G1 hi1 hn1 K1 gx y1 y2 y3 y4 y5 f2
  have TL1 : TyAt w g1 lo dlo 13 "record" 12 .none 0 fl "" "" := TL.keep K1 (fun q => ?_) (fun q => ?_)
  · refine looseB (dp := dp) (cx := cx) (ix := ix) B X T hdp hun G1 hm1 d2 d1 hi1 hn1 eI1 eI2 eI3 y1 y2 y3 y4 y5 f2 gx TL1 hlv ?_
    intro tko' ex vs2 ns2 n2 h2 tk2 G2 hi2 hn2
    have v1 : g1.get? I = none := G1.off (I, _) (.tail _ (.tail _ (.head _)))
    have v2 : g1.get? fa = none := G1.off (fa, _) (.tail _ (.tail _ (.tail _ (.head _))))
    have v3 : g1.get? (L + 1 + 1) = none := G1.off (L + 1 + 1, _) (.tail _ (.tail _ (.tail _ (.tail _ (.head _)))))
    have v4 : g1.get? (L + 1) = none := G1.off (L + 1, _) (.tail _ (.tail _ (.tail _ (.tail _ (.tail _ (.head _))))))
    have f1 : I ≠ fl := neNone (G.off (I, _) (.head _)) hfl
    have f3 : L + 1 + 1 ≠ fl := neNone (G.off (L + 1 + 1, _) (.tail _ (.tail _ (.head _)))) hfl
    have f4 : L + 1 ≠ fl := neNone (G.off (L + 1, _) (.tail _ (.tail _ (.tail _ (.head _))))) hfl
    obtain ⟨g2, G3, K3, hg⟩ := absorb G2.fr [(I, it), (fa, listOf vs2.toArray n2), (L + 1 + 1, oc2), (L + 1, oc1)] G2.nw (by walk_at "F sub") (List.forall_mem_cons.mpr ⟨v1, List.forall_mem_cons.mpr ⟨v2, List.forall_mem_cons.mpr ⟨v3, List.forall_mem_cons.mpr ⟨v4, List.forall_mem_nil _⟩⟩⟩⟩)
    have c1 := hg (dx, _) (by k_mem) (List.forall_mem_cons.mpr ⟨y1.ne, List.forall_mem_cons.mpr ⟨y2.ne, List.forall_mem_cons.mpr ⟨y3.ne, List.forall_mem_cons.mpr ⟨y4.ne, List.forall_mem_nil _⟩⟩⟩⟩)
    have c2 := hg (fl, _) (by k_mem) (List.forall_mem_cons.mpr ⟨f1, List.forall_mem_cons.mpr ⟨f2.ne, List.forall_mem_cons.mpr ⟨f3, List.forall_mem_cons.mpr ⟨f4, List.forall_mem_nil _⟩⟩⟩⟩)
    exact hret x dx tb ex vs2 ns2 n2 ln1 g2 _ _ G3 hi2 hn2 (fun b o e n => K3.all _ _ (K1 _ _ e n)) c2 ⟨tko', instMk (K3.all _ _ gx) c1⟩
  · obtain ⟨_, _, _, IL⟩ := TL
    exact getNe IL.at_ hfl (fun q => by have := congrArg Obj.data q; cases this) (List.mem_singleton.mp q)
  · obtain ⟨_, _, _, IL⟩ := TL
    exact getNe IL.dict hfl (fun q => by have := congrArg Obj.data q; cases this) (List.mem_singleton.mp q)
end
theorem offLawG3 : True := by w_top off; trivial
theorem notTwo {g : Heap} {a b : Addr} {o : Obj} {its : Array Value} {n : Nat} (h : g.get? a = some o) (hb : g.get? b = some (listOf its n)) (ho : ∀ as k, o ≠ listOf as k) : a ∉ [b] := fun q => getNe h hb (ho _ _) (List.mem_singleton.mp q)
theorem instNL {C d : Addr} {its : Array Value} {n : Nat} : instObj C d ≠ listOf its n := fun e => by have := congrArg Obj.data e; cases this
theorem dictNL {es : List DictEntry} {k : Nat} {its : Array Value} {n : Nat} : dictOf es k ≠ listOf its n := fun e => by have := congrArg Obj.data e; cases this
theorem TsR.keepL {w : World} {g g' : Heap} {ts tsd cx ix fl : Addr} {its : Array Value} {n : Nat} (h : TsR w g ts tsd cx ix) (hf : g.get? fl = some (listOf its n)) (k : Kept [fl] g g') : TsR w g' ts tsd cx ix := by
  obtain ⟨k0, k1, k2, kd, tk, bx, yx, mx, nx, ox, e1, e2⟩ := h
  exact ⟨k0, k1, k2, kd, tk, bx, yx, mx, nx, ox, k _ _ e1 (notTwo e1 hf fun _ _ => instNL), k _ _ e2 (notTwo e2 hf fun _ _ => dictNL)⟩
theorem TyAt.keepL {w : World} {g g' : Heap} {x dx fl : Addr} {its : Array Value} {n : Nat} {num size len : Int} {form mo lb : Str} {bv : Value} {f : Addr} (h : TyAt w g x dx num form size bv len f mo lb) (hf : g.get? fl = some (listOf its n)) (k : Kept [fl] g g') : TyAt w g' x dx num form size bv len f mo lb := by
  obtain ⟨tk, pl, hl, I⟩ := h
  exact ⟨tk, pl, hl, instMk (k _ _ I.at_ (notTwo I.at_ hf fun _ _ => instNL)) (k _ _ (show g.get? dx = some _ from I.dict) (notTwo (show g.get? dx = some _ from I.dict) hf fun _ _ => dictNL))⟩
theorem FoAt.keepL {w : World} {g g' : Heap} {ix cx fl : Addr} {its : Array Value} {n : Nat} {q : Fo} (h : FoAt w g ix cx q) (hf : g.get? fl = some (listOf its n)) (k : Kept [fl] g g') : FoAt w g' ix cx q := by
  obtain ⟨tk, I⟩ := h
  exact ⟨tk, instMk (k _ _ I.at_ (notTwo I.at_ hf fun _ _ => instNL)) (k _ _ (show g.get? q.d = some _ from I.dict) (notTwo (show g.get? q.d = some _ from I.dict) hf fun _ _ => dictNL))⟩
/-- the loose record's fields, as far as they are made -/
structure LooseSt (w : World) (gk g : Heap) (ix cx fl : Addr) (fs : List Fo) : Prop where
  up : Kept [fl] gk g
  lst : ∃ n, g.get? fl = some (listOf (fs.map fun q => Value.ref q.o).toArray n)
  obs : ∀ q ∈ fs, FoAt w g ix cx q
theorem LooseSt.add {w : World} {gk g g' : Heap} {ix cx fl : Addr} {fs : List Fo} {q : Fo} {n : Nat} (S : LooseSt w gk g ix cx fl fs) (k : Kept [fl] g g') (h1 : g'.get? fl = some (listOf ((fs.map fun q => Value.ref q.o) ++ [Value.ref q.o]).toArray n)) (h2 : FoAt w g' ix cx q) : LooseSt w gk g' ix cx fl (fs ++ [q]) := by
  obtain ⟨n0, h0⟩ := S.lst
  refine ⟨Kept.trans S.up k, ⟨n, by rw [List.map_append]; exact h1⟩, fun p hp => ?_⟩
  rcases List.mem_append.mp hp with hp | hp
  · exact (S.obs p hp).keepL h0 k
  · rw [List.mem_singleton.mp hp]; exact h2
theorem nmTok {h₀ h : Heap} {L l : Addr} {x y z : Str} {t0 t1 t2 : Tok} {n : Nat} {R : List (Addr × Obj)} (_ : News h₀ L h ((l, listOf #[.str x t0, .str y t1, .str z t2] n) :: R)) : ∃ u0 u1 u2, u0 = t0 ∧ u1 = t1 ∧ u2 = t2 := ⟨_, _, _, rfl, rfl, rfl⟩
noncomputable def abc : List Str := [Str.ofString "a", Str.ofString "b", Str.ofString "c"]
theorem abcAt {i : Nat} {v : Value} {t0 t1 t2 : Tok} (h : ([.str (Str.ofString "a") t0, .str (Str.ofString "b") t1, .str (Str.ofString "c") t2] : List Value)[i]? = some v) : ∃ nm t, v = .str nm t ∧ abc.take (i + 1) = abc.take i ++ [nm] := by
  match i with
  | 0 => simp at h; exact ⟨_, _, h.symm, rfl⟩
  | 1 => simp at h; exact ⟨_, _, h.symm, rfl⟩
  | 2 => simp at h; exact ⟨_, _, h.symm, rfl⟩
  | i + 3 => simp at h
section
variable {w : World} {dp un : Nat} {gd : Option (List Code)} {a : Addr} {ccd : Value} {outer : List Env} {A₀ : Around} {base h₀ : Heap} {L : Addr} {m mg mb : Str → Option Value} {mean : ExcName → Option Value} {s : Shared} {Q : Flow → Shared → Prop} {E : Value → Shared → Prop}
theorem law8b {ts tsd cx ix lo dlo fl fa : Addr} {g : Heap} {fn ln : Nat} {oc1 oc2 : Obj} {fvs : List Value} {fns : List Int} {v2 : Option Value}
    (B : Below A₀ base outer h₀) (X : (hd.heap_39 w.params).In h₀) (T : Top pv Mine.lo mean mg mb h₀) (hdp : dp + 100 < recursionLimit) (hun : un + 2000 < cLine)
    (G : GS h₀ L s.heap m [(fa, listOf fvs.toArray fn), (L + 1 + 1, oc2), (L + 1, oc1)] g) (hm0 : m "types" = some (.ref ts)) (hm1 : m "loose" = some (.ref lo))
    (d2 : oc2.data = .cell v2) (d1 : oc1.data = .cell (some (.ref fa))) (hi : IntsAre fvs fns) (hfn : fns.length ≤ 200)
    (TS : TsR w g ts tsd cx ix) (TL : TyAt w g lo dlo 13 "record" 12 .none 0 fl "" "") (hfl : g.get? fl = some (listOf #[] ln))
    (hE : PassesOwn (model prg w) (lawAr dp un gd L a ccd outer) (lawEnv L a ccd) E)
    (hret : ∀ o1 dd1 t1 b1 o2 dd2 t2 b2 o3 dd3 t3 b3 (fvs' : List Value) (fns' : List Int) fn' g' m' h' tk', GS h₀ L h' m' [(fa, listOf fvs'.toArray fn'), (L + 1 + 1, oc2), (L + 1, oc1)] g' → (∀ y : Str, y ≠ Str.ofString "name" → m' y = m y) → IntsAre fvs' fns' → fns'.length ≤ 200 →
      LooseSt w g g' ix cx fl [⟨o1, dd1, "a", t1, b1⟩, ⟨o2, dd2, "b", t2, b2⟩, ⟨o3, dd3, "c", t3, b3⟩] →
      wpAny (model prg w) (lawAr dp un gd L a ccd outer) (execs (lawBody.drop 23) (lawEnv L a ccd)) Q E { s with heap := h', toks := tk' }) :
    wpAny (model prg w) (lawAr dp un gd L a ccd outer) (execs (lawBody.drop 22) (lawEnv L a ccd)) Q E s := by
  unfold lawEnv lawAr at hE ⊢
  generalize hZ : lawScope = Z' at hE ⊢
  conv at hZ => lhs; whnf
  subst hZ
  conv in (execs _ _) => arg 1; whnf
  have o1 : g.get? fa = none := G.off (fa, _) (.head _)
  have o2 : g.get? (L + 1 + 1) = none := G.off (L + 1 + 1, _) (.tail _ (.head _))
  have o3 : g.get? (L + 1) = none := G.off (L + 1, _) (.tail _ (.tail _ (.head _)))
  have F := frKnow (a := Str.ofString "loose") (frKnow (a := Str.ofString "types") G.fr hm0) hm1
  have N := G.nw
  simp only [List.cons_append, List.nil_append] at N
  have sx := StopIter.mk
  k_steps
  refine Stop.out ?_
  (repeat (rename StopIter => q9; clear q9))
  rename Fr _ _ _ _ => F2
  rename News _ _ _ _ => N2
  obtain ⟨l, e⟩ := nmA N2
  subst e
  obtain ⟨g1, G1, K1, hg1⟩ := absorb (E' := [(l, _), (fa, _), (L + 1 + 1, _), (L + 1, _)]) F2 [(fa, listOf fvs.toArray fn), (L + 1 + 1, oc2), (L + 1, oc1)] N2 (by walk_at "F sub") (List.forall_mem_cons.mpr ⟨o1, List.forall_mem_cons.mpr ⟨o2, List.forall_mem_cons.mpr ⟨o3, List.forall_mem_nil _⟩⟩⟩)
  have c1 := hg1 (l, _) (by k_mem) (by k_all)
  have N3 := G1.nw
  have p1 : g1.get? fa = none := G1.off (fa, _) (.head _)
  have p2 : g1.get? (L + 1 + 1) = none := G1.off (L + 1 + 1, _) (.tail _ (.head _))
  have p3 : g1.get? (L + 1) = none := G1.off (L + 1, _) (.tail _ (.tail _ (.head _)))
  simp only [List.cons_append, List.nil_append] at N3
  have lfl : l ≠ fl := fun e => by
    have hq : g.get? l = none := offLt (by assumption)
    rw [e, hfl] at hq; cases hq
  have hL0 := News.isList N2 (show (l, listOf _ _) ∈ _ from .head _)
  obtain ⟨u0, u1, u2, h0, h1, h2⟩ := nmTok N2
  rw [← h2, ← h1, ← h0] at hL0 c1
  refine iter_list (prog := prg) (w := w) (vs := [.str (Str.ofString "a") u0, .str (Str.ofString "b") u1, .str (Str.ofString "c") u2]) []
    (fun i _ nx => ∃ fvs fns fn g' fs, nx = (fa, listOf fvs.toArray fn) :: (L + 1 + 1, oc2) :: (L + 1, oc1) :: entries g' ∧ (g'.get? fa = none ∧ g'.get? (L + 1 + 1) = none ∧ g'.get? (L + 1) = none) ∧ IntsAre fvs fns ∧ fns.length ≤ 200 ∧ g'.get? l = some (listOf #[.str (Str.ofString "a") u0, .str (Str.ofString "b") u1, .str (Str.ofString "c") u2] 0) ∧ LooseSt w g g' ix cx fl fs ∧ fs.map (·.nm) = abc.take i)
    rfl hL0 (.inr ⟨listOf #[.str (Str.ofString "a") u0, .str (Str.ofString "b") u1, .str (Str.ofString "c") u2] 0, ?_⟩) F2 N3 ⟨fvs, fns, fn, g1, [], rfl, ⟨p1, p2, p3⟩, hi, hfn, c1, ⟨fun b o e _ => K1.all _ _ e, ⟨_, K1.all _ _ hfl⟩, fun _ q => nomatch q⟩, rfl⟩ ?_ ?_
  · rintro i mm nx ⟨vs, ns, n, g', fs, rfl, -, -, -, hl, -⟩
    exact .tail _ (.tail _ (.tail _ (mem_entries.mpr hl)))
  · clear F2 N2 N3 G1 hg1
    rintro i v u nx I it h tk hv ⟨vs, ns, n, g', fs, rfl, ⟨q1, q2, q3⟩, hvs, hns, hl, S, hfs⟩ hne hlt F5 N5
    obtain ⟨nm, t, rfl, htk⟩ := abcAt hv
    have oI : g'.get? I = none := by
      cases q : g'.get? I with
      | none => rfl
      | some o => exact absurd rfl (hne (I, o) (.tail _ (.tail _ (.tail _ (mem_entries.mpr q)))))
    have eI1 : NeH fa I := ⟨hne (fa, _) (.head _)⟩
    have eI2 : NeH (L + 1 + 1) I := ⟨hne (L + 1 + 1, _) (.tail _ (.head _))⟩
    have eI3 : NeH (L + 1) I := ⟨hne (L + 1, _) (.tail _ (.tail _ (.head _)))⟩
    have offs : ∀ p ∈ [(I, it), (fa, listOf vs.toArray n), (L + 1 + 1, oc2), (L + 1, oc1)], g'.get? p.1 = none := List.forall_mem_cons.mpr ⟨oI, List.forall_mem_cons.mpr ⟨q1, List.forall_mem_cons.mpr ⟨q2, List.forall_mem_cons.mpr ⟨q3, List.forall_mem_nil _⟩⟩⟩⟩
    obtain ⟨n0, hl0⟩ := S.lst
    have hlen : fs.length ≤ 3 := by
      have := congrArg List.length hfs
      rw [List.length_map, List.length_take] at this
      have e : abc.length = 3 := rfl
      omega
    refine looseTurn (dp := dp) B X T hdp hun ⟨F5, N5, offs⟩ (by rfl) (by rfl) (by rfl) d2 d1 hvs hns eI1 eI2 eI3 (TS.keepL hfl S.up) (TL.keepL hfl S.up) hl0 (by rw [List.length_map]; omega) ?_
    intro o d ty ex vs' ns' n' ln' g2 h2 tk2 G2 hi2 hn2 K2 hf2 hob
    have c2 := G2.off (fa, _) (.tail _ (.head _))
    have c3 := G2.off (L + 1 + 1, _) (.tail _ (.tail _ (.head _)))
    have c4 := G2.off (L + 1, _) (.tail _ (.tail _ (.tail _ (.head _))))
    refine TEnd.intro (nx := (fa, listOf vs'.toArray n') :: (L + 1 + 1, oc2) :: (L + 1, oc1) :: entries g2) G2.fr G2.nw (List.forall_mem_cons.mpr ⟨eI1.ne, List.forall_mem_cons.mpr ⟨eI2.ne, List.forall_mem_cons.mpr ⟨eI3.ne, tailOff (G2.off (I, _) (.head _))⟩⟩⟩) ⟨fun y h1 h2 => ?_, vs', ns', n', g2, fs ++ [⟨o, d, nm, ty, ex⟩], rfl, ⟨c2, c3, c4⟩, hi2, hn2, K2 _ _ hl (fun q => lfl (List.mem_singleton.mp q)), S.add K2 hf2 hob, by rw [List.map_append, hfs, htk]; rfl⟩
    exact (if_neg h1).trans rfl
  · clear F2 N2 N3 G1 hg1
    rintro u nx h tk ⟨vs, ns, n, g', fs, rfl, ⟨q1, q2, q3⟩, hvs, hns, hl, S, hfs⟩ F5 N5
    dsimp only
    match fs, hfs with
    | [⟨x1, y1, _, t1, b1⟩, ⟨x2, y2, _, t2, b2⟩, ⟨x3, y3, _, t3, b3⟩], hfs =>
      have e1 := List.cons.inj hfs
      have e2 := List.cons.inj e1.2
      have e3 := List.cons.inj e2.2
      dsimp only at e1 e2 e3
      obtain rfl := e1.1
      obtain rfl := e2.1
      obtain rfl := e3.1
      exact hret x1 y1 t1 b1 x2 y2 t2 b2 x3 y3 t3 b3 vs ns n g' _ _ _ ⟨F5, N5, List.forall_mem_cons.mpr ⟨q1, List.forall_mem_cons.mpr ⟨q2, List.forall_mem_cons.mpr ⟨q3, List.forall_mem_nil _⟩⟩⟩⟩ (fun y h1 => (if_neg h1).trans (ifSame hm1 (ifSame hm0 rfl))) hvs hns S
    | [], hfs => exact absurd (congrArg List.length hfs) (by simp [abc])
    | [_], hfs => exact absurd (congrArg List.length hfs) (by simp [abc])
    | [_, _], hfs => exact absurd (congrArg List.length hfs) (by simp [abc])
    | _ :: _ :: _ :: _ :: _, hfs => exact absurd (congrArg List.length hfs) (by simp [abc])
end
theorem offLawG4 : True := by w_top off; trivial
theorem newsStr {h₀ h : Heap} {L pl : Addr} {vs : List Value} {x y : Str} {t : Tok} {k : Nat} {R : List (Addr × Obj)} (N : News h₀ L h ((pl, listOf (vs ++ [Value.str x t]).toArray k) :: R)) (e : x = y) : News h₀ L h ((pl, listOf (vs ++ [Value.str y t]).toArray k) :: R) := e ▸ N
theorem pushEq {vs : List Value} {v : Value} : vs.toArray.push v = (vs ++ [v]).toArray := by simp
/-- a field and its type -/
structure Fd where
  o : Addr
  d : Addr
  t : Addr
  e : Addr
  nm : Str
  form : Str
  num : Int
  ex : Bool
/-- a field and its type among the objects of R -/
structure FdIn (w : World) (R : List (Addr × Obj)) (q : Fd) : Prop where
  ob : (q.o, instObj 203 q.d) ∈ R
  od : ∃ tk, (q.d, obD w.params tk q.nm "field" q.t q.ex) ∈ R
  tb : (q.t, instObj 182 q.e) ∈ R
  td : ∃ tk size bv len fl pl hl mo lb, (q.e, tyD w.params tk q.num q.form size bv len fl pl hl mo lb) ∈ R
noncomputable def pieceBody : List Stmt := forBody (stmtAt lawBody 24)
theorem eInt : Str.ofString ": INTEGER" = Str.ofString ": " ++ Str.ofString "INTEGER" := by decide +kernel
theorem eChr : Str.ofString ": CHAR" = Str.ofString ": " ++ Str.ofString "CHAR" := by decide +kernel
noncomputable def zOf (f : Str) : Str := if f == Str.ofString "integer" then Str.ofString "INTEGER" else Str.ofString "CHAR"
noncomputable def stOf (b : Bool) : Str := if b then Str.ofString "*" else Str.ofString ""
noncomputable def pieceOf (sep nm : Str) (b last : Bool) (f : Str) : List Str := (sep ++ nm ++ stOf b) :: (if last then [Str.ofString ": " ++ zOf f] else [])
section
variable {prog : Program} {w : World} {A : Around} {E : Value → Shared → Prop} {s : Shared}
theorem itemKk {value slice : Expr} {l : Addr} {v0 v1 v2 : Value} {u : Tok} {x : Value} {k : Int} {Q : Value → Shared → Prop} (hl : s.heap.IsList l #[v0, v1, v2]) (hk : (k = 0 ∧ x = v0) ∨ (k = 1 ∧ x = v1) ∨ (k = 2 ∧ x = v2)) (h : Q x s)
    (hs : subscripted slice false (.ref l) (.int k u) = operate [.ref l, .int k u] (getItem (.ref l) (.int k u)) := by with_unfolding_all rfl) (hg : ∀ r, letTemporaryGo value (.ref l) r = pure () := by intro _; with_unfolding_all rfl) :
    wpAny (model prog w) A (subscriptTail value slice (.ref l) (.int k u)) Q E s := by
  rcases hk with ⟨rfl, rfl⟩ | ⟨rfl, rfl⟩ | ⟨rfl, rfl⟩
  · exact PyProof.Rows.item_list hl (by decide) (by decide) rfl h hs hg
  · exact PyProof.Rows.item_list hl (by decide) (by decide) rfl h hs hg
  · exact PyProof.Rows.item_list hl (by decide) (by decide) rfl h hs hg
end
theorem wd94 : True := by
  (k_with "M.subscriptTail Name Name ref int" => first | (k_dflt (refine itemKk (by exact News.isList (by k_asm) (by k_mem)) (by first | exact .inl ⟨by decide, rfl⟩ | exact .inr (.inl ⟨by decide, rfl⟩) | exact .inr (.inr ⟨by decide, rfl⟩)) ?_; k_whole); (try dsimp only)) | fail)
  trivial
theorem wd95 : True := by
  (k_with "M.subscriptTail Name BinOp ref int" => first | (k_dflt (refine itemKk (by exact News.isList (by k_asm) (by k_mem)) (by first | exact .inl ⟨by decide, rfl⟩ | exact .inr (.inl ⟨by decide, rfl⟩) | exact .inr (.inr ⟨by decide, rfl⟩)) ?_; k_whole); (try dsimp only)) | fail)
  trivial
theorem wd96 : True := by
  (k_with "M.subscriptTail Attribute Name Name ref int" => walk_at "last subscriptTail")
  trivial
theorem wd97 : True := by
  (k_with "M.subscriptTail Attribute Name BinOp ref int" => walk_at "last subscriptTail")
  trivial
section
variable {w : World} {dp un : Nat} {gd : Option (List Code)} {a : Addr} {ccd : Value} {outer : List Env} {A₀ : Around} {base h₀ : Heap} {L : Addr} {m mg mb : Str → Option Value} {mean : ExcName → Option Value} {s : Shared} {Q : Flow → Shared → Prop} {E : Value → Shared → Prop}
theorem pieceA0 {lo dlo fl pl : Addr} {q0 q1 q2 : Fd} {vs : List Value} {n k : Nat} {R : List (Addr × Obj)} {len size num : Int} {ts : Tok} {tkl : Nat → Tok} {pll hll : Addr} {mo lb form : Str} {bv : Value}
    (B : Below A₀ base outer h₀) (X : (hd.heap_39 w.params).In h₀) (T : Top pv Mine.lo mean mg mb h₀) (hdp : dp + 100 < recursionLimit) (hun : un + 2000 < cLine)
    (F : Fr h₀ L s.heap m) (N : News h₀ L s.heap ((pl, listOf vs.toArray k) :: R)) (hoff : ∀ p ∈ R, p.1 ≠ pl) (hm0 : m "loose" = some (.ref lo)) (hm1 : m "pieces" = some (.ref pl)) (hm2 : m "spot" = some (.int 0 ts))
    (hvl : vs.length ≤ 10) (hn0 : q0.nm.length ≤ 10) (hn1 : q1.nm.length ≤ 10) (hn2 : q2.nm.length ≤ 10)
    (l1 : (lo, instObj 182 dlo) ∈ R) (l2 : (dlo, tyD w.params tkl num form size bv len fl pll hll mo lb) ∈ R) (l3 : (fl, listOf #[.ref q0.o, .ref q1.o, .ref q2.o] n) ∈ R) (h0 : FdIn w R q0) (h1 : FdIn w R q1) (h2 : FdIn w R q2)
    (hret : ∀ t k' m' h' tk', Fr h₀ L h' m' → (∀ y : Str, y ≠ Str.ofString "same" → m' y = m y) → News h₀ L h' ((pl, listOf (vs ++ [Value.str (Str.ofString "" ++ q0.nm ++ stOf q0.ex) t]).toArray k') :: R) →
      wpAny (model prg w) (lawAr dp un gd L a ccd outer) (execs (pieceBody.drop 2) (lawEnv L a ccd)) Q E { s with heap := h', toks := tk' }) :
    wpAny (model prg w) (lawAr dp un gd L a ccd outer) (execs (pieceBody.drop 0) (lawEnv L a ccd)) Q E s := by
  unfold lawEnv lawAr
  generalize hZ : lawScope = Z'
  conv at hZ => lhs; whnf
  subst hZ
  conv in (execs _ _) => arg 1; whnf
  replace F := frKnow (a := Str.ofString "spot") (frKnow (a := Str.ofString "pieces") (frKnow (a := Str.ofString "loose") F hm0) hm1) hm2
  obtain ⟨a01, ⟨a02, a03⟩, a04, ⟨a05, a06, a07, a08, a09, a0a, a0b, a0c, a0d, a0e⟩⟩ := h0
  obtain ⟨a11, ⟨a12, a13⟩, a14, ⟨a15, a16, a17, a18, a19, a1a, a1b, a1c, a1d, a1e⟩⟩ := h1
  obtain ⟨a21, ⟨a22, a23⟩, a24, ⟨a25, a26, a27, a28, a29, a2a, a2b, a2c, a2d, a2e⟩⟩ := h2
  have sx := StopExec.mk
  k_steps
  walk_at "F next"
  all_goals walk_at "F next"
  all_goals (
    refine Stop.out ?_
    rename Fr _ _ _ _ => F2
    rename News _ _ _ _ => N2
    rw [pushEq] at N2
    refine hret _ _ _ _ _ F2 (fun y h1 => (if_neg h1).trans (ifSame hm2 (ifSame hm1 (ifSame hm0 rfl)))) (newsStr N2 ?_)
    (first | rw [if_pos (by assumption)] | rw [if_neg (by assumption)] | skip)
    rename Fd.ex _ = _ => hx
    rw [hx]; rfl)
theorem pieceB0 {lo dlo fl pl : Addr} {q0 q1 q2 : Fd} {vs : List Value} {n k : Nat} {R : List (Addr × Obj)} {len size num : Int} {ts : Tok} {tkl : Nat → Tok} {pll hll : Addr} {mo lb form : Str} {bv : Value}
    (B : Below A₀ base outer h₀) (X : (hd.heap_39 w.params).In h₀) (T : Top pv Mine.lo mean mg mb h₀) (hdp : dp + 100 < recursionLimit) (hun : un + 2000 < cLine)
    (F : Fr h₀ L s.heap m) (N : News h₀ L s.heap ((pl, listOf vs.toArray k) :: R)) (hoff : ∀ p ∈ R, p.1 ≠ pl) (hm0 : m "loose" = some (.ref lo)) (hm1 : m "pieces" = some (.ref pl)) (hm2 : m "spot" = some (.int 0 ts))
    (hvl : vs.length ≤ 10) (hn0 : q0.nm.length ≤ 10) (hn1 : q1.nm.length ≤ 10) (hn2 : q2.nm.length ≤ 10)
    (l1 : (lo, instObj 182 dlo) ∈ R) (l2 : (dlo, tyD w.params tkl num form size bv len fl pll hll mo lb) ∈ R) (l3 : (fl, listOf #[.ref q0.o, .ref q1.o, .ref q2.o] n) ∈ R) (h0 : FdIn w R q0) (h1 : FdIn w R q1) (h2 : FdIn w R q2)
    (hret : ∀ xs k' m' h' tk', Fr h₀ L h' m' → (∀ y : Str, y ≠ Str.ofString "last" → m' y = m y) → News h₀ L h' ((pl, listOf (vs ++ xs).toArray k') :: R) → StrsAre xs (if decide (q0.num ≠ q1.num) then [Str.ofString ": " ++ zOf q0.form] else []) → Q .next { s with heap := h', toks := tk' }) :
    wpAny (model prg w) (lawAr dp un gd L a ccd outer) (execs (pieceBody.drop 2) (lawEnv L a ccd)) Q E s := by
  unfold lawEnv lawAr
  generalize hZ : lawScope = Z'
  conv at hZ => lhs; whnf
  subst hZ
  conv in (execs _ _) => arg 1; whnf
  replace F := frKnow (a := Str.ofString "spot") (frKnow (a := Str.ofString "pieces") (frKnow (a := Str.ofString "loose") F hm0) hm1) hm2
  obtain ⟨a01, ⟨a02, a03⟩, a04, ⟨a05, a06, a07, a08, a09, a0a, a0b, a0c, a0d, a0e⟩⟩ := h0
  obtain ⟨a11, ⟨a12, a13⟩, a14, ⟨a15, a16, a17, a18, a19, a1a, a1b, a1c, a1d, a1e⟩⟩ := h1
  obtain ⟨a21, ⟨a22, a23⟩, a24, ⟨a25, a26, a27, a28, a29, a2a, a2b, a2c, a2d, a2e⟩⟩ := h2
  have sx := StopExec.mk
  k_steps
  walk_at "F next"
  walk_at "F next"
  · walk_at "F next"
    all_goals (
      rename Fr _ _ _ _ => F2
      rename News _ _ _ _ => N2
      rw [pushEq] at N2
      refine hret _ _ _ _ _ F2 (fun y h1 => (if_neg h1).trans (ifSame hm2 (ifSame hm1 (ifSame hm0 rfl)))) N2 ?_
      rw [if_pos (decide_eq_true (by assumption))]
      unfold zOf
      rename (Fd.form _ == _) = _ => hz
      rw [hz]
      (first | exact StrsAre.cons _ _ .nil | (rw [if_pos rfl, ← eInt]; exact .cons _ _ .nil) | (rw [if_neg Bool.false_ne_true, ← eChr]; exact .cons _ _ .nil)))
  · rename Fr _ _ _ _ => F2
    rename News _ _ _ _ => N2
    rename Fd.num _ = Fd.num _ => hn
    rw [← List.append_nil vs] at N2
    refine hret _ _ _ _ _ F2 (fun y h1 => (if_neg h1).trans (ifSame hm2 (ifSame hm1 (ifSame hm0 rfl)))) N2 ?_
    rw [if_neg (by simpa using hn)]
    exact .nil
theorem pieceA1 {lo dlo fl pl : Addr} {q0 q1 q2 : Fd} {vs : List Value} {n k : Nat} {R : List (Addr × Obj)} {len size num : Int} {ts : Tok} {tkl : Nat → Tok} {pll hll : Addr} {mo lb form : Str} {bv : Value}
    (B : Below A₀ base outer h₀) (X : (hd.heap_39 w.params).In h₀) (T : Top pv Mine.lo mean mg mb h₀) (hdp : dp + 100 < recursionLimit) (hun : un + 2000 < cLine)
    (F : Fr h₀ L s.heap m) (N : News h₀ L s.heap ((pl, listOf vs.toArray k) :: R)) (hoff : ∀ p ∈ R, p.1 ≠ pl) (hm0 : m "loose" = some (.ref lo)) (hm1 : m "pieces" = some (.ref pl)) (hm2 : m "spot" = some (.int 1 ts))
    (hvl : vs.length ≤ 10) (hn0 : q0.nm.length ≤ 10) (hn1 : q1.nm.length ≤ 10) (hn2 : q2.nm.length ≤ 10)
    (l1 : (lo, instObj 182 dlo) ∈ R) (l2 : (dlo, tyD w.params tkl num form size bv len fl pll hll mo lb) ∈ R) (l3 : (fl, listOf #[.ref q0.o, .ref q1.o, .ref q2.o] n) ∈ R) (h0 : FdIn w R q0) (h1 : FdIn w R q1) (h2 : FdIn w R q2)
    (hret : ∀ t k' m' h' tk', Fr h₀ L h' m' → (∀ y : Str, y ≠ Str.ofString "same" → m' y = m y) → News h₀ L h' ((pl, listOf (vs ++ [Value.str ((if q1.num = q0.num then Str.ofString ", " else Str.ofString "; ") ++ q1.nm ++ stOf q1.ex) t]).toArray k') :: R) →
      wpAny (model prg w) (lawAr dp un gd L a ccd outer) (execs (pieceBody.drop 2) (lawEnv L a ccd)) Q E { s with heap := h', toks := tk' }) :
    wpAny (model prg w) (lawAr dp un gd L a ccd outer) (execs (pieceBody.drop 0) (lawEnv L a ccd)) Q E s := by
  unfold lawEnv lawAr
  generalize hZ : lawScope = Z'
  conv at hZ => lhs; whnf
  subst hZ
  conv in (execs _ _) => arg 1; whnf
  replace F := frKnow (a := Str.ofString "spot") (frKnow (a := Str.ofString "pieces") (frKnow (a := Str.ofString "loose") F hm0) hm1) hm2
  obtain ⟨a01, ⟨a02, a03⟩, a04, ⟨a05, a06, a07, a08, a09, a0a, a0b, a0c, a0d, a0e⟩⟩ := h0
  obtain ⟨a11, ⟨a12, a13⟩, a14, ⟨a15, a16, a17, a18, a19, a1a, a1b, a1c, a1d, a1e⟩⟩ := h1
  obtain ⟨a21, ⟨a22, a23⟩, a24, ⟨a25, a26, a27, a28, a29, a2a, a2b, a2c, a2d, a2e⟩⟩ := h2
  have sx := StopExec.mk
  k_steps
  walk_at "F next"
  all_goals walk_at "F next"
  all_goals (
    refine Stop.out ?_
    rename Fr _ _ _ _ => F2
    rename News _ _ _ _ => N2
    rw [pushEq] at N2
    refine hret _ _ _ _ _ F2 (fun y h1 => (if_neg h1).trans (ifSame hm2 (ifSame hm1 (ifSame hm0 rfl)))) (newsStr N2 ?_)
    (first | rw [if_pos (by assumption)] | rw [if_neg (by assumption)] | skip)
    rename Fd.ex _ = _ => hx
    rw [hx]; rfl)
theorem pieceB1 {lo dlo fl pl : Addr} {q0 q1 q2 : Fd} {vs : List Value} {n k : Nat} {R : List (Addr × Obj)} {len size num : Int} {ts : Tok} {tkl : Nat → Tok} {pll hll : Addr} {mo lb form : Str} {bv : Value}
    (B : Below A₀ base outer h₀) (X : (hd.heap_39 w.params).In h₀) (T : Top pv Mine.lo mean mg mb h₀) (hdp : dp + 100 < recursionLimit) (hun : un + 2000 < cLine)
    (F : Fr h₀ L s.heap m) (N : News h₀ L s.heap ((pl, listOf vs.toArray k) :: R)) (hoff : ∀ p ∈ R, p.1 ≠ pl) (hm0 : m "loose" = some (.ref lo)) (hm1 : m "pieces" = some (.ref pl)) (hm2 : m "spot" = some (.int 1 ts))
    (hvl : vs.length ≤ 10) (hn0 : q0.nm.length ≤ 10) (hn1 : q1.nm.length ≤ 10) (hn2 : q2.nm.length ≤ 10)
    (l1 : (lo, instObj 182 dlo) ∈ R) (l2 : (dlo, tyD w.params tkl num form size bv len fl pll hll mo lb) ∈ R) (l3 : (fl, listOf #[.ref q0.o, .ref q1.o, .ref q2.o] n) ∈ R) (h0 : FdIn w R q0) (h1 : FdIn w R q1) (h2 : FdIn w R q2)
    (hret : ∀ xs k' m' h' tk', Fr h₀ L h' m' → (∀ y : Str, y ≠ Str.ofString "last" → m' y = m y) → News h₀ L h' ((pl, listOf (vs ++ xs).toArray k') :: R) → StrsAre xs (if decide (q1.num ≠ q2.num) then [Str.ofString ": " ++ zOf q1.form] else []) → Q .next { s with heap := h', toks := tk' }) :
    wpAny (model prg w) (lawAr dp un gd L a ccd outer) (execs (pieceBody.drop 2) (lawEnv L a ccd)) Q E s := by
  unfold lawEnv lawAr
  generalize hZ : lawScope = Z'
  conv at hZ => lhs; whnf
  subst hZ
  conv in (execs _ _) => arg 1; whnf
  replace F := frKnow (a := Str.ofString "spot") (frKnow (a := Str.ofString "pieces") (frKnow (a := Str.ofString "loose") F hm0) hm1) hm2
  obtain ⟨a01, ⟨a02, a03⟩, a04, ⟨a05, a06, a07, a08, a09, a0a, a0b, a0c, a0d, a0e⟩⟩ := h0
  obtain ⟨a11, ⟨a12, a13⟩, a14, ⟨a15, a16, a17, a18, a19, a1a, a1b, a1c, a1d, a1e⟩⟩ := h1
  obtain ⟨a21, ⟨a22, a23⟩, a24, ⟨a25, a26, a27, a28, a29, a2a, a2b, a2c, a2d, a2e⟩⟩ := h2
  have sx := StopExec.mk
  k_steps
  walk_at "F next"
  walk_at "F next"
  · walk_at "F next"
    all_goals (
      rename Fr _ _ _ _ => F2
      rename News _ _ _ _ => N2
      rw [pushEq] at N2
      refine hret _ _ _ _ _ F2 (fun y h1 => (if_neg h1).trans (ifSame hm2 (ifSame hm1 (ifSame hm0 rfl)))) N2 ?_
      rw [if_pos (decide_eq_true (by assumption))]
      unfold zOf
      rename (Fd.form _ == _) = _ => hz
      rw [hz]
      (first | exact StrsAre.cons _ _ .nil | (rw [if_pos rfl, ← eInt]; exact .cons _ _ .nil) | (rw [if_neg Bool.false_ne_true, ← eChr]; exact .cons _ _ .nil)))
  · rename Fr _ _ _ _ => F2
    rename News _ _ _ _ => N2
    rename Fd.num _ = Fd.num _ => hn
    rw [← List.append_nil vs] at N2
    refine hret _ _ _ _ _ F2 (fun y h1 => (if_neg h1).trans (ifSame hm2 (ifSame hm1 (ifSame hm0 rfl)))) N2 ?_
    rw [if_neg (by simpa using hn)]
    exact .nil
theorem pieceA2 {lo dlo fl pl : Addr} {q0 q1 q2 : Fd} {vs : List Value} {n k : Nat} {R : List (Addr × Obj)} {len size num : Int} {ts : Tok} {tkl : Nat → Tok} {pll hll : Addr} {mo lb form : Str} {bv : Value}
    (B : Below A₀ base outer h₀) (X : (hd.heap_39 w.params).In h₀) (T : Top pv Mine.lo mean mg mb h₀) (hdp : dp + 100 < recursionLimit) (hun : un + 2000 < cLine)
    (F : Fr h₀ L s.heap m) (N : News h₀ L s.heap ((pl, listOf vs.toArray k) :: R)) (hoff : ∀ p ∈ R, p.1 ≠ pl) (hm0 : m "loose" = some (.ref lo)) (hm1 : m "pieces" = some (.ref pl)) (hm2 : m "spot" = some (.int 2 ts))
    (hvl : vs.length ≤ 10) (hn0 : q0.nm.length ≤ 10) (hn1 : q1.nm.length ≤ 10) (hn2 : q2.nm.length ≤ 10)
    (l1 : (lo, instObj 182 dlo) ∈ R) (l2 : (dlo, tyD w.params tkl num form size bv len fl pll hll mo lb) ∈ R) (l3 : (fl, listOf #[.ref q0.o, .ref q1.o, .ref q2.o] n) ∈ R) (h0 : FdIn w R q0) (h1 : FdIn w R q1) (h2 : FdIn w R q2)
    (hret : ∀ t k' m' h' tk', Fr h₀ L h' m' → (∀ y : Str, y ≠ Str.ofString "same" → m' y = m y) → News h₀ L h' ((pl, listOf (vs ++ [Value.str ((if q2.num = q1.num then Str.ofString ", " else Str.ofString "; ") ++ q2.nm ++ stOf q2.ex) t]).toArray k') :: R) →
      wpAny (model prg w) (lawAr dp un gd L a ccd outer) (execs (pieceBody.drop 2) (lawEnv L a ccd)) Q E { s with heap := h', toks := tk' }) :
    wpAny (model prg w) (lawAr dp un gd L a ccd outer) (execs (pieceBody.drop 0) (lawEnv L a ccd)) Q E s := by
  unfold lawEnv lawAr
  generalize hZ : lawScope = Z'
  conv at hZ => lhs; whnf
  subst hZ
  conv in (execs _ _) => arg 1; whnf
  replace F := frKnow (a := Str.ofString "spot") (frKnow (a := Str.ofString "pieces") (frKnow (a := Str.ofString "loose") F hm0) hm1) hm2
  obtain ⟨a01, ⟨a02, a03⟩, a04, ⟨a05, a06, a07, a08, a09, a0a, a0b, a0c, a0d, a0e⟩⟩ := h0
  obtain ⟨a11, ⟨a12, a13⟩, a14, ⟨a15, a16, a17, a18, a19, a1a, a1b, a1c, a1d, a1e⟩⟩ := h1
  obtain ⟨a21, ⟨a22, a23⟩, a24, ⟨a25, a26, a27, a28, a29, a2a, a2b, a2c, a2d, a2e⟩⟩ := h2
  have sx := StopExec.mk
  k_steps
  walk_at "F next"
  all_goals walk_at "F next"
  all_goals (
    refine Stop.out ?_
    rename Fr _ _ _ _ => F2
    rename News _ _ _ _ => N2
    rw [pushEq] at N2
    refine hret _ _ _ _ _ F2 (fun y h1 => (if_neg h1).trans (ifSame hm2 (ifSame hm1 (ifSame hm0 rfl)))) (newsStr N2 ?_)
    (first | rw [if_pos (by assumption)] | rw [if_neg (by assumption)] | skip)
    rename Fd.ex _ = _ => hx
    rw [hx]; rfl)
theorem pieceB2 {lo dlo fl pl : Addr} {q0 q1 q2 : Fd} {vs : List Value} {n k : Nat} {R : List (Addr × Obj)} {len size num : Int} {ts : Tok} {tkl : Nat → Tok} {pll hll : Addr} {mo lb form : Str} {bv : Value}
    (B : Below A₀ base outer h₀) (X : (hd.heap_39 w.params).In h₀) (T : Top pv Mine.lo mean mg mb h₀) (hdp : dp + 100 < recursionLimit) (hun : un + 2000 < cLine)
    (F : Fr h₀ L s.heap m) (N : News h₀ L s.heap ((pl, listOf vs.toArray k) :: R)) (hoff : ∀ p ∈ R, p.1 ≠ pl) (hm0 : m "loose" = some (.ref lo)) (hm1 : m "pieces" = some (.ref pl)) (hm2 : m "spot" = some (.int 2 ts))
    (hvl : vs.length ≤ 10) (hn0 : q0.nm.length ≤ 10) (hn1 : q1.nm.length ≤ 10) (hn2 : q2.nm.length ≤ 10)
    (l1 : (lo, instObj 182 dlo) ∈ R) (l2 : (dlo, tyD w.params tkl num form size bv len fl pll hll mo lb) ∈ R) (l3 : (fl, listOf #[.ref q0.o, .ref q1.o, .ref q2.o] n) ∈ R) (h0 : FdIn w R q0) (h1 : FdIn w R q1) (h2 : FdIn w R q2)
    (hret : ∀ xs k' m' h' tk', Fr h₀ L h' m' → (∀ y : Str, y ≠ Str.ofString "last" → m' y = m y) → News h₀ L h' ((pl, listOf (vs ++ xs).toArray k') :: R) → StrsAre xs (if true then [Str.ofString ": " ++ zOf q2.form] else []) → Q .next { s with heap := h', toks := tk' }) :
    wpAny (model prg w) (lawAr dp un gd L a ccd outer) (execs (pieceBody.drop 2) (lawEnv L a ccd)) Q E s := by
  unfold lawEnv lawAr
  generalize hZ : lawScope = Z'
  conv at hZ => lhs; whnf
  subst hZ
  conv in (execs _ _) => arg 1; whnf
  replace F := frKnow (a := Str.ofString "spot") (frKnow (a := Str.ofString "pieces") (frKnow (a := Str.ofString "loose") F hm0) hm1) hm2
  obtain ⟨a01, ⟨a02, a03⟩, a04, ⟨a05, a06, a07, a08, a09, a0a, a0b, a0c, a0d, a0e⟩⟩ := h0
  obtain ⟨a11, ⟨a12, a13⟩, a14, ⟨a15, a16, a17, a18, a19, a1a, a1b, a1c, a1d, a1e⟩⟩ := h1
  obtain ⟨a21, ⟨a22, a23⟩, a24, ⟨a25, a26, a27, a28, a29, a2a, a2b, a2c, a2d, a2e⟩⟩ := h2
  have sx := StopExec.mk
  k_steps
  walk_at "F next"
  walk_at "F next"
  walk_at "F next"
  all_goals (
    rename Fr _ _ _ _ => F2
    rename News _ _ _ _ => N2
    rw [pushEq] at N2
    refine hret _ _ _ _ _ F2 (fun y h1 => (if_neg h1).trans (ifSame hm2 (ifSame hm1 (ifSame hm0 rfl)))) N2 ?_
    rw [if_pos rfl]
    unfold zOf
    rename (Fd.form _ == _) = _ => hz
    rw [hz]
    (first | exact StrsAre.cons _ _ .nil | (rw [if_pos rfl, ← eInt]; exact .cons _ _ .nil) | (rw [if_neg Bool.false_ne_true, ← eChr]; exact .cons _ _ .nil)))
end
theorem offLawG5 : True := by w_top off; trivial
noncomputable def pc0 (q0 q1 : Fd) : List Str := (Str.ofString "" ++ q0.nm ++ stOf q0.ex) :: (if decide (q0.num ≠ q1.num) then [Str.ofString ": " ++ zOf q0.form] else [])
noncomputable def pc1 (q0 q1 q2 : Fd) : List Str := ((if q1.num = q0.num then Str.ofString ", " else Str.ofString "; ") ++ q1.nm ++ stOf q1.ex) :: (if decide (q1.num ≠ q2.num) then [Str.ofString ": " ++ zOf q1.form] else [])
noncomputable def pc2 (q1 q2 : Fd) : List Str := ((if q2.num = q1.num then Str.ofString ", " else Str.ofString "; ") ++ q2.nm ++ stOf q2.ex) :: [Str.ofString ": " ++ zOf q2.form]
noncomputable def pcs (q0 q1 q2 : Fd) : Nat → List Str
  | 0 => []
  | 1 => [] ++ pc0 q0 q1
  | 2 => [] ++ pc0 q0 q1 ++ pc1 q0 q1 q2
  | _ => [] ++ pc0 q0 q1 ++ pc1 q0 q1 q2 ++ pc2 q1 q2
theorem strsTwo {vs xs : List Value} {x : Str} {t : Tok} {ps ys : List Str} (h : StrsAre vs ps) (k : StrsAre xs ys) : StrsAre (vs ++ [Value.str x t] ++ xs) (ps ++ x :: ys) := by
  have := StrsAre.append' (StrsAre.append' h (.cons x t .nil)) k
  simpa using this
theorem strsLen : ∀ {vs : List Value} {ps : List Str}, StrsAre vs ps → vs.length = ps.length
  | _, _, .nil => rfl
  | _, _, .cons _ _ h => congrArg (· + 1) (strsLen h)
theorem FdIn.tail {w : World} {R : List (Addr × Obj)} {q : Fd} (p : Addr × Obj) (h : FdIn w R q) : FdIn w (p :: R) q :=
  ⟨.tail _ h.ob, h.od.imp fun _ x => .tail _ x, .tail _ h.tb, by obtain ⟨a, b, c, d, e, f, g, i, j, x⟩ := h.td; exact ⟨a, b, c, d, e, f, g, i, j, .tail _ x⟩⟩
theorem if1Len {b : Bool} {x : Str} : (if b = true then [x] else []).length ≤ 1 := by cases b <;> simp
theorem pcs_len {q0 q1 q2 : Fd} : ∀ i, (pcs q0 q1 q2 i).length ≤ 6
  | 0 => by simp [pcs]
  | 1 => by have h1 := @if1Len (decide (q0.num ≠ q1.num)) (Str.ofString ": " ++ zOf q0.form); simp only [pcs, pc0, List.nil_append, List.length_cons]; omega
  | 2 => by
    have h1 := @if1Len (decide (q0.num ≠ q1.num)) (Str.ofString ": " ++ zOf q0.form)
    have h2 := @if1Len (decide (q1.num ≠ q2.num)) (Str.ofString ": " ++ zOf q1.form)
    simp only [pcs, pc0, pc1, List.nil_append, List.length_cons, List.length_append]; omega
  | _ + 3 => by
    have h1 := @if1Len (decide (q0.num ≠ q1.num)) (Str.ofString ": " ++ zOf q0.form)
    have h2 := @if1Len (decide (q1.num ≠ q2.num)) (Str.ofString ": " ++ zOf q1.form)
    simp only [pcs, pc0, pc1, pc2, List.nil_append, List.length_cons, List.length_nil, List.length_append]; omega
section
variable {w : World} {dp un : Nat} {gd : Option (List Code)} {a : Addr} {ccd : Value} {outer : List Env} {A₀ : Around} {base h₀ : Heap} {L : Addr} {m mg mb : Str → Option Value} {mean : ExcName → Option Value} {s : Shared} {Q : Flow → Shared → Prop} {E : Value → Shared → Prop}
theorem law8c {lo dlo fl : Addr} {q0 q1 q2 : Fd} {n : Nat} {g : Heap} {Ex : List (Addr × Obj)} {len size num : Int} {tkl : Nat → Tok} {pll hll : Addr} {mo lb form : Str} {bv : Value}
    (B : Below A₀ base outer h₀) (X : (hd.heap_39 w.params).In h₀) (T : Top pv Mine.lo mean mg mb h₀) (hdp : dp + 100 < recursionLimit) (hun : un + 2000 < cLine)
    (G : GS h₀ L s.heap m Ex g) (hm0 : m "loose" = some (.ref lo)) (hn0 : q0.nm.length ≤ 10) (hn1 : q1.nm.length ≤ 10) (hn2 : q2.nm.length ≤ 10)
    (l1 : g.get? lo = some (instObj 182 dlo)) (l2 : g.get? dlo = some (tyD w.params tkl num form size bv len fl pll hll mo lb)) (l3 : g.get? fl = some (listOf #[.ref q0.o, .ref q1.o, .ref q2.o] n))
    (h0 : FdIn w (entries g) q0) (h1 : FdIn w (entries g) q1) (h2 : FdIn w (entries g) q2)
    (hE : PassesOwn (model prg w) (lawAr dp un gd L a ccd outer) (lawEnv L a ccd) E)
    (hret : ∀ pl vs k m' g' h' tk', GS h₀ L h' m' Ex g' → (∀ y : Str, y ≠ Str.ofString "pieces" → y ≠ Str.ofString "spot" → y ≠ Str.ofString "same" → y ≠ Str.ofString "last" → m' y = m y) → m' "pieces" = some (.ref pl) → Kept [] g g' → g'.get? pl = some (listOf vs.toArray k) → StrsAre vs (pcs q0 q1 q2 3) →
      wpAny (model prg w) (lawAr dp un gd L a ccd outer) (execs (lawBody.drop 25) (lawEnv L a ccd)) Q E { s with heap := h', toks := tk' }) :
    wpAny (model prg w) (lawAr dp un gd L a ccd outer) (execs (lawBody.drop 23) (lawEnv L a ccd)) Q E s := by
  unfold lawEnv lawAr at hE ⊢
  generalize hZ : lawScope = Z' at hE ⊢
  conv at hZ => lhs; whnf
  subst hZ
  conv in (execs _ _) => arg 1; whnf
  have F := frKnow (a := Str.ofString "loose") G.fr hm0
  have N := G.nw
  have m1 := List.mem_append_right Ex (mem_entries.mpr l1)
  have m2 := List.mem_append_right Ex (mem_entries.mpr l2)
  have m3 := List.mem_append_right Ex (mem_entries.mpr l3)
  have mg : ∀ b o, g.get? b = some o → (b, o) ∈ Ex ++ entries g := fun b o e => List.mem_append_right Ex (mem_entries.mpr e)
  have e0 : ∀ {q}, FdIn w (entries g) q → FdIn w (Ex ++ entries g) q := fun h => ⟨List.mem_append_right _ h.ob, h.od.imp fun _ x => List.mem_append_right _ x, List.mem_append_right _ h.tb, by obtain ⟨a, b, c, d, e, f, g, i, j, x⟩ := h.td; exact ⟨a, b, c, d, e, f, g, i, j, List.mem_append_right _ x⟩⟩
  have k0 := e0 h0
  have k1 := e0 h1
  have k2 := e0 h2
  have hoff := G.off
  clear e0
  generalize hR : Ex ++ entries g = R at N m1 m2 m3 k0 k1 k2
  have sx := StopIter.mk
  k_steps
  refine Stop.out ?_
  (repeat (rename StopIter => q9; clear q9))
  rename Fr _ _ _ _ => F2
  rename News _ _ _ _ => N2
  rename IsRange _ _ _ _ _ _ _ _ => hrg
  obtain ⟨pl, e⟩ := nmA N2
  subst e
  have hpl : ∀ p ∈ R, p.1 ≠ pl := fun p hp => Nat.ne_of_lt ((by assumption : ∀ p ∈ R, p.1 < pl) p hp)
  refine iter_range (prog := prg) (w := w) (n := 3) [Str.ofString "same", Str.ofString "last"]
    (fun i _ nx => ∃ vs k, nx = (pl, listOf vs.toArray k) :: R ∧ StrsAre vs (pcs q0 q1 q2 i)) 1 rfl hrg (rsm (by omega) (.inl rfl)) (rsz (by omega)) F2 N2 ⟨[], _, rfl, .nil⟩ ?_ ?_
  · clear F2 N2
    rintro i t u nx I it h tk hi ⟨vs, k, rfl, hvs⟩ hne hlt F5 N5
    have N6 := newsSwap N5
    have hI : ∀ p ∈ (I, it) :: R, p.1 ≠ pl := List.forall_mem_cons.mpr ⟨Ne.symm (hne (pl, listOf vs.toArray k) (.head _)), hpl⟩
    have hplI : pl ≠ I := hne (pl, listOf vs.toArray k) (.head _)
    have hl := strsLen hvs
    have hl2 := @pcs_len q0 q1 q2 i
    have hi3 : i = 0 ∨ i = 1 ∨ i = 2 := by omega
    rcases hi3 with rfl | rfl | rfl
    · refine pieceA0 (dp := dp) (q0 := q0) (q1 := q1) (q2 := q2) B X T hdp hun F5 N6 hI (by rfl) (by rfl) (by rfl) (by omega) hn0 hn1 hn2 (.tail _ m1) (.tail _ m2) (.tail _ m3) (k0.tail _) (k1.tail _) (k2.tail _) ?_
      intro t1 kk m7 h7 tk7 F7 hm7 N7
      refine pieceB0 (dp := dp) (q0 := q0) (q1 := q1) (q2 := q2) B X T hdp hun F7 N7 hI ((hm7 _ (by decide)).trans (by rfl)) ((hm7 _ (by decide)).trans (by rfl)) ((hm7 _ (by decide)).trans (by rfl)) (by simp only [List.length_append, List.length_cons, List.length_nil]; omega) hn0 hn1 hn2 (.tail _ m1) (.tail _ m2) (.tail _ m3) (k0.tail _) (k1.tail _) (k2.tail _) ?_
      intro xs k8 m8 h8 tk8 F8 hm8 N8 hxs
      refine TEnd.intro F8 (newsSwap N8) (List.forall_mem_cons.mpr ⟨hplI, fun p hp => hne p (.tail _ hp)⟩) ⟨fun y h1 h2 => ?_, _, k8, rfl, strsTwo hvs hxs⟩
      exact (hm8 y (fun e => by subst e; exact absurd h2 (by decide))).trans ((hm7 y (fun e => by subst e; exact absurd h2 (by decide))).trans ((if_neg h1).trans (if_neg (by rw [h2]; decide))))
    · refine pieceA1 (dp := dp) (q0 := q0) (q1 := q1) (q2 := q2) B X T hdp hun F5 N6 hI (by rfl) (by rfl) (by rfl) (by omega) hn0 hn1 hn2 (.tail _ m1) (.tail _ m2) (.tail _ m3) (k0.tail _) (k1.tail _) (k2.tail _) ?_
      intro t1 kk m7 h7 tk7 F7 hm7 N7
      refine pieceB1 (dp := dp) (q0 := q0) (q1 := q1) (q2 := q2) B X T hdp hun F7 N7 hI ((hm7 _ (by decide)).trans (by rfl)) ((hm7 _ (by decide)).trans (by rfl)) ((hm7 _ (by decide)).trans (by rfl)) (by simp only [List.length_append, List.length_cons, List.length_nil]; omega) hn0 hn1 hn2 (.tail _ m1) (.tail _ m2) (.tail _ m3) (k0.tail _) (k1.tail _) (k2.tail _) ?_
      intro xs k8 m8 h8 tk8 F8 hm8 N8 hxs
      refine TEnd.intro F8 (newsSwap N8) (List.forall_mem_cons.mpr ⟨hplI, fun p hp => hne p (.tail _ hp)⟩) ⟨fun y h1 h2 => ?_, _, k8, rfl, strsTwo hvs hxs⟩
      exact (hm8 y (fun e => by subst e; exact absurd h2 (by decide))).trans ((hm7 y (fun e => by subst e; exact absurd h2 (by decide))).trans ((if_neg h1).trans (if_neg (by rw [h2]; decide))))
    · refine pieceA2 (dp := dp) (q0 := q0) (q1 := q1) (q2 := q2) B X T hdp hun F5 N6 hI (by rfl) (by rfl) (by rfl) (by omega) hn0 hn1 hn2 (.tail _ m1) (.tail _ m2) (.tail _ m3) (k0.tail _) (k1.tail _) (k2.tail _) ?_
      intro t1 kk m7 h7 tk7 F7 hm7 N7
      refine pieceB2 (dp := dp) (q0 := q0) (q1 := q1) (q2 := q2) B X T hdp hun F7 N7 hI ((hm7 _ (by decide)).trans (by rfl)) ((hm7 _ (by decide)).trans (by rfl)) ((hm7 _ (by decide)).trans (by rfl)) (by simp only [List.length_append, List.length_cons, List.length_nil]; omega) hn0 hn1 hn2 (.tail _ m1) (.tail _ m2) (.tail _ m3) (k0.tail _) (k1.tail _) (k2.tail _) ?_
      intro xs k8 m8 h8 tk8 F8 hm8 N8 hxs
      refine TEnd.intro F8 (newsSwap N8) (List.forall_mem_cons.mpr ⟨hplI, fun p hp => hne p (.tail _ hp)⟩) ⟨fun y h1 h2 => ?_, _, k8, rfl, strsTwo hvs hxs⟩
      exact (hm8 y (fun e => by subst e; exact absurd h2 (by decide))).trans ((hm7 y (fun e => by subst e; exact absurd h2 (by decide))).trans ((if_neg h1).trans (if_neg (by rw [h2]; decide))))
  · clear F2 N2
    rintro u nx h tk ⟨vs, k, rfl, hvs⟩ F5 N5
    dsimp only
    subst hR
    obtain ⟨g2, G2, K2, hg⟩ := absorb (E' := (pl, _) :: Ex) F5 Ex N5 (fun p hp => List.mem_cons_of_mem _ hp) hoff
    exact hret pl vs k _ g2 _ _ G2 (fun y h1 h2 h3 h4 => (if_neg h2).trans ((if_neg (by simp [h3, h4])).trans ((if_neg h1).trans (ifSame hm0 rfl)))) (by rfl) K2 (hg (pl, _) (.head _) (fun q hq => hpl q (List.mem_append_left _ hq))) hvs
end
theorem offLawG6 : True := by w_top off; trivial
section
variable {w : World} {dp un : Nat} {gd : Option (List Code)} {cn : Str} {cs : Scope} {a : Addr} {ccd : Value} {cl : List (Str × Addr)} {outer : List Env} {A₀ : Around} {base h₀ : Heap} {L : Addr} {m mg mb : Str → Option Value} {mean : ExcName → Option Value} {s : Shared} {Q E : Value → Shared → Prop}
theorem strRec3_k {na nd aa sa ra ta td flT plT hlT : Addr} {nk tk : Nat → Tok} {scs : List (Addr × List (Str × Int))} {al : List (Str × Str)} {num size len : Int} {mo lb : Str} {f1 f2 f3 : Fld}
    (B : Below A₀ base outer h₀) (F : Fr h₀ L s.heap m) (X : (hd.heap_39 w.params).In h₀) (T : Top pv lo mean mg mb h₀) (hk : cs.kind = .function) (hdp : dp + 80 < recursionLimit) (hun : un + 1600 < cLine)
    {news : List (Addr × Obj)} (N₀ : News h₀ L s.heap news) (hM : NmAt w s.heap na nd aa sa ra nk scs al) (hL : s.heap.IsList flT #[.ref f1.o, .ref f2.o, .ref f3.o])
    (hT : InstAt s.heap ta (instObj 182 td) 182 (some (tyD w.params tk num "record" size .none len flT plT hlT mo lb))) (H1 : FldAt w s.heap f1) (H2 : FldAt w s.heap f2) (H3 : FldAt w s.heap f3)
    (hret : ∀ t h' tk', Kept [] s.heap h' → Fr h₀ L h' m → News h₀ L h' news → Q (.str (recT f1.num f2.num f3.num f1.x f2.x f3.x f1.z f2.z f3.z f1.b f2.b f3.b) t) { s with heap := h', toks := tk' }) :
    wpAny (model prg w) (ktrTop dp un gd cn cs L a ccd cl outer) (call (.ref 134) [.ref na, .ref ta]) Q E s := by
  have N : News h₀ L s.heap [] := News.nil
  refine wpAny_call ?_
  walk_at "F enterC"
  rename Kept _ s.heap _ => KG
  have hT' := instKept KG hT (fun q => nomatch q) (fun q => nomatch q)
  have hM' := hM.keep KG
  have hI' := hM'.inst
  have hL' := KG.list hL (fun q => nomatch q)
  have sc := StopGrp.mk
  k_steps
  rename Fr _ _ _ _ => F2
  rename News _ _ _ _ => N2
  refine recText3_f (dp := dp + 1) (n := 3) (by k_asm) F2 (by k_asm) (by k_asm) (by first | exact rfl | assumption) (by ktr_room) (by ktr_units) N2 (fun p hp => by rw [List.mem_singleton.mp hp]; exact N2 _ (.head _)) hM' hT' (H1.keep KG) (H2.keep KG) (H3.keep KG) ?_
  intro t h' tk' K3 F3 N3
  clear F2 N2
  k_steps
  rename Kept _ s.heap (Shared.heap _) => hK
  exact hret _ _ _ hK (hK.fr0 F) (hK.news0 N₀)
theorem ttRec3_k {na nd aa sa ra ta td flT plT hlT : Addr} {nk tk : Nat → Tok} {scs : List (Addr × List (Str × Int))} {al : List (Str × Str)} {num size len : Int} {mo lb : Str} {f1 f2 f3 : Fld}
    (B : Below A₀ base outer h₀) (F : Fr h₀ L s.heap m) (X : (hd.heap_39 w.params).In h₀) (T : Top pv lo mean mg mb h₀) (hk : cs.kind = .function) (hdp : dp + 100 < recursionLimit) (hun : un + 2000 < cLine)
    {news : List (Addr × Obj)} (N₀ : News h₀ L s.heap news) (hM : NmAt w s.heap na nd aa sa ra nk scs al) (hL : s.heap.IsList flT #[.ref f1.o, .ref f2.o, .ref f3.o])
    (hT : InstAt s.heap ta (instObj 182 td) 182 (some (tyD w.params tk num "record" size .none len flT plT hlT mo lb))) (H1 : FldAt w s.heap f1) (H2 : FldAt w s.heap f2) (H3 : FldAt w s.heap f3)
    (hlb : lb.length ≤ 50) (hmo : mo.length ≤ 50) (hnone : nameOf (scs.map (·.2)) al num mo lb = none)
    (hret : ∀ t h' tk', Kept [] s.heap h' → Fr h₀ L h' m → News h₀ L h' news → Q (.str (recT f1.num f2.num f3.num f1.x f2.x f3.x f1.z f2.z f3.z f1.b f2.b f3.b) t) { s with heap := h', toks := tk' }) :
    wpAny (model prg w) (ktrTop dp un gd cn cs L a ccd cl outer) (call (.ref 129) [.ref na, .ref ta]) Q E s := by
  have N : News h₀ L s.heap [] := News.nil
  refine wpAny_call ?_
  walk_at "F enter"
  rename Kept _ s.heap _ => KG
  have hT' := instKept KG hT (fun q => nomatch q) (fun q => nomatch q)
  have hM' := hM.keep KG
  have hI' := hM'.inst
  have hL' := KG.list hL (fun q => nomatch q)
  have hf : (PySem.Spec.lookup (.str "record") basicD).isSome = false := by decide
  k_steps
  rename Fr _ _ _ _ => F2
  rename News _ _ _ _ => N2
  have up : ∀ {f}, FldAt w s.heap f → FldAt w _ f := fun H => (H.keep KG).keep fun b o e _ => F2.keep b o e
  refine strRec3_k (dp := dp + 1) (by k_asm) F2 (by k_asm) (by k_asm) (by first | exact rfl | assumption) (by ktr_room) (by ktr_units) N2 (hM'.up F2) (listUp hL' F2) (instUp hT' F2) (up H1) (up H2) (up H3) ?_
  intro t h' tk' K3 F3 N3
  clear F2 N2
  k_steps
  rename Kept _ s.heap (Shared.heap _) => hK
  exact hret _ _ _ hK (hK.fr0 F) (hK.news0 N₀)
end
theorem offLawG7 : True := by w_top off; trivial
theorem stOf_eq (b : Bool) : Str.ofString (if b = true then "*" else "") = stOf b := by cases b <;> rfl
theorem eEmp : Str.ofString "" = Str.empty := by decide +kernel
theorem eRec : Str.ofString "RECORD " = Str.ofString "RECORD" ++ Str.ofString " " := by decide +kernel
theorem text_eq {q0 q1 q2 : Fd} (h01 : q0.num = q1.num → q0.form = q1.form) (h12 : q1.num = q2.num → q1.form = q2.form) :
    recT q0.num q1.num q2.num q0.nm q1.nm q2.nm (zOf q0.form) (zOf q1.form) (zOf q2.form) q0.ex q1.ex q2.ex = Str.ofString "RECORD " ++ Str.join (Str.ofString "") (pcs q0 q1 q2 3) ++ Str.ofString " END" := by
  unfold recT rowsT
  simp only [mkd, stOf_eq, pcs, pc0, pc1, pc2, List.nil_append]
  by_cases a : q0.num = q1.num
  · by_cases b : q1.num = q2.num
    · rw [h01 a, h12 b]
      simp [a, b, Str.join, Str.append_assoc, eEmp, Str.empty_append, eRec]
    · rw [h01 a]
      have b' : ¬ q2.num = q1.num := fun e => b e.symm
      simp [a, b, b', Str.join, Str.append_assoc, eEmp, Str.empty_append, eRec]
  · have a' : ¬ q1.num = q0.num := fun e => a e.symm
    by_cases b : q1.num = q2.num
    · rw [h12 b]
      have a2 : ¬ q2.num = q0.num := fun e => a' (b.trans e)
      have a3 : ¬ q0.num = q2.num := fun e => a2 e.symm
      simp [a, a', a2, a3, b, Str.join, Str.append_assoc, eEmp, Str.empty_append, eRec]
    · have b' : ¬ q2.num = q1.num := fun e => b e.symm
      simp [a, a', b, b', Str.join, Str.append_assoc, eEmp, Str.empty_append, eRec]
theorem sumLe : ∀ {l : List Str}, (∀ y ∈ l, y.length ≤ 20) → (l.map (·.length)).sum ≤ 20 * l.length
  | [], _ => Nat.le_refl _
  | x :: r, h => by
    have h1 := h x (.head _)
    have h2 := sumLe (l := r) fun y hy => h y (.tail _ hy)
    simp only [List.map_cons, List.sum_cons, List.length_cons]
    omega
theorem joinLen : ∀ l : List Str, (Str.join (Str.ofString "") l).length ≤ (l.map (·.length)).sum
  | [] => by show Str.empty.length ≤ 0; decide
  | [x] => by show x.length ≤ _; simp
  | x :: y :: r => by
    have h := joinLen (y :: r)
    show (x ++ Str.ofString "" ++ Str.join (Str.ofString "") (y :: r)).length ≤ _
    rw [Str.length_append, Str.length_append, List.map_cons, List.sum_cons]
    have e : (Str.ofString "").length = 0 := by decide
    omega
theorem zOf_len (f : Str) : (Str.ofString ": " ++ zOf f).length ≤ 20 := by
  rw [Str.length_append]
  have e : (Str.ofString ": ").length = 2 := by decide
  unfold zOf
  split
  · have : (Str.ofString "INTEGER").length = 7 := by decide
    omega
  · have : (Str.ofString "CHAR").length = 4 := by decide
    omega
theorem pcLen {sep nm : Str} {b : Bool} (h : sep.length ≤ 2) (hn : nm.length ≤ 10) : (sep ++ nm ++ stOf b).length ≤ 20 := by
  rw [Str.length_append, Str.length_append]
  have : (stOf b).length ≤ 1 := by cases b <;> decide
  omega
theorem pcs_le {q0 q1 q2 : Fd} (hn0 : q0.nm.length ≤ 10) (hn1 : q1.nm.length ≤ 10) (hn2 : q2.nm.length ≤ 10) : ∀ y ∈ pcs q0 q1 q2 3, y.length ≤ 20 := fun y hy => by
    have s1 : (Str.ofString "").length ≤ 2 := by decide
    have s2 : ∀ {c : Prop} [Decidable c], (if c then Str.ofString ", " else Str.ofString "; ").length ≤ 2 := by intro c _; split <;> decide
    have s3 : ∀ {b : Bool} {f : Str}, y ∈ (if b = true then [Str.ofString ": " ++ zOf f] else []) → y.length ≤ 20 := by
      intro b f h
      split at h
      · rw [List.mem_singleton.mp h]; exact zOf_len _
      · cases h
    simp only [pcs, pc0, pc1, pc2, List.nil_append, List.mem_append, List.mem_cons, List.not_mem_nil, or_false] at hy
    rcases hy with ((rfl | hy) | rfl | hy) | rfl | rfl
    · exact pcLen s1 hn0
    · exact s3 hy
    · exact pcLen s2 hn1
    · exact s3 hy
    · exact pcLen s2 hn2
    · exact zOf_len _
theorem pcs_sum {q0 q1 q2 : Fd} (hn0 : q0.nm.length ≤ 10) (hn1 : q1.nm.length ≤ 10) (hn2 : q2.nm.length ≤ 10) : ((pcs q0 q1 q2 3).map (·.length)).sum + (pcs q0 q1 q2 3).length ≤ 1048576 := by
  have h := sumLe (pcs_le hn0 hn1 hn2)
  have := @pcs_len q0 q1 q2 3
  omega
section
variable {w : World} {dp un : Nat} {gd : Option (List Code)} {a : Addr} {ccd : Value} {outer : List Env} {A₀ : Around} {base h₀ : Heap} {L : Addr} {m mg mb : Str → Option Value} {mean : ExcName → Option Value} {s : Shared} {Q : Flow → Shared → Prop} {E : Value → Shared → Prop}
theorem law8d {na nd aa sa ra lo dlo fl pl pll hll : Addr} {nk tkl k0 k1 k2 j0 j1 j2 : Nat → Tok} {scs : List (Addr × List (Str × Int))} {al : List (Str × Str)} {q0 q1 q2 : Fd} {n k : Nat} {vs : List Value} {g : Heap} {Ex : List (Addr × Obj)} {len size num : Int} {mo lb : Str}
    {s0 s1 s2 e0 e1 e2 : Int} {v0 v1 v2 : Value} {f0 f1 f2 p0 p1 p2 r0 r1 r2 : Addr} {m0 m1 m2 y0 y1 y2 : Str}
    (B : Below A₀ base outer h₀) (X : (hd.heap_39 w.params).In h₀) (T : Top pv Mine.lo mean mg mb h₀) (hdp : dp + 110 < recursionLimit) (hun : un + 2200 < cLine)
    (G : GS h₀ L s.heap m Ex g) (hm0 : m "loose" = some (.ref lo)) (hm1 : m "names" = some (.ref na)) (hm2 : m "pieces" = some (.ref pl)) (hn0 : q0.nm.length ≤ 10) (hn1 : q1.nm.length ≤ 10) (hn2 : q2.nm.length ≤ 10)
    (hM : NmAt w g na nd aa sa ra nk scs al) (hnone : nameOf (scs.map (·.2)) al num mo lb = none) (hlb : lb.length ≤ 50) (hmo : mo.length ≤ 50)
    (hT : InstAt g lo (instObj 182 dlo) 182 (some (tyD w.params tkl num "record" size .none len fl pll hll mo lb))) (hL : g.get? fl = some (listOf #[.ref q0.o, .ref q1.o, .ref q2.o] n))
    (hO0 : InstAt g q0.o (instObj 203 q0.d) 203 (some (obD w.params k0 q0.nm "field" q0.t q0.ex))) (hO1 : InstAt g q1.o (instObj 203 q1.d) 203 (some (obD w.params k1 q1.nm "field" q1.t q1.ex))) (hO2 : InstAt g q2.o (instObj 203 q2.d) 203 (some (obD w.params k2 q2.nm "field" q2.t q2.ex)))
    (hT0 : InstAt g q0.t (instObj 182 q0.e) 182 (some (tyD w.params j0 q0.num q0.form s0 v0 e0 f0 p0 r0 m0 y0))) (hT1 : InstAt g q1.t (instObj 182 q1.e) 182 (some (tyD w.params j1 q1.num q1.form s1 v1 e1 f1 p1 r1 m1 y1))) (hT2 : InstAt g q2.t (instObj 182 q2.e) 182 (some (tyD w.params j2 q2.num q2.form s2 v2 e2 f2 p2 r2 m2 y2)))
    (hz0 : PySem.Spec.lookup (.str q0.form) basicD = some (.str (zOf q0.form))) (hz1 : PySem.Spec.lookup (.str q1.form) basicD = some (.str (zOf q1.form))) (hz2 : PySem.Spec.lookup (.str q2.form) basicD = some (.str (zOf q2.form)))
    (h01 : q0.num = q1.num → q0.form = q1.form) (h12 : q1.num = q2.num → q1.form = q2.form)
    (hpl : g.get? pl = some (listOf vs.toArray k)) (hvs : StrsAre vs (pcs q0 q1 q2 3))
    (hret : ∀ h' tk', GS h₀ L h' m Ex g → Q (.ret (.bool true)) { s with heap := h', toks := tk' }) :
    wpAny (model prg w) (lawAr dp un gd L a ccd outer) (execs (lawBody.drop 25) (lawEnv L a ccd)) Q E s := by
  unfold lawEnv lawAr
  generalize hZ : lawScope = Z'
  conv at hZ => lhs; whnf
  subst hZ
  conv in (execs _ _) => arg 1; whnf
  have F := frKnow (a := Str.ofString "loose") (frKnow (a := Str.ofString "names") (frKnow (a := Str.ofString "pieces") G.fr hm2) hm1) hm0
  have N := G.nw
  have mpl := List.mem_append_right Ex (mem_entries.mpr hpl)
  have hoff := G.off
  have hup := G.up
  generalize hR : Ex ++ entries g = R at N mpl
  have sc := StopCall.mk
  k_steps
  refine Stop.out ?_
  repeat (rename StopCall => q9; clear q9)
  rename Fr _ _ _ _ => F2
  rename News _ _ _ _ => N2
  have G2 : GS h₀ L _ _ Ex g := ⟨F2, hR ▸ N2, hoff⟩
  have u := G2.up
  have up : ∀ {b o d C}, InstAt g b (instObj C d) C (some o) → InstAt _ b (instObj C d) C (some o) := fun I => instKept u I (fun q => nomatch q) (fun q => nomatch q)
  have zl : ∀ f, (zOf f).length ≤ 50 := fun f => by unfold zOf; split <;> decide
  refine ttRec3_k (dp := dp) B F2 X T rfl (by ktr_room) (by ktr_units) N2 (hM.keep u) ⟨_, u.all _ _ hL, rfl, _, rfl⟩ (up hT) (f1 := ⟨q0.o, q0.d, q0.t, q0.e, q0.nm, q0.ex, q0.num, zOf q0.form⟩) (f2 := ⟨q1.o, q1.d, q1.t, q1.e, q1.nm, q1.ex, q1.num, zOf q1.form⟩) (f3 := ⟨q2.o, q2.d, q2.t, q2.e, q2.nm, q2.ex, q2.num, zOf q2.form⟩)
    ⟨⟨_, up hO0⟩, ⟨_, _, _, _, _, _, _, _, _, _, up hT0, hz0⟩, Nat.le_trans hn0 (by decide), zl _⟩ ⟨⟨_, up hO1⟩, ⟨_, _, _, _, _, _, _, _, _, _, up hT1, hz1⟩, Nat.le_trans hn1 (by decide), zl _⟩ ⟨⟨_, up hO2⟩, ⟨_, _, _, _, _, _, _, _, _, _, up hT2, hz2⟩, Nat.le_trans hn2 (by decide), zl _⟩ hlb hmo hnone ?_
  rw [text_eq h01 h12]
  intro t h' tk' K3 F3 N3
  clear F2 N2
  k_steps
  have hj := joinLen (pcs q0 q1 q2 3)
  have hps := pcs_sum hn0 hn1 hn2
  have hp6 := sumLe (pcs_le hn0 hn1 hn2)
  have hpl6 := @pcs_len q0 q1 q2 3
  refine joinJ (News.isList N3 mpl) hvs (by decide) (by omega) ?_
  intro t5 k5
  generalize hjy : Str.join (Str.ofString "") (pcs q0 q1 q2 3) = jy at hj ⊢
  have hjl : jy.length ≤ 200 := by omega
  clear hj hps hp6 hpl6 hjy
  k_steps
  rename Fr _ _ _ _ => F4
  rename News _ _ _ _ => N4
  rw [beq_self_eq_true]
  exact hret _ _ ⟨frBack (frBack (frBack F4 hm0) hm1) hm2, hR ▸ N4, hoff⟩
end
theorem offLawG8 : True := by w_top off; trivial
theorem NmAt.keepS {w : World} {h h' : Heap} {S : List Addr} {na nd aa sa ra : Addr} {nk : Nat → Tok} {scs : List (Addr × List (Str × Int))} {al : List (Str × Str)} (M : NmAt w h na nd aa sa ra nk scs al) (k : Kept S h h') (h1 : na ∉ S) (h2 : nd ∉ S) (h3 : aa ∉ S) (h4 : sa ∉ S) (h5 : ∀ p ∈ scs, p.1 ∉ S) : NmAt w h' na nd aa sa ra nk scs al :=
  ⟨instKept k M.inst h1 h2, k.list M.list h4, fun p hp => tabKept k (M.tabs p hp) (h5 p hp), tabKept k M.alis h3, M.n1, M.n2, M.n3⟩
noncomputable def FdAt (w : World) (g : Heap) (q : Fd) : Prop := (∃ tk, InstAt g q.o (instObj 203 q.d) 203 (some (obD w.params tk q.nm "field" q.t q.ex))) ∧ ∃ tk size bv len fl pl hl mo lb, InstAt g q.t (instObj 182 q.e) 182 (some (tyD w.params tk q.num q.form size bv len fl pl hl mo lb))
theorem FdAt.inn {w : World} {g : Heap} {q : Fd} (h : FdAt w g q) : FdIn w (entries g) q := by
  obtain ⟨⟨tk, I⟩, t, a, b, c, d, e, f, i, j, J⟩ := h
  exact ⟨mem_entries.mpr I.at_, ⟨tk, mem_entries.mpr I.dict⟩, mem_entries.mpr J.at_, t, a, b, c, d, e, f, i, j, mem_entries.mpr J.dict⟩
theorem FdAt.keep {w : World} {g g' : Heap} {q : Fd} (h : FdAt w g q) (k : Kept [] g g') : FdAt w g' q := by
  obtain ⟨⟨tk, I⟩, t, a, b, c, d, e, f, i, j, J⟩ := h
  exact ⟨⟨tk, instKept k I (fun q => nomatch q) (fun q => nomatch q)⟩, t, a, b, c, d, e, f, i, j, instKept k J (fun q => nomatch q) (fun q => nomatch q)⟩
noncomputable def fdOf (ix idx cx cdx : Addr) (q : Fo) : Fd := ⟨q.o, q.d, if q.ty then ix else cx, if q.ty then idx else cdx, q.nm, if q.ty then Str.ofString "integer" else Str.ofString "char", if q.ty then 4 else 2, q.ex⟩
theorem fdOf_at {w : World} {g : Heap} {ix idx cx cdx fi fc : Addr} {q : Fo} (h : FoAt w g ix cx q) (TI : TyAt w g ix idx 4 "integer" 4 .none 0 fi "" "") (TC : TyAt w g cx cdx 2 "char" 1 .none 0 fc "" "") : FdAt w g (fdOf ix idx cx cdx q) := by
  refine ⟨h, ?_⟩
  obtain ⟨a, b, c, I⟩ := TI
  obtain ⟨d, e, f, J⟩ := TC
  obtain ⟨o, dd, nm, ty, ex⟩ := q
  cases ty
  · exact ⟨_, _, _, _, _, _, _, _, _, J⟩
  · exact ⟨_, _, _, _, _, _, _, _, _, I⟩
theorem fdOf_z {ix idx cx cdx : Addr} {q : Fo} : PySem.Spec.lookup (.str (fdOf ix idx cx cdx q).form) basicD = some (.str (zOf (fdOf ix idx cx cdx q).form)) := by
  obtain ⟨o, dd, nm, ty, ex⟩ := q
  cases ty
  · show PySem.Spec.lookup (.str (Str.ofString "char")) basicD = some (.str (zOf (Str.ofString "char")))
    rfl
  · show PySem.Spec.lookup (.str (Str.ofString "integer")) basicD = some (.str (zOf (Str.ofString "integer")))
    rfl
theorem fdOf_f {ix idx cx cdx : Addr} {q r : Fo} (h : (fdOf ix idx cx cdx q).num = (fdOf ix idx cx cdx r).num) : (fdOf ix idx cx cdx q).form = (fdOf ix idx cx cdx r).form := by
  obtain ⟨o, dd, nm, ty, ex⟩ := q
  obtain ⟨o', dd', nm', ty', ex'⟩ := r
  cases ty <;> cases ty'
  · rfl
  · exact absurd (show (2 : Int) = 4 from h) (by decide)
  · exact absurd (show (4 : Int) = 2 from h) (by decide)
  · rfl
section
variable {w : World} {dp un : Nat} {gd : Option (List Code)} {a : Addr} {ccd : Value} {outer : List Env} {A₀ : Around} {base h₀ : Heap} {L : Addr} {m mg mb : Str → Option Value} {mean : ExcName → Option Value} {s : Shared} {Q : Flow → Shared → Prop} {E : Value → Shared → Prop}
theorem law8 {fa ts tsd kd cx cdx ix idx fi fc na nd aa sa ra : Addr} {nk : Nat → Tok} {scs : List (Addr × List (Str × Int))} {al : List (Str × Str)} {xs : List (List Str × Addr × Value)} {fvs : List Value} {fns : List Int} {fn : Nat} {oc1 oc2 : Obj} {v2 : Option Value} {g : Heap}
    (B : Below A₀ base outer h₀) (X : (hd.heap_39 w.params).In h₀) (T : Top pv Mine.lo mean mg mb h₀) (hdp : dp + 110 < recursionLimit) (hun : un + 2200 < cLine)
    (G : GS h₀ L s.heap m [(fa, listOf fvs.toArray fn), (L + 1 + 1, oc2), (L + 1, oc1)] g) (hm0 : m "types" = some (.ref ts)) (hm1 : m "names" = some (.ref na))
    (d2 : oc2.data = .cell v2) (d1 : oc1.data = .cell (some (.ref fa))) (hi : IntsAre fvs fns) (hfn : fns.length ≤ 200)
    (TS : TsAt w g ts tsd kd 12 xs cx ix) (TI : Tn w g [ts, tsd, kd] ix idx 4 "integer" 4 .none 0 fi "" "") (TC : Tn w g [ts, tsd, kd] cx cdx 2 "char" 1 .none 0 fc "" "")
    (hM : NmAt w g na nd aa sa ra nk scs al) (hd1 : na ∉ [ts, tsd] ∧ nd ∉ [ts, tsd] ∧ aa ∉ [ts, tsd] ∧ sa ∉ [ts, tsd] ∧ ∀ p ∈ scs, p.1 ∉ [ts, tsd]) (hnone : nameOf (scs.map (·.2)) al 13 "" "" = none)
    (hE : PassesOwn (model prg w) (lawAr dp un gd L a ccd outer) (lawEnv L a ccd) E)
    (hret : ∀ m' Ex g' h' tk', GS h₀ L h' m' Ex g' → Q (.ret (.bool true)) { s with heap := h', toks := tk' }) :
    wpAny (model prg w) (lawAr dp un gd L a ccd outer) (execs (lawBody.drop 21) (lawEnv L a ccd)) Q E s := by
  refine law8a (dp := dp) B X T (by ktr_room) (by ktr_units) G hm0 TS ?_
  intro lo dlo fl m1 g1 h1 tk1 G1 hm1' hlo K1 TL hfl hfl0 TS1
  have TR : TsR w g1 ts tsd cx ix := by
    obtain ⟨⟨k0, k1, k2, tk, bx, yx, mx, nx, ox, od, e1, e2, _⟩, _⟩ := TS1
    exact ⟨k0, k1, k2, kd, tk, bx, yx, mx, nx, ox, e1, e2⟩
  have n2 : ∀ {b : Addr}, b ∉ [ts, tsd, kd] → b ∉ [ts, tsd] := fun h q => h (by
    rcases List.mem_cons.mp q with rfl | q
    · exact .head _
    · rw [List.mem_singleton.mp q]; exact .tail _ (.head _))
  have TI1 := TI.ty.keep K1 (n2 TI.off.1) (n2 TI.off.2)
  have TC1 := TC.ty.keep K1 (n2 TC.off.1) (n2 TC.off.2)
  refine law8b (dp := dp) B X T (by ktr_room) (by ktr_units) G1 ((hm1' _ (by decide)).trans hm0) hlo d2 d1 hi hfn TR TL hfl hE ?_
  intro o1 dd1 t1 b1 o2 dd2 t2 b2 o3 dd3 t3 b3 vs2 ns2 n2' g2 m2 h2 tk2 G2 hm2 hi2 hn2 LS
  have TL2 := TL.keepL hfl LS.up
  have TI2 := TI1.keepL hfl LS.up
  have TC2 := TC1.keepL hfl LS.up
  obtain ⟨ln, hl2⟩ := LS.lst
  have q0 := fdOf_at (LS.obs _ (.head _)) TI2 TC2
  have q1 := fdOf_at (LS.obs _ (.tail _ (.head _))) TI2 TC2
  have q2 := fdOf_at (LS.obs _ (.tail _ (.tail _ (.head _)))) TI2 TC2
  obtain ⟨tkl, pll, hll, IL⟩ := TL2
  refine law8c (dp := dp) (q0 := fdOf ix idx cx cdx ⟨o1, dd1, "a", t1, b1⟩) (q1 := fdOf ix idx cx cdx ⟨o2, dd2, "b", t2, b2⟩) (q2 := fdOf ix idx cx cdx ⟨o3, dd3, "c", t3, b3⟩) B X T (by ktr_room) (by ktr_units) G2 ((hm2 _ (by decide)).trans hlo) (by show (Str.ofString "a").length ≤ 10; decide) (by show (Str.ofString "b").length ≤ 10; decide) (by show (Str.ofString "c").length ≤ 10; decide) IL.at_ IL.dict hl2 q0.inn q1.inn q2.inn hE ?_
  intro pl vs k m3 g3 h3 tk3 G3 hm3 hpl K3 hplg hvs
  obtain ⟨⟨ka, Ia⟩, ja, sa', va, ea, fa', pa, ra', ma, ya, Ja⟩ := q0.keep K3
  obtain ⟨⟨kb, Ib⟩, jb, sb, vb, eb, fb, pb, rb, mb', yb, Jb⟩ := q1.keep K3
  obtain ⟨⟨kc, Ic⟩, jc, sc, vc, ec, fc', pc, rc, mc, yc, Jc⟩ := q2.keep K3
  have kg : Kept [ts, tsd, fl] g g3 := fun b o e n => by
    refine K3.all _ _ (LS.up _ _ (K1 _ _ e (fun q => n ?_)) (fun q => n ?_))
    · rcases List.mem_cons.mp q with rfl | q
      · exact .head _
      · rw [List.mem_singleton.mp q]; exact .tail _ (.head _)
    · rw [List.mem_singleton.mp q]; exact .tail _ (.tail _ (.head _))
  have n3 : ∀ {b o}, g.get? b = some o → b ∉ [ts, tsd] → b ∉ [ts, tsd, fl] := fun e h q => by
    rcases List.mem_cons.mp q with rfl | q
    · exact h (.head _)
    · rcases List.mem_cons.mp q with rfl | q
      · exact h (.tail _ (.head _))
      · rw [List.mem_singleton.mp q, hfl0] at e; cases e
  obtain ⟨os, hos, _⟩ := hM.list
  have hM3 := hM.keepS kg (n3 hM.inst.at_ hd1.1) (n3 (show g.get? nd = some _ from hM.inst.dict) hd1.2.1) (by obtain ⟨o, ho⟩ := tab_some hM.alis; exact n3 ho hd1.2.2.1) (n3 hos hd1.2.2.2.1) (fun p hp => by obtain ⟨o, ho⟩ := tab_some (hM.tabs p hp); exact n3 ho (hd1.2.2.2.2 p hp))
  refine law8d (dp := dp) (q0 := fdOf ix idx cx cdx ⟨o1, dd1, "a", t1, b1⟩) (q1 := fdOf ix idx cx cdx ⟨o2, dd2, "b", t2, b2⟩) (q2 := fdOf ix idx cx cdx ⟨o3, dd3, "c", t3, b3⟩) B X T hdp hun G3 ((hm3 _ (by decide) (by decide) (by decide) (by decide)).trans ((hm2 _ (by decide)).trans hlo)) ((hm3 _ (by decide) (by decide) (by decide) (by decide)).trans ((hm2 _ (by decide)).trans ((hm1' _ (by decide)).trans hm1))) hpl (by show (Str.ofString "a").length ≤ 10; decide) (by show (Str.ofString "b").length ≤ 10; decide) (by show (Str.ofString "c").length ≤ 10; decide)
    hM3 hnone (by decide) (by decide) (instKept K3 IL (fun q => nomatch q) (fun q => nomatch q)) (K3.all _ _ hl2) Ia Ib Ic Ja Jb Jc fdOf_z fdOf_z fdOf_z fdOf_f fdOf_f hplg hvs ?_
  intro h4 tk4 G4
  exact hret _ _ _ _ _ G4
end
theorem offLawJ1 : True := by w_top off; trivial
theorem nameOf_13 {scs : List (List (Str × Int))} {al : List (Str × Str)} (h : ∀ r ∈ scs, ∀ q ∈ r, q.2 ≠ 13) : nameOf scs al 13 "" "" = none := by
  unfold nameOf
  cases q : nameIn 13 (fun _ => false) scs.reverse with
  | some k =>
    obtain ⟨r, hr, p, hp, _, e⟩ := nameIn_mem q
    exact absurd e (h r (List.mem_reverse.mp hr) p hp)
  | none => exact if_pos (.inl rfl)
theorem LoopSt.n13 {w : World} {gk g : Heap} {sa ha : Addr} {scs : List (Addr × List (Str × Int))} {rows : List (Addr × List Value × List (Str × Int))} {i : Nat} (S : LoopSt w gk g sa ha scs rows i) : ∀ r ∈ scs.map (·.2), ∀ q ∈ r, q.2 ≠ 13 := fun r hr => by
  rw [← S.eq] at hr
  obtain ⟨q, hq, rfl⟩ := List.mem_map.mp hr
  exact S.nums q hq
section
variable {w : World} {dp un : Nat} {gd : Option (List Code)} {a : Addr} {ccd : Value} {outer : List Env} {A₀ : Around} {base h₀ : Heap} {L : Addr} {m mg mb : Str → Option Value} {mean : ExcName → Option Value} {s : Shared} {Q : Flow → Shared → Prop} {E : Value → Shared → Prop}
theorem lawAll {sc : Addr} {vs : List Value} {ns : List Int} {oc1 oc2 : Obj} {v1 v2 : Option Value}
    (B : Below A₀ base outer h₀) (F : Fr h₀ L s.heap m) (X : (hd.heap_39 w.params).In h₀) (T : Top pv lo mean mg mb h₀) (hdp : dp + 110 < recursionLimit) (hun : un + 2200 < cLine)
    (hm : m "script" = some (.ref sc)) (N : News h₀ L s.heap [(L + 1 + 1, oc2), (L + 1, oc1)]) (d2 : oc2.data = .cell v2) (d1 : oc1.data = .cell v1)
    (hS0 : h₀.IsList sc vs.toArray) (hi : IntsAre vs ns) (hl : ns.length ≤ 63)
    (hE : PassesOwn (model prg w) (lawAr dp un gd L a ccd outer) (lawEnv L a ccd) E)
    (hret : ∀ m' Ex g' h' tk', GS h₀ L h' m' Ex g' → Q (.ret (.bool true)) { s with heap := h', toks := tk' }) :
    wpAny (model prg w) (lawAr dp un gd L a ccd outer) (execs (lawBody.drop 0) (lawEnv L a ccd)) Q E s := by
  refine law1 (dp := dp) B F X T (by ktr_room) (by ktr_units) hm N d2 d1 hS0 hi hl ?_
  intro fa fvs fns fn oc1' ts tsd kd ix idx cx cdx fl fl' m1 g1 h1 tk1 G1 hm1 d1' hi1 hn1 TS1 TI1 TC1
  refine law2 (dp := dp) (fns := fns) (v2 := v2) B X T (by ktr_room) (by ktr_units) G1 hm1 TS1 TI1 TC1 ?_
  intro kl kn xa dxa fla xb dxb flb xc dxc flc xd dxd fld xf dxf flf xs m2 g2 h2 tk2 G2 hm2 hk2 hkf TS2 TI2 TC2 Ka Kb Kc Kd Kf
  refine law3 (dp := dp) B X T (by ktr_room) (by ktr_units) G2 hk2 hkf d2 d1' hi1 hn1 Ka Kb Kc Kd Kf TS2 ?_
  intro ll len fvs3 fns3 fn3 oc23 g3 h3 tk3 G3 d23 hi3 hn3 KK hl0 hl1 TS3 K3
  have TI3 : Tn w g3 [ts, tsd, kd] ix idx 4 "integer" 4 .none 0 fl "" "" := by
    obtain ⟨tk, pl, hl, I⟩ := TI2.ty
    obtain ⟨tkc, plc, hlc, Ic⟩ := Kc.ty
    obtain ⟨tkf, plf, hlf, If⟩ := Kf.ty
    exact ⟨⟨tk, pl, hl, instKept K3 I (notMem2 (getNe I.at_ Ic.dict (fun e => by cases e)) (getNe I.at_ If.dict (fun e => by cases e))) (notMem2 (getNe I.dict Ic.dict (ty_ne (by decide))) (getNe I.dict If.dict (ty_ne (by decide))))⟩, TI2.off⟩
  have TC3 : Tn w g3 [ts, tsd, kd] cx cdx 2 "char" 1 .none 0 fl' "" "" := by
    obtain ⟨tk, pl, hl, I⟩ := TC2.ty
    obtain ⟨tkc, plc, hlc, Ic⟩ := Kc.ty
    obtain ⟨tkf, plf, hlf, If⟩ := Kf.ty
    exact ⟨⟨tk, pl, hl, instKept K3 I (notMem2 (getNe I.at_ Ic.dict (fun e => by cases e)) (getNe I.at_ If.dict (fun e => by cases e))) (notMem2 (getNe I.dict Ic.dict (ty_ne (by decide))) (getNe I.dict If.dict (ty_ne (by decide))))⟩, TC2.off⟩
  obtain ⟨t0, t1, t2, t3, ln, hll⟩ := KK.lets
  refine law4 (dp := dp) B X T (by ktr_room) (by ktr_units) G3 d23 d1' hi3 hn3 hll ?_
  intro hlA hvs hs hn fvs4 fns4 fn4 g4 h4 tk4 G4 K4 hi4 hn4 hhl hHs hlen hlet
  refine law5 (dp := dp) (fns := fns4) B X T (by ktr_room) (by ktr_units) G4 (if_pos rfl) hhl hHs hlen hlet ?_
  intro na nd aa sa ra nk d0 od la xN gk g5 h5 tk5 G5 hfr Kgk Kg5 nsa nd0 instN alN laN hsa hd0 hdd lo0 xl
  have Kk := Kept.trans K4 Kgk
  have TSk := TS3.keep0 Kk
  have TIk := TI3.keep0 Kk
  have TCk := TC3.keep0 Kk
  have Z : Frz w gk na nd aa sa ra nk la kl ll xa xb xc xd xf len xN := ⟨instN, alN, laN, KK.keep0 Kk, nsa, xl⟩
  refine law6 (dp := dp) B X T (by ktr_room) (by ktr_units) G5 ((if_neg (by decide)).trans ((if_neg (by decide)).trans ((if_neg (by decide)).trans hm2))) ((if_neg (by decide)).trans ((if_neg (by decide)).trans ((if_neg (by decide)).trans hk2))) (if_pos rfl) ((if_neg (by decide)).trans (if_pos rfl)) d23 d1' hi4 hn4 Z Kg5 nd0 hsa hd0 hdd lo0 hE ?_
  intro i ha scs rows fvs6 fns6 fn6 m6 g6 h6 tk6 G6 e1 e2 e3 e4 e5 hi11 hi6 hn6 S
  refine law7a (dp := dp) B X T (by ktr_room) (by ktr_units) G6 e2 e3 e4 e5 Z S (by omega) ?_
  intro t m7 h7 tk7 G7 hm7 htold
  have f1 := (hm7 (Str.ofString "types") (by decide) (by decide)).trans e1
  have f2 := (hm7 (Str.ofString "kinds") (by decide) (by decide)).trans e2
  have f3 := (hm7 (Str.ofString "aliases") (by decide) (by decide)).trans e3
  have f4 := (hm7 (Str.ofString "names") (by decide) (by decide)).trans e4
  have f5 := (hm7 (Str.ofString "heaps") (by decide) (by decide)).trans e5
  refine law7b (dp := dp) B X T (by ktr_room) (by ktr_units) G7 f2 f3 f4 f5 htold rfl (by ktr_room) (by ktr_units) Z S (by omega) ?_
  intro h8 tk8 G8
  refine law7c (dp := dp) B X T (by ktr_room) (by ktr_units) G8 f2 f3 f4 f5 Z S (by omega) ?_
  intro h9 tk9 G9
  obtain ⟨⟨_, _, _, _, _, _, _, _, _, _, et1, et2, _⟩, _⟩ := TSk
  obtain ⟨⟨_, _, _, _, _, _, _, _, _, _, eu1, eu2, _⟩, _⟩ := TS3.keep0 K4
  have nk1 : ∀ {b : Addr}, gk.get? b = none → b ∉ [ts, tsd] := fun h => notMem2 (neNone h et1) (neNone h et2)
  refine law8 (dp := dp) B X T hdp hun G9 f1 f4 d23 d1' hi6 hn6 (TS3.keep0 (Kept.trans Kk S.up)) (TIk.keep0 S.up) (TCk.keep0 S.up) (S.nm Z (by omega) Kept.refl)
    ⟨notMem2 (Ne.symm (hfr _ _ eu1).1) (Ne.symm (hfr _ _ eu2).1), notMem2 (Ne.symm (hfr _ _ eu1).2.1) (Ne.symm (hfr _ _ eu2).2.1), notMem2 (Ne.symm (hfr _ _ eu1).2.2) (Ne.symm (hfr _ _ eu2).2.2), nk1 nsa, fun p hp => nk1 (S.sct p hp).2⟩ (nameOf_13 S.n13) hE ?_
  intro m10 Ex10 g10 h10 tk10 G10
  exact hret _ _ _ _ _ G10
end
theorem offLawJ2 : True := by w_top off; trivial
local macro_rules | `(tactic| k_qdec) => `(tactic| walk_at "F k_qdec")
theorem wd98 : True := by
  (k_with "M.F k_qdec" => kernel_rfl)
  trivial
theorem final : PySem.Challenge.rw_nu0330_01.Holds := by
  w_on
  refine holds_law hdSaid fun said => ?_
  refine holds_open (q := hd.view_39) (loose := [Str.ofString "Names"]) (Xt := fun s => xlAt hd.view_39 [] s && recOk (RowW.records Challenge.rw_nu0330_01.row.toRowW) s) (XP := XL hd.view_39 []) (Yf := Hook.obs hdHook) (Ya := Hook.val hdHook) (YP := Hook.says hdHook) (N := 3690) hdLeft (Hook.of hdHook) (Hook.keeps hdHook)
    (fun s e => xl_of s (Bool.and_eq_true_iff.mp e).1) XL.keeps (by rfl) (by rfl) (by rfl) (fun s e => recFacts_of (Bool.and_eq_true_iff.mp e).2) (by rfl) (by first | assumption | decide +kernel) (by decide +kernel) ⟨rfl, rfl, rfl, rfl, rfl, by decide +kernel⟩ ?hw ?hc
  case hw => w_witness2
  case hc =>
    k_go0
    rename Fr _ _ _ _ => F
    rename News _ _ _ _ => N0
    rename Below _ _ _ _ => K0
    rename (Frag.In _ _) => KX
    rename Top _ _ _ _ _ _ => T
    rename IntsAre _ _ => hI
    rename ¬ (_ : Int) < _ => hc
    rename Heap.IsList _ _ _ => hL
    dsimp only [Top.heap] at K0
    refine' lawAll (dp := callerA.depth + 1) (un := callerA.units + 3) (gd := callerA.guards) (outer := []) K0 F KX T ?a1 ?a2 ?a3 N0 ?a4 ?a5 hL hI (by omega) ?a6 ?a7
    case a1 => decide
    case a2 => decide +kernel
    case a3 => rfl
    case a4 => assumption
    case a5 => assumption
    case a6 => passes_own
    case a7 =>
      intro m' Ex g' h' tk' G'
      have F' := G'.fr
      have N' := G'.nw
      clear F N0
      dsimp only
      k_steps
end Mine
theorem PySem.Challenge.cw_nu0330_01_holds : PySem.Challenge.rw_nu0330_01.Holds := by
  exact Mine.final
