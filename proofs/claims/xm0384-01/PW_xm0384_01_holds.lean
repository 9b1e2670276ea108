import PyProof.Rows.All
import Wide.All
import OpenK.AllK
import Wide.FinOn
import PySem.Challenge.RW_xm0384_01
set_option Elab.async false
set_option maxRecDepth 100000
set_option maxHeartbeats 8000000
namespace Mine
local macro_rules | `(tactic| walk_at "call ref") => `(tactic| k_extra "call ref")
local macro_rules | `(tactic| walk_at "binaryOp LShift int int") => `(tactic| k_extra "binaryOp LShift int int")
local macro_rules | `(tactic| walk_at "call builtin:min") => `(tactic| k_extra "call builtin:min")
local macro_rules | `(tactic| walk_at "WhlIf") => `(tactic| k_extra "WhlIf")
local macro_rules | `(tactic| walk_at "execs cons") => `(tactic| k_extra "execs cons")
local macro_rules | `(tactic| walk_at "execs nil") => `(tactic| k_extra "execs nil")
local macro_rules | `(tactic| walk_at "binaryOp Pow int int") => `(tactic| k_extra "binaryOp Pow int int")
section
open PySem PySem.W PyProof.Rows
section
theorem three {A B C G : Prop} (hl : A) (hw : B) (hc : C) (main : G) : G := by
  clear hl hw hc
  exact main
/-- lays two definitions (the view of the text, the part of its heap that is written out) and no more: what it says is empty -/
theorem hd (no : False) (said : PySem.Challenge.rw_xm0384_01.row.wellSaid = true) : PySem.Challenge.rw_xm0384_01.row.Holds := by
  w_on
  apply three
  case main => k_head
  all_goals exact no.elim
/-- the program -/
noncomputable abbrev pw : Program := PySem.Challenge.rw_xm0384_01.row.toRowW.1
/-- the object at a, where it is written out -/
noncomputable def ob (P : Params) (a : Nat) : Obj := match (hd.heap_1 P).lookup a with | some o => o | none => default
/-- the template of the def at a -/
noncomputable def tpl (P : Params) (a : Nat) : Obj := match ob P a with
  | ⟨_, _, .func f, _⟩ => { cls := .none, data := .func { f with globals := 0, pyModule := .none, code := .none } }
  | o => o
/-- a dict's row -/
noncomputable def en (P : Params) (s : String) (t : Nat) (v : Value) : DictEntry := { hash := PyData.keyHash P (Str.ofString s), key := .str (Str.ofString s) t, val := v }
noncomputable def o0 : Obj := { cls := .none, data := .fields #[] }
noncomputable def x43 (P : Params) : Obj := { cls := Value.type "tuple", data := Data.seq #[] }
noncomputable def x45 (P : Params) : Obj := { cls := Value.type "code", data := Data.fields #[Value.str (Str.ofString "<module>") 182, Value.str (Str.ofString "<module>") 183, Value.str (Str.ofString "/claim/cut.py") 184, Value.int 1 0, Value.int 0 0, Value.int 0 0, Value.int 0 0, Value.int 0 0, Value.ref 11, Value.bool false, Value.int 181 0, Value.ref 12, Value.none, Value.none, Value.none, Value.none, Value.int 185 0, Value.int 1 0, Value.str (Str.ofString "/claim/cut.py") 186] }
noncomputable def x46 (P : Params) : Obj := { cls := Value.type "frame", slots := #[some (Value.ref 13), some (Value.ref 3), some (Value.ref 3), none, some (Value.str (Str.ofString "__main__") 164), none, some (Value.ref 0)] }
noncomputable def x50 (P : Params) : Obj := { cls := Value.type "dict", data := Data.dict #[en P "__name__" 165 (Value.str (Str.ofString "gmp.limbs") 187), en P "__doc__" 166 (Value.none), en P "__package__" 167 (Value.none), en P "__loader__" 168 (Value.builtin "__main__.__loader__#opaque"), en P "__spec__" 169 (Value.none), en P "__annotations__" 170 (Value.ref 6), en P "__builtins__" 171 (Value.ref 4), en P "__file__" 173 (Value.str (Str.ofString "/claim/cut.py") 172), en P "__cached__" 174 (Value.none), en P "GmpError" 208 (Value.ref 24)] 10 }
noncomputable def x51 (P : Params) : Obj := { cls := Value.none, data := Data.fields #[Value.int 2 0, Value.int 0 0, Value.ref 20] }
noncomputable def x53 (P : Params) : Obj := { cls := Value.type "builtin_function_or_method", data := Data.fields #[Value.builtin "type.__prepare__", Value.type "type"] }
noncomputable def x54 (P : Params) : Obj := { cls := Value.type "dict", data := Data.dict #[en P "__module__" 196 (Value.str (Str.ofString "gmp.limbs") 187), en P "__qualname__" 198 (Value.str (Str.ofString "GmpError") 197), en P "__firstlineno__" 200 (Value.int 2 199), en P "__static_attributes__" 201 (Value.ref 22)] 4 }
noncomputable def x55 (P : Params) : Obj := { cls := Value.type "tuple", data := Data.seq #[] }
noncomputable def x57 (P : Params) : Obj := { cls := Value.type "code", data := Data.fields #[Value.str (Str.ofString "GmpError") 191, Value.str (Str.ofString "GmpError") 192, Value.str (Str.ofString "/claim/cut.py") 193, Value.int 2 0, Value.int 0 0, Value.int 0 0, Value.int 0 0, Value.int 0 0, Value.ref 18, Value.bool false, Value.int 181 0, Value.ref 19, Value.none, Value.none, Value.none, Value.none, Value.int 194 0, Value.int 2 0, Value.str (Str.ofString "/claim/cut.py") 195] }
noncomputable def x58 (P : Params) : Obj := { cls := Value.type "frame", slots := #[some (Value.ref 20), some (Value.ref 3), some (Value.ref 17), none, some (Value.str (Str.ofString "gmp.limbs") 187), none, some (Value.ref 0)] }
noncomputable def x61 (P : Params) : Obj := { cls := Value.type "type", data := Data.cls { name := Str.ofString "GmpError", bases := [Value.type "Exception"], mro := [Value.ref 24, Value.type "Exception", Value.type "BaseException", Value.type "object"], ns := 23, qualname := Str.ofString "GmpError" }, slots := #[some (Value.ref 15), none, some (Value.str (Str.ofString "GmpError") 189), some (Value.str (Str.ofString "GmpError") 197), some (Value.builtin "Exception.__new__"), some (Value.bool true)] }
noncomputable def x63 (P : Params) : Obj := { cls := Value.type "super", data := Data.fields #[Value.ref 24, Value.ref 24, Value.ref 24] }
noncomputable def x64 (P : Params) : Obj := { cls := Value.type "builtin_function_or_method", data := Data.fields #[Value.builtin "object.__init_subclass__", Value.ref 24] }
noncomputable def x65 (P : Params) : Obj := { cls := Value.type "dict", data := Data.dict #[en P "__name__" 165 (Value.str (Str.ofString "gmp.limbs") 187), en P "__doc__" 166 (Value.none), en P "__package__" 167 (Value.none), en P "__loader__" 168 (Value.builtin "__main__.__loader__#opaque"), en P "__spec__" 169 (Value.none), en P "__annotations__" 170 (Value.ref 6), en P "__builtins__" 171 (Value.ref 4), en P "__file__" 173 (Value.str (Str.ofString "/claim/cut.py") 172), en P "__cached__" 174 (Value.none), en P "GmpError" 208 (Value.ref 24), en P "NoInverse" 224 (Value.ref 37)] 11 }
noncomputable def x66 (P : Params) : Obj := { cls := Value.none, data := Data.fields #[Value.int 2 0, Value.int 0 0, Value.ref 20, Value.int 4 0, Value.int 0 0, Value.ref 33] }
noncomputable def x67 (P : Params) : Obj := { cls := Value.type "type", data := Data.cls { name := Str.ofString "GmpError", bases := [Value.type "Exception"], mro := [Value.ref 24, Value.type "Exception", Value.type "BaseException", Value.type "object"], ns := 23, qualname := Str.ofString "GmpError", subclasses := [Value.ref 37] }, slots := #[some (Value.ref 15), none, some (Value.str (Str.ofString "GmpError") 189), some (Value.str (Str.ofString "GmpError") 197), some (Value.builtin "Exception.__new__"), some (Value.bool true)] }
noncomputable def x69 (P : Params) : Obj := { cls := Value.type "builtin_function_or_method", data := Data.fields #[Value.builtin "type.__prepare__", Value.type "type"] }
noncomputable def x70 (P : Params) : Obj := { cls := Value.type "dict", data := Data.dict #[en P "__module__" 216 (Value.str (Str.ofString "gmp.limbs") 187), en P "__qualname__" 218 (Value.str (Str.ofString "NoInverse") 217), en P "__firstlineno__" 220 (Value.int 4 219), en P "__static_attributes__" 221 (Value.ref 35)] 4 }
noncomputable def x71 (P : Params) : Obj := { cls := Value.type "tuple", data := Data.seq #[] }
noncomputable def x73 (P : Params) : Obj := { cls := Value.type "code", data := Data.fields #[Value.str (Str.ofString "NoInverse") 211, Value.str (Str.ofString "NoInverse") 212, Value.str (Str.ofString "/claim/cut.py") 213, Value.int 4 0, Value.int 0 0, Value.int 0 0, Value.int 0 0, Value.int 0 0, Value.ref 31, Value.bool false, Value.int 181 0, Value.ref 32, Value.none, Value.none, Value.none, Value.none, Value.int 214 0, Value.int 4 0, Value.str (Str.ofString "/claim/cut.py") 215] }
noncomputable def x74 (P : Params) : Obj := { cls := Value.type "frame", slots := #[some (Value.ref 33), some (Value.ref 3), some (Value.ref 30), none, some (Value.str (Str.ofString "gmp.limbs") 187), none, some (Value.ref 0)] }
noncomputable def x78 (P : Params) : Obj := { cls := Value.type "super", data := Data.fields #[Value.ref 37, Value.ref 37, Value.ref 37] }
noncomputable def x79 (P : Params) : Obj := { cls := Value.type "builtin_function_or_method", data := Data.fields #[Value.builtin "object.__init_subclass__", Value.ref 37] }
noncomputable def x80 (P : Params) : Obj := { cls := Value.type "dict", data := Data.dict #[en P "__name__" 165 (Value.str (Str.ofString "gmp.limbs") 187), en P "__doc__" 166 (Value.none), en P "__package__" 167 (Value.none), en P "__loader__" 168 (Value.builtin "__main__.__loader__#opaque"), en P "__spec__" 169 (Value.none), en P "__annotations__" 170 (Value.ref 6), en P "__builtins__" 171 (Value.ref 4), en P "__file__" 173 (Value.str (Str.ofString "/claim/cut.py") 172), en P "__cached__" 174 (Value.none), en P "GmpError" 208 (Value.ref 24), en P "NoInverse" 224 (Value.ref 37), en P "OutOfRange" 240 (Value.ref 49), en P "normal" 248 (Value.ref 58), en P "compare" 257 (Value.ref 65), en P "add" 270 (Value.ref 72), en P "sub" 284 (Value.ref 79), en P "add_limb" 296 (Value.ref 86)] 17 }
noncomputable def x81 (P : Params) : Obj := { cls := Value.none, data := Data.fields #[Value.int 2 0, Value.int 0 0, Value.ref 20, Value.int 4 0, Value.int 0 0, Value.ref 33, Value.int 6 0, Value.int 0 0, Value.ref 45, Value.int 8 0, Value.int 0 0, Value.ref 57, Value.int 13 0, Value.int 0 0, Value.ref 64, Value.int 20 0, Value.int 0 0, Value.ref 71, Value.int 35 0, Value.int 0 0, Value.ref 78, Value.int 44 0, Value.int 0 0, Value.ref 85] }
noncomputable def x84 (P : Params) : Obj := { cls := Value.type "builtin_function_or_method", data := Data.fields #[Value.builtin "type.__prepare__", Value.type "type"] }
noncomputable def x85 (P : Params) : Obj := { cls := Value.type "dict", data := Data.dict #[en P "__module__" 232 (Value.str (Str.ofString "gmp.limbs") 187), en P "__qualname__" 234 (Value.str (Str.ofString "OutOfRange") 233), en P "__firstlineno__" 236 (Value.int 6 235), en P "__static_attributes__" 237 (Value.ref 47)] 4 }
noncomputable def x86 (P : Params) : Obj := { cls := Value.type "tuple", data := Data.seq #[] }
noncomputable def x88 (P : Params) : Obj := { cls := Value.type "code", data := Data.fields #[Value.str (Str.ofString "OutOfRange") 227, Value.str (Str.ofString "OutOfRange") 228, Value.str (Str.ofString "/claim/cut.py") 229, Value.int 6 0, Value.int 0 0, Value.int 0 0, Value.int 0 0, Value.int 0 0, Value.ref 43, Value.bool false, Value.int 181 0, Value.ref 44, Value.none, Value.none, Value.none, Value.none, Value.int 230 0, Value.int 6 0, Value.str (Str.ofString "/claim/cut.py") 231] }
noncomputable def x89 (P : Params) : Obj := { cls := Value.type "frame", slots := #[some (Value.ref 45), some (Value.ref 3), some (Value.ref 42), none, some (Value.str (Str.ofString "gmp.limbs") 187), none, some (Value.ref 0)] }
noncomputable def x93 (P : Params) : Obj := { cls := Value.type "super", data := Data.fields #[Value.ref 49, Value.ref 49, Value.ref 49] }
noncomputable def x94 (P : Params) : Obj := { cls := Value.type "builtin_function_or_method", data := Data.fields #[Value.builtin "object.__init_subclass__", Value.ref 49] }
noncomputable def x130 (P : Params) : Obj := { cls := Value.type "dict", data := Data.dict #[en P "__name__" 165 (Value.str (Str.ofString "gmp.signed") 397), en P "__doc__" 166 (Value.none), en P "__package__" 167 (Value.none), en P "__loader__" 168 (Value.builtin "__main__.__loader__#opaque"), en P "__spec__" 169 (Value.none), en P "__annotations__" 170 (Value.ref 6), en P "__builtins__" 171 (Value.ref 4), en P "__file__" 173 (Value.str (Str.ofString "/claim/cut.py") 172), en P "__cached__" 174 (Value.none), en P "GmpError" 208 (Value.ref 24), en P "NoInverse" 224 (Value.ref 37), en P "OutOfRange" 240 (Value.ref 49), en P "normal" 248 (Value.ref 58), en P "compare" 257 (Value.ref 65), en P "add" 270 (Value.ref 72), en P "sub" 284 (Value.ref 79), en P "add_limb" 296 (Value.ref 86), en P "shift_left" 311 (Value.ref 93), en P "shift_right" 326 (Value.ref 100), en P "low" 337 (Value.ref 107), en P "inverse_limb" 350 (Value.ref 114), en P "low_limbs" 358 (Value.ref 121), en P "complement" 364 (Value.ref 126), en P "inverse_low" 378 (Value.ref 133), en P "mul_school" 396 (Value.ref 140), en P "signed" 406 (Value.ref 147), en P "s_neg" 413 (Value.ref 154), en P "s_add" 422 (Value.ref 161)] 28 }
noncomputable def x131 (P : Params) : Obj := { cls := Value.none, data := Data.fields #[Value.int 2 0, Value.int 0 0, Value.ref 20, Value.int 4 0, Value.int 0 0, Value.ref 33, Value.int 6 0, Value.int 0 0, Value.ref 45, Value.int 8 0, Value.int 0 0, Value.ref 57, Value.int 13 0, Value.int 0 0, Value.ref 64, Value.int 20 0, Value.int 0 0, Value.ref 71, Value.int 35 0, Value.int 0 0, Value.ref 78, Value.int 44 0, Value.int 0 0, Value.ref 85, Value.int 53 0, Value.int 0 0, Value.ref 92, Value.int 65 0, Value.int 0 0, Value.ref 99, Value.int 72 0, Value.int 0 0, Value.ref 106, Value.int 78 0, Value.int 0 0, Value.ref 113, Value.int 87 0, Value.int 0 0, Value.ref 120, Value.int 89 0, Value.int 0 0, Value.ref 125, Value.int 93 0, Value.int 0 0, Value.ref 132, Value.int 106 0, Value.int 0 0, Value.ref 139, Value.int 117 0, Value.int 0 0, Value.ref 146, Value.int 119 0, Value.int 0 0, Value.ref 153, Value.int 121 0, Value.int 0 0, Value.ref 160] }
noncomputable def x208 (P : Params) : Obj := { cls := Value.none, data := Data.fields #[Value.int 2 0, Value.int 0 0, Value.ref 20, Value.int 4 0, Value.int 0 0, Value.ref 33, Value.int 6 0, Value.int 0 0, Value.ref 45, Value.int 8 0, Value.int 0 0, Value.ref 57, Value.int 13 0, Value.int 0 0, Value.ref 64, Value.int 20 0, Value.int 0 0, Value.ref 71, Value.int 35 0, Value.int 0 0, Value.ref 78, Value.int 44 0, Value.int 0 0, Value.ref 85, Value.int 53 0, Value.int 0 0, Value.ref 92, Value.int 65 0, Value.int 0 0, Value.ref 99, Value.int 72 0, Value.int 0 0, Value.ref 106, Value.int 78 0, Value.int 0 0, Value.ref 113, Value.int 87 0, Value.int 0 0, Value.ref 120, Value.int 89 0, Value.int 0 0, Value.ref 125, Value.int 93 0, Value.int 0 0, Value.ref 132, Value.int 106 0, Value.int 0 0, Value.ref 139, Value.int 117 0, Value.int 0 0, Value.ref 146, Value.int 119 0, Value.int 0 0, Value.ref 153, Value.int 121 0, Value.int 0 0, Value.ref 160, Value.int 127 0, Value.int 0 0, Value.ref 167, Value.int 129 0, Value.int 0 0, Value.ref 174, Value.int 137 0, Value.int 0 0, Value.ref 181, Value.int 142 0, Value.int 0 0, Value.ref 188, Value.int 148 0, Value.int 0 0, Value.ref 195, Value.int 153 0, Value.int 0 0, Value.ref 202, Value.int 158 0, Value.int 0 0, Value.ref 209, Value.int 162 0, Value.int 0 0, Value.ref 216, Value.int 169 0, Value.int 0 0, Value.ref 221] }
noncomputable def T47 (P : Params) : BT := .node (boot_o_0 P) (.node (boot_o_1 P) (.node (boot_o_3 P) (.node (boot_o_7 P) .nil .nil) (.node (x43 P) .nil .nil)) (.node (boot_o_5 P) (.node (boot_o_9 P) .nil .nil) (.node (x45 P) .nil .nil))) (.node (boot_o_2 P) (.node (boot_o_4 P) (.node (boot_o_8 P) .nil .nil) (.node o0 .nil .nil)) (.node (boot_o_6 P) (.node (boot_o_10 P) .nil .nil) (.node (x46 P) .nil .nil)))
noncomputable def T64 (P : Params) : BT := .node (boot_o_0 P) (.node (boot_o_1 P) (.node (x50 P) (.node (boot_o_7 P) (.node (ob P 15) .nil .nil) (.node (ob P 23) .nil .nil)) (.node (x43 P) (.node o0 .nil .nil) (.node (x64 P) .nil .nil))) (.node (boot_o_5 P) (.node (boot_o_9 P) (.node (x54 P) .nil .nil) (.node (ob P 25) .nil .nil)) (.node (x45 P) (.node (x58 P) .nil .nil) .nil))) (.node (ob P 2) (.node (boot_o_4
    P) (.node (boot_o_8 P) (.node (x53 P) .nil .nil) (.node (x61 P) .nil .nil)) (.node (x51 P) (.node (x57 P) .nil .nil) .nil)) (.node (boot_o_6 P) (.node (boot_o_10 P) (.node (x55 P) .nil .nil) (.node (x63 P) .nil .nil)) (.node (x46 P) (.node (ob P 22) .nil .nil) .nil)))
noncomputable def T79 (P : Params) : BT := .node (boot_o_0 P) (.node (boot_o_1 P) (.node (x65 P) (.node (boot_o_7 P) (.node (ob P 15) (.node (x71 P) .nil .nil) .nil) (.node (ob P 23) (.node (x79 P) .nil .nil) .nil)) (.node (x43 P) (.node o0 (.node (ob P 35) .nil .nil) .nil) (.node (x64 P) .nil .nil))) (.node (boot_o_5 P) (.node (boot_o_9 P) (.node (x54 P) (.node (x73 P) .nil .nil) .nil) (.node (ob P 25) .nil
    .nil)) (.node (x45 P) (.node (x58 P) (.node (ob P 37) .nil .nil) .nil) (.node (x69 P) .nil .nil)))) (.node (ob P 2) (.node (boot_o_4 P) (.node (boot_o_8 P) (.node (x53 P) (.node o0 .nil .nil) .nil) (.node (x67 P) .nil .nil)) (.node (x66 P) (.node (x57 P) (.node (ob P 36) .nil .nil) .nil) (.node (ob P 28) .nil .nil))) (.node (boot_o_6 P) (.node (boot_o_10 P) (.node (x55 P) (.node (x74 P) .nil
    .nil) .nil) (.node (x63 P) .nil .nil)) (.node (x46 P) (.node (ob P 22) (.node (x78 P) .nil .nil) .nil) (.node (x70 P) .nil .nil))))
noncomputable def T129 (P : Params) : BT := .node (boot_o_0 P) (.node (boot_o_1 P) (.node (x80 P) (.node (boot_o_7 P) (.node (ob P 15) (.node (x71 P) (.node (tpl P 65) .nil .nil) .nil) (.node (ob P 47) (.node (ob P 79) .nil .nil) .nil)) (.node (ob P 23) (.node (x79 P) (.node (ob P 71) .nil .nil) .nil) (.node (ob P 55) .nil .nil))) (.node (x43 P) (.node o0 (.node (ob P 35) (.node o0 .nil .nil) .nil) (.node (x94
    P) (.node (ob P 83) .nil .nil) .nil)) (.node (x64 P) (.node (x86 P) (.node (ob P 75) .nil .nil) .nil) (.node (ob P 59) .nil .nil)))) (.node (boot_o_5 P) (.node (boot_o_9 P) (.node (x54 P) (.node (x73 P) (.node (ob P 65) .nil .nil) .nil) (.node (ob P 49) (.node o0 .nil .nil) .nil)) (.node (ob P 25) (.node (x84 P) (.node (ob P 73) .nil .nil) .nil) (.node (ob P 57) .nil .nil))) (.node (x45 P)
    (.node (x58 P) (.node (ob P 37) (.node (ob P 69) .nil .nil) .nil) (.node o0 (.node (ob P 85) .nil .nil) .nil)) (.node (x69 P) (.node (x88 P) (.node (tpl P 79) .nil .nil) .nil) (.node (ob P 61) .nil .nil))))) (.node (ob P 2) (.node (boot_o_4 P) (.node (boot_o_8 P) (.node (x53 P) (.node o0 (.node (ob P 64) .nil .nil) .nil) (.node (ob P 48) (.node (ob P 80) .nil .nil) .nil)) (.node (ob P 24)
    (.node (ob P 40) (.node (ob P 72) .nil .nil) .nil) (.node (tpl P 58) .nil .nil))) (.node (x81 P) (.node (x57 P) (.node (ob P 36) (.node (ob P 68) .nil .nil) .nil) (.node (ob P 52) (.node (tpl P 86) .nil .nil) .nil)) (.node (ob P 28) (.node o0 (.node (ob P 76) .nil .nil) .nil) (.node o0 .nil .nil)))) (.node (boot_o_6 P) (.node (boot_o_10 P) (.node (x55 P) (.node (x74 P) (.node (ob P 66) .nil
    .nil) .nil) (.node (x93 P) (.node (ob P 82) .nil .nil) .nil)) (.node (x63 P) (.node (x85 P) (.node o0 .nil .nil) .nil) (.node (ob P 58) .nil .nil))) (.node (x46 P) (.node (ob P 22) (.node (x78 P) (.node (tpl P 72) .nil .nil) .nil) (.node (ob P 54) (.node (ob P 86) .nil .nil) .nil)) (.node (x70 P) (.node (x89 P) (.node (ob P 78) .nil .nil) .nil) (.node (ob P 62) .nil .nil)))))
noncomputable def T206 (P : Params) : BT := .node (boot_o_0 P) (.node (boot_o_1 P) (.node (x130 P) (.node (boot_o_7 P) (.node (ob P 15) (.node (x71 P) (.node (tpl P 65) (.node (ob P 127) .nil .nil) .nil) (.node o0 (.node (tpl P 161) .nil .nil) .nil)) (.node (ob P 47) (.node (ob P 79) (.node (ob P 143) .nil .nil) .nil) (.node (ob P 111) .nil .nil))) (.node (ob P 23) (.node (x79 P) (.node (ob P 71) (.node o0 .nil
    .nil) .nil) (.node (ob P 103) .nil .nil)) (.node (ob P 55) (.node (ob P 87) (.node (ob P 151) .nil .nil) .nil) (.node (tpl P 121) .nil .nil)))) (.node (x43 P) (.node o0 (.node (ob P 35) (.node o0 (.node (tpl P 133) .nil .nil) .nil) (.node (ob P 99) .nil .nil)) (.node (x94 P) (.node (ob P 83) (.node (ob P 147) .nil .nil) .nil) (.node (ob P 115) .nil .nil))) (.node (x64 P) (.node (x86 P) (.node
    (ob P 75) (.node (ob P 139) .nil .nil) .nil) (.node (ob P 107) .nil .nil)) (.node (ob P 59) (.node (tpl P 93) (.node (ob P 155) .nil .nil) .nil) (.node o0 .nil .nil))))) (.node (boot_o_5 P) (.node (boot_o_9 P) (.node (x54 P) (.node (x73 P) (.node (ob P 65) (.node (ob P 129) .nil .nil) .nil) (.node (ob P 97) (.node (ob P 161) .nil .nil) .nil)) (.node (ob P 49) (.node o0 (.node (tpl P 147) .nil
    .nil) .nil) (.node (ob P 113) .nil .nil))) (.node (ob P 25) (.node (x84 P) (.node (ob P 73) (.node (ob P 137) .nil .nil) .nil) (.node (tpl P 107) .nil .nil)) (.node (ob P 57) (.node (ob P 89) (.node (ob P 153) .nil .nil) .nil) (.node (ob P 121) .nil .nil)))) (.node (x45 P) (.node (x58 P) (.node (ob P 37) (.node (ob P 69) (.node (ob P 133) .nil .nil) .nil) (.node (ob P 101) .nil .nil)) (.node
    o0 (.node (ob P 85) (.node o0 .nil .nil) .nil) (.node (ob P 117) .nil .nil))) (.node (x69 P) (.node (x88 P) (.node (tpl P 79) (.node (ob P 141) .nil .nil) .nil) (.node o0 .nil .nil)) (.node (ob P 61) (.node (ob P 93) (.node (ob P 157) .nil .nil) .nil) (.node (ob P 125) .nil .nil)))))) (.node (ob P 2) (.node (boot_o_4 P) (.node (boot_o_8 P) (.node (x53 P) (.node o0 (.node (ob P 64) (.node o0
    .nil .nil) .nil) (.node (ob P 96) (.node (ob P 160) .nil .nil) .nil)) (.node (ob P 48) (.node (ob P 80) (.node (ob P 144) .nil .nil) .nil) (.node (tpl P 114) .nil .nil))) (.node (ob P 24) (.node (ob P 40) (.node (ob P 72) (.node (ob P 136) .nil .nil) .nil) (.node (ob P 104) .nil .nil)) (.node (tpl P 58) (.node o0 (.node (tpl P 154) .nil .nil) .nil) (.node (ob P 120) .nil .nil)))) (.node (x131
    P) (.node (x57 P) (.node (ob P 36) (.node (ob P 68) (.node (ob P 132) .nil .nil) .nil) (.node (ob P 100) .nil .nil)) (.node (ob P 52) (.node (tpl P 86) (.node (ob P 148) .nil .nil) .nil) (.node o0 .nil .nil))) (.node (ob P 28) (.node o0 (.node (ob P 76) (.node (ob P 140) .nil .nil) .nil) (.node (ob P 108) .nil .nil)) (.node o0 (.node (ob P 92) (.node o0 .nil .nil) .nil) (.node (tpl P 126) .nil
    .nil))))) (.node (boot_o_6 P) (.node (boot_o_10 P) (.node (x55 P) (.node (x74 P) (.node (ob P 66) (.node (ob P 130) .nil .nil) .nil) (.node (tpl P 100) .nil .nil)) (.node (x93 P) (.node (ob P 82) (.node (ob P 146) .nil .nil) .nil) (.node (ob P 114) .nil .nil))) (.node (x63 P) (.node (x85 P) (.node o0 (.node (tpl P 140) .nil .nil) .nil) (.node (ob P 106) .nil .nil)) (.node (ob P 58) (.node (ob
    P 90) (.node (ob P 154) .nil .nil) .nil) (.node (ob P 122) .nil .nil)))) (.node (x46 P) (.node (ob P 22) (.node (x78 P) (.node (tpl P 72) (.node (ob P 134) .nil .nil) .nil) (.node o0 .nil .nil)) (.node (ob P 54) (.node (ob P 86) (.node (ob P 150) .nil .nil) .nil) (.node (ob P 118) .nil .nil))) (.node (x70 P) (.node (x89 P) (.node (ob P 78) (.node o0 .nil .nil) .nil) (.node (ob P 110) .nil
    .nil)) (.node (ob P 62) (.node (ob P 94) (.node (ob P 158) .nil .nil) .nil) (.node (ob P 126) .nil .nil))))))
noncomputable def T269 (P : Params) : BT := .node (boot_o_0 P) (.node (boot_o_1 P) (.node (ob P 3) (.node (boot_o_7 P) (.node (ob P 15) (.node (x71 P) (.node (tpl P 65) (.node (ob P 127) .nil .nil) (.node o0 .nil .nil)) (.node o0 (.node (tpl P 161) .nil .nil) .nil)) (.node (ob P 47) (.node (ob P 79) (.node (ob P 143) .nil .nil) (.node (ob P 207) .nil .nil)) (.node (ob P 111) (.node (ob P 175) .nil .nil) .nil)))
    (.node (ob P 23) (.node (x79 P) (.node (ob P 71) (.node o0 .nil .nil) (.node (ob P 199) .nil .nil)) (.node (ob P 103) (.node (ob P 167) .nil .nil) .nil)) (.node (ob P 55) (.node (ob P 87) (.node (ob P 151) .nil .nil) (.node (tpl P 217) .nil .nil)) (.node (tpl P 121) (.node (ob P 183) .nil .nil) .nil)))) (.node (x43 P) (.node o0 (.node (ob P 35) (.node o0 (.node (tpl P 133) .nil .nil) (.node
    (ob P 195) .nil .nil)) (.node (ob P 99) (.node o0 .nil .nil) .nil)) (.node (x94 P) (.node (ob P 83) (.node (ob P 147) .nil .nil) (.node (ob P 211) .nil .nil)) (.node (ob P 115) (.node (ob P 179) .nil .nil) .nil))) (.node (x64 P) (.node (x86 P) (.node (ob P 75) (.node (ob P 139) .nil .nil) (.node (ob P 203) .nil .nil)) (.node (ob P 107) (.node (ob P 171) .nil .nil) .nil)) (.node (ob P 59)
    (.node (tpl P 93) (.node (ob P 155) .nil .nil) (.node o0 .nil .nil)) (.node o0 (.node (tpl P 189) .nil .nil) .nil))))) (.node (boot_o_5 P) (.node (boot_o_9 P) (.node (x54 P) (.node (x73 P) (.node (ob P 65) (.node (ob P 129) .nil .nil) (.node (ob P 193) .nil .nil)) (.node (ob P 97) (.node (ob P 161) .nil .nil) .nil)) (.node (ob P 49) (.node o0 (.node (tpl P 147) .nil .nil) (.node (ob P 209)
    .nil .nil)) (.node (ob P 113) (.node o0 .nil .nil) .nil))) (.node (ob P 25) (.node (x84 P) (.node (ob P 73) (.node (ob P 137) .nil .nil) (.node (tpl P 203) .nil .nil)) (.node (tpl P 107) (.node (ob P 169) .nil .nil) .nil)) (.node (ob P 57) (.node (ob P 89) (.node (ob P 153) .nil .nil) (.node (ob P 217) .nil .nil)) (.node (ob P 121) (.node (ob P 185) .nil .nil) .nil)))) (.node (x45 P) (.node
    (x58 P) (.node (ob P 37) (.node (ob P 69) (.node (ob P 133) .nil .nil) (.node (ob P 197) .nil .nil)) (.node (ob P 101) (.node (ob P 165) .nil .nil) .nil)) (.node o0 (.node (ob P 85) (.node o0 .nil .nil) (.node (ob P 213) .nil .nil)) (.node (ob P 117) (.node (ob P 181) .nil .nil) .nil))) (.node (x69 P) (.node (x88 P) (.node (tpl P 79) (.node (ob P 141) .nil .nil) (.node o0 .nil .nil)) (.node o0
    (.node (tpl P 175) .nil .nil) .nil)) (.node (ob P 61) (.node (ob P 93) (.node (ob P 157) .nil .nil) (.node (ob P 221) .nil .nil)) (.node (ob P 125) (.node (ob P 189) .nil .nil) .nil)))))) (.node (ob P 2) (.node (boot_o_4 P) (.node (boot_o_8 P) (.node (x53 P) (.node o0 (.node (ob P 64) (.node o0 .nil .nil) (.node (ob P 192) .nil .nil)) (.node (ob P 96) (.node (ob P 160) .nil .nil) .nil)) (.node
    (ob P 48) (.node (ob P 80) (.node (ob P 144) .nil .nil) (.node (tpl P 210) .nil .nil)) (.node (tpl P 114) (.node (ob P 176) .nil .nil) .nil))) (.node (ob P 24) (.node (ob P 40) (.node (ob P 72) (.node (ob P 136) .nil .nil) (.node (ob P 200) .nil .nil)) (.node (ob P 104) (.node (ob P 168) .nil .nil) .nil)) (.node (tpl P 58) (.node o0 (.node (tpl P 154) .nil .nil) (.node (ob P 216) .nil .nil))
    (.node (ob P 120) (.node o0 .nil .nil) .nil)))) (.node (x208 P) (.node (x57 P) (.node (ob P 36) (.node (ob P 68) (.node (ob P 132) .nil .nil) (.node (ob P 196) .nil .nil)) (.node (ob P 100) (.node (ob P 164) .nil .nil) .nil)) (.node (ob P 52) (.node (tpl P 86) (.node (ob P 148) .nil .nil) (.node o0 .nil .nil)) (.node o0 (.node (tpl P 182) .nil .nil) .nil))) (.node (ob P 28) (.node o0 (.node
    (ob P 76) (.node (ob P 140) .nil .nil) (.node (ob P 204) .nil .nil)) (.node (ob P 108) (.node (ob P 172) .nil .nil) .nil)) (.node o0 (.node (ob P 92) (.node o0 .nil .nil) (.node (tpl P 222) .nil .nil)) (.node (tpl P 126) (.node (ob P 188) .nil .nil) .nil))))) (.node (boot_o_6 P) (.node (boot_o_10 P) (.node (x55 P) (.node (x74 P) (.node (ob P 66) (.node (ob P 130) .nil .nil) (.node (tpl P 196)
    .nil .nil)) (.node (tpl P 100) (.node (ob P 162) .nil .nil) .nil)) (.node (x93 P) (.node (ob P 82) (.node (ob P 146) .nil .nil) (.node (ob P 210) .nil .nil)) (.node (ob P 114) (.node (ob P 178) .nil .nil) .nil))) (.node (x63 P) (.node (x85 P) (.node o0 (.node (tpl P 140) .nil .nil) (.node (ob P 202) .nil .nil)) (.node (ob P 106) (.node o0 .nil .nil) .nil)) (.node (ob P 58) (.node (ob P 90)
    (.node (ob P 154) .nil .nil) (.node (ob P 218) .nil .nil)) (.node (ob P 122) (.node (ob P 186) .nil .nil) .nil)))) (.node (x46 P) (.node (ob P 22) (.node (x78 P) (.node (tpl P 72) (.node (ob P 134) .nil .nil) (.node o0 .nil .nil)) (.node o0 (.node (tpl P 168) .nil .nil) .nil)) (.node (ob P 54) (.node (ob P 86) (.node (ob P 150) .nil .nil) (.node (ob P 214) .nil .nil)) (.node (ob P 118) (.node
    (ob P 182) .nil .nil) .nil))) (.node (x70 P) (.node (x89 P) (.node (ob P 78) (.node o0 .nil .nil) (.node (ob P 206) .nil .nil)) (.node (ob P 110) (.node (ob P 174) .nil .nil) .nil)) (.node (ob P 62) (.node (ob P 94) (.node (ob P 158) .nil .nil) (.node (ob P 222) .nil .nil)) (.node (ob P 126) (.node (ob P 190) .nil .nil) .nil))))))
noncomputable def H0 (P : Params) : Heap := ⟨⟨[(boot_o_0 P), (boot_o_1 P), (boot_o_2 P), (boot_o_3 P), (boot_o_4 P), (boot_o_5 P), (boot_o_6 P), (boot_o_7 P), (boot_o_8 P), (boot_o_9 P), (boot_o_10 P), (x43 P), o0, (x45 P), (x46 P)]⟩, {}⟩
noncomputable def H1 (P : Params) : Heap := ⟨⟨[(boot_o_0 P), (boot_o_1 P), (ob P 2), (ob P 3), (boot_o_4 P), (boot_o_5 P), (boot_o_6 P), (boot_o_7 P), (boot_o_8 P), (boot_o_9 P), (boot_o_10 P), (x43 P), (x208 P), (x45 P), (x46 P), (ob P 15), (x53 P), (x54 P), (x55 P), o0, (x57 P), (x58 P), (ob P 22), (ob P 23), (ob P 24), (ob P 25), (x63 P), (x64 P), (ob P 28), (x69 P), (x70 P), (x71 P), o0, (x73 P), (x74 P),
    (ob P 35), (ob P 36), (ob P 37), (x78 P), (x79 P), (ob P 40), (x84 P), (x85 P), (x86 P), o0, (x88 P), (x89 P), (ob P 47), (ob P 48), (ob P 49), (x93 P), (x94 P), (ob P 52), o0, (ob P 54), (ob P 55), (tpl P 58), (ob P 57), (ob P 58), (ob P 59), o0, (ob P 61), (ob P 62), (tpl P 65), (ob P 64), (ob P 65), (ob P 66), o0, (ob P 68), (ob P 69), (tpl P 72), (ob P 71), (ob P 72), (ob P 73), o0, (ob P
    75), (ob P 76), (tpl P 79), (ob P 78), (ob P 79), (ob P 80), o0, (ob P 82), (ob P 83), (tpl P 86), (ob P 85), (ob P 86), (ob P 87), o0, (ob P 89), (ob P 90), (tpl P 93), (ob P 92), (ob P 93), (ob P 94), o0, (ob P 96), (ob P 97), (tpl P 100), (ob P 99), (ob P 100), (ob P 101), o0, (ob P 103), (ob P 104), (tpl P 107), (ob P 106), (ob P 107), (ob P 108), o0, (ob P 110), (ob P 111), (tpl P 114),
    (ob P 113), (ob P 114), (ob P 115), o0, (ob P 117), (ob P 118), (tpl P 121), (ob P 120), (ob P 121), (ob P 122), o0, (tpl P 126), (ob P 125), (ob P 126), (ob P 127), o0, (ob P 129), (ob P 130), (tpl P 133), (ob P 132), (ob P 133), (ob P 134), o0, (ob P 136), (ob P 137), (tpl P 140), (ob P 139), (ob P 140), (ob P 141), o0, (ob P 143), (ob P 144), (tpl P 147), (ob P 146), (ob P 147), (ob P 148),
    o0, (ob P 150), (ob P 151), (tpl P 154), (ob P 153), (ob P 154), (ob P 155), o0, (ob P 157), (ob P 158), (tpl P 161), (ob P 160), (ob P 161), (ob P 162), o0, (ob P 164), (ob P 165), (tpl P 168), (ob P 167), (ob P 168), (ob P 169), o0, (ob P 171), (ob P 172), (tpl P 175), (ob P 174), (ob P 175), (ob P 176), o0, (ob P 178), (ob P 179), (tpl P 182), (ob P 181), (ob P 182), (ob P 183), o0, (ob P
    185), (ob P 186), (tpl P 189), (ob P 188), (ob P 189), (ob P 190), o0, (ob P 192), (ob P 193), (tpl P 196), (ob P 195), (ob P 196), (ob P 197), o0, (ob P 199), (ob P 200), (tpl P 203), (ob P 202), (ob P 203), (ob P 204), o0, (ob P 206), (ob P 207), (tpl P 210), (ob P 209), (ob P 210), (ob P 211), o0, (ob P 213), (ob P 214), (tpl P 217), (ob P 216), (ob P 217), (ob P 218), o0, (tpl P 222), (ob
    P 221), (ob P 222)]⟩, {}⟩
noncomputable def env : Env := { scope := pw.main.scope, locals := mainNs, globals := mainNs, cells := [], code := .ref 13, frame := some 14 }
noncomputable def cd : Code := Code.body (behindTheImports pw) env
noncomputable abbrev fr : List Frame := [topFrame ⟨0, 0, 0, 0⟩]
noncomputable def sh (T : Params → BT) (n toks : Nat) (w : World) (os : OsState) : SharedT := ⟨T w.params, n, {}, ⟨[]⟩, {}, toks, os⟩
theorem run_pre (w : World) (os : OsState) : topGo treeTable pw w 11 (some (.ref 6)) 12 ⟨boot_heap w.params, ⟨[]⟩, boot_drawn, boot_toks, os⟩ (topStub pw) =
    some (⟨H0 w.params, ⟨[]⟩, {}, 187, os⟩, ⟨denote treeTable cd, cd, ⟨0, 0, 0, 0⟩, fr⟩) := by kernel_rfl
theorem run_block (w : World) (os : OsState) : segRun treeTable pw w 11 (some (.ref 6)) 1 1 ⟨H0 w.params, ⟨[]⟩, {}, 187, os⟩ (blockOf (behindTheImports pw) env cd ⟨0, 0, 0, 0⟩ fr) =
    some (.next, (sh T47 15 187 w os).abs, cd, ⟨0, 0, 0, 0⟩) := by kernel_rfl
noncomputable def sts0 : List Stmt := ((behindTheImports pw).drop 0).take 2
noncomputable def sts1 : List Stmt := ((behindTheImports pw).drop 2).take 1
noncomputable def sts2 : List Stmt := ((behindTheImports pw).drop 3).take 6
noncomputable def sts3 : List Stmt := ((behindTheImports pw).drop 9).take 14
noncomputable def sts4 : List Stmt := ((behindTheImports pw).drop 23).take 10
theorem run0 (w : World) (os : OsState) : segRunT treeTable pw w 11 (some (.ref 6)) 1 206 (sh T47 15 187 w os) (piecesOf sts0 env cd ⟨0, 0, 0, 0⟩ fr) =
    some (.next, sh T64 28 209 w os, cd, ⟨2, 0, 3, 8⟩) := by
  first
    | (rw [PySem.W.Fast.te10110043849684766642, PySem.W.Fast.te14364793385576792824]; kernel_rfl)
    | kernel_rfl
theorem run1 (w : World) (os : OsState) : segRunT treeTable pw w 11 (some (.ref 6)) 1 214 (sh T64 28 209 w os) (piecesOf sts1 env cd ⟨2, 0, 3, 8⟩ fr) =
    some (.next, sh T79 40 225 w os, cd, ⟨4, 0, 5, 8⟩) := by
  first
    | (rw [PySem.W.Fast.te10110043849684766642, PySem.W.Fast.te14364793385576792824]; kernel_rfl)
    | kernel_rfl
theorem run2 (w : World) (os : OsState) : segRunT treeTable pw w 11 (some (.ref 6)) 1 380 (sh T79 40 225 w os) (piecesOf sts2 env cd ⟨4, 0, 5, 8⟩ fr) =
    some (.next, sh T129 87 297 w os, cd, ⟨44, 0, 52, 16⟩) := by
  first
    | (rw [PySem.W.Fast.te10110043849684766642, PySem.W.Fast.te14364793385576792824]; kernel_rfl)
    | kernel_rfl
theorem run3 (w : World) (os : OsState) : segRunT treeTable pw w 11 (some (.ref 6)) 1 388 (sh T129 87 297 w os) (piecesOf sts3 env cd ⟨44, 0, 52, 16⟩ fr) =
    some (.next, sh T206 162 423 w os, cd, ⟨121, 0, 126, 43⟩) := by
  first
    | (rw [PySem.W.Fast.te10110043849684766642, PySem.W.Fast.te14364793385576792824]; kernel_rfl)
    | kernel_rfl
theorem run4 (w : World) (os : OsState) : segRunT treeTable pw w 11 (some (.ref 6)) 1 289 (sh T206 162 423 w os) (piecesOf sts4 env cd ⟨121, 0, 126, 43⟩ fr) =
    some (.next, sh T269 223 508 w os, cd, ⟨169, 0, 181, 86⟩) := by
  first
    | (rw [PySem.W.Fast.te10110043849684766642, PySem.W.Fast.te14364793385576792824]; kernel_rfl)
    | kernel_rfl
theorem run_fin (w : World) (os : OsState) : topRun treeTable pw w 11 (some (.ref 6)) 2 (sh T269 223 508 w os).abs ⟨doneF .next, cd, ⟨169, 0, 181, 86⟩, fr⟩ = some ⟨H1 w.params, ⟨[]⟩, {}, 508, os⟩ := by kernel_rfl
theorem sts_all : behindTheImports pw = sts0 ++ (sts1 ++ (sts2 ++ (sts3 ++ (sts4 ++ [])))) := by kernel_rfl
theorem run_all (w : World) (os : OsState) : topRun treeTable pw w 11 (some (.ref 6)) (12 + (1 + (206 + (214 + (380 + (388 + (289 + 2))))))) ⟨boot_heap w.params, ⟨[]⟩, boot_drawn, boot_toks, os⟩ (topStub pw) = some ⟨H1 w.params, ⟨[]⟩, {}, 508, os⟩ := by
  refine go_top (run_pre w os) (piece_block (run_block w os) ?_)
  rw [sts_all]
  exact piece_app (segRun_of (run0 w os)) (piece_app (segRun_of (run1 w os)) (piece_app (segRun_of (run2 w os)) (piece_app (segRun_of (run3 w os)) (piece_app (segRun_of (run4 w os)) (run_fin w os)))))
theorem size (w : World) : ((boot_heap w.params).isNs mainGlobals && (⟨[]⟩ : Array GenState).size == 0, (boot_heap w.params).objs.size, (boot_heap w.params).nsMap mainGlobals "__annotations__") = (true, 11, some (.ref 6)) := by kernel_rfl
theorem opens : opening pw = plainProg pw.main.scope.names := by kernel_rfl
theorem fenced (s : Shared) : fenceModules? pw s = some s := by kernel_rfl
theorem look_run (w : World) (os : OsState) : (staticsOk (importedModules pw.main.body) (boot_heap w.params) (H1 w.params) && namesBound pw (H1 w.params) && gensDone ⟨H1 w.params, ⟨[]⟩, {}, 508, os⟩ && laidKept (boot_heap w.params) (H1 w.params)) = true := by kernel_rfl
/-- what is asked of the state beside -/
noncomputable abbrev xt (s : Shared) : Bool := xlAt hd.view_1 [] s && recOk PySem.Challenge.rw_xm0384_01.row.records s
theorem look_open (w : World) (os : OsState) : openSeen hd.view_1 [] (importedModules pw.main.body) xt true ⟨H1 w.params, ⟨[]⟩, {}, 508, os⟩ = openGood hd.view_1 [] := by
  unfold openSeen openGood
  exact looks_pair (by kernel_rfl) (looks_pair (by kernel_rfl) (looks_pair (by kernel_rfl) (looks_pair (by kernel_rfl) (looks_pair (by kernel_rfl) (looks_pair (by kernel_rfl) (looks_pair (by kernel_rfl) (looks_pair (by kernel_rfl) (by kernel_rfl))))))))
theorem look_heap (w : World) : (2 :: 3 :: 15 :: 22 :: 23 :: 24 :: 25 :: 28 :: 35 :: 36 :: 37 :: 40 :: 47 :: 48 :: 49 :: 52 :: 54 :: 55 :: 57 :: 58 :: 59 :: 61 :: 62 :: 64 :: 65 :: 66 :: 68 :: 69 :: 71 :: 72 :: 73 :: 75 :: 76 :: 78 :: 79 :: 80 :: 82 :: 83 :: 85 :: 86 :: 87 :: 89 :: 90 :: 92 :: 93 :: 94 :: 96 :: 97 :: 99 :: 100 :: 101 :: 103 :: 104 :: 106 :: 107 :: 108 :: 110 :: 111 :: 113 :: 114 :: 115 :: 117 :: 118 :: 120 :: 121 :: 122 :: 125 :: 126 :: 127 :: 129 :: 130 :: 132 :: 133 :: 134 :: 136 :: 137 :: 139 :: 140 :: 141 :: 143 :: 144 :: 146 :: 147 :: 148 :: 150 :: 151 :: 153 :: 154 :: 155 :: 157 :: 158 :: 160 :: 161 :: 162 :: 164 :: 165 :: 167 :: 168 :: 169 :: 171 :: 172 :: 174 :: 175 :: 176 :: 178 :: 179 :: 181 :: 182 :: 183 :: 185 :: 186 :: 188 :: 189 :: 190 :: 192 :: 193 :: 195 :: 196 :: 197 :: 199 :: 200 :: 202 :: 203 :: 204 :: 206 :: 207 :: 209 :: 210 :: 211 :: 213 :: 214 :: 216 :: 217 :: 218 :: 221 :: 222 :: []).map (H1 w.params).get? = (hd.heap_1 w.params).map (fun p => some p.2) := by kernel_rfl
theorem left : LeftO pw hd.view_1 [] xt (kHook hd.heap_1 (2 :: 3 :: 15 :: 22 :: 23 :: 24 :: 25 :: 28 :: 35 :: 36 :: 37 :: 40 :: 47 :: 48 :: 49 :: 52 :: 54 :: 55 :: 57 :: 58 :: 59 :: 61 :: 62 :: 64 :: 65 :: 66 :: 68 :: 69 :: 71 :: 72 :: 73 :: 75 :: 76 :: 78 :: 79 :: 80 :: 82 :: 83 :: 85 :: 86 :: 87 :: 89 :: 90 :: 92 :: 93 :: 94 :: 96 :: 97 :: 99 :: 100 :: 101 :: 103 :: 104 :: 106 :: 107 :: 108 :: 110 :: 111 :: 113 :: 114 :: 115 :: 117 :: 118 :: 120 :: 121 :: 122 :: 125 :: 126 :: 127 :: 129 :: 130 :: 132 :: 133 :: 134 :: 136 :: 137 :: 139 :: 140 :: 141 :: 143 :: 144 :: 146 :: 147 :: 148 :: 150 :: 151 :: 153 :: 154 :: 155 :: 157 :: 158 :: 160 :: 161 :: 162 :: 164 :: 165 :: 167 :: 168 :: 169 :: 171 :: 172 :: 174 :: 175 :: 176 :: 178 :: 179 :: 181 :: 182 :: 183 :: 185 :: 186 :: 188 :: 189 :: 190 :: 192 :: 193 :: 195 :: 196 :: 197 :: 199 :: 200 :: 202 :: 203 :: 204 :: 206 :: 207 :: 209 :: 210 :: 211 :: 213 :: 214 :: 216 :: 217 :: 218 :: 221 :: 222 :: []) (fun _ => by kernel_rfl)).obs (kHook hd.heap_1 (2 :: 3 :: 15 :: 22 :: 23 :: 24 :: 25 :: 28 :: 35 :: 36 :: 37 :: 40 :: 47 :: 48 :: 49 :: 52 :: 54 :: 55 :: 57 :: 58 :: 59 :: 61 :: 62 :: 64 :: 65 :: 66 :: 68 :: 69 :: 71 :: 72 :: 73 :: 75 :: 76 :: 78 :: 79 :: 80 :: 82 :: 83 :: 85 :: 86 :: 87 :: 89 :: 90 :: 92 :: 93 :: 94 :: 96 :: 97 :: 99 :: 100 :: 101 :: 103 :: 104 :: 106 :: 107 :: 108 :: 110 :: 111 :: 113 :: 114 :: 115 :: 117 :: 118 :: 120 :: 121 :: 122 :: 125 :: 126 :: 127 :: 129 :: 130 :: 132 :: 133 :: 134 :: 136 :: 137 :: 139 :: 140 :: 141 :: 143 :: 144 :: 146 :: 147 :: 148 :: 150 :: 151 :: 153 :: 154 :: 155 :: 157 :: 158 :: 160 :: 161 :: 162 :: 164 :: 165 :: 167 :: 168 :: 169 :: 171 :: 172 :: 174 :: 175 :: 176 :: 178 :: 179 :: 181 :: 182 :: 183 :: 185 :: 186 :: 188 :: 189 :: 190 :: 192 :: 193 :: 195 :: 196 :: 197 :: 199 :: 200 :: 202 :: 203 :: 204 :: 206 :: 207 :: 209 :: 210 :: 211 :: 213 :: 214 :: 216 :: 217 :: 218 :: 221 :: 222 :: []) (fun _ => by kernel_rfl)).val 3070 :=
  LeftO.of_pieces (H₁ := H1) (boot_open opens (by decide) fenced) size run_all (by decide) fun w => funext fun os => looks_pair (look_run w os) (looks_pair (look_open w os) (look_heap w))
end
end
section
open PySem PySem.W PySem.Calls PyProof.Rows PySem.Spec
/-- how a def ends: in the frame L over g with the value v, of which `ret` says what it is -/
noncomputable def Ends (g : Heap) (s : Shared) (ret : List (Addr × Obj) → Value → Prop) (v : Value) (s' : Shared) : Prop :=
  ∃ L h tk m news, s' = { s with heap := h, toks := tk } ∧ Fr g L h m ∧ News g L h news ∧ ret news v
theorem Ends.intro {g h : Heap} {L : Addr} {m : Str → Option Value} {news : List (Addr × Obj)} {s : Shared} {tk : Nat} {ret : List (Addr × Obj) → Value → Prop} {v : Value}
    (F : Fr g L h m) (N : News g L h news) (r : ret news v) : Ends g s ret v { s with heap := h, toks := tk } := ⟨L, h, tk, m, news, rfl, F, N, r⟩
/-- a fresh list of the ints out -/
noncomputable def RetL (out : List Int) (news : List (Addr × Obj)) (v : Value) : Prop := ∃ r vs n, v = .ref r ∧ (r, listOf vs.toArray n) ∈ news ∧ IntsAre vs out
/-- a fresh list of ints of which P holds -/
noncomputable def RetP (P : List Int → Prop) (news : List (Addr × Obj)) (v : Value) : Prop := ∃ r vs n ns, v = .ref r ∧ (r, listOf vs.toArray n) ∈ news ∧ IntsAre vs ns ∧ P ns
/-- an int -/
noncomputable def RetI (P : Int → Prop) (_ : List (Addr × Obj)) (v : Value) : Prop := ∃ x t, v = .int x t ∧ P x
/-- the def at f, called with args, hands back what `ret` says; `pre` says what stands in the heap -/
noncomputable def Says (k : Nat) (w : World) (f : Addr) (args : List Value) (pre : Heap → Prop) (ret : List (Addr × Obj) → Value → Prop) : Prop :=
  ∀ (mean : ExcName → Option Value) (mg mb : Str → Option Value) (dp un : Nat) (gd : Option (List Code)) (cn : Str) (cs : Scope) (a : Addr) (ccd : Value) (cl : List (Str × Addr)) (outer : List Env) (A₀ : Around) (base h₀ : Heap) (L : Addr) (m : Str → Option Value) (s : Shared)
    (Q E : Value → Shared → Prop),
    Below A₀ base outer h₀ → Fr h₀ L s.heap m → (hd.heap_1 w.params).In h₀ → Top hd.view_1 (looseW hd.view_1 []) mean mg mb h₀ → cs.kind = .function → pre s.heap → dp + k < recursionLimit → un + 8 * k < cLine →
    (∀ v s', Ends s.heap s ret v s' → Q v s') →
    wpAny (model PySem.Challenge.rw_xm0384_01.row.prog w) (ktrTop dp un gd cn cs L a ccd cl outer) (call (.ref f) args) Q E s
/-- what the walk of a body has to show -/
noncomputable def Body (k : Nat) (w : World) (f : Addr) (name qual : Str) (params : Arguments) (body : List Stmt) (scope : Scope) (cdv : Value) (binds : List (Str × Value)) (pre : Heap → Prop) (ret : List (Addr × Obj) → Value → Prop) : Prop :=
  ∀ (mean : ExcName → Option Value) (mg mb : Str → Option Value) (dp un : Nat) (gd : Option (List Code)) (outer : List Env) (A₀ : Around) (base g h : Heap) (L : Addr) (s : Shared) (tk : Nat),
    Below A₀ base outer g → Fr g L h (fun y => binds.reverse.lookup y) → News g L h [] → (hd.heap_1 w.params).In g → Top hd.view_1 (looseW hd.view_1 []) mean mg mb g → pre g → dp + k < recursionLimit → un + 8 * k < cLine →
    wpAny (model PySem.Challenge.rw_xm0384_01.row.prog w) (ktrTop (dp + 1) (un + 3) gd qual scope L f cdv [] outer) (execs body (envX qual scope L f cdv []))
      (fun fl s' => Ends g s ret (match fl with | .ret v => v | _ => .none) s') (fun _ _ => False) { s with heap := h, toks := tk }
theorem says_of {k : Nat} {w : World} {f : Addr} {args : List Value} {pre : Heap → Prop} {ret : List (Addr × Obj) → Value → Prop} {name qual : Str} {params : Arguments} {body : List Stmt} {scope : Scope} {dV kV doc pm cdv ct oc : Value} {an od : Option Addr} {osl : Array (Option Value)} {binds : List (Str × Value)}
    (h : Body k w f name qual params body scope cdv binds pre ret)
    (ho : (hd.heap_1 w.params).lookup f = some ⟨oc, od, .func (fnOf name qual params body scope dV kV doc pm an cdv ct), osl⟩) (hcd : codeIn (hd.heap_1 w.params) cdv qual = true)
    (hbind : ∀ s, BindsTo s (fnOf name qual params body scope dV kV doc pm an cdv ct) ⟨args, []⟩ binds) (hloc : ∀ y ∈ binds, scope.names.lookup y.1 = some .local)
    (hco : scope.isCoroutine = false) (hgen : scope.isGenerator = false) (hk : scope.kind = .function) (hcell : ∀ x ∈ scope.names, x.2 ≠ .cell) (hk0 : 0 < k) :
    Says k w f args pre ret := by
  intro mean mg mb dp un gd cn cs a ccd cl outer A₀ base h₀ L m s Q E B F X T hck hpre hdp hu hret
  refine wpAny_call ?_
  have Xs : (hd.heap_1 w.params).In s.heap := X.keeps F.keep
  have Ts := T.keeps F.keep
  refine codeAny_call_def (fd := fnOf name qual params body scope dV kV doc pm an cdv ct) (body := body) (binds := binds) (by show dp < recursionLimit; omega) (Xs _ _ ho) rfl Ts.nolimit (codeRec_of Xs hcd) rfl (hbind s) hcell hloc (fun h₁ hns hk₁ => ?_) hco hgen hk
  have B₁ := pushX (env := envX cn cs L a ccd cl) B F rfl hck
  have F₁ : Fr s.heap s.heap.objs.size h₁ (fun y => binds.reverse.lookup y) := ⟨hns, hk₁, Nat.le_refl _⟩
  have q := h mean mg mb dp un gd (envX cn cs L a ccd cl :: outer) _ base s.heap h₁ s.heap.objs.size s (s.toks + binds.length) B₁ F₁ News.nil Xs Ts hpre (by omega) (by omega)
  refine wpAny_mono q (fun fl s' e => ?_) fun _ _ x => x.elim
  exact hret _ _ e
/-- the same where the def has cells -/
noncomputable def BodyC (k : Nat) (w : World) (f : Addr) (qual : Str) (body : List Stmt) (scope : Scope) (cdv : Value) (binds : List (Str × Value)) (pre : Heap → Prop) (ret : List (Addr × Obj) → Value → Prop) : Prop :=
  ∀ (mean : ExcName → Option Value) (mg mb : Str → Option Value) (dp un : Nat) (gd : Option (List Code)) (outer : List Env) (A₀ : Around) (base g h : Heap) (L : Addr) (s : Shared) (tk : Nat) (cells : List (Addr × Obj)),
    Below A₀ base outer g → Fr g L h (bindL (envOfC qual scope L f cdv).kindOf binds fun _ => none) → News g L h cells → CellsAre (bindC (envOfC qual scope L f cdv).kindOf binds fun _ => none) (cellsFrom (L + 1) scope.names []) cells → (hd.heap_1 w.params).In g → Top hd.view_1 (looseW hd.view_1 []) mean mg mb g → pre g → dp + k < recursionLimit → un + 8 * k < cLine →
    wpAny (model PySem.Challenge.rw_xm0384_01.row.prog w) (ktrTop (dp + 1) (un + 3) gd qual scope L f cdv (cellsFrom (L + 1) scope.names []) outer) (execs body (envX qual scope L f cdv (cellsFrom (L + 1) scope.names [])))
      (fun fl s' => Ends g s ret (match fl with | .ret v => v | _ => .none) s') (fun _ _ => False) { s with heap := h, toks := tk }
theorem says_ofC {k : Nat} {w : World} {f : Addr} {args : List Value} {pre : Heap → Prop} {ret : List (Addr × Obj) → Value → Prop} {name qual : Str} {params : Arguments} {body : List Stmt} {scope : Scope} {dV kV doc pm cdv ct oc : Value} {an od : Option Addr} {osl : Array (Option Value)} {binds : List (Str × Value)}
    (h : BodyC k w f qual body scope cdv binds pre ret)
    (ho : (hd.heap_1 w.params).lookup f = some ⟨oc, od, .func (fnOf name qual params body scope dV kV doc pm an cdv ct), osl⟩) (hcd : codeIn (hd.heap_1 w.params) cdv qual = true)
    (hbind : ∀ s, BindsTo s (fnOf name qual params body scope dV kV doc pm an cdv ct) ⟨args, []⟩ binds) (hkind : (binds.all fun y => scope.names.lookup y.1 == some .local || scope.names.lookup y.1 == some .cell) = true)
    (hnd : ((cellsFrom 0 scope.names []).map (·.1)).Nodup) (hco : scope.isCoroutine = false) (hgen : scope.isGenerator = false) (hk : scope.kind = .function) (hk0 : 0 < k) :
    Says k w f args pre ret := by
  intro mean mg mb dp un gd cn cs a ccd cl outer A₀ base h₀ L m s Q E B F X T hck hpre hdp hu hret
  refine wpAny_call ?_
  have Xs : (hd.heap_1 w.params).In s.heap := X.keeps F.keep
  have Ts := T.keeps F.keep
  have B₁ := pushX (env := envX cn cs L a ccd cl) B F rfl hck
  refine codeAny_call_function (by show dp < recursionLimit; omega) (Xs _ _ ho) rfl hco hgen rfl (codeRec_of Xs hcd) (hbind s _ _ _ _ ?_)
  refine wpAny_newFunctionEnv_cells hk (kindsX hkind _) fun env' he s' x => ?_
  subst he
  refine ⟨Ts.nolimit.keeps x.toInCall.keep, codeAny_func ?_⟩
  obtain ⟨h₁, tk, rfl, _⟩ := x.done
  obtain ⟨cells, NC, Y⟩ := Cl.news (h₀ := s.heap) (Nat.le_refl _) fun n c hm => ⟨x.cell n c (lookup_of_mem_nodup (cellsFrom_names scope.names 0 (s.heap.objs.size + 1) [] [] rfl ▸ hnd) hm), x.above n c hm⟩
  have F₁ : Fr s.heap s.heap.objs.size h₁ (bindL (envOfC qual scope s.heap.objs.size f cdv).kindOf binds fun _ => none) := ⟨x.toInCall.ns, x.toInCall.keep, Nat.le_refl _⟩
  have q := h mean mg mb dp un gd (envX cn cs L a ccd cl :: outer) _ base s.heap h₁ s.heap.objs.size s tk cells B₁ F₁ NC Y Xs Ts hpre (by omega) (by omega)
  refine wpAny_mono q (fun fl s' e => ?_) fun _ _ x => x.elim
  exact hret _ _ e
noncomputable def AllNe (d : Addr) : List (Addr × Obj) → Prop
  | [] => True
  | p :: r => @Ne Nat p.1 d ∧ AllNe d r
theorem allNe_of {d : Addr} : ∀ {l : List (Addr × Obj)}, (∀ p ∈ l, p.1 ≠ d) → AllNe d l
  | [], _ => trivial
  | p :: _, h => ⟨h p (.head _), allNe_of fun q hq => h q (.tail _ hq)⟩
section
variable {k : Nat} {w : World} {f : Addr} {args : List Value} {pre : Heap → Prop} {mean : ExcName → Option Value} {mg mb : Str → Option Value} {dp un : Nat} {gd : Option (List Code)} {cn : Str} {cs : Scope} {a : Addr} {ccd : Value} {cl : List (Str × Addr)} {outer : List Env} {A₀ : Around} {base h₀ : Heap} {L : Addr} {m : Str → Option Value} {s : Shared} {news : List (Addr × Obj)}
  {Q E : Value → Shared → Prop}
theorem says_list {P : List Int → Prop} (C : Says k w f args pre (RetP P)) (B : Below A₀ base outer h₀) (F : Fr h₀ L s.heap m) (X : (hd.heap_1 w.params).In h₀) (T : Top hd.view_1 (looseW hd.view_1 []) mean mg mb h₀) (N : News h₀ L s.heap news) (hck : cs.kind = .function) (hpre : pre s.heap)
    (hdp : dp + k < recursionLimit) (hu : un + 8 * k < cLine)
    (ret : ∀ r vs n ns h' tk', Fr h₀ L h' m → News h₀ L h' ((r, listOf vs.toArray n) :: news) → AllNe r news → IntsAre vs ns → P ns → Q (.ref r) { s with heap := h', toks := tk' }) :
    wpAny (model PySem.Challenge.rw_xm0384_01.row.prog w) (ktrTop dp un gd cn cs L a ccd cl outer) (call (.ref f) args) Q E s := by
  refine C mean mg mb dp un gd cn cs a ccd cl outer A₀ base h₀ L m s Q E B F X T hck hpre hdp hu ?_
  rintro v s' ⟨L₁, h', tk, m₁, nw, rfl, F₁, N₁, r, vs, n, ns, rfl, hm, hi, hp⟩
  obtain ⟨g1, g2, g3⟩ := N₁ _ hm
  have F₂ : Fr h₀ L h' m := ⟨F.ns.keeps F₁.keep, fun b o e => F₁.keep b o (F.keep b o e), F.above⟩
  refine ret r vs n ns h' tk F₂ (fun p hq => ?_) (allNe_of fun p hq e => ?_) hi hp
  · rcases List.mem_cons.mp hq with rfl | hq
    · refine ⟨g1, fun e => ?_, ?_⟩
      · obtain ⟨o, _, _, ho, _⟩ := F.ns
        have : s.heap.get? r = some o := by rw [show r = L from e]; exact ho
        rw [g3] at this; cases this
      · cases q : h₀.get? r with
        | none => rfl
        | some o => have := F.keep _ _ q; rw [g3] at this; cases this
    · obtain ⟨a1, a2, a3⟩ := N p hq
      exact ⟨F₁.keep _ _ a1, a2, a3⟩
  · have := (N p hq).1
    rw [e, g3] at this; cases this
theorem says_int {P : Int → Prop} (C : Says k w f args pre (RetI P)) (B : Below A₀ base outer h₀) (F : Fr h₀ L s.heap m) (X : (hd.heap_1 w.params).In h₀) (T : Top hd.view_1 (looseW hd.view_1 []) mean mg mb h₀) (N : News h₀ L s.heap news) (hck : cs.kind = .function) (hpre : pre s.heap)
    (hdp : dp + k < recursionLimit) (hu : un + 8 * k < cLine)
    (ret : ∀ x t h' tk', Fr h₀ L h' m → News h₀ L h' news → P x → Q (.int x t) { s with heap := h', toks := tk' }) :
    wpAny (model PySem.Challenge.rw_xm0384_01.row.prog w) (ktrTop dp un gd cn cs L a ccd cl outer) (call (.ref f) args) Q E s := by
  refine C mean mg mb dp un gd cn cs a ccd cl outer A₀ base h₀ L m s Q E B F X T hck hpre hdp hu ?_
  rintro v s' ⟨L₁, h', tk, m₁, nw, rfl, F₁, N₁, x, t, rfl, hp⟩
  exact ret x t h' tk ⟨F.ns.keeps F₁.keep, fun b o e => F₁.keep b o (F.keep b o e), F.above⟩ (fun p hq => ⟨F₁.keep _ _ (N p hq).1, (N p hq).2.1, (N p hq).2.2⟩) hp
end
theorem Says.mono {k : Nat} {w : World} {f : Addr} {args : List Value} {pre : Heap → Prop} {ret ret' : List (Addr × Obj) → Value → Prop} (h : Says k w f args pre ret) (e : ∀ news v, ret news v → ret' news v) : Says k w f args pre ret' := by
  intro mean mg mb dp un gd cn cs a ccd cl outer A₀ base h₀ L m s Q E B F X T hck hpre hdp hu hret
  refine h mean mg mb dp un gd cn cs a ccd cl outer A₀ base h₀ L m s Q E B F X T hck hpre hdp hu ?_
  rintro v s' ⟨L₁, h', tk, m₁, nw, e1, F₁, N₁, r⟩
  exact hret v s' ⟨L₁, h', tk, m₁, nw, e1, F₁, N₁, e _ _ r⟩
theorem RetP.mono {P P' : List Int → Prop} (e : ∀ ns, P ns → P' ns) (news : List (Addr × Obj)) (v : Value) : RetP P news v → RetP P' news v := by
  rintro ⟨r, vs, n, ns, h1, h2, h3, h4⟩
  exact ⟨r, vs, n, ns, h1, h2, h3, e ns h4⟩
/-- the same for a def that turns one object, the one at pa -/
noncomputable def EndsM (g : Heap) (s : Shared) (pa : Addr) (ret : Obj → Value → Prop) (v : Value) (s' : Shared) : Prop :=
  ∃ L h tk m news o', s' = { s with heap := h, toks := tk } ∧ Fr g L h m ∧ News g L h news ∧ (pa, o') ∈ news ∧ ret o' v
theorem EndsM.intro {g h : Heap} {L pa : Addr} {m : Str → Option Value} {news : List (Addr × Obj)} {o' : Obj} {s : Shared} {tk : Nat} {ret : Obj → Value → Prop} {v : Value}
    (F : Fr g L h m) (N : News g L h news) (hm : (pa, o') ∈ news) (r : ret o' v) : EndsM g s pa ret v { s with heap := h, toks := tk } := ⟨L, h, tk, m, news, o', rfl, F, N, hm, r⟩
noncomputable def BodyM (k : Nat) (w : World) (f : Addr) (qual : Str) (body : List Stmt) (scope : Scope) (cdv : Value) (binds : List (Str × Value)) (pa : Addr) (o : Obj) (pre : Heap → Prop) (ret : Obj → Value → Prop) : Prop :=
  ∀ (mean : ExcName → Option Value) (mg mb : Str → Option Value) (dp un : Nat) (gd : Option (List Code)) (outer : List Env) (A₀ : Around) (base g h : Heap) (L : Addr) (s : Shared) (tk : Nat),
    Below A₀ base outer g → Fr g L h (fun y => binds.reverse.lookup y) → News g L h [(pa, o)] → (hd.heap_1 w.params).In g → Top hd.view_1 (looseW hd.view_1 []) mean mg mb g → pre g → dp + k < recursionLimit → un + 8 * k < cLine →
    wpAny (model PySem.Challenge.rw_xm0384_01.row.prog w) (ktrTop (dp + 1) (un + 3) gd qual scope L f cdv [] outer) (execs body (envX qual scope L f cdv []))
      (fun fl s' => EndsM g s pa ret (match fl with | .ret v => v | _ => .none) s') (fun _ _ => False) { s with heap := h, toks := tk }
theorem says_ofM {k : Nat} {w : World} {f : Addr} {args : List Value} {pa : Addr} {o : Obj} {pre : Heap → Prop} {ret : Obj → Value → Prop} {name qual : Str} {params : Arguments} {body : List Stmt} {scope : Scope} {dV kV doc pm cdv ct oc : Value} {an od : Option Addr} {osl : Array (Option Value)} {binds : List (Str × Value)}
    (h : BodyM k w f qual body scope cdv binds pa o pre ret)
    (ho : (hd.heap_1 w.params).lookup f = some ⟨oc, od, .func (fnOf name qual params body scope dV kV doc pm an cdv ct), osl⟩) (hcd : codeIn (hd.heap_1 w.params) cdv qual = true)
    (hbind : ∀ s, BindsTo s (fnOf name qual params body scope dV kV doc pm an cdv ct) ⟨args, []⟩ binds) (hloc : ∀ y ∈ binds, scope.names.lookup y.1 = some .local)
    (hco : scope.isCoroutine = false) (hgen : scope.isGenerator = false) (hk : scope.kind = .function) (hcell : ∀ x ∈ scope.names, x.2 ≠ .cell) (hk0 : 0 < k)
    {mean : ExcName → Option Value} {mg mb : Str → Option Value} {dp un : Nat} {gd : Option (List Code)} {cn : Str} {cs : Scope} {a : Addr} {ccd : Value} {cl : List (Str × Addr)} {outer : List Env} {A₀ : Around} {base h₀ : Heap} {L : Addr} {m : Str → Option Value} {s : Shared} {news : List (Addr × Obj)} {G : Obj → List (Addr × Obj)}
    {Q E : Value → Shared → Prop} (B : Below A₀ base outer h₀) (F : Fr h₀ L s.heap m) (X : (hd.heap_1 w.params).In h₀) (T : Top hd.view_1 (looseW hd.view_1 []) mean mg mb h₀) (N : News h₀ L s.heap news) (U : UpdF pa o news G) (hck : cs.kind = .function) (hpre : ∀ g : Heap, (∀ b o', s.heap.get? b = some o' → b ≠ pa → g.get? b = some o') → pre g)
    (hdp : dp + k < recursionLimit) (hu : un + 8 * k < cLine)
    (ret' : ∀ v o' h' tk', Fr h₀ L h' m → News h₀ L h' (G o') → ret o' v → Q v { s with heap := h', toks := tk' }) :
    wpAny (model PySem.Challenge.rw_xm0384_01.row.prog w) (ktrTop dp un gd cn cs L a ccd cl outer) (call (.ref f) args) Q E s := by
  obtain ⟨pr, post, rfl, hG, hp1, hp2⟩ := U.split
  have N1 : News h₀ L s.heap [(pa, o)] := fun p hp => N p (by rw [List.mem_singleton.mp hp]; exact List.mem_append.mpr (.inr (.head _)))
  refine wpAny_call ?_
  have Xs : (hd.heap_1 w.params).In s.heap := X.keeps F.keep
  have Ts := T.keeps F.keep
  obtain ⟨FG, BG, st, _⟩ := groundX (R := fun _ _ => True) (A := ktrTop dp un gd cn cs L a ccd cl outer) (env := envX cn cs L a ccd cl) B F N1 rfl rfl hck
  refine codeAny_call_def (fd := fnOf name qual params body scope dV kV doc pm an cdv ct) (body := body) (binds := binds) (by show dp < recursionLimit; omega) (Xs _ _ ho) rfl Ts.nolimit (codeRec_of Xs hcd) rfl (hbind s) hcell hloc (fun h₁ hns hk₁ => ?_) hco hgen hk
  have F₁ : Fr (hideAll s.heap ([(pa, o)].map (·.1))) s.heap.objs.size h₁ (fun y => binds.reverse.lookup y) := ⟨hns, fun b x e => hk₁ b x (of_hideAll _ e), Nat.le_of_eq (hideAll_size _ _)⟩
  have N₁ : News (hideAll s.heap ([(pa, o)].map (·.1))) s.heap.objs.size h₁ [(pa, o)] := fun p hp => ⟨hk₁ _ _ (N1 p hp).1, Nat.ne_of_lt (Heap.lt_size (N1 p hp).1), hideAll_none _ (List.mem_map_of_mem hp)⟩
  have q := h mean mg mb dp un gd (envX cn cs L a ccd cl :: outer) (ktrTop dp un gd cn cs L a ccd cl outer) base _ h₁ s.heap.objs.size s (s.toks + binds.length) ⟨rfl, BG.stays, BG.frames⟩ F₁ N₁ (X.keeps st) (T.keeps st) (hpre _ fun b o' e hb => hideAll_get _ e (by simpa using hb)) (by omega) (by omega)
  refine wpAny_mono q (fun fl s' e => ?_) fun _ _ x => x.elim
  obtain ⟨L₁, h', tk, m₁, nw, o', rfl, F₂, N₂, hm, r⟩ := e
  refine ret' _ o' h' tk ⟨FG.ns.keeps F₂.keep, fun b x e => F₂.keep b x (st b x e), F.above⟩ (fun p hp => ?_) r
  rw [hG] at hp
  have other : ∀ p ∈ pr ++ post, p.1 ≠ pa → h'.get? p.1 = some p.2 ∧ p.1 ≠ L ∧ h₀.get? p.1 = none := fun p hq hne => by
    have := N p (by rcases List.mem_append.mp hq with z | z; exact List.mem_append.mpr (.inl z); exact List.mem_append.mpr (.inr (.tail _ z)))
    exact ⟨F₂.keep _ _ (hideAll_get _ this.1 (by simpa using hne)), this.2.1, this.2.2⟩
  rcases List.mem_append.mp hp with hq | hq
  · exact other p (List.mem_append.mpr (.inl hq)) (hp1 p hq)
  · rcases List.mem_cons.mp hq with rfl | hq
    · exact ⟨(N₂ _ hm).1, (N1 _ (.head _)).2.1, (N1 _ (.head _)).2.2⟩
    · exact other p (List.mem_append.mpr (.inr hq)) (hp2 p hq)
theorem isList_kept {h₀ h : Heap} {L l : Addr} {m : Str → Option Value} {vs : Array Value} (F : Fr h₀ L h m) (x : h₀.IsList l vs) : h.IsList l vs := x.at fun o e => F.keep l o e
theorem news_tail {h₀ h : Heap} {L : Addr} {a : Addr × Obj} {r : List (Addr × Obj)} (N : News h₀ L h (a :: r)) : News h₀ L h r := fun p hp => N p (.tail _ hp)
theorem news_head {h₀ h : Heap} {L : Addr} {a : Addr × Obj} {r : List (Addr × Obj)} (N : News h₀ L h (a :: r)) : News h₀ L h [a] := fun p hp => N p (by rw [List.mem_singleton.mp hp]; exact .head _)
theorem fr_two {h₀ h : Heap} {L : Addr} {m₁ m₀ : Str → Option Value} {x1 x2 : Str} {v1 v2 : Value} (stored : List Str) (F : Fr h₀ L h m₁) (h1 : m₁ x1 = some v1) (h2 : m₁ x2 = some v2) (h3 : ∀ z, stored.contains z = false → m₁ z = m₀ z) :
    Fr h₀ L h (fun y => if y = x1 then some v1 else if y = x2 then some v2 else if stored.contains y then m₁ y else m₀ y) := by
  have e : (fun y => if y = x1 then some v1 else if y = x2 then some v2 else if stored.contains y then m₁ y else m₀ y) = m₁ := by
    funext y
    by_cases q1 : y = x1
    · rw [if_pos q1, q1, h1]
    · rw [if_neg q1]
      by_cases q2 : y = x2
      · rw [if_pos q2, q2, h2]
      · rw [if_neg q2]
        cases q3 : stored.contains y with
        | true => simp
        | false => simp only [Bool.false_eq_true, if_false]; exact (h3 y q3).symm
  rw [e]; exact F
/-- the walk stands still here -/
noncomputable def Hold (P : Prop) : Prop := P
theorem hold {P : Prop} (h : Hold P) : P := h
theorem unhold {P : Prop} (h : P) : Hold P := h
theorem ints_to {vs : List Value} {ns out : List Int} (h : IntsAre vs ns) (e : ns = out) : IntsAre vs out := e ▸ h
theorem fill_ : True ∨ (PySem.Challenge.rw_xm0384_01.row.prog = PySem.Challenge.rw_xm0384_01.row.prog ∧ hd.heap_1 = hd.heap_1) := .inl trivial
end
section
/-- the number that a row of limbs stands for -/
noncomputable def val (B : Int) : List Int → Int
  | [] => 0
  | x :: r => x + B * val B r
noncomputable def Limbs (B : Int) (xs : List Int) : Prop := ∀ x ∈ xs, 0 ≤ x ∧ x < B
/-- limbs that stand for v -/
noncomputable def Lim (B v : Int) (xs : List Int) : Prop := Limbs B xs ∧ val B xs = v
/-- the same, without noughts at the end -/
noncomputable def Num (B v : Int) (xs : List Int) : Prop := Limbs B xs ∧ val B xs = v ∧ xs.getLast? ≠ some 0
theorem Num.lim {B v : Int} {xs : List Int} (h : Num B v xs) : Lim B v xs := ⟨h.1, h.2.1⟩
theorem limbs_nil {B : Int} : Limbs B [] := fun _ h => nomatch h
theorem limbs_append {B : Int} {xs ys : List Int} (h : Limbs B xs) (k : Limbs B ys) : Limbs B (xs ++ ys) := fun x hx => (List.mem_append.mp hx).elim (h x) (k x)
theorem limbs_one {B x : Int} (h : 0 ≤ x) (k : x < B) : Limbs B [x] := fun y hy => by
  rw [List.mem_singleton.mp hy]; exact ⟨h, k⟩
theorem limbs_snoc {B x : Int} {xs : List Int} (hx : Limbs B xs) (h : 0 ≤ x) (k : x < B) : Limbs B (xs ++ [x]) := limbs_append hx (limbs_one h k)
theorem limbs_take {B : Int} {xs : List Int} (h : Limbs B xs) (k : Nat) : Limbs B (xs.take k) := fun x hx => h x (List.mem_of_mem_take hx)
theorem limbs_drop {B : Int} {xs : List Int} (h : Limbs B xs) (k : Nat) : Limbs B (xs.drop k) := fun x hx => h x (List.mem_of_mem_drop hx)
theorem limbs_getD {B : Int} (hB : 0 < B) {xs : List Int} (h : Limbs B xs) (k : Nat) : 0 ≤ xs.getD k 0 ∧ xs.getD k 0 < B := by
  by_cases q : k < xs.length
  · rw [List.getD_eq_getElem?_getD, List.getElem?_eq_getElem q]
    exact h _ (List.getElem_mem q)
  · rw [List.getD_eq_getElem?_getD, List.getElem?_eq_none (by omega)]
    exact ⟨Int.le_refl _, hB⟩
theorem limbs_set {B x : Int} {xs : List Int} (h : Limbs B xs) (k : Nat) (h0 : 0 ≤ x) (h1 : x < B) : Limbs B (xs.set k x) := fun y hy => by
  rcases List.mem_or_eq_of_mem_set hy with q | q
  · exact h y q
  · rw [q]; exact ⟨h0, h1⟩
theorem val_append (B : Int) (xs ys : List Int) : val B (xs ++ ys) = val B xs + B ^ xs.length * val B ys := by
  induction xs with
  | nil => simp [val]
  | cons x r ih =>
    simp only [List.cons_append, val, ih, List.length_cons, Int.pow_succ]
    grind
theorem val_snoc (B : Int) (xs : List Int) (x : Int) : val B (xs ++ [x]) = val B xs + B ^ xs.length * x := by
  rw [val_append]; simp [val]
theorem val_drop (B : Int) (xs : List Int) : ∀ k : Nat, val B (xs.drop k) = xs.getD k 0 + B * val B (xs.drop (k + 1)) := by
  induction xs with
  | nil => intro k; simp [val]
  | cons x r ih =>
    intro k
    cases k with
    | zero => simp [val]
    | succ k => simpa using ih k
theorem val_take (B : Int) (xs : List Int) : ∀ k : Nat, k ≤ xs.length → val B xs = val B (xs.take k) + B ^ k * val B (xs.drop k) := by
  intro k hk
  have := val_append B (xs.take k) (xs.drop k)
  rw [List.take_append_drop, List.length_take, Nat.min_eq_left hk] at this
  exact this
theorem val_take_succ (B : Int) (xs : List Int) (k : Nat) (hk : k < xs.length) : val B (xs.take (k + 1)) = val B (xs.take k) + B ^ k * xs.getD k 0 := by
  have e : xs.take (k + 1) = xs.take k ++ [xs.getD k 0] := by
    rw [List.take_add_one, List.getD_eq_getElem?_getD, List.getElem?_eq_getElem hk]; rfl
  rw [e, val_snoc, List.length_take, Nat.min_eq_left (by omega)]
theorem val_bound {B : Int} (hB : 0 < B) {xs : List Int} (h : Limbs B xs) : 0 ≤ val B xs ∧ val B xs < B ^ xs.length := by
  induction xs with
  | nil => simp [val]
  | cons x r ih =>
    have hx := h x (.head _)
    obtain ⟨i0, i1⟩ := ih fun y hy => h y (.tail _ hy)
    have h0 : 0 ≤ B * val B r := Int.mul_nonneg (by omega) i0
    have h1 : B * (val B r + 1) ≤ B * B ^ r.length := Int.mul_le_mul_of_nonneg_left (by omega) (by omega)
    rw [Int.mul_add, Int.mul_one] at h1
    simp only [val, List.length_cons, Int.pow_succ]
    rw [Int.mul_comm (B ^ r.length) B]
    omega
theorem val_zeros (B : Int) {xs : List Int} (h : ∀ x ∈ xs, x = 0) : val B xs = 0 := by
  induction xs with
  | nil => rfl
  | cons x r ih => simp only [val]; rw [h x (.head _), ih fun y hy => h y (.tail _ hy)]; simp
theorem val_set (B : Int) (xs : List Int) : ∀ (k : Nat) (x : Int), k < xs.length → val B (xs.set k x) = val B xs + B ^ k * (x - xs.getD k 0) := by
  induction xs with
  | nil => intro k x h; simp at h
  | cons y r ih =>
    intro k x h
    cases k with
    | zero => simp [val]; omega
    | succ k =>
      have := ih k x (by simpa using h)
      simp only [List.set_cons_succ, val, this, Int.pow_succ, List.getD_cons_succ]
      grind
theorem getD_set_ne (xs : List Int) (i j : Nat) (x : Int) (h : i ≠ j) : (xs.set i x).getD j 0 = xs.getD j 0 := by
  simp [List.getD_eq_getElem?_getD, List.getElem?_set_ne h]
theorem getD_set_eq (xs : List Int) (i : Nat) (x : Int) (h : i < xs.length) : (xs.set i x).getD i 0 = x := by
  simp [List.getD_eq_getElem?_getD, h]
theorem pow_pos' {B : Int} (hB : 0 < B) (n : Nat) : 0 < B ^ n := Int.pow_pos hB
theorem num_unique {B : Int} (hB : 0 < B) : ∀ {xs ys : List Int} {v : Int}, Num B v xs → Num B v ys → xs = ys
  | [], [], _, _, _ => rfl
  | [], y :: ys, v, ⟨_, h2, _⟩, ⟨k1, k2, k3⟩ => by
    exfalso
    have e : val B (y :: ys) = 0 := by rw [k2, ← h2]; rfl
    exact k3 (lastZero hB k1 e)
  | x :: xs, [], v, ⟨h1, h2, h3⟩, ⟨_, k2, _⟩ => by
    exfalso
    have e : val B (x :: xs) = 0 := by rw [h2, ← k2]; rfl
    exact h3 (lastZero hB h1 e)
  | x :: xs, y :: ys, v, ⟨h1, h2, h3⟩, ⟨k1, k2, k3⟩ => by
    have hx := h1 x (.head _)
    have hy := k1 y (.head _)
    simp only [val] at h2 k2
    have ex : v % B = x := by rw [← h2, Int.add_mul_emod_self_left]; exact Int.emod_eq_of_lt hx.1 hx.2
    have ey : v % B = y := by rw [← k2, Int.add_mul_emod_self_left]; exact Int.emod_eq_of_lt hy.1 hy.2
    have exy : x = y := ex.symm.trans ey
    have ev : val B xs = val B ys := by
      have : B * val B xs = B * val B ys := by omega
      exact Int.eq_of_mul_eq_mul_left (by omega) this
    have := num_unique hB (xs := xs) (ys := ys) (v := val B xs) ⟨fun z hz => h1 z (.tail _ hz), rfl, fun q => h3 (by rw [List.getLast?_cons, q]; rfl)⟩ ⟨fun z hz => k1 z (.tail _ hz), ev.symm, fun q => k3 (by rw [List.getLast?_cons, q]; rfl)⟩
    rw [exy, this]
where
  lastZero {B : Int} (hB : 0 < B) : ∀ {xs : List Int} {y : Int}, Limbs B (y :: xs) → val B (y :: xs) = 0 → (y :: xs).getLast? = some 0
    | [], y, h, e => by simp [val] at e; simp [e]
    | z :: xs, y, h, e => by
      have hy := h y (.head _)
      have b := (val_bound hB (xs := z :: xs) fun w hw => h w (.tail _ hw)).1
      have e' : y + B * val B (z :: xs) = 0 := e
      have e2 : val B (z :: xs) = 0 := by
        by_cases q : val B (z :: xs) = 0
        · exact q
        · have : B * 1 ≤ B * val B (z :: xs) := Int.mul_le_mul_of_nonneg_left (by omega) (by omega)
          omega
      rw [List.getLast?_cons_cons]
      exact lastZero hB (fun w hw => h w (.tail _ hw)) e2
end
section
open PySem PySem.W
theorem bit_low (t : Int) (W : Nat) : Builtin.bitAnd t (1 * 2 ^ W - 1) = t % 2 ^ W := by rw [Int.one_mul, kbt_mask]
theorem fdiv_two (t : Int) (W : Nat) : t.fdiv (2 ^ W) = t / 2 ^ W := Int.fdiv_eq_ediv_of_nonneg t (Int.le_of_lt (kbt_pos W))
noncomputable def AddI (W : Nat) (a b found : List Int) (carry : Int) : Prop :=
  Limbs (2 ^ W) found ∧ 0 ≤ carry ∧ carry ≤ 1 ∧ val (2 ^ W) found + (2 ^ W) ^ found.length * (carry + val (2 ^ W) (a.drop found.length) + val (2 ^ W) (b.drop found.length)) = val (2 ^ W) a + val (2 ^ W) b
theorem AddI0 (W a b) : AddI W a b [] 0 := ⟨limbs_nil, by decide, by decide, by simp [val]⟩
theorem add_core {W : Nat} {a b found : List Int} {carry t : Int} (ha : Limbs (2 ^ W) a) (hb : Limbs (2 ^ W) b) (h : AddI W a b found carry) (ht : t = carry + (a.getD found.length 0 + b.getD found.length 0)) :
    AddI W a b (found ++ [Builtin.bitAnd t (1 * 2 ^ W - 1)]) (t.fdiv (2 ^ W)) := by
  rw [bit_low, fdiv_two]
  obtain ⟨h1, h2, h3, h4⟩ := h
  have hB := kbt_pos W
  have xa := limbs_getD hB ha found.length
  have xb := limbs_getD hB hb found.length
  have ea := val_drop (2 ^ W) a found.length
  have eb := val_drop (2 ^ W) b found.length
  have r0 := Int.emod_nonneg t (Int.ne_of_gt hB)
  have r1 := Int.emod_lt_of_pos t hB
  have q0 : 0 ≤ t / 2 ^ W := Int.ediv_nonneg (by omega) (by omega)
  have q1 : t / 2 ^ W ≤ 1 := by
    have : t / 2 ^ W < 2 := Int.ediv_lt_of_lt_mul hB (by omega)
    omega
  have e := Int.emod_add_mul_ediv t (2 ^ W)
  refine ⟨limbs_snoc h1 r0 r1, q0, q1, ?_⟩
  rw [val_snoc, List.length_append, List.length_singleton, Int.pow_succ, ← h4, ea, eb]
  generalize val (2 ^ W) (a.drop (found.length + 1)) = A at *
  generalize val (2 ^ W) (b.drop (found.length + 1)) = C at *
  generalize a.getD found.length 0 = x at *
  generalize b.getD found.length 0 = y at *
  generalize t % 2 ^ W = r at *
  generalize t / 2 ^ W = q at *
  generalize (2 : Int) ^ W = P at *
  grind
theorem getD_out {b : List Int} {k : Nat} (h : b.length ≤ k) : b.getD k 0 = 0 := by
  rw [List.getD_eq_getElem?_getD, List.getElem?_eq_none h]; rfl
theorem add_end {W : Nat} {a b found : List Int} {carry : Int} (h : AddI W a b found carry) (ha : a.length ≤ found.length) (hb : b.length ≤ found.length) :
    val (2 ^ W) found + (2 ^ W) ^ found.length * carry = val (2 ^ W) a + val (2 ^ W) b := by
  obtain ⟨h1, h2, h3, h4⟩ := h
  rw [← h4, List.drop_eq_nil_of_le ha, List.drop_eq_nil_of_le hb]; simp [val]
theorem add_end1 {W : Nat} {a b found : List Int} {carry : Int} (h : AddI W a b found carry) (ha : a.length ≤ found.length) (hb : b.length ≤ found.length) (hW : 0 < W) (hc : 0 < carry) : Lim (2 ^ W) (val (2 ^ W) a + val (2 ^ W) b) (found ++ [carry]) := by
  have e := add_end h ha hb
  obtain ⟨h1, h2, h3, h4⟩ := h
  refine ⟨limbs_snoc h1 h2 ?_, by rw [val_snoc]; exact e⟩
  have : (2 : Int) ^ W = 2 * 2 ^ (W - 1) := by
    conv => lhs; rw [show W = (W - 1) + 1 by omega, Int.pow_succ, Int.mul_comm]
  have := kbt_pos (W - 1)
  omega
theorem add_end0 {W : Nat} {a b found : List Int} {carry : Int} (h : AddI W a b found carry) (ha : a.length ≤ found.length) (hb : b.length ≤ found.length) (hc : ¬ 0 < carry) : Lim (2 ^ W) (val (2 ^ W) a + val (2 ^ W) b) found := by
  have e := add_end h ha hb
  obtain ⟨h1, h2, h3, h4⟩ := h
  have : carry = 0 := by omega
  rw [this, Int.mul_zero, Int.add_zero] at e
  exact ⟨h1, e⟩
theorem add_turn {W : Nat} {a b found pre : List Int} {carry k t : Int} {o : Nat} (ha : Limbs (2 ^ W) a) (hb : Limbs (2 ^ W) b) (h : AddI W a b found carry) (e : found.length = o + pre.length) (ek : k = (o : Int) + pre.length) (ht : t = carry + (a.getD k.toNat 0 + b.getD k.toNat 0)) :
    (found ++ [Builtin.bitAnd t (1 * 2 ^ W - 1)]).length = o + (pre ++ [k]).length ∧ AddI W a b (found ++ [Builtin.bitAnd t (1 * 2 ^ W - 1)]) (t.fdiv (2 ^ W)) := by
  have : k.toNat = found.length := by omega
  rw [this] at ht
  exact ⟨by simp only [List.length_append, List.length_cons, List.length_nil]; omega, add_core ha hb h ht⟩
theorem add_t1 {W : Nat} {a b found pre : List Int} {carry k : Int} (ha : Limbs (2 ^ W) a) (hb : Limbs (2 ^ W) b) (ek : k = 0 + (pre.length : Int)) (e : found.length = pre.length) (h : AddI W a b found carry) :
    (found ++ [Builtin.bitAnd (carry + (a.getD k.toNat 0 + b.getD k.toNat 0)) (1 * 2 ^ W - 1)]).length = (pre ++ [k]).length ∧ AddI W a b (found ++ [Builtin.bitAnd (carry + (a.getD k.toNat 0 + b.getD k.toNat 0)) (1 * 2 ^ W - 1)]) ((carry + (a.getD k.toNat 0 + b.getD k.toNat 0)).fdiv (2 ^ W)) := by
  have := add_turn (o := 0) (pre := pre) (k := k) ha hb h (by omega) (by simpa using ek) rfl
  rwa [Nat.zero_add] at this
theorem AddI.swap {W : Nat} {a b found : List Int} {carry : Int} (h : AddI W a b found carry) : AddI W b a found carry := by
  obtain ⟨h1, h2, h3, h4⟩ := h
  refine ⟨h1, h2, h3, ?_⟩
  rw [Int.add_comm (val _ b), ← h4]
  grind
theorem add_t1' {W : Nat} {a b found pre : List Int} {carry k : Int} (ha : Limbs (2 ^ W) a) (hb : Limbs (2 ^ W) b) (ek : k = 0 + (pre.length : Int)) (e : found.length = pre.length) (h : AddI W a b found carry) :
    (found ++ [Builtin.bitAnd (carry + (b.getD k.toNat 0 + a.getD k.toNat 0)) (1 * 2 ^ W - 1)]).length = (pre ++ [k]).length ∧ AddI W a b (found ++ [Builtin.bitAnd (carry + (b.getD k.toNat 0 + a.getD k.toNat 0)) (1 * 2 ^ W - 1)]) ((carry + (b.getD k.toNat 0 + a.getD k.toNat 0)).fdiv (2 ^ W)) := by
  have := add_t1 hb ha ek e h.swap
  exact ⟨this.1, this.2.swap⟩
theorem add_s2 {W : Nat} {a b found : List Int} {carry : Int} (h : AddI W a b found carry) (e : found.length = (rangeKs 0 ((b.length : Int) - 0).toNat).length) : found.length = b.length + ([] : List Int).length ∧ AddI W a b found carry :=
  ⟨by rw [rangeKs_length] at e; simp only [List.length_nil]; omega, h⟩
theorem add_t2 {W : Nat} {a b found pre : List Int} {carry k : Int} (ha : Limbs (2 ^ W) a) (hb : Limbs (2 ^ W) b) (ek : k = (b.length : Int) + (pre.length : Int)) (e : found.length = b.length + pre.length) (h : AddI W a b found carry) :
    (found ++ [Builtin.bitAnd (carry + a.getD k.toNat 0) (1 * 2 ^ W - 1)]).length = b.length + (pre ++ [k]).length ∧ AddI W a b (found ++ [Builtin.bitAnd (carry + a.getD k.toNat 0) (1 * 2 ^ W - 1)]) ((carry + a.getD k.toNat 0).fdiv (2 ^ W)) :=
  add_turn ha hb h e ek (by rw [getD_out (b := b) (by omega)]; omega)
theorem add_s2' {W : Nat} {a b found : List Int} {carry : Int} (h : AddI W a b found carry) (e : found.length = (rangeKs 0 ((a.length : Int) - 0).toNat).length) : found.length = a.length + ([] : List Int).length ∧ AddI W a b found carry :=
  ⟨by rw [rangeKs_length] at e; simp only [List.length_nil]; omega, h⟩
theorem add_t2' {W : Nat} {a b found pre : List Int} {carry k : Int} (ha : Limbs (2 ^ W) a) (hb : Limbs (2 ^ W) b) (ek : k = (a.length : Int) + (pre.length : Int)) (e : found.length = a.length + pre.length) (h : AddI W a b found carry) :
    (found ++ [Builtin.bitAnd (carry + b.getD k.toNat 0) (1 * 2 ^ W - 1)]).length = a.length + (pre ++ [k]).length ∧ AddI W a b (found ++ [Builtin.bitAnd (carry + b.getD k.toNat 0) (1 * 2 ^ W - 1)]) ((carry + b.getD k.toNat 0).fdiv (2 ^ W)) :=
  add_turn ha hb h e ek (by rw [getD_out (b := a) (by omega)]; omega)
theorem add_f1 {W : Nat} {a b found : List Int} {carry : Int} (hW : 0 < W) (hl : b.length ≤ a.length) (e : found.length = b.length + (rangeKs (b.length : Int) ((a.length : Int) - b.length).toNat).length) (h : AddI W a b found carry) (hc : 0 < carry) :
    Lim (2 ^ W) (val (2 ^ W) a + val (2 ^ W) b) (found ++ [carry]) ∧ (found ++ [carry]).length ≤ a.length + b.length + 1 := by
  rw [rangeKs_length] at e
  exact ⟨add_end1 h (by omega) (by omega) hW hc, by simp only [List.length_append, List.length_cons, List.length_nil]; omega⟩
theorem add_f0 {W : Nat} {a b found : List Int} {carry : Int} (hl : b.length ≤ a.length) (e : found.length = b.length + (rangeKs (b.length : Int) ((a.length : Int) - b.length).toNat).length) (h : AddI W a b found carry) (hc : ¬ 0 < carry) :
    Lim (2 ^ W) (val (2 ^ W) a + val (2 ^ W) b) found ∧ found.length ≤ a.length + b.length + 1 := by
  rw [rangeKs_length] at e
  exact ⟨add_end0 h (by omega) (by omega) hc, by omega⟩
theorem add_f1' {W : Nat} {a b found : List Int} {carry : Int} (hW : 0 < W) (hl : a.length ≤ b.length) (e : found.length = a.length + (rangeKs (a.length : Int) ((b.length : Int) - a.length).toNat).length) (h : AddI W a b found carry) (hc : 0 < carry) :
    Lim (2 ^ W) (val (2 ^ W) a + val (2 ^ W) b) (found ++ [carry]) ∧ (found ++ [carry]).length ≤ a.length + b.length + 1 := by
  rw [rangeKs_length] at e
  exact ⟨add_end1 h (by omega) (by omega) hW hc, by simp only [List.length_append, List.length_cons, List.length_nil]; omega⟩
theorem add_f0' {W : Nat} {a b found : List Int} {carry : Int} (hl : a.length ≤ b.length) (e : found.length = a.length + (rangeKs (a.length : Int) ((b.length : Int) - a.length).toNat).length) (h : AddI W a b found carry) (hc : ¬ 0 < carry) :
    Lim (2 ^ W) (val (2 ^ W) a + val (2 ^ W) b) found ∧ found.length ≤ a.length + b.length + 1 := by
  rw [rangeKs_length] at e
  exact ⟨add_end0 h (by omega) (by omega) hc, by omega⟩
end
section
/-- how many items stay when the noughts at the end go -/
noncomputable def trimN (ns : List Int) : Nat → Nat
  | 0 => 0
  | k + 1 => if ns.getD k 0 = 0 then trimN ns k else k + 1
noncomputable def trim (ns : List Int) : List Int := ns.take (trimN ns ns.length)
theorem trimN_is {ns : List Int} {k : Int} (h0 : 0 ≤ k) : ∀ n : Nat, k ≤ n → (∀ j : Int, k < j → j ≤ n → ns.getD (j - 1).toNat 0 = 0) → (0 < k → ns.getD (k - 1).toNat 0 ≠ 0) → (trimN ns n : Int) = k
  | 0, h, _, _ => by show (0 : Int) = k; omega
  | n + 1, h, hz, hk => by
    unfold trimN
    by_cases e : k = (n + 1 : Nat)
    · have := hk (by omega)
      have e2 : (k - 1).toNat = n := by omega
      rw [e2] at this
      rw [if_neg this]; exact e.symm
    · have := hz (n + 1 : Nat) (by omega) (by omega)
      have e2 : ((n + 1 : Nat) - 1 : Int).toNat = n := by omega
      rw [e2] at this
      rw [if_pos this]
      exact trimN_is h0 n (by omega) (fun j h1 h2 => hz j h1 (by omega)) hk
theorem trim_end {ns : List Int} {k : Int} (h1 : k ≤ (ns.length : Int)) (h2 : min (ns.length : Int) 0 ≤ k)
    (h3 : ∀ j : Int, k < j → j ≤ (ns.length : Int) → (if 0 < j then if (ns.getD (j - 1).toNat 0 == 0) = true then true else false else false) = true)
    (h4 : (if 0 < k then if (ns.getD (k - 1).toNat 0 == 0) = true then true else false else false) = false) : ns.take k.toNat = trim ns := by
  have hk : 0 ≤ k := by omega
  have e := trimN_is (ns := ns) hk ns.length h1 (fun j a b => by
    have := h3 j a b
    rw [if_pos (show 0 < j by omega)] at this
    generalize ns.getD (j - 1).toNat 0 = x at this ⊢
    by_cases q : x = 0
    · exact q
    · simp [q] at this) (fun a q => by
    rw [if_pos a, q] at h4
    simp at h4)
  unfold trim
  rw [show k.toNat = trimN ns ns.length by omega]
theorem trimN_le (ns : List Int) : ∀ n, trimN ns n ≤ n
  | 0 => Nat.le_refl _
  | n + 1 => by
    unfold trimN; split
    · exact Nat.le_succ_of_le (trimN_le ns n)
    · exact Nat.le_refl _
theorem trimN_zero (ns : List Int) : ∀ n j, trimN ns n ≤ j → j < n → ns.getD j 0 = 0
  | 0, _, _, h => absurd h (Nat.not_lt_zero _)
  | n + 1, j, h1, h2 => by
    unfold trimN at h1
    split at h1
    · by_cases e : j = n
      · subst e; assumption
      · exact trimN_zero ns n j h1 (by omega)
    · omega
theorem trimN_last (ns : List Int) : ∀ n k, trimN ns n = k + 1 → ns.getD k 0 ≠ 0
  | 0, k, h => by cases h
  | n + 1, k, h => by
    unfold trimN at h
    split at h
    · exact trimN_last ns n k h
    · rename_i q
      have : n = k := by omega
      subst this; exact q
theorem trim_length (xs : List Int) : (trim xs).length = trimN xs xs.length := by
  unfold trim; rw [List.length_take, Nat.min_eq_left (trimN_le _ _)]
theorem trim_le (xs : List Int) : (trim xs).length ≤ xs.length := by rw [trim_length]; exact trimN_le _ _
theorem trim_num {B v : Int} {xs : List Int} (h : Lim B v xs) : Num B v (trim xs) := by
  refine ⟨limbs_take h.1 _, ?_, ?_⟩
  · have e := val_take B xs (trimN xs xs.length) (trimN_le _ _)
    have z : val B (xs.drop (trimN xs xs.length)) = 0 := val_zeros B fun x hx => by
      obtain ⟨i, hi, rfl⟩ := List.getElem_of_mem hx
      rw [List.length_drop] at hi
      have := trimN_zero xs xs.length (trimN xs xs.length + i) (Nat.le_add_right _ _) (by omega)
      rw [List.getD_eq_getElem?_getD, List.getElem?_eq_getElem (by omega)] at this
      simpa using this
    rw [z, Int.mul_zero, Int.add_zero] at e
    exact e.symm.trans h.2
  · intro q
    unfold trim at q
    cases hk : trimN xs xs.length with
    | zero => rw [hk] at q; simp at q
    | succ k =>
      have l := trimN_le xs xs.length
      have := trimN_last xs xs.length k hk
      rw [hk, List.getLast?_take] at q
      rw [hk] at l
      have hk' : k < xs.length := by omega
      simp [hk'] at q
      exact this (by rw [List.getD_eq_getElem?_getD, List.getElem?_eq_getElem hk']; exact q)
theorem trim_end2 {ns : List Int} {k : Int} (h1 : k ≤ (ns.length : Int)) (h2 : min (ns.length : Int) 0 ≤ k)
    (h3 : ∀ j : Int, k < j → j ≤ (ns.length : Int) → (if 0 < j then if (ns.getD (j - 1).toNat 0 == 0) = true then true else false else false) = true)
    (h4 : (if 0 < k then if (ns.getD (k - 1).toNat 0 == 0) = true then true else false else false) = false) : ns.take k.toNat = trim ns ∧ (ns.take k.toNat).length ≤ ns.length :=
  ⟨trim_end h1 h2 h3 h4, by rw [List.length_take]; omega⟩
end
section
open PySem PySem.W
noncomputable def SubI (W : Nat) (a b found : List Int) (borrow : Int) : Prop :=
  Limbs (2 ^ W) found ∧ 0 ≤ borrow ∧ borrow ≤ 1 ∧ val (2 ^ W) found + (2 ^ W) ^ found.length * (val (2 ^ W) (a.drop found.length) - val (2 ^ W) (b.drop found.length) - borrow) = val (2 ^ W) a - val (2 ^ W) b
theorem SubI0 (W a b) : SubI W a b [] 0 := ⟨limbs_nil, by decide, by decide, by simp [val]⟩
theorem sub_core {W : Nat} {a b found : List Int} {borrow d r q : Int} (ha : Limbs (2 ^ W) a) (hb : Limbs (2 ^ W) b) (h : SubI W a b found borrow) (hd : d = a.getD found.length 0 - borrow - b.getD found.length 0)
    (hr : (d < 0 ∧ r = d + 1 * 2 ^ W ∧ q = 1) ∨ (¬ d < 0 ∧ r = d ∧ q = 0)) :
    SubI W a b (found ++ [r]) q := by
  obtain ⟨h1, h2, h3, h4⟩ := h
  have hB := kbt_pos W
  have xa := limbs_getD hB ha found.length
  have xb := limbs_getD hB hb found.length
  have ea := val_drop (2 ^ W) a found.length
  have eb := val_drop (2 ^ W) b found.length
  have e : r = d + 2 ^ W * q ∧ 0 ≤ r ∧ r < 2 ^ W ∧ 0 ≤ q ∧ q ≤ 1 := by
    rcases hr with ⟨c1, c2, c3⟩ | ⟨c1, c2, c3⟩
    · subst c3; omega
    · subst c3; omega
  obtain ⟨e, r0, r1, q0, q1⟩ := e
  refine ⟨limbs_snoc h1 r0 r1, q0, q1, ?_⟩
  rw [val_snoc, List.length_append, List.length_singleton, Int.pow_succ, ← h4, ea, eb]
  generalize val (2 ^ W) (a.drop (found.length + 1)) = A at *
  generalize val (2 ^ W) (b.drop (found.length + 1)) = C at *
  generalize a.getD found.length 0 = x at *
  generalize b.getD found.length 0 = y at *
  generalize (2 : Int) ^ W = P at *
  clear hr
  subst e hd
  grind
theorem sub_end {W : Nat} {a b found : List Int} {borrow : Int} (h : SubI W a b found borrow) (ha : a.length ≤ found.length) (hb : b.length ≤ found.length) (hle : val (2 ^ W) b ≤ val (2 ^ W) a) : Lim (2 ^ W) (val (2 ^ W) a - val (2 ^ W) b) found := by
  obtain ⟨h1, h2, h3, h4⟩ := h
  rw [List.drop_eq_nil_of_le ha, List.drop_eq_nil_of_le hb] at h4
  have hB := kbt_pos W
  have bd := val_bound hB h1
  have hz : borrow = 0 := by
    by_cases q : borrow = 0
    · exact q
    · have e : borrow = 1 := by omega
      subst e
      simp only [val] at h4
      omega
  subst hz
  exact ⟨h1, by simpa [val] using h4⟩
theorem sub_t {W : Nat} {a b found pre : List Int} {borrow k d r q : Int} (ha : Limbs (2 ^ W) a) (hb : Limbs (2 ^ W) b) (ek : k = 0 + (pre.length : Int)) (e : found.length = pre.length) (h : SubI W a b found borrow)
    (hd : d = a.getD k.toNat 0 - borrow - b.getD k.toNat 0) (hr : (d < 0 ∧ r = d + 1 * 2 ^ W ∧ q = 1) ∨ (¬ d < 0 ∧ r = d ∧ q = 0)) : (found ++ [r]).length = (pre ++ [k]).length ∧ SubI W a b (found ++ [r]) q := by
  have : k.toNat = found.length := by omega
  rw [this] at hd
  exact ⟨by simp only [List.length_append, List.length_cons, List.length_nil]; omega, sub_core ha hb h hd hr⟩
theorem sub_out {W : Nat} {a b : List Int} {borrow k : Int} (h : ¬ k < (b.length : Int)) : a.getD k.toNat 0 - borrow - 0 = a.getD k.toNat 0 - borrow - b.getD k.toNat 0 := by
  rw [getD_out (b := b) (by omega)]
theorem sub_t1 {W : Nat} {a b found pre : List Int} {borrow k : Int} (ha : Limbs (2 ^ W) a) (hb : Limbs (2 ^ W) b) (ek : k = 0 + (pre.length : Int)) (e : found.length = pre.length) (h : SubI W a b found borrow) (hn : a.getD k.toNat 0 - borrow - b.getD k.toNat 0 < 0) :
    (found ++ [a.getD k.toNat 0 - borrow - b.getD k.toNat 0 + 1 * 2 ^ W]).length = (pre ++ [k]).length ∧ SubI W a b (found ++ [a.getD k.toNat 0 - borrow - b.getD k.toNat 0 + 1 * 2 ^ W]) 1 :=
  sub_t ha hb ek e h rfl (.inl ⟨hn, rfl, rfl⟩)
theorem sub_t2 {W : Nat} {a b found pre : List Int} {borrow k : Int} (ha : Limbs (2 ^ W) a) (hb : Limbs (2 ^ W) b) (ek : k = 0 + (pre.length : Int)) (e : found.length = pre.length) (h : SubI W a b found borrow) (hn : ¬ a.getD k.toNat 0 - borrow - b.getD k.toNat 0 < 0) :
    (found ++ [a.getD k.toNat 0 - borrow - b.getD k.toNat 0]).length = (pre ++ [k]).length ∧ SubI W a b (found ++ [a.getD k.toNat 0 - borrow - b.getD k.toNat 0]) 0 :=
  sub_t ha hb ek e h rfl (.inr ⟨hn, rfl, rfl⟩)
theorem sub_t3 {W : Nat} {a b found pre : List Int} {borrow k : Int} (ha : Limbs (2 ^ W) a) (hb : Limbs (2 ^ W) b) (ek : k = 0 + (pre.length : Int)) (e : found.length = pre.length) (h : SubI W a b found borrow) (ho : ¬ k < (b.length : Int)) (hn : a.getD k.toNat 0 - borrow - 0 < 0) :
    (found ++ [a.getD k.toNat 0 - borrow - 0 + 1 * 2 ^ W]).length = (pre ++ [k]).length ∧ SubI W a b (found ++ [a.getD k.toNat 0 - borrow - 0 + 1 * 2 ^ W]) 1 :=
  sub_t ha hb ek e h (sub_out (W := W) ho) (.inl ⟨hn, rfl, rfl⟩)
theorem sub_t4 {W : Nat} {a b found pre : List Int} {borrow k : Int} (ha : Limbs (2 ^ W) a) (hb : Limbs (2 ^ W) b) (ek : k = 0 + (pre.length : Int)) (e : found.length = pre.length) (h : SubI W a b found borrow) (ho : ¬ k < (b.length : Int)) (hn : ¬ a.getD k.toNat 0 - borrow - 0 < 0) :
    (found ++ [a.getD k.toNat 0 - borrow - 0]).length = (pre ++ [k]).length ∧ SubI W a b (found ++ [a.getD k.toNat 0 - borrow - 0]) 0 :=
  sub_t ha hb ek e h (sub_out (W := W) ho) (.inr ⟨hn, rfl, rfl⟩)
theorem sub_f {W : Nat} {a b found ns : List Int} {borrow : Int} (e : found.length = (rangeKs 0 ((a.length : Int) - 0).toNat).length) (h : SubI W a b found borrow) (hab : b.length < a.length) (hle : val (2 ^ W) b ≤ val (2 ^ W) a) (ht : ns = trim found) :
    Num (2 ^ W) (val (2 ^ W) a - val (2 ^ W) b) ns ∧ ns.length ≤ a.length := by
  rw [rangeKs_length] at e
  subst ht
  have := trim_le found
  exact ⟨trim_num (sub_end h (by omega) (by omega) hle), by omega⟩
end
section
open PySem PySem.W
theorem limbs_small {w x : Int} {a : List Int} (ha : Limbs (2 ^ w.toNat) a) (hx : x ∈ a) (hw : w ≤ 12) : x.natAbs < 2 ^ 64 := by
  obtain ⟨h0, h1⟩ := ha x hx
  have : (2 : Int) ^ w.toNat ≤ 2 ^ 12 := by
    have := Nat.pow_le_pow_right (n := 2) (by decide) (show w.toNat ≤ 12 by omega)
    rw [← kbt_cast, ← kbt_cast]; exact Int.ofNat_le.mpr this
  have e : (2 : Int) ^ 12 = 4096 := by decide
  rw [e] at this
  have : x.natAbs < 4096 := by omega
  exact Nat.lt_trans this (by decide)
theorem bitOr_zero' (x : Int) : Builtin.bitOr 0 x = x := by
  rw [PyProof.Rows.bitOr_and, PyProof.Rows.bitAnd_comm, PyProof.Rows.bitAnd_zero]; omega
noncomputable def ShI (c : Nat) (pre found : List Int) (carry : Int) : Prop := found = List.replicate c 0 ++ pre ∧ carry = 0
theorem sh_0 {c n w : Int} (hq : n.fdiv w = c) : (List.replicate (n.fdiv w).toNat [(0 : Int)]).flatten.length = c.toNat + ([] : List Int).length ∧ ShI c.toNat [] (List.replicate (n.fdiv w).toNat [(0 : Int)]).flatten 0 := by
  have : (List.replicate c.toNat [(0 : Int)]).flatten = List.replicate c.toNat 0 := by
    generalize c.toNat = k
    induction k with
    | zero => rfl
    | succ k ih => rw [List.replicate_succ, List.flatten_cons, ih]; rfl
  rw [hq, this]
  exact ⟨by simp, by simp, rfl⟩
theorem sh_t {c n w x carry : Int} {a pre post found : List Int} (ha : Limbs (2 ^ w.toNat) a) (he : a = pre ++ x :: post) (hr : n.fmod w = 0) (e : found.length = c.toNat + pre.length) (h : ShI c.toNat pre found carry) :
    (found ++ [Builtin.bitAnd (Builtin.bitOr carry (x * 2 ^ (n.fmod w).toNat)) (1 * 2 ^ w.toNat - 1)]).length = c.toNat + (pre ++ [x]).length ∧ ShI c.toNat (pre ++ [x]) (found ++ [Builtin.bitAnd (Builtin.bitOr carry (x * 2 ^ (n.fmod w).toNat)) (1 * 2 ^ w.toNat - 1)]) ((Builtin.bitOr carry (x * 2 ^ (n.fmod w).toNat)).fdiv (2 ^ w.toNat)) := by
  obtain ⟨h1, h2⟩ := h
  obtain ⟨x0, x1⟩ := ha x (by rw [he]; simp)
  have e0 : Builtin.bitOr carry (x * 2 ^ (n.fmod w).toNat) = x := by
    rw [hr, h2, bitOr_zero']; simp
  rw [e0, bit_low, fdiv_two, Int.emod_eq_of_lt x0 x1, Int.ediv_eq_zero_of_lt x0 x1]
  refine ⟨by simp only [List.length_append, List.length_cons, List.length_nil]; omega, ?_, rfl⟩
  rw [h1, List.append_assoc]
theorem sh_f {c carry : Int} {a found : List Int} (h : ShI c.toNat a found carry) : found = List.replicate c.toNat 0 ++ a := h.1
end
section
open PySem PySem.W
/-- d * found is 1 in its lowest bits -/
noncomputable def InvI (W : Nat) (d found sure : Int) : Prop := 0 ≤ found ∧ found < 2 ^ W ∧ ∃ m, d * found = 1 + 2 ^ (min sure.toNat W) * m
theorem fmod_two (t : Int) (W : Nat) : t.fmod (1 * 2 ^ W) = t % 2 ^ W := by rw [Int.one_mul]; exact Int.fmod_eq_emod_of_nonneg t (Int.le_of_lt (kbt_pos W))
theorem two_pow_le {w : Int} (hw : w ≤ 12) : (2 : Int) ^ w.toNat ≤ 4096 := by
  have := Nat.pow_le_pow_right (n := 2) (by decide) (show w.toNat ≤ 12 by omega)
  have h : (2 : Int) ^ w.toNat ≤ 2 ^ 12 := by rw [← kbt_cast, ← kbt_cast]; exact Int.ofNat_le.mpr this
  have e : (2 : Int) ^ 12 = 4096 := by decide
  omega
theorem pow_split {a b : Nat} (h : a ≤ b) : (2 : Int) ^ b = 2 ^ a * 2 ^ (b - a) := by rw [← Int.pow_add]; congr 1; omega
theorem inv_0 {w d : Int} (hw0 : 8 ≤ w) (hw : w ≤ 12) (hd : d.fmod 2 = 1) : ((3 : Int) = 3 ∨ (3 : Int) = 6 ∨ (3 : Int) = 12) ∧ 0 ≤ d.fmod (1 * 2 ^ w.toNat) ∧ d.fmod (1 * 2 ^ w.toNat) < 4096 ∧ InvI w.toNat d (d.fmod (1 * 2 ^ w.toNat)) 3 := by
  rw [fmod_two]
  have hB := kbt_pos w.toNat
  have l := two_pow_le hw
  have r0 := Int.emod_nonneg d (Int.ne_of_gt hB)
  have r1 := Int.emod_lt_of_pos d hB
  refine ⟨.inl rfl, r0, by omega, r0, r1, ?_⟩
  have e := Int.emod_add_mul_ediv d (2 ^ w.toNat)
  have hm : min (3 : Int).toNat w.toNat = 3 := by have : (3 : Int).toNat = 3 := rfl; omega
  have hp := pow_split (a := 3) (b := w.toNat) (by omega)
  rw [hm]
  have hd2 : d % 2 = 1 := by rw [← Int.fmod_eq_emod_of_nonneg d (by decide)]; exact hd
  have e8 : (2 : Int) ^ 3 = 8 := by decide
  rw [e8] at hp ⊢
  have q8 : d * d % 8 = 1 := by
    have : d % 8 = 1 ∨ d % 8 = 3 ∨ d % 8 = 5 ∨ d % 8 = 7 := by omega
    rw [Int.mul_emod]
    rcases this with h | h | h | h <;> rw [h] <;> rfl
  refine ⟨d * d / 8 - d * (2 ^ (w.toNat - 3) * (d / 2 ^ w.toNat)), ?_⟩
  have e2 := Int.emod_add_mul_ediv (d * d) 8
  rw [q8] at e2
  generalize d % 2 ^ w.toNat = r at *
  generalize d / 2 ^ w.toNat = q at *
  rw [hp] at e
  generalize (2 : Int) ^ (w.toNat - 3) = P at *
  generalize d * d / 8 = k at *
  have : r = d - 8 * P * q := by omega
  rw [this]
  grind
theorem inv_t {w d found sure : Int} (hw0 : 8 ≤ w) (hw : w ≤ 12) (hs : sure = 3 ∨ sure = 6 ∨ sure = 12) (hlt : sure < w) (h : InvI w.toNat d found sure) :
    (2 * sure = 3 ∨ 2 * sure = 6 ∨ 2 * sure = 12) ∧ 0 ≤ (found * (2 - d * found).fmod (1 * 2 ^ w.toNat)).fmod (1 * 2 ^ w.toNat) ∧ (found * (2 - d * found).fmod (1 * 2 ^ w.toNat)).fmod (1 * 2 ^ w.toNat) < 4096 ∧
      InvI w.toNat d ((found * (2 - d * found).fmod (1 * 2 ^ w.toNat)).fmod (1 * 2 ^ w.toNat)) (2 * sure) := by
  rw [fmod_two, fmod_two]
  obtain ⟨f0, f1, m, hm⟩ := h
  have hB := kbt_pos w.toNat
  have l := two_pow_le hw
  generalize hx : found * ((2 - d * found) % 2 ^ w.toNat) = x at *
  have r0 := Int.emod_nonneg x (Int.ne_of_gt hB)
  have r1 := Int.emod_lt_of_pos x hB
  refine ⟨by omega, r0, by omega, r0, r1, ?_⟩
  have e1 := Int.emod_add_mul_ediv x (2 ^ w.toNat)
  have e2 := Int.emod_add_mul_ediv (2 - d * found) (2 ^ w.toNat)
  have mn : min sure.toNat w.toNat = sure.toNat := by omega
  rw [mn] at hm
  have hW : (2 : Int) ^ w.toNat = 2 ^ (min (2 * sure).toNat w.toNat) * 2 ^ (w.toNat - min (2 * sure).toNat w.toNat) := pow_split (Nat.min_le_right _ _)
  have h2 : (2 : Int) ^ sure.toNat * 2 ^ sure.toNat = 2 ^ (min (2 * sure).toNat w.toNat) * 2 ^ (2 * sure.toNat - min (2 * sure).toNat w.toNat) := by
    rw [← Int.pow_add]; rw [show sure.toNat + sure.toNat = 2 * sure.toNat by omega]; exact pow_split (by omega)
  generalize x % 2 ^ w.toNat = r at *
  generalize x / 2 ^ w.toNat = q at *
  generalize (2 - d * found) % 2 ^ w.toNat = r2 at *
  generalize (2 - d * found) / 2 ^ w.toNat = q2 at *
  rw [hW] at e1 e2
  generalize (2 : Int) ^ (min (2 * sure).toNat w.toNat) = K at *
  generalize (2 : Int) ^ (w.toNat - min (2 * sure).toNat w.toNat) = U at *
  generalize (2 : Int) ^ (2 * sure.toNat - min (2 * sure).toNat w.toNat) = V at *
  generalize (2 : Int) ^ sure.toNat = S at *
  refine ⟨-(V * m * m) - d * found * U * q2 - d * U * q, ?_⟩
  have hr : r = x - K * U * q := by omega
  have hr2 : r2 = 2 - d * found - K * U * q2 := by omega
  rw [hr, ← hx, hr2]
  have : d * (found * (2 - d * found - K * U * q2) - K * U * q) = d * found * (2 - d * found) - K * (d * found * U * q2) - K * (d * U * q) := by grind
  rw [this]
  have : d * found * (2 - d * found) = 1 - S * S * (m * m) := by rw [hm]; grind
  rw [this, h2]
  grind
theorem inv_f {w d found sure : Int} (hw0 : 8 ≤ w) (hw : w ≤ 12) (hs : ¬ sure < w) (h : InvI w.toNat d found sure) : 0 ≤ found ∧ found < 2 ^ w.toNat ∧ d * found % 2 ^ w.toNat = 1 := by
  obtain ⟨f0, f1, m, hm⟩ := h
  refine ⟨f0, f1, ?_⟩
  rw [show min sure.toNat w.toNat = w.toNat by omega] at hm
  rw [hm, Int.add_mul_emod_self_left]
  refine Int.emod_eq_of_lt (by decide) ?_
  have := pow_split (a := 1) (b := w.toNat) (by omega)
  have := kbt_pos (w.toNat - 1)
  have : (2 : Int) ^ 1 = 2 := by decide
  omega
end
section
open PySem PySem.W
noncomputable def waysK (a : List Int) (c : Nat) : Nat → List Int
  | 0 => a
  | k + 1 => (waysK a c k).set (c + k) ((waysK a c k).getD (c + k) 0 + (waysK a c k).getD k 0)
theorem waysK_length (a : List Int) (c : Nat) : ∀ k, (waysK a c k).length = a.length
  | 0 => rfl
  | k + 1 => by unfold waysK; rw [List.length_set]; exact waysK_length a c k
theorem ways_0 (a : List Int) (c : Nat) : a.length = a.length ∧ a = waysK a c ([] : List Int).length := ⟨rfl, rfl⟩
theorem ways_t {a found pre : List Int} {c k : Int} (hc : 1 ≤ c) (ek : k = c + (pre.length : Int)) (hl : found.length = a.length) (h : found = waysK a c.toNat pre.length) :
    (found.set k.toNat (found.getD k.toNat 0 + found.getD (k - c).toNat 0)).length = a.length ∧ found.set k.toNat (found.getD k.toNat 0 + found.getD (k - c).toNat 0) = waysK a c.toNat (pre ++ [k]).length := by
  refine ⟨by rw [List.length_set]; exact hl, ?_⟩
  have e1 : k.toNat = c.toNat + pre.length := by omega
  have e2 : (k - c).toNat = pre.length := by omega
  rw [e1, e2, List.length_append, List.length_singleton]
  conv => rhs; unfold waysK
  rw [← h]
theorem ways_f {a found : List Int} {c : Int} (hl : found.length = a.length) (h : found = waysK a c.toNat (rangeKs c ((a.length : Int) - c).toNat).length) : found = waysK a c.toNat (a.length - c.toNat) ∧ found.length = a.length := by
  rw [rangeKs_length] at h
  by_cases q : c ≤ (a.length : Int)
  · by_cases q0 : 0 ≤ c
    · rw [show ((a.length : Int) - c).toNat = a.length - c.toNat by omega] at h; exact ⟨h, hl⟩
    · exact ⟨by
        have e : c.toNat = 0 := by omega
        rw [e] at h ⊢
        have hs : ∀ k, a.length ≤ k → waysK a 0 (k + 1) = waysK a 0 k := fun k hk => by
          conv => lhs; unfold waysK
          rw [List.set_eq_of_length_le (by rw [waysK_length]; omega)]
        have hs' : ∀ d, waysK a 0 (a.length + d) = waysK a 0 a.length := fun d => by
          induction d with
          | zero => rfl
          | succ d ih => rw [← Nat.add_assoc, hs _ (by omega), ih]
        have := hs' ((-c).toNat)
        rw [show a.length + (-c).toNat = ((a.length : Int) - c).toNat by omega] at this
        rw [h, this]; rfl, hl⟩
  · rw [show ((a.length : Int) - c).toNat = 0 by omega] at h
    rw [show a.length - c.toNat = 0 by omega]; exact ⟨h, hl⟩
/-- the limbs taken off so far -/
noncomputable def LlI (W : Nat) (n : Int) (found : List Int) (number : Int) : Prop :=
  Limbs (2 ^ W) found ∧ val (2 ^ W) found + (2 ^ W) ^ found.length * number = n ∧ (number = 0 → found.getLast? ≠ some 0) ∧ 2 ^ (8 * found.length) * number ≤ n
noncomputable def Sm (n : Int) : Prop := n < 2 ^ 100
theorem ll_0 {w n : Int} (hn : 0 ≤ n) : ([] : List Int).length ≤ 13 ∧ 0 ≤ n ∧ LlI w.toNat n [] n := ⟨by decide, hn, limbs_nil, by simp [val], fun _ => by simp, by simp⟩
theorem fdiv_two' (t : Int) (W : Nat) : t.fdiv (2 ^ W) = t / 2 ^ W := Int.fdiv_eq_ediv_of_nonneg t (Int.le_of_lt (kbt_pos W))
theorem fmod_two' (t : Int) (W : Nat) : t.fmod (2 ^ W) = t % 2 ^ W := Int.fmod_eq_emod_of_nonneg t (Int.le_of_lt (kbt_pos W))
theorem ll_m {w number : Int} (hw : 8 ≤ w) (hp : 0 < number) : (number.fdiv (2 ^ w.toNat)).toNat < number.toNat := by
  rw [fdiv_two']
  have : number / 2 ^ w.toNat < number := Int.ediv_lt_self_of_pos_of_ne_one hp (by
    have := Nat.pow_le_pow_right (n := 2) (by decide) (show 1 ≤ w.toNat by omega)
    have h : (2 : Int) ^ 1 ≤ 2 ^ w.toNat := by rw [← kbt_cast, ← kbt_cast]; exact Int.ofNat_le.mpr this
    have e : (2 : Int) ^ 1 = 2 := by decide
    omega)
  omega
theorem ll_t {w n number : Int} {found : List Int} (hw : 8 ≤ w) (hn : Sm n) (hl : found.length ≤ 13) (h0 : 0 ≤ number) (hp : 0 < number) (h : LlI w.toNat n found number) :
    (found ++ [number.fmod (2 ^ w.toNat)]).length ≤ 13 ∧ 0 ≤ number.fdiv (2 ^ w.toNat) ∧ LlI w.toNat n (found ++ [number.fmod (2 ^ w.toNat)]) (number.fdiv (2 ^ w.toNat)) := by
  rw [fdiv_two', fmod_two']
  unfold Sm at hn
  obtain ⟨h1, h2, h3, h4⟩ := h
  have hB := kbt_pos w.toNat
  have r0 := Int.emod_nonneg number (Int.ne_of_gt hB)
  have r1 := Int.emod_lt_of_pos number hB
  have q0 : 0 ≤ number / 2 ^ w.toNat := Int.ediv_nonneg (by omega) (by omega)
  have e := Int.emod_add_mul_ediv number (2 ^ w.toNat)
  have hlen : found.length ≤ 12 := by
    refine Nat.le_of_not_lt fun c => ?_
    have : found.length = 13 := by omega
    rw [this] at h4
    have : (2 : Int) ^ (8 * 13) * 1 ≤ 2 ^ (8 * 13) * number := Int.mul_le_mul_of_nonneg_left (by omega) (by decide)
    have : ((2 : Int) ^ 100) < 2 ^ (8 * 13) * 1 := by decide
    omega
  refine ⟨by simp only [List.length_append, List.length_cons, List.length_nil]; omega, q0, limbs_snoc h1 r0 r1, ?_, fun z => ?_, ?_⟩
  · rw [val_snoc, List.length_append, List.length_singleton, Int.pow_succ, ← h2]
    generalize number % 2 ^ w.toNat = r at *
    generalize number / 2 ^ w.toNat = q at *
    rw [← e]
    grind
  · rw [z, Int.mul_zero, Int.add_zero] at e
    rw [e]
    simp
    omega
  · rw [List.length_append, List.length_singleton, Nat.mul_add, Nat.mul_one, Int.pow_add]
    have p8 : (2 : Int) ^ w.toNat = 2 ^ 8 * 2 ^ (w.toNat - 8) := by rw [← Int.pow_add]; congr 1; omega
    have : (2 : Int) ^ 8 * (number / 2 ^ w.toNat) ≤ number := by
      have u := kbt_pos (w.toNat - 8)
      have : (2 : Int) ^ 8 * 1 ≤ 2 ^ 8 * 2 ^ (w.toNat - 8) := Int.mul_le_mul_of_nonneg_left (by omega) (by decide)
      have : (2 : Int) ^ 8 * (number / 2 ^ w.toNat) ≤ 2 ^ w.toNat * (number / 2 ^ w.toNat) := Int.mul_le_mul_of_nonneg_right (by omega) q0
      omega
    have := Int.mul_le_mul_of_nonneg_left this (Int.le_of_lt (kbt_pos (8 * found.length)))
    rw [Int.mul_assoc]
    omega
theorem ll_f {w n number : Int} {found : List Int} (h0 : 0 ≤ number) (hp : ¬ 0 < number) (h : LlI w.toNat n found number) : Num (2 ^ w.toNat) n found := by
  obtain ⟨h1, h2, h3, h4⟩ := h
  have z : number = 0 := by omega
  rw [z, Int.mul_zero, Int.add_zero] at h2
  exact ⟨h1, h2, h3 z⟩
end
section
open PySem PySem.W
noncomputable def MulO (W : Nat) (a b : List Int) (k : Nat) (found : List Int) : Prop :=
  Limbs (2 ^ W) found ∧ val (2 ^ W) found = val (2 ^ W) (a.take k) * val (2 ^ W) b ∧ ∀ i, k + b.length ≤ i → found.getD i 0 = 0
noncomputable def MulM (W : Nat) (a b : List Int) (k : Nat) (j : Nat) (found : List Int) (carry : Int) : Prop :=
  Limbs (2 ^ W) found ∧ 0 ≤ carry ∧ carry < 2 ^ W ∧ val (2 ^ W) found + (2 ^ W) ^ (k + j) * carry = val (2 ^ W) (a.take k) * val (2 ^ W) b + (2 ^ W) ^ k * (a.getD k 0 * val (2 ^ W) (b.take j)) ∧ ∀ i, k + b.length ≤ i → found.getD i 0 = 0
theorem mul_zeros (n : Nat) : (List.replicate n [(0 : Int)]).flatten = List.replicate n 0 := by
  induction n with
  | zero => rfl
  | succ k ih => rw [List.replicate_succ, List.flatten_cons, ih]; rfl
theorem mul_0 {W : Nat} {a b : List Int} : (List.replicate ((a.length : Int) + (b.length : Int)).toNat [(0 : Int)]).flatten.length = a.length + b.length ∧ MulO W a b ([] : List Int).length (List.replicate ((a.length : Int) + (b.length : Int)).toNat [(0 : Int)]).flatten := by
  rw [mul_zeros]
  refine ⟨by simp; omega, fun x hx => ?_, ?_, fun i _ => ?_⟩
  · rw [List.eq_of_mem_replicate hx]; exact ⟨Int.le_refl _, kbt_pos W⟩
  · rw [val_zeros _ fun x hx => List.eq_of_mem_replicate hx]; simp [val]
  · rw [List.getD_eq_getElem?_getD, List.getElem?_replicate]; split <;> rfl
theorem take_mid {a pre pst : List Int} {x : Int} (e : a = pre ++ x :: pst) : pre.length < a.length ∧ a.getD pre.length 0 = x := by
  subst e
  refine ⟨by simp, ?_⟩
  rw [List.getD_eq_getElem?_getD, List.getElem?_append_right (Nat.le_refl _)]; simp
theorem mulM_0 {W : Nat} {a b found : List Int} {k : Nat} (h : MulO W a b k found) : MulM W a b k ([] : List Int).length found 0 := by
  obtain ⟨h1, h2, h3⟩ := h
  exact ⟨h1, Int.le_refl _, kbt_pos W, by simp [val, h2], h3⟩
theorem limb_bits {w x : Int} {a : List Int} (ha : Limbs (2 ^ w.toNat) a) (hx : x ∈ a) (hw : w ≤ 12) : 0 ≤ x ∧ x < 4096 := by
  obtain ⟨h0, h1⟩ := ha x hx
  have := Nat.pow_le_pow_right (n := 2) (by decide) (show w.toNat ≤ 12 by omega)
  have h : (2 : Int) ^ w.toNat ≤ 2 ^ 12 := by rw [← kbt_cast, ← kbt_cast]; exact Int.ofNat_le.mpr this
  have e : (2 : Int) ^ 12 = 4096 := by decide
  omega
theorem mulM_t {W : Nat} {a b found pre pst : List Int} {k : Nat} {x y t carry : Int} (ha : Limbs (2 ^ W) a) (hb : Limbs (2 ^ W) b) (hk : k < a.length) (hx : a.getD k 0 = x) (hl : found.length = a.length + b.length) (he : b = pre ++ y :: pst) (h : MulM W a b k pre.length found carry)
    (ht : t = carry + (found.getD (k + pre.length) 0 + x * y)) :
    (found.set (k + pre.length) (Builtin.bitAnd t (1 * 2 ^ W - 1))).length = a.length + b.length ∧ MulM W a b k (pre ++ [y]).length (found.set (k + pre.length) (Builtin.bitAnd t (1 * 2 ^ W - 1))) (t.fdiv (2 ^ W)) := by
  rw [bit_low, fdiv_two]
  obtain ⟨hj, hy⟩ := take_mid he
  obtain ⟨h1, h2, h3, h4, h5⟩ := h
  have hB := kbt_pos W
  have xa := limbs_getD hB ha k
  have xb := limbs_getD hB hb pre.length
  have xf := limbs_getD hB h1 (k + pre.length)
  rw [hx] at xa h4
  rw [hy] at xb
  have r0 := Int.emod_nonneg t (Int.ne_of_gt hB)
  have r1 := Int.emod_lt_of_pos t hB
  have xy0 : 0 ≤ x * y := Int.mul_nonneg xa.1 xb.1
  have xy1 : x * y ≤ (2 ^ W - 1) * (2 ^ W - 1) := Int.mul_le_mul (by omega) (by omega) xb.1 (by omega)
  have q0 : 0 ≤ t / 2 ^ W := Int.ediv_nonneg (by omega) (by omega)
  have q1 : t / 2 ^ W < 2 ^ W := Int.ediv_lt_of_lt_mul hB (by
    have : ((2 : Int) ^ W - 1) * (2 ^ W - 1) = 2 ^ W * 2 ^ W - 2 * 2 ^ W + 1 := by grind
    omega)
  have e := Int.emod_add_mul_ediv t (2 ^ W)
  have hlt : k + pre.length < found.length := by omega
  refine ⟨by rw [List.length_set]; exact hl, limbs_set h1 _ r0 r1, q0, q1, ?_, fun i hi => ?_⟩
  · rw [val_set _ _ _ _ hlt, List.length_append, List.length_singleton, val_take_succ _ _ _ hj, hy, hx, ← Nat.add_assoc, Int.pow_succ, Int.pow_add]
    rw [Int.pow_add] at h4
    generalize found.getD (k + pre.length) 0 = f at *
    generalize val (2 ^ W) found = V at *
    generalize val (2 ^ W) (a.take k) * val (2 ^ W) b = U at *
    generalize val (2 ^ W) (b.take pre.length) = Z at *
    generalize t % 2 ^ W = r at *
    generalize t / 2 ^ W = q at *
    generalize ((2 : Int) ^ W) ^ k = P at *
    generalize ((2 : Int) ^ W) ^ pre.length = R at *
    generalize (2 : Int) ^ W = B at *
    clear xy0 xy1 q0 q1 r0 r1 xa xb xf h2 h3 hB
    have e2 : r = carry + (f + x * y) - B * q := by omega
    rw [e2]
    grind
  · rw [getD_set_ne _ _ _ _ (by omega)]; exact h5 i hi
theorem mulM_f {W : Nat} {a b found pre pst : List Int} {x carry : Int} (he : a = pre ++ x :: pst) (hl : found.length = a.length + b.length) (h : MulM W a b pre.length b.length found carry) :
    (found.set (pre.length + b.length) carry).length = a.length + b.length ∧ MulO W a b (pre ++ [x]).length (found.set (pre.length + b.length) carry) := by
  obtain ⟨hj, hy⟩ := take_mid he
  obtain ⟨h1, h2, h3, h4, h5⟩ := h
  have hlt : pre.length + b.length < found.length := by omega
  refine ⟨by rw [List.length_set]; exact hl, limbs_set h1 _ h2 h3, ?_, fun i hi => ?_⟩
  · rw [val_set _ _ _ _ hlt, h5 _ (Nat.le_refl _), Int.sub_zero, h4, List.length_append, List.length_singleton, val_take_succ _ _ _ hj, List.take_length]
    grind
  · rw [List.length_append, List.length_singleton] at hi
    rw [getD_set_ne _ _ _ _ (by omega)]; exact h5 i (by omega)
theorem mul_f {W : Nat} {a b found ns : List Int} (h : MulO W a b a.length found) (hl : found.length = a.length + b.length) (ht : ns = trim found) : Num (2 ^ W) (val (2 ^ W) a * val (2 ^ W) b) ns ∧ ns.length ≤ a.length + b.length := by
  obtain ⟨h1, h2, _⟩ := h
  rw [List.take_length] at h2
  subst ht
  have := trim_le found
  exact ⟨trim_num ⟨h1, h2⟩, by omega⟩
theorem mul_s1 {W : Nat} {a b ys pre pst pr2 pst2 : List Int} {n n2 i i2 c : Int} (ha : Limbs (2 ^ W) a) (hb : Limbs (2 ^ W) b) (e1 : a = pre ++ n :: pst) (e2 : i = (pre.length : Int)) (e3 : b = pr2 ++ n2 :: pst2) (e4 : i2 = (pr2.length : Int)) (hl : ys.length = a.length + b.length) (hm : MulM W a b pre.length pr2.length ys c) :
    (ys.set (i + i2).toNat (Builtin.bitAnd (c + (ys.getD (i + i2).toNat 0 + n * n2)) (1 * 2 ^ W - 1))).length = a.length + b.length ∧ MulM W a b pre.length (pr2 ++ [n2]).length (ys.set (i + i2).toNat (Builtin.bitAnd (c + (ys.getD (i + i2).toNat 0 + n * n2)) (1 * 2 ^ W - 1))) ((c + (ys.getD (i + i2).toNat 0 + n * n2)).fdiv (2 ^ W)) := by
  obtain ⟨hk, hx⟩ := take_mid e1
  rw [show (i + i2).toNat = pre.length + pr2.length by omega]
  exact mulM_t ha hb hk hx hl e3 hm rfl
theorem mul_s2 {W : Nat} {a b ys pre pst : List Int} {n i c : Int} (e1 : a = pre ++ n :: pst) (e2 : i = (pre.length : Int)) (hl : ys.length = a.length + b.length) (hm : MulM W a b pre.length b.length ys c) :
    (ys.set (i + (b.length : Int)).toNat c).length = a.length + b.length ∧ MulO W a b (pre ++ [n]).length (ys.set (i + (b.length : Int)).toNat c) := by
  rw [show (i + (b.length : Int)).toNat = pre.length + b.length by omega]
  exact mulM_f e1 hl hm
end
section
open PySem PySem.W
theorem lim_take {B v : Int} (hB : 0 < B) {xs : List Int} (h : Lim B v xs) (n : Nat) : Lim B (v % B ^ n) (xs.take n) := by
  refine ⟨limbs_take h.1 n, ?_⟩
  have b := val_bound hB (limbs_take h.1 n)
  by_cases q : n ≤ xs.length
  · have e := val_take B xs n q
    rw [h.2] at e
    rw [List.length_take, Nat.min_eq_left q] at b
    rw [e, Int.add_mul_emod_self_left]
    exact (Int.emod_eq_of_lt b.1 b.2).symm
  · rw [List.take_of_length_le (by omega)] at b ⊢
    rw [h.2] at b ⊢
    refine (Int.emod_eq_of_lt b.1 (Int.lt_of_lt_of_le b.2 ?_)).symm
    have : B ^ n = B ^ xs.length * B ^ (n - xs.length) := by rw [← Int.pow_add]; congr 1; omega
    rw [this]
    have p1 := pow_pos' hB xs.length
    have p2 := pow_pos' hB (n - xs.length)
    have : B ^ xs.length * 1 ≤ B ^ xs.length * B ^ (n - xs.length) := Int.mul_le_mul_of_nonneg_left (by omega) (by omega)
    omega
theorem low_num {B v : Int} (hB : 0 < B) {xs : List Int} (h : Lim B v xs) (n : Nat) : Num B (v % B ^ n) (trim (xs.take n)) := trim_num (lim_take hB h n)
noncomputable def turnedL (W : Nat) (a : List Int) (n : Nat) : List Int := List.map (fun k' : Int => if k' < (a.length : Int) then 1 * 2 ^ W - 1 - a.getD k'.toNat 0 else 1 * 2 ^ W - 1 - 0) (rangeKs 0 n)
theorem turned_at (W : Nat) (a : List Int) (k : Nat) : (if (0 + (k : Int)) < (a.length : Int) then 1 * 2 ^ W - 1 - a.getD (0 + (k : Int)).toNat 0 else 1 * 2 ^ W - 1 - 0) = 2 ^ W - 1 - a.getD k 0 := by
  rw [Int.one_mul, Int.zero_add, Int.toNat_natCast]
  split
  · rfl
  · rw [getD_out (by omega)]
theorem turned_succ (W : Nat) (a : List Int) (n : Nat) : turnedL W a (n + 1) = turnedL W a n ++ [2 ^ W - 1 - a.getD n 0] := by
  unfold turnedL rangeKs
  rw [List.range_succ, List.map_append, List.map_append, List.map_singleton, List.map_singleton, turned_at]
theorem turned_length (W : Nat) (a : List Int) (n : Nat) : (turnedL W a n).length = n := by unfold turnedL; rw [List.length_map, rangeKs_length]
theorem turned_limbs {W : Nat} {a : List Int} (ha : Limbs (2 ^ W) a) : ∀ n, Limbs (2 ^ W) (turnedL W a n)
  | 0 => limbs_nil
  | n + 1 => by
    rw [turned_succ]
    have := limbs_getD (kbt_pos W) ha n
    exact limbs_snoc (turned_limbs ha n) (by omega) (by omega)
theorem turned_val {W : Nat} {a : List Int} : ∀ n, val (2 ^ W) (turnedL W a n) + val (2 ^ W) (a.take n) = (2 ^ W) ^ n - 1
  | 0 => by simp [turnedL, rangeKs, val]
  | n + 1 => by
    have ih := turned_val (W := W) (a := a) n
    rw [turned_succ, val_snoc, turned_length]
    have e : val (2 ^ W) (a.take (n + 1)) = val (2 ^ W) (a.take n) + (2 ^ W) ^ n * a.getD n 0 := by
      by_cases q : n < a.length
      · exact val_take_succ _ _ _ q
      · rw [getD_out (by omega), List.take_of_length_le (by omega), List.take_of_length_le (by omega)]; simp
    rw [e, Int.pow_succ]
    generalize val (2 ^ W) (turnedL W a n) = X at *
    generalize val (2 ^ W) (a.take n) = Y at *
    generalize a.getD n 0 = z at *
    generalize (2 : Int) ^ W = P at *
    grind
theorem turned_eq (W : Nat) (a : List Int) (n : Int) : List.map (fun k' : Int => if k' < (a.length : Int) then 1 * 2 ^ W - 1 - a.getD k'.toNat 0 else 1 * 2 ^ W - 1 - 0) (rangeKs 0 (n - 0).toNat) = turnedL W a n.toNat := by rw [show (n - 0).toNat = n.toNat by omega]; rfl
theorem trim_limbs {B : Int} {xs : List Int} (h : Limbs B xs) : Limbs B (trim xs) := limbs_take h _
theorem compl_l {W : Nat} {a ns : List Int} {n : Int} (ha : Limbs (2 ^ W) a) (h : ns = trim (List.map (fun k' : Int => if k' < (a.length : Int) then 1 * 2 ^ W - 1 - a.getD k'.toNat 0 else 1 * 2 ^ W - 1 - 0) (rangeKs 0 (n - 0).toNat))) : Limbs (2 ^ W) ns := by
  rw [h, turned_eq]; exact trim_limbs (turned_limbs ha _)
theorem limbs_lit {w x : Int} (hw : 8 ≤ w) (h0 : 0 ≤ x) (h1 : x < 256) : Limbs (2 ^ w.toNat) [x] := by
  refine limbs_one h0 (Int.lt_of_lt_of_le h1 ?_)
  have := Nat.pow_le_pow_right (n := 2) (by decide) (show 8 ≤ w.toNat by omega)
  have h : (2 : Int) ^ 8 ≤ 2 ^ w.toNat := by rw [← kbt_cast, ← kbt_cast]; exact Int.ofNat_le.mpr this
  have e : (2 : Int) ^ 8 = 256 := by decide
  omega
theorem compl_f {W : Nat} {a ns ns1 ns2 : List Int} {n : Int} (ha : Limbs (2 ^ W) a)
    (h2 : ns2 = trim (List.map (fun k' : Int => if k' < (a.length : Int) then 1 * 2 ^ W - 1 - a.getD k'.toNat 0 else 1 * 2 ^ W - 1 - 0) (rangeKs 0 (n - 0).toNat)))
    (h1 : Lim (2 ^ W) (val (2 ^ W) ns2 + val (2 ^ W) [1]) ns1) (h : ns = trim (ns1.take n.toNat)) : Num (2 ^ W) (((2 ^ W) ^ n.toNat - val (2 ^ W) (a.take n.toNat)) % (2 ^ W) ^ n.toNat) ns ∧ ns.length ≤ n.toNat := by
  have hB := kbt_pos W
  rw [turned_eq] at h2
  have hv : val (2 ^ W) ns2 = val (2 ^ W) (turnedL W a n.toNat) := by
    rw [h2]; exact (trim_num ⟨turned_limbs ha _, rfl⟩).2.1
  have e := turned_val (W := W) (a := a) n.toNat
  have q := low_num hB h1 n.toNat
  rw [← h, hv] at q
  rw [show (2 ^ W) ^ n.toNat - val (2 ^ W) (a.take n.toNat) = val (2 ^ W) (turnedL W a n.toNat) + val (2 ^ W) [1] by simp only [val]; omega]
  refine ⟨q, ?_⟩
  rw [h]
  have := trim_le (ns1.take n.toNat)
  rw [List.length_take] at this
  omega
end
section
open PySem PySem.W
/-- X turns v into 1, up to the place sz -/
noncomputable def InvLo (W : Nat) (v sz X : Int) : Prop := 0 ≤ X ∧ X < (2 ^ W) ^ sz.toNat ∧ v * X % (2 ^ W) ^ sz.toNat = 1
theorem base_two {W : Nat} (hW : 1 ≤ W) : (2 : Int) ≤ 2 ^ W := by
  have := Nat.pow_le_pow_right (n := 2) (by decide) hW
  have h : (2 : Int) ^ 1 ≤ 2 ^ W := by rw [← kbt_cast, ← kbt_cast]; exact Int.ofNat_le.mpr this
  have e : (2 : Int) ^ 1 = 2 := by decide
  omega
theorem pow_gt_one {W n : Nat} (hW : 1 ≤ W) (hn : 1 ≤ n) : (1 : Int) < (2 ^ W) ^ n := by
  have h2 := base_two hW
  have e : (2 ^ W : Int) ^ n = 2 ^ W * (2 ^ W) ^ (n - 1) := by
    conv => lhs; rw [show n = (n - 1) + 1 by omega, Int.pow_succ, Int.mul_comm]
  have := pow_pos' (B := 2 ^ W) (by omega) (n - 1)
  have : (2 : Int) ^ W * 1 ≤ 2 ^ W * (2 ^ W) ^ (n - 1) := Int.mul_le_mul_of_nonneg_left (by omega) (by omega)
  omega
theorem mod_eq {x y M : Int} (h : x % M = y) : ∃ q, y = x - M * q := ⟨x / M, by have := Int.emod_add_mul_ediv x M; omega⟩
theorem invLo_t {W : Nat} {v sz X s y1 y2 y3 y4 y5 : Int} (hW : 1 ≤ W) (h1 : 1 ≤ sz) (hs : s ≤ 2 * sz) (hs1 : 1 ≤ s) (h : InvLo W v sz X)
    (e1 : v % (2 ^ W) ^ s.toNat = y1) (e2 : y1 * X % (2 ^ W) ^ s.toNat = y2) (e3 : ((2 ^ W) ^ s.toNat - y2) % (2 ^ W) ^ s.toNat = y3) (e4 : (y3 + 2) % (2 ^ W) ^ s.toNat = y4) (e5 : X * y4 % (2 ^ W) ^ s.toNat = y5) : InvLo W v s y5 := by
  obtain ⟨x0, x1, hx⟩ := h
  have hM := pow_gt_one hW (show 1 ≤ s.toNat by omega)
  have hSV : ((2 : Int) ^ W) ^ sz.toNat * (2 ^ W) ^ sz.toNat = (2 ^ W) ^ s.toNat * (2 ^ W) ^ (2 * sz.toNat - s.toNat) := by
    rw [← Int.pow_add, ← Int.pow_add]; congr 1; omega
  have r0 := Int.emod_nonneg (X * y4) (show ((2 : Int) ^ W) ^ s.toNat ≠ 0 by omega)
  have r1 := Int.emod_lt_of_pos (X * y4) (show 0 < ((2 : Int) ^ W) ^ s.toNat by omega)
  obtain ⟨k, hk⟩ := mod_eq hx
  obtain ⟨q1, f1⟩ := mod_eq e1
  obtain ⟨q2, f2⟩ := mod_eq e2
  obtain ⟨q3, f3⟩ := mod_eq e3
  obtain ⟨q4, f4⟩ := mod_eq e4
  obtain ⟨q5, f5⟩ := mod_eq e5
  rw [e5] at r0 r1
  refine ⟨r0, r1, ?_⟩
  generalize ((2 : Int) ^ W) ^ s.toNat = M at *
  generalize ((2 : Int) ^ W) ^ sz.toNat = S at *
  generalize ((2 : Int) ^ W) ^ (2 * sz.toNat - s.toNat) = V at *
  have g4 : y4 = 2 - v * X + M * (q1 * X + q2 + 1 - q3 - q4) := by
    rw [f4, f3, f2, f1]; grind
  have g5 : v * y5 = 1 + M * (-(V * k * k) + v * X * (q1 * X + q2 + 1 - q3 - q4) - v * q5) := by
    have a1 : v * X = 1 + S * k := by omega
    have a2 : v * X * (2 - v * X) = 1 - S * S * (k * k) := by rw [a1]; grind
    have a3 : v * y5 = v * X * (2 - v * X) + M * (v * X * (q1 * X + q2 + 1 - q3 - q4) - v * q5) := by rw [f5, g4]; grind
    rw [a3, a2, hSV]; grind
  rw [g5, Int.add_mul_emod_self_left]
  exact Int.emod_eq_of_lt (by decide) hM
theorem invLo_0 {W : Nat} {b : List Int} {x : Int} (x0 : 0 ≤ x) (x1 : x < 2 ^ W) (hx : b.getD 0 0 * x % 2 ^ W = 1) : InvLo W (val (2 ^ W) b) 1 x ∧ Num (2 ^ W) x [x] := by
  have e : (1 : Int).toNat = 1 := rfl
  refine ⟨⟨x0, by rw [e, Int.pow_succ, Int.pow_zero, Int.one_mul]; exact x1, ?_⟩, limbs_one x0 x1, by simp [val], ?_⟩
  · rw [e, Int.pow_succ, Int.pow_zero, Int.one_mul]
    have d := val_drop (2 ^ W) b 0
    rw [List.drop_zero] at d
    rw [d, Int.add_mul, Int.mul_assoc, Int.add_mul_emod_self_left]; exact hx
  · intro q
    simp at q
    subst q
    simp at hx
theorem lim_of {B : Int} {xs : List Int} (h : Limbs B xs) : Lim B (val B xs) xs := ⟨h, rfl⟩
theorem min_facts {sz n : Int} (h1 : 1 ≤ sz) (h2 : sz ≤ n) : 1 ≤ (if n < 2 * sz then n else 2 * sz) ∧ (if n < 2 * sz then n else 2 * sz) ≤ n ∧ (if n < 2 * sz then n else 2 * sz) ≤ 2 * sz := by
  split <;> omega
theorem min_more {sz n : Int} (h1 : 1 ≤ sz) (h2 : sz < n) : sz < (if n < 2 * sz then n else 2 * sz) := by
  split <;> omega
end
section
open PySem PySem.W
noncomputable def cornV (B n : Int) : Int := if 5 < n then 1 - (B ^ 1 + B ^ 2) + (B ^ 5 + B ^ 7) else 1 - (B ^ 1 + B ^ 2)
theorem pow_mul' (b : Int) (m : Nat) : ∀ n : Nat, b ^ (m * n) = (b ^ m) ^ n
  | 0 => by simp
  | n + 1 => by rw [Nat.mul_add, Nat.mul_one, Int.pow_add, pow_mul' b m n, Int.pow_succ]
theorem two_mul_pow {w k : Int} (hw : 0 ≤ w) (hk : 0 ≤ k) : (2 : Int) ^ (w * k).toNat = (2 ^ w.toNat) ^ k.toNat := by
  rw [← pow_mul']
  congr 1
  have h1 : (w.toNat : Int) = w := Int.toNat_of_nonneg hw
  have h2 : (k.toNat : Int) = k := Int.toNat_of_nonneg hk
  have : ((w.toNat * k.toNat : Nat) : Int) = w * k := by rw [Int.natCast_mul, h1, h2]
  omega
theorem corn_lim0 (x k : Int) : 0 ≤ x.fmod (2 ^ k.toNat) := (kbt_rest x k.toNat).1
theorem corn_lim1 (x : Int) {k : Int} (hk : k ≤ 96) : Sm (x.fmod (2 ^ k.toNat)) := by
  have h := (kbt_rest x k.toNat).2
  have := Nat.pow_le_pow_right (n := 2) (by decide) (show k.toNat ≤ 96 by omega)
  have h2 : (2 : Int) ^ k.toNat ≤ 2 ^ 96 := by rw [← kbt_cast, ← kbt_cast]; exact Int.ofNat_le.mpr this
  have h3 : ((2 : Int) ^ 96) < 2 ^ 100 := by decide
  unfold Sm
  omega
theorem corn_f1 {w n : Int} {ns : List Int} (hw : 8 ≤ w) (hn : 5 ≤ n) (hc : 5 < n) (h : Num (2 ^ w.toNat) (((1 : Int) - (2 ^ (w * 1).toNat + 2 ^ (w * 2).toNat) + (2 ^ (w * 5).toNat + 2 ^ (w * 7).toNat)).fmod (2 ^ (w * n).toNat)) ns) : Num (2 ^ w.toNat) (cornV (2 ^ w.toNat) n % (2 ^ w.toNat) ^ n.toNat) ns := by
  rw [fmod_two', two_mul_pow (by omega) (by decide), two_mul_pow (by omega) (by decide), two_mul_pow (by omega) (by decide), two_mul_pow (by omega) (by decide), two_mul_pow (by omega) (by omega)] at h
  unfold cornV
  rw [if_pos hc]
  exact h
theorem corn_f2 {w n : Int} {ns : List Int} (hw : 8 ≤ w) (hn : 5 ≤ n) (hc : ¬ 5 < n) (h : Num (2 ^ w.toNat) (((1 : Int) - (2 ^ (w * 1).toNat + 2 ^ (w * 2).toNat)).fmod (2 ^ (w * n).toNat)) ns) : Num (2 ^ w.toNat) (cornV (2 ^ w.toNat) n % (2 ^ w.toNat) ^ n.toNat) ns := by
  rw [fmod_two', two_mul_pow (by omega) (by decide), two_mul_pow (by omega) (by decide), two_mul_pow (by omega) (by omega)] at h
  unfold cornV
  rw [if_neg hc]
  exact h
theorem wn_bounds {w n : Int} (w0 : 8 ≤ w) (w1 : w ≤ 12) (n0 : 5 ≤ n) (n1 : n ≤ 8) : 0 ≤ w * n ∧ w * n ≤ 96 :=
  ⟨Int.mul_nonneg (by omega) (by omega), Int.le_trans (Int.mul_le_mul w1 n1 (by omega) (by omega)) (by decide)⟩
end
section
open PySem PySem.W
noncomputable def lessV (B : Int) (n c : Nat) (R : Int) : Int := (B ^ n - (B ^ c * R - R) % B ^ n) % B ^ n
theorem lessV_bound {B : Int} (hB : 0 < B) (n c : Nat) (R : Int) : 0 ≤ lessV B n c R ∧ lessV B n c R < B ^ n := by
  have := pow_pos' hB n
  exact ⟨Int.emod_nonneg _ (by omega), Int.emod_lt_of_pos _ this⟩
theorem lessV_mod {B : Int} (n c : Nat) (R : Int) : ∃ q, lessV B n c R = R * (1 - B ^ c) + B ^ n * q := by
  obtain ⟨q1, h1⟩ := mod_eq (x := B ^ n - (B ^ c * R - R) % B ^ n) (M := B ^ n) rfl
  obtain ⟨q2, h2⟩ := mod_eq (x := B ^ c * R - R) (M := B ^ n) rfl
  unfold lessV
  rw [h1, h2]
  exact ⟨1 + q2 - q1, by grind⟩
theorem getD_set (xs : List Int) (i j : Nat) (x : Int) (h : i < xs.length) : (xs.set i x).getD j 0 = if i = j then x else xs.getD j 0 := by
  by_cases e : i = j
  · subst e; rw [if_pos rfl, getD_set_eq _ _ _ h]
  · rw [if_neg e, getD_set_ne _ _ _ _ e]
theorem take_succ' (xs : List Int) (k : Nat) (h : k < xs.length) : xs.take (k + 1) = xs.take k ++ [xs.getD k 0] := by
  rw [List.take_add_one, List.getD_eq_getElem?_getD, List.getElem?_eq_getElem h]; rfl
theorem waysK_val (B : Int) (a : List Int) (c : Nat) (hc : 1 ≤ c) : ∀ k, c + k ≤ a.length → val B (waysK a c k) = val B a + B ^ c * val B ((waysK a c k).take k)
  | 0, _ => by simp [waysK, val]
  | k + 1, h => by
    have ih := waysK_val B a c hc k (by omega)
    have hl := waysK_length a c k
    unfold waysK
    generalize waysK a c k = w at *
    have h1 : c + k < w.length := by omega
    have hk : k < (w.set (c + k) (w.getD (c + k) 0 + w.getD k 0)).length := by rw [List.length_set]; omega
    rw [val_set _ _ _ _ h1, take_succ' _ _ hk, val_snoc, List.length_take, List.length_set, Nat.min_eq_left (by omega), getD_set_ne _ _ _ _ (by omega), List.take_set_of_le (by omega), ih, Int.pow_add]
    grind
theorem ways_val (B : Int) (a : List Int) (c : Nat) (hc : 1 ≤ c) : ∃ q, val B (waysK a c (a.length - c)) * (1 - B ^ c) = val B a + B ^ a.length * q := by
  by_cases h : c ≤ a.length
  · have e := waysK_val B a c hc (a.length - c) (by omega)
    have hl := waysK_length a c (a.length - c)
    generalize waysK a c (a.length - c) = w at *
    have t := val_take B w (a.length - c) (by omega)
    refine ⟨-val B (w.drop (a.length - c)), ?_⟩
    have p : B ^ a.length = B ^ c * B ^ (a.length - c) := by rw [← Int.pow_add]; congr 1; omega
    rw [p]
    generalize val B (w.take (a.length - c)) = u at *
    generalize val B (w.drop (a.length - c)) = v at *
    generalize B ^ (a.length - c) = y at *
    generalize B ^ c = z at *
    grind
  · have h0 : a.length - c = 0 := by omega
    rw [h0]
    refine ⟨-(val B a * B ^ (c - a.length)), ?_⟩
    have p : B ^ c = B ^ a.length * B ^ (c - a.length) := by rw [← Int.pow_add]; congr 1; omega
    rw [p]
    unfold waysK
    grind
theorem inv_step {B R : Int} {a : List Int} (hB : 2 ≤ B) (hn : 1 ≤ a.length) (c : Nat) (hc : 1 ≤ c) (h : R * val B a % B ^ a.length = 1) : lessV B a.length c R * val B (waysK a c (a.length - c)) % B ^ a.length = 1 := by
  obtain ⟨q1, h1⟩ := lessV_mod (B := B) a.length c R
  obtain ⟨q2, h2⟩ := ways_val B a c hc
  obtain ⟨q3, h3⟩ := mod_eq h
  have hM : 1 < B ^ a.length := by
    have e : B ^ a.length = B * B ^ (a.length - 1) := by
      conv => lhs; rw [show a.length = (a.length - 1) + 1 by omega, Int.pow_succ, Int.mul_comm]
    have := pow_pos' (B := B) (by omega) (a.length - 1)
    have : B * 1 ≤ B * B ^ (a.length - 1) := Int.mul_le_mul_of_nonneg_left (by omega) (by omega)
    omega
  generalize val B (waysK a c (a.length - c)) = V at *
  generalize val B a = U at *
  generalize B ^ a.length = M at *
  have e : lessV B a.length c R * V = 1 + M * (q3 + R * q2 + q1 * V) := by
    rw [h1]
    have : R * U = 1 + M * q3 := by omega
    have : R * (V * (1 - B ^ c)) = 1 + M * q3 + M * (R * q2) := by rw [h2]; grind
    grind
  rw [e, Int.add_mul_emod_self_left]
  exact Int.emod_eq_of_lt (by decide) hM
/-- the entries stay small -/
noncomputable def sumTo (a : List Int) (j : Nat) : Int := (a.take (j + 1)).sum
theorem sumTo_succ (a : List Int) (j : Nat) : sumTo a (j + 1) = sumTo a j + a.getD (j + 1) 0 := by
  unfold sumTo
  by_cases h : j + 1 < a.length
  · rw [take_succ' a (j + 1) h, List.sum_append]; simp
  · rw [getD_out (by omega), List.take_of_length_le (by omega), List.take_of_length_le (by omega)]; simp
theorem nonneg_getD {a : List Int} (h : ∀ x ∈ a, 0 ≤ x) (j : Nat) : 0 ≤ a.getD j 0 := by
  by_cases q : j < a.length
  · rw [List.getD_eq_getElem?_getD, List.getElem?_eq_getElem q]; exact h _ (List.getElem_mem q)
  · rw [getD_out (by omega)]; exact Int.le_refl _
theorem sumTo_mono {a : List Int} (h : ∀ x ∈ a, 0 ≤ x) (i : Nat) : ∀ d, sumTo a i ≤ sumTo a (i + d)
  | 0 => Int.le_refl _
  | d + 1 => by
    have := sumTo_mono h i d
    have e := sumTo_succ a (i + d)
    have := nonneg_getD h (i + d + 1)
    rw [← Nat.add_assoc]
    omega
theorem sumTo_0 (a : List Int) : sumTo a 0 = a.getD 0 0 := by
  cases a with
  | nil => rfl
  | cons x r => simp [sumTo]
theorem sum_nonneg {a : List Int} (h : ∀ x ∈ a, 0 ≤ x) : 0 ≤ a.sum := by
  induction a with
  | nil => simp
  | cons x r ih =>
    have := h x (.head _)
    have := ih fun y hy => h y (.tail _ hy)
    rw [List.sum_cons]; omega
theorem sumTo_le {a : List Int} (h : ∀ x ∈ a, 0 ≤ x) (j : Nat) : sumTo a j ≤ a.sum := by
  have e : a.sum = (a.take (j + 1)).sum + (a.drop (j + 1)).sum := by rw [← List.sum_append, List.take_append_drop]
  have := sum_nonneg (a := a.drop (j + 1)) fun x hx => h x (List.mem_of_mem_drop hx)
  unfold sumTo
  omega
theorem getD_le_sumTo {a : List Int} (h : ∀ x ∈ a, 0 ≤ x) : ∀ j, a.getD j 0 ≤ sumTo a j
  | 0 => by rw [sumTo_0]; exact Int.le_refl _
  | j + 1 => by
    rw [sumTo_succ]
    have a1 := sumTo_mono h 0 j
    rw [Nat.zero_add, sumTo_0] at a1
    have := nonneg_getD h 0
    omega
theorem waysK_bound {a : List Int} (h : ∀ x ∈ a, 0 ≤ x) {c : Nat} (hc : 1 ≤ c) : ∀ k, c + k ≤ a.length → (∀ j, 0 ≤ (waysK a c k).getD j 0 ∧ (waysK a c k).getD j 0 ≤ sumTo a j) ∧ ∀ j, c + k ≤ j → (waysK a c k).getD j 0 = a.getD j 0
  | 0, _ => ⟨fun j => ⟨nonneg_getD h j, getD_le_sumTo h j⟩, fun _ _ => rfl⟩
  | k + 1, hl => by
    obtain ⟨i1, i2⟩ := waysK_bound h hc k (by omega)
    have hlen := waysK_length a c k
    unfold waysK
    generalize waysK a c k = w at *
    have hlt : c + k < w.length := by omega
    refine ⟨fun j => ?_, fun j hj => ?_⟩
    · rw [getD_set _ _ _ _ hlt]
      split
      · rename_i e
        subst e
        have b1 := i1 k
        have b2 := i1 (c + k)
        rw [i2 (c + k) (Nat.le_refl _)] at *
        have e := sumTo_succ a (c + k - 1)
        rw [show c + k - 1 + 1 = c + k by omega] at e
        have m := sumTo_mono h k (c - 1)
        rw [show k + (c - 1) = c + k - 1 by omega] at m
        omega
      · exact i1 j
    · rw [getD_set_ne _ _ _ _ (by omega)]; exact i2 j (by omega)
theorem mem_getD {a : List Int} {x : Int} (h : x ∈ a) : ∃ j, j < a.length ∧ a.getD j 0 = x := by
  obtain ⟨j, hj, e⟩ := List.getElem_of_mem h
  exact ⟨j, hj, by rw [List.getD_eq_getElem?_getD, List.getElem?_eq_getElem hj]; exact e⟩
theorem ways_entries {a : List Int} (h : ∀ x ∈ a, 0 ≤ x) {c : Nat} (hc : 1 ≤ c) : ∀ x ∈ waysK a c (a.length - c), 0 ≤ x ∧ x ≤ a.sum := by
  intro x hx
  obtain ⟨j, _, rfl⟩ := mem_getD hx
  by_cases q : c ≤ a.length
  · have b := (waysK_bound h hc (a.length - c) (by omega)).1 j
    have := sumTo_le h j
    omega
  · rw [show a.length - c = 0 by omega]
    have := getD_le_sumTo h j
    have := sumTo_le h j
    have := nonneg_getD h j
    unfold waysK
    omega
theorem sum_le_mul {S : Int} : ∀ {a : List Int}, (∀ x ∈ a, x ≤ S) → a.sum ≤ a.length * S
  | [], _ => by simp
  | x :: r, h => by
    have := h x (.head _)
    have := sum_le_mul (S := S) (a := r) fun y hy => h y (.tail _ hy)
    rw [List.sum_cons, List.length_cons, Int.natCast_add, Int.add_mul]
    omega
end
section
open PySem PySem.W
theorem mod_unique {M R X V : Int} (h1 : R * X % M = 1) (h2 : R * V % M = 1) (x0 : 0 ≤ X) (x1 : X < M) (v0 : 0 ≤ V) (v1 : V < M) : X = V := by
  obtain ⟨q1, e1⟩ := mod_eq h1
  obtain ⟨q2, e2⟩ := mod_eq h2
  have e : X - V = M * (X * q2 - V * q1) * (-1) := by
    have a1 : R * X = 1 + M * q1 := by omega
    have a2 : R * V = 1 + M * q2 := by omega
    have a3 : V * (R * X) = X * (R * V) := by grind
    rw [a1, a2] at a3
    grind
  have hx : X % M = X := Int.emod_eq_of_lt x0 x1
  have hv : V % M = V := Int.emod_eq_of_lt v0 v1
  have : X = V + M * (-(X * q2 - V * q1)) := by grind
  rw [← hx, this, Int.add_mul_emod_self_left, hv]
theorem base_ge {w : Int} (hw : 8 ≤ w) : (256 : Int) ≤ 2 ^ w.toNat := by
  have := Nat.pow_le_pow_right (n := 2) (by decide) (show 8 ≤ w.toNat by omega)
  have h : (2 : Int) ^ 8 ≤ 2 ^ w.toNat := by rw [← kbt_cast, ← kbt_cast]; exact Int.ofNat_le.mpr this
  have e : (2 : Int) ^ 8 = 256 := by decide
  omega
theorem odd_of {w R V : Int} {n : Nat} {xr : List Int} (hw : 8 ≤ w) (hn : 1 ≤ n) (hR : Num (2 ^ w.toNat) R xr) (h : R * V % (2 ^ w.toNat) ^ n = 1) : 0 < R ∧ 0 < xr.length ∧ (xr.getD 0 0).fmod 2 = 1 := by
  have hB := base_ge hw
  have r0 := (val_bound (B := 2 ^ w.toNat) (by omega) hR.1).1
  rw [hR.2.1] at r0
  have rp : 0 < R := by
    by_cases z : R = 0
    · subst z; simp at h
    · omega
  refine ⟨rp, ?_, ?_⟩
  · cases xr with
    | nil => have := hR.2.1; simp only [val] at this; omega
    | cons x r => simp
  · have d := val_drop (2 ^ w.toNat) xr 0
    rw [List.drop_zero, hR.2.1] at d
    have p2 : (2 : Int) ^ w.toNat = 2 * 2 ^ (w.toNat - 1) := by
      conv => lhs; rw [show w.toNat = (w.toNat - 1) + 1 by omega, Int.pow_succ, Int.mul_comm]
    have pn : ((2 : Int) ^ w.toNat) ^ n = 2 ^ w.toNat * (2 ^ w.toNat) ^ (n - 1) := by
      conv => lhs; rw [show n = (n - 1) + 1 by omega, Int.pow_succ, Int.mul_comm]
    obtain ⟨q, e⟩ := mod_eq h
    rw [Int.fmod_eq_emod_of_nonneg _ (by decide)]
    generalize xr.getD 0 0 = x at *
    generalize val (2 ^ w.toNat) (xr.drop (0 + 1)) = t at *
    rw [pn, p2] at e
    rw [p2] at d
    generalize (2 : Int) ^ (w.toNat - 1) = u at *
    generalize ((2 : Int) * u) ^ (n - 1) = y at *
    by_cases z : x % 2 = 1
    · exact z
    · exfalso
      have hx : x = 2 * (x / 2) := by omega
      generalize x / 2 = k at *
      have : (1 : Int) = 2 * ((k + u * t) * V - u * y * q) := by
        rw [d, hx] at e
        grind
      omega
theorem shift_gt {w R c : Int} (hw : 8 ≤ w) (hR : 0 < R) (hc : 1 ≤ c) : R < (2 ^ w.toNat) ^ c.toNat * R := by
  have hB := base_ge hw
  have := pow_gt_one (W := w.toNat) (n := c.toNat) (by omega) (by omega)
  have : 2 * R ≤ (2 ^ w.toNat) ^ c.toNat * R := Int.mul_le_mul_of_nonneg_right (by omega) (by omega)
  omega
theorem cw_facts {c w : Int} (hc : 1 ≤ c) (hw : 8 ≤ w) : 0 ≤ c * w ∧ (c * w).fdiv w = c ∧ (c * w).fmod w = 0 := by
  refine ⟨Int.mul_nonneg (by omega) (by omega), ?_, ?_⟩
  · rw [Int.fdiv_eq_ediv_of_nonneg _ (by omega)]; exact Int.mul_ediv_cancel _ (by omega)
  · rw [Int.fmod_eq_emod_of_nonneg _ (by omega)]; exact Int.mul_emod_left _ _
/-- what stands between the turns of the first loop -/
noncomputable def T1 (W n i : Nat) (xr xw : List Int) : Prop :=
  (∃ R, Num (2 ^ W) R xr ∧ R * val (2 ^ W) xw % (2 ^ W) ^ n = 1) ∧ (∀ x ∈ xw, 0 ≤ x) ∧ xw.sum ≤ 8 ^ i
theorem ones_sum (k : Nat) : (List.replicate k (0 : Int)).sum = 0 := by
  induction k with
  | zero => rfl
  | succ k ih => rw [List.replicate_succ, List.sum_cons, ih]; rfl
theorem T1_0 {w : Int} (hw : 8 ≤ w) (n k : Nat) (hn : 1 ≤ n) : T1 w.toNat n 0 [1] (1 :: List.replicate k 0) := by
  have hB := base_ge hw
  refine ⟨⟨1, ⟨limbs_one (by decide) (by omega), by simp [val], by simp⟩, ?_⟩, fun x hx => ?_, ?_⟩
  · simp only [val]
    rw [val_zeros _ fun x hx => List.eq_of_mem_replicate hx, Int.mul_zero, Int.add_zero, Int.mul_one]
    exact Int.emod_eq_of_lt (by decide) (pow_gt_one (by omega) hn)
  · rcases List.mem_cons.mp hx with rfl | h
    · decide
    · rw [List.eq_of_mem_replicate h]; decide
  · rw [List.sum_cons, ones_sum]; decide
/-- a turn: the product goes on, the ways go on -/
theorem turn_inv {w R n c : Int} {xw nw : List Int} (hw : 8 ≤ w) (hn : 5 ≤ n) (hl : xw.length = n.toNat) (hc : 1 ≤ c) (h : R * val (2 ^ w.toNat) xw % (2 ^ w.toNat) ^ n.toNat = 1) (hnw : nw = waysK xw c.toNat (xw.length - c.toNat)) :
    (((2 ^ w.toNat) ^ n.toNat - ((2 ^ w.toNat) ^ c.toNat * R - R) % (2 ^ w.toNat) ^ n.toNat) % (2 ^ w.toNat) ^ n.toNat) * val (2 ^ w.toNat) nw % (2 ^ w.toNat) ^ n.toNat = 1 := by
  have hB := base_ge hw
  rw [← hl] at h ⊢
  rw [hnw]
  exact inv_step (B := 2 ^ w.toNat) (by omega) (by omega) c.toNat (by omega) h
theorem T1_next {w R n c : Int} {i : Nat} {xw nr nw : List Int} (hw : 8 ≤ w) (hn : 5 ≤ n) (hn1 : n ≤ 8) (hl : xw.length = n.toNat) (hc : 1 ≤ c) (h : R * val (2 ^ w.toNat) xw % (2 ^ w.toNat) ^ n.toNat = 1) (h0 : ∀ x ∈ xw, 0 ≤ x) (hs : xw.sum ≤ 8 ^ i) (hnw : nw = waysK xw c.toNat (xw.length - c.toNat))
    (hnr : Num (2 ^ w.toNat) (((2 ^ w.toNat) ^ n.toNat - ((2 ^ w.toNat) ^ c.toNat * R - R) % (2 ^ w.toNat) ^ n.toNat) % (2 ^ w.toNat) ^ n.toNat) nr) : T1 w.toNat n.toNat (i + 1) nr nw := by
  have e := ways_entries h0 (c := c.toNat) (by omega)
  rw [← hnw] at e
  refine ⟨⟨_, hnr, turn_inv hw hn hl hc h hnw⟩, fun x hx => (e x hx).1, ?_⟩
  have s := sum_le_mul fun x hx => (e x hx).2
  have l : nw.length = n.toNat := by rw [hnw, waysK_length, hl]
  rw [l] at s
  have s0 := sum_nonneg h0
  have : (n.toNat : Int) * xw.sum ≤ 8 * xw.sum := Int.mul_le_mul_of_nonneg_right (by omega) s0
  rw [Int.pow_succ]
  omega
/-- a turn's test: both lists are one -/
theorem turn_eq {w R n c : Int} {i : Nat} {xw nr nw ns : List Int} (hw : 8 ≤ w) (hn : 5 ≤ n) (hl : xw.length = n.toNat) (hc : 1 ≤ c) (h : R * val (2 ^ w.toNat) xw % (2 ^ w.toNat) ^ n.toNat = 1) (h0 : ∀ x ∈ xw, 0 ≤ x) (hs : xw.sum ≤ 8 ^ i) (hi : i ≤ 2) (hnw : nw = waysK xw c.toNat (xw.length - c.toNat))
    (hnr : Num (2 ^ w.toNat) (((2 ^ w.toNat) ^ n.toNat - ((2 ^ w.toNat) ^ c.toNat * R - R) % (2 ^ w.toNat) ^ n.toNat) % (2 ^ w.toNat) ^ n.toNat) nr)
    (hx : ∃ X, Num (2 ^ w.toNat) X ns ∧ InvLo w.toNat (val (2 ^ w.toNat) nr) n X) : ns = trim nw := by
  have hB := base_ge hw
  have e := ways_entries h0 (c := c.toNat) (by omega)
  rw [← hnw] at e
  have h64 : (8 : Int) ^ i ≤ 64 := by
    rcases (by omega : i = 0 ∨ i = 1 ∨ i = 2) with rfl | rfl | rfl <;> decide
  have hlim : Limbs (2 ^ w.toNat) nw := fun x hx => by have := e x hx; omega
  obtain ⟨X, hX, i1, i2, i3⟩ := hx
  have l : nw.length = n.toNat := by rw [hnw, waysK_length, hl]
  have b := val_bound (B := 2 ^ w.toNat) (by omega) hlim
  rw [l] at b
  have t := turn_inv hw hn hl hc h hnw
  rw [hnr.2.1] at i3
  have : X = val (2 ^ w.toNat) nw := mod_unique i3 t i1 i2 b.1 b.2
  rw [this] at hX
  exact num_unique (B := 2 ^ w.toNat) (by omega) hX (trim_num ⟨hlim, rfl⟩)
/-- the second loop's states -/
noncomputable def rIter (B : Int) (n : Nat) : Nat → Int
  | 0 => 1
  | i + 1 => lessV B n (i + 1) (rIter B n i)
noncomputable def wIter (n : Nat) : Nat → List Int
  | 0 => 1 :: List.replicate (n - 1) 0
  | i + 1 => waysK (wIter n i) (i + 1) ((wIter n i).length - (i + 1))
theorem wIter_length (n : Nat) (hn : 1 ≤ n) : ∀ i, (wIter n i).length = n
  | 0 => by simp [wIter]; omega
  | i + 1 => by unfold wIter; rw [waysK_length]; exact wIter_length n hn i
theorem iter_inv {w : Int} (hw : 8 ≤ w) (n : Nat) (hn : 1 ≤ n) : ∀ i, rIter (2 ^ w.toNat) n i * val (2 ^ w.toNat) (wIter n i) % (2 ^ w.toNat) ^ n = 1
  | 0 => by
    unfold rIter wIter
    simp only [val]
    rw [val_zeros _ fun x hx => List.eq_of_mem_replicate hx, Int.mul_zero, Int.add_zero, Int.mul_one]
    exact Int.emod_eq_of_lt (by decide) (pow_gt_one (by omega) hn)
  | i + 1 => by
    have hB := base_ge hw
    have ih := iter_inv hw n hn i
    have hl := wIter_length n hn i
    unfold rIter wIter
    rw [hl]
    have := inv_step (B := 2 ^ w.toNat) (R := rIter (2 ^ w.toNat) n i) (a := wIter n i) (by omega) (by omega) (i + 1) (by omega) (by rw [hl]; exact ih)
    rw [hl] at this
    exact this
theorem wIter_small : ∀ n : Nat, 5 ≤ n → n ≤ 8 → (∀ x ∈ wIter n (n - 1), 0 ≤ x ∧ x < 256) ∧ (wIter n (n - 1)).getLast? ≠ some 0 := by
  intro n h1 h2
  rcases (by omega : n = 5 ∨ n = 6 ∨ n = 7 ∨ n = 8) with rfl | rfl | rfl | rfl <;> decide +kernel
theorem rIter_corn : ∀ w n : Nat, 8 ≤ w → w ≤ 12 → 5 ≤ n → n ≤ 8 → rIter (2 ^ w) n (n - 1) = cornV (2 ^ w) n % (2 ^ w) ^ n := by
  intro w n h1 h2 h3 h4
  rcases (by omega : w = 8 ∨ w = 9 ∨ w = 10 ∨ w = 11 ∨ w = 12) with rfl | rfl | rfl | rfl | rfl <;> rcases (by omega : n = 5 ∨ n = 6 ∨ n = 7 ∨ n = 8) with rfl | rfl | rfl | rfl <;> decide +kernel
end
section
open PySem PySem.W PySem.Calls PyProof.Rows PySem.Spec
section
variable {prog : Program} {w : World} {A : Around} {E : Value → Shared → Prop} {s : Shared} {env : Env} {h₀ : Heap} {body : List Stmt} {Q : Flow → Shared → Prop}
/-- a loop over enumerate(a list of ints), by what holds of its letters -/
theorem kst_enum {σ : Type} {ns : List Int} {m₀ : Str → Option Value} {xi xc : Str} {e : Value} (Led : σ → List (Addr × Obj)) (ps : σ → List (Str × Value)) (Facts : σ → Prop) (stored : List Str) (P : List Int → σ → Prop) (c₀ : σ)
    (S : PairSrc prog w A E h₀ env ItemKind.int ns e s m₀ (Led c₀)) (had : ∀ c, (Led c).map (·.1) = (Led c₀).map (·.1)) (hf : Facts c₀) (hk : ∀ p ∈ ps c₀, m₀ p.1 = some p.2) (hp : P [] c₀)
    (turn : ∀ (c : σ) pre post n (i : Int) t t' (u : Str → Option Value) h tk own, ns = pre ++ n :: post → i = (pre.length : Int) → OwnOff own ((Led c₀).map (·.1)) → Facts c → P pre c →
      Fr h₀ env.locals h (fun y => if y = xc then some (.int n t') else if y = xi then some (.int i t) else kstB (fun z => if stored.contains z then u z else m₀ z) (ps c) y) → News h₀ env.locals h (Led c ++ own) →
      wpAny (model prog w) A (execs body env) (InvPostN h₀ env.locals (KstS Led ps Facts xi stored m₀ P (pre ++ [n])) own ((Led c₀).map (·.1)) { s with heap := h, toks := tk } Q) E { s with heap := h, toks := tk })
    (done : ∀ (c : σ) (u : Str → Option Value) h tk, Facts c → P ns c → Fr h₀ env.locals h (fun y => if y = xi then u y else kstB (fun z => if stored.contains z then u z else m₀ z) (ps c) y) → News h₀ env.locals h (Led c) → Q .next { s with heap := h, toks := tk }) :
    wpAny (model prog w) A (pyIter e) (fun it s₂ => PairAt3 prog w A h₀ env xi xc body Q E it s₂) E s := by
  refine S xi xc body Q (fun i m nx => KstS Led ps Facts xi stored m₀ P (ns.take i) m nx) ⟨c₀, rfl, hf, hk, fun _ _ _ _ => rfl, by simpa using hp⟩ ?_ ?_
  · rintro i a t v m₁ news₁ s₁ own ⟨h, tk, rfl⟩ hga hka ⟨c, rfl, hf', h1, h2, hp'⟩ ha hoff F₁ N₁
    obtain ⟨t', rfl⟩ := ItemKind.int_is hka
    have hs : ns.take (i + 1) = ns.take i ++ [a] := by simp [List.take_add_one, hga]
    have e : ns = ns.take i ++ a :: ns.drop (i + 1) := by
      have ht := List.take_append_drop (i + 1) ns
      rw [hs, List.append_assoc] at ht
      exact ht.symm
    have hi : i < ns.length := (List.getElem?_eq_some_iff.mp hga).1
    have hlen : (ns.take i).length = i := by rw [List.length_take]; omega
    rw [hs]
    have em : (fun y => if y = xc then some (Value.int a t') else if y = xi then some (.int i t) else m₁ y) = fun y => if y = xc then some (Value.int a t') else if y = xi then some (.int i t) else kstB (fun z => if stored.contains z then m₁ z else m₀ z) (ps c) y := by
      funext y
      by_cases q1 : y = xc
      · rw [if_pos q1, if_pos q1]
      · rw [if_neg q1, if_neg q1]
        by_cases q2 : y = xi
        · rw [if_pos q2, if_pos q2]
        · rw [if_neg q2, if_neg q2]
          exact (kst_off h1 h2 q2).symm
    have F₂ := em ▸ F₁
    have N₂ : News h₀ env.locals h (Led c ++ own) := fun p hp => N₁ p ((List.mem_append.mp hp).elim (fun x => List.mem_append.mpr (.inr x)) fun x => List.mem_append.mpr (.inl x))
    refine wpAny_mono (turn c _ _ a (i : Int) t t' m₁ h tk own e (by rw [hlen]) (fun p hp b hb q => by
      obtain ⟨q', hq', rfl⟩ := List.mem_map.mp hb
      exact hoff p hp q' hq' q) hf' hp' F₂ N₂) (fun f s₂ p => ?_) fun _ _ x => x
    have fin : InvEndN h₀ env.locals (KstS Led ps Facts xi stored m₀ P (ns.take i ++ [a])) own ((Led c₀).map (·.1)) { s with heap := h, toks := tk } s₂ →
        LoopStep2 h₀ env.locals own (Led c) (KstS Led ps Facts xi stored m₀ P (ns.take i ++ [a])) { s with heap := h, toks := tk } .next s₂ := by
      rintro ⟨h', tk', m', news', nx, e', F', N', hn', ho', hadr, hJ⟩
      exact ⟨rfl, h', tk', m', nx, e', F', fun p hp => N' p ((List.mem_append.mp hp).elim (ho' p) (hn' p)), hadr.trans (had c).symm, hJ⟩
    cases f with
    | ret v => exact p
    | brk => exact p
    | next => exact fin p
    | cont => exact fin p
  · rintro h' tk m' news' F' N' _ ⟨c, rfl, hf', h1, h2, hp'⟩
    rw [List.take_length] at hp'
    exact done c m' h' tk hf' hp' (kst_frOut h1 h2 F') N'
/-- one list is turned, no name is kept -/
theorem enumA {ns : List Int} {m₀ : Str → Option Value} {xi xc : Str} {e : Value} {p1 : Addr × Obj} {d : Addr} {post : List (Addr × Obj)} {vs₀ : List Value} {ns₀ : List Int} {n₀ : Nat} (stored : List Str) (P : List Int → List Int → Prop)
    (S : PairSrc prog w A E h₀ env ItemKind.int ns e s m₀ (p1 :: (d, listOf vs₀.toArray n₀) :: post)) (hf : IntsAre vs₀ ns₀) (hp : P [] ns₀)
    (turn : ∀ (vs : List Value) (xs : List Int) (k : Nat) pre pst n (i : Int) t t' (u : Str → Option Value) h tk own, ns = pre ++ n :: pst → i = (pre.length : Int) → OwnOff own (p1.1 :: d :: post.map (·.1)) → IntsAre vs xs → P pre xs →
      Fr h₀ env.locals h (fun y => if y = xc then some (.int n t') else if y = xi then some (.int i t) else if stored.contains y then u y else m₀ y) → News h₀ env.locals h (p1 :: (d, listOf vs.toArray k) :: (post ++ own)) →
      wpAny (model prog w) A (execs body env) (InvPostN h₀ env.locals (KstS (σ := List Value × List Int × Nat) (fun c => p1 :: (d, listOf c.1.toArray c.2.2) :: post) (fun _ => []) (fun c => IntsAre c.1 c.2.1) xi stored m₀ (fun pre c => P pre c.2.1) (pre ++ [n])) own (p1.1 :: d :: post.map (·.1)) { s with heap := h, toks := tk } Q) E { s with heap := h, toks := tk })
    (done : ∀ (vs : List Value) (xs : List Int) (k : Nat) (u : Str → Option Value) h tk, IntsAre vs xs → P ns xs → Fr h₀ env.locals h (fun y => if y = xi then u y else if stored.contains y then u y else m₀ y) → News h₀ env.locals h (p1 :: (d, listOf vs.toArray k) :: post) → Q .next { s with heap := h, toks := tk }) :
    wpAny (model prog w) A (pyIter e) (fun it s₂ => PairAt3 prog w A h₀ env xi xc body Q E it s₂) E s :=
  kst_enum (σ := List Value × List Int × Nat) (fun c => p1 :: (d, listOf c.1.toArray c.2.2) :: post) (fun _ => []) (fun c => IntsAre c.1 c.2.1) stored (fun pre c => P pre c.2.1) (vs₀, ns₀, n₀) S (fun _ => rfl) hf (fun _ h => nomatch h) hp
    (fun c pre pst n i t t' u h tk own e1 e2 ho hf' hp' F' N' => turn c.1 c.2.1 c.2.2 pre pst n i t t' u h tk own e1 e2 ho hf' hp' F' N')
    (fun c u h tk hf' hp' F' N' => done c.1 c.2.1 c.2.2 u h tk hf' hp' F' N')
/-- one list is turned, and one int -/
theorem enumB {ns : List Int} {m₀ : Str → Option Value} {xi xc : Str} {e : Value} {p1 : Addr × Obj} {d : Addr} {post : List (Addr × Obj)} {vs₀ : List Value} {ns₀ : List Int} {n₀ : Nat} {c₀ : Int} {t₀ : Tok} (x : Str) (stored : List Str) (P : List Int → List Int → Int → Prop)
    (S : PairSrc prog w A E h₀ env ItemKind.int ns e s m₀ (p1 :: (d, listOf vs₀.toArray n₀) :: post)) (hf : IntsAre vs₀ ns₀) (hx : m₀ x = some (.int c₀ t₀)) (hp : P [] ns₀ c₀)
    (turn : ∀ (vs : List Value) (xs : List Int) (k : Nat) (c : Int) (tc : Tok) pre pst n (i : Int) t t' (u : Str → Option Value) h tk own, ns = pre ++ n :: pst → i = (pre.length : Int) → OwnOff own (p1.1 :: d :: post.map (·.1)) → IntsAre vs xs → P pre xs c →
      Fr h₀ env.locals h (fun y => if y = xc then some (.int n t') else if y = xi then some (.int i t) else if y = x then some (.int c tc) else if stored.contains y then u y else m₀ y) → News h₀ env.locals h (p1 :: (d, listOf vs.toArray k) :: (post ++ own)) →
      wpAny (model prog w) A (execs body env) (InvPostN h₀ env.locals (KstS (σ := List Value × List Int × Nat × Int × Nat) (fun c => p1 :: (d, listOf c.1.toArray c.2.2.1) :: post) (fun c => [(x, .int c.2.2.2.1 c.2.2.2.2)]) (fun c => IntsAre c.1 c.2.1) xi stored m₀ (fun pre c => P pre c.2.1 c.2.2.2.1) (pre ++ [n])) own (p1.1 :: d :: post.map (·.1)) { s with heap := h, toks := tk } Q) E { s with heap := h, toks := tk })
    (done : ∀ (vs : List Value) (xs : List Int) (k : Nat) (c : Int) (tc : Tok) (u : Str → Option Value) h tk, IntsAre vs xs → P ns xs c → Fr h₀ env.locals h (fun y => if y = xi then u y else if y = x then some (.int c tc) else if stored.contains y then u y else m₀ y) → News h₀ env.locals h (p1 :: (d, listOf vs.toArray k) :: post) → Q .next { s with heap := h, toks := tk }) :
    wpAny (model prog w) A (pyIter e) (fun it s₂ => PairAt3 prog w A h₀ env xi xc body Q E it s₂) E s :=
  kst_enum (σ := List Value × List Int × Nat × Int × Nat) (fun c => p1 :: (d, listOf c.1.toArray c.2.2.1) :: post) (fun c => [(x, .int c.2.2.2.1 c.2.2.2.2)]) (fun c => IntsAre c.1 c.2.1) stored (fun pre c => P pre c.2.1 c.2.2.2.1) (vs₀, ns₀, n₀, c₀, t₀) S (fun _ => rfl) hf
    (fun p h => by rw [List.mem_singleton.mp h]; exact hx) hp
    (fun c pre pst n i t t' u h tk own e1 e2 ho hf' hp' F' N' => turn c.1 c.2.1 c.2.2.1 c.2.2.2.1 c.2.2.2.2 pre pst n i t t' u h tk own e1 e2 ho hf' hp' F' N')
    (fun c u h tk hf' hp' F' N' => done c.1 c.2.1 c.2.2.1 c.2.2.2.1 c.2.2.2.2 u h tk hf' hp' F' N')
end
end
section
open PySem PySem.W PySem.Calls PyProof.Rows PySem.Spec
section
variable {prog : Program} {w : World} {A : Around} {E : Value → Shared → Prop} {s : Shared} {env : Env} {h₀ : Heap} {x : Str} {body : List Stmt} {Q : Flow → Shared → Prop}
/-- how a turn ends: the ledger is the iterator and what J says -/
noncomputable def JEnd (h₀ : Heap) (L : Addr) (J : (Str → Option Value) → List (Addr × Obj) → Prop) (I : Addr) (oI : Obj) (s₁ s₂ : Shared) : Prop :=
  ∃ h' tk m' nx, s₂ = { s₁ with heap := h', toks := tk } ∧ Fr h₀ L h' m' ∧ News h₀ L h' ((I, oI) :: nx) ∧ (∀ p ∈ nx, p.1 ≠ I) ∧ J m' nx
noncomputable def JPost (h₀ : Heap) (L : Addr) (J : (Str → Option Value) → List (Addr × Obj) → Prop) (I : Addr) (oI : Obj) (s₁ : Shared) (Q : Flow → Shared → Prop) (f : Flow) (s₂ : Shared) : Prop :=
  match f with
  | .ret v => Q (.ret v) s₂
  | .brk => Q .next s₂
  | _ => JEnd h₀ L J I oI s₁ s₂
theorem range_J {r : Addr} {a₀ b₀ : Int} {t₀ u₀ v₀ : Tok} {n : Nat} {m₀ : Str → Option Value} {news : List (Addr × Obj)} (J : Nat → (Str → Option Value) → List (Addr × Obj) → Prop)
    (hh : A.handled = none) (hr : IsRange s.heap r a₀ b₀ 1 t₀ u₀ v₀) (hsmall : Builtin.Range.small a₀ b₀ 1 = true) (hn : Builtin.Range.rangeSize a₀ b₀ 1 = (n : Int)) (F : Fr h₀ env.locals s.heap m₀) (N : News h₀ env.locals s.heap news) (hj : J 0 m₀ news)
    (turn : ∀ i t m₁ news₁ h tk I oI, i < n → J i m₁ news₁ → (∀ p ∈ news₁, p.1 ≠ I) → Fr h₀ env.locals h (fun y => if y = x then some (.int (a₀ + (i : Int)) t) else m₁ y) → News h₀ env.locals h ((I, oI) :: news₁) →
      wpAny (model prog w) A (execs body env) (JPost h₀ env.locals (J (i + 1)) I oI { s with heap := h, toks := tk } Q) E { s with heap := h, toks := tk })
    (done : ∀ m₁ news₁ h tk, J n m₁ news₁ → Fr h₀ env.locals h m₁ → News h₀ env.locals h news₁ → Q .next { s with heap := h, toks := tk }) :
    wpAny (model prog w) A (pyIter (.ref r)) (fun it s₂ => LoopAtV prog w A h₀ env x body Q E it s₂) E s := by
  refine wpAny_pyIter_range hr hsmall ?_
  have W : Walks prog w A s.heap.objs.size [s.heap.objs.size] [s.heap.objs.size] n (fun i v => i < n ∧ ∃ t, v = .int (a₀ + i * 1) t)
      (fun i h => IsRangeIter h s.heap.objs.size (a₀ + (i : Nat) * 1) ((n : Int) - (i : Nat)) 1) := (Walks.range hh _ a₀ 1 n).bound
  have hI0 : h₀.get? s.heap.objs.size = none := next_is_new F
  refine ⟨_, _, _, n, _, _, m₀, news, J, rfl, W, ?_, ?_, ?_, (by show IsRangeIter _ _ _ _ _; rw [hn]; simpa using Heap.get?_push_size _ rfl), F.push _, (fun p hp => ⟨Heap.get?_push_of_some _ (N p hp).1, (N p hp).2⟩), hj, ?_, ?_⟩
  · intro hm
    exact absurd F.ns.lt ((List.mem_singleton.mp hm) ▸ Nat.lt_irrefl _)
  · intro b hb
    rw [List.mem_singleton.mp hb]; exact hI0
  · intro p hp hI
    exact absurd (Heap.lt_size (N p hp).1) ((List.mem_singleton.mp hI) ▸ Nat.lt_irrefl _)
  · rintro i v m₁ news₁ s₁ own ⟨hh', tk', rfl⟩ hin ⟨_, t, rfl⟩ hJ hoff hown hget hfp hSt F₁ N₁
    have e1 : a₀ + (i : Int) * 1 = a₀ + (i : Int) := by omega
    rw [e1] at F₁
    obtain ⟨oI, hSt'⟩ : ∃ oI, hh'.get? s.heap.objs.size = some oI := ⟨_, hSt⟩
    have hmem := hfp s.heap.objs.size (List.mem_singleton.mpr rfl) hI0 _ hSt'
    have hoI : ∀ p ∈ news₁, p.1 ≠ s.heap.objs.size := fun p hp e => hoff p hp (List.mem_singleton.mpr e)
    have N₂ := fun (p : Addr × Obj) (hp : p ∈ (s.heap.objs.size, oI) :: news₁) => N₁ p ((List.mem_cons.mp hp).elim (fun e => by rw [e]; exact List.mem_append.mpr (.inl hmem)) fun q => List.mem_append.mpr (.inr q))
    refine wpAny_mono (turn i t m₁ news₁ hh' tk' s.heap.objs.size oI hin hJ hoI F₁ N₂) (fun f s₂ p => ?_) fun _ _ e => e
    have fin : JEnd h₀ env.locals (J (i + 1)) s.heap.objs.size oI { s with heap := hh', toks := tk' } s₂ → LoopStepU h₀ env.locals [s.heap.objs.size] own (J (i + 1)) { s with heap := hh', toks := tk' } .next s₂ := by
      rintro ⟨h', tk, m', nx, e, F', N', hne, hJ'⟩
      refine ⟨rfl, h', tk, m', nx, e, F', fun p hp => ?_, fun p hp hq => hne p hp (List.mem_singleton.mp hq), hJ'⟩
      rcases List.mem_append.mp hp with hq | hq
      · have a1 : p.1 = s.heap.objs.size := List.mem_singleton.mp (hown p hq)
        have a2 := hget p hq
        rw [a1] at a2
        have a3 : p = (s.heap.objs.size, oI) := Prod.ext a1 (Option.some.inj (a2.symm.trans hSt'))
        rw [a3]
        exact N' _ (.head _)
      · exact N' p (.tail _ hq)
    cases f with
    | ret v => exact .ret p
    | brk => exact .brk p
    | next => exact .next (fin p)
    | cont => exact .cont (fin p)
  · rintro h' tk m' news' F' N' _ hJ
    exact done m' news' h' tk hJ F' N'
end
end
section
open PySem PySem.W PySem.Calls PyProof.Rows PySem.Spec
theorem fr_names {h₀ h : Heap} {L : Addr} {m : Str → Option Value} {x : Str} {v : Value} (ps : List (Str × Value)) (h1 : ∀ p ∈ ps, m p.1 = some p.2) (F : Fr h₀ L h (fun y => if y = x then some v else m y)) : Fr h₀ L h (fun y => if y = x then some v else kstB m ps y) := by
  have e : (fun y => if y = x then some v else kstB m ps y) = fun y => if y = x then some v else m y := by
    funext y
    by_cases q : y = x
    · rw [if_pos q, if_pos q]
    · rw [if_neg q, if_neg q]; exact kstB_eq h1 fun _ => rfl
  rw [e]; exact F
theorem fr_names0 {h₀ h : Heap} {L : Addr} {m : Str → Option Value} (ps : List (Str × Value)) (h1 : ∀ p ∈ ps, m p.1 = some p.2) (F : Fr h₀ L h m) : Fr h₀ L h (kstB m ps) := by
  have e : kstB m ps = m := funext fun y => kstB_eq h1 fun _ => rfl
  rw [e]; exact F
noncomputable def J1 (w n : Int) (tw tn : Tok) (pa pi : Addr) (oi : Obj) (T : Nat → List Int → List Int → Prop) (i : Nat) (m : Str → Option Value) (nx : List (Addr × Obj)) : Prop :=
  ∃ (q : Int) (tq : Tok) (kq : Nat) (ra : Addr) (vr : List Value) (xr : List Int) (kr : Nat) (wa : Addr) (vw : List Value) (xw : List Int) (kw : Nat),
    nx = [(pa, listOf [.int q tq, .ref pi].toArray kq), (pi, oi), (ra, listOf vr.toArray kr), (wa, listOf vw.toArray kw)] ∧ 0 ≤ q ∧ IntsAre vr xr ∧ IntsAre vw xw ∧ ra ≠ pa ∧ wa ≠ pa ∧ T i xr xw ∧
    ∀ p ∈ [(Str.ofString "purse", Value.ref pa), (Str.ofString "w", .int w tw), (Str.ofString "n", .int n tn), (Str.ofString "rest", .ref ra), (Str.ofString "ways", .ref wa)], m p.1 = some p.2
noncomputable def J2 (w n : Int) (tw tn : Tok) (T : Nat → List Int → List Int → Prop) (i : Nat) (m : Str → Option Value) (nx : List (Addr × Obj)) : Prop :=
  ∃ (ra : Addr) (vr : List Value) (xr : List Int) (kr : Nat) (wa : Addr) (vw : List Value) (xw : List Int) (kw : Nat),
    nx = [(ra, listOf vr.toArray kr), (wa, listOf vw.toArray kw)] ∧ IntsAre vr xr ∧ IntsAre vw xw ∧ T i xr xw ∧
    ∀ p ∈ [(Str.ofString "w", Value.int w tw), (Str.ofString "n", .int n tn), (Str.ofString "rest", .ref ra), (Str.ofString "ways", .ref wa)], m p.1 = some p.2
section
variable {prog : Program} {wd : World} {A : Around} {E : Value → Shared → Prop} {s : Shared} {env : Env} {h₀ : Heap} {x : Str} {body : List Stmt} {Q : Flow → Shared → Prop}
theorem loop1 {r : Addr} {b₀ : Int} {t₀ u₀ v₀ : Tok} {cnt : Nat} {m₀ : Str → Option Value} {news : List (Addr × Obj)} {w n : Int} {tw tn : Tok} {pa pi : Addr} {oi : Obj} {q : Int} {tq : Tok} {kq : Nat} {ra : Addr} {vr : List Value} {xr : List Int} {kr : Nat} {wa : Addr} {vw : List Value} {xw : List Int} {kw : Nat} (T : Int → Int → Nat → List Int → List Int → Prop)
    (hh : A.handled = none) (hr : IsRange s.heap r 0 b₀ 1 t₀ u₀ v₀) (hsmall : Builtin.Range.small 0 b₀ 1 = true) (hn : Builtin.Range.rangeSize 0 b₀ 1 = (cnt : Int)) (F : Fr h₀ env.locals s.heap m₀) (N : News h₀ env.locals s.heap news)
    (g1 : (pa, listOf [.int q tq, .ref pi].toArray kq) ∈ news) (g2 : (pi, oi) ∈ news) (g3 : (ra, listOf vr.toArray kr) ∈ news) (g4 : (wa, listOf vw.toArray kw) ∈ news) (hq : 0 ≤ q) (hvr : IntsAre vr xr) (hvw : IntsAre vw xw) (n1 : ra ≠ pa) (n2 : wa ≠ pa) (n3 : pi ≠ pa) (hT : T w n 0 xr xw)
    (hm : ∀ p ∈ [(Str.ofString "purse", Value.ref pa), (Str.ofString "w", .int w tw), (Str.ofString "n", .int n tn), (Str.ofString "rest", .ref ra), (Str.ofString "ways", .ref wa)], m₀ p.1 = some p.2)
    (turn : ∀ (i : Nat) (t : Tok) (q : Int) (tq : Tok) (kq : Nat) (ra : Addr) (vr : List Value) (xr : List Int) (kr : Nat) (wa : Addr) (vw : List Value) (xw : List Int) (kw : Nat) (m₁ : Str → Option Value) (h : Heap) (tk : Nat) (I : Addr) (oI : Obj), i < cnt → 0 ≤ q → IntsAre vr xr → IntsAre vw xw → ra ≠ pa → wa ≠ pa → pi ≠ pa → I ≠ pa → I ≠ pi → I ≠ ra → I ≠ wa → T w n i xr xw →
      Fr h₀ env.locals h (fun y => if y = x then some (.int (0 + (i : Int)) t) else if y = (Str.ofString "purse") then some (.ref pa) else if y = (Str.ofString "w") then some (.int w tw) else if y = (Str.ofString "n") then some (.int n tn) else if y = (Str.ofString "rest") then some (.ref ra) else if y = (Str.ofString "ways") then some (.ref wa) else m₁ y) →
      News h₀ env.locals h [(I, oI), (pa, listOf [.int q tq, .ref pi].toArray kq), (pi, oi), (ra, listOf vr.toArray kr), (wa, listOf vw.toArray kw)] →
      wpAny (model prog wd) A (execs body env) (JPost h₀ env.locals (J1 w n tw tn pa pi oi (T w n) (i + 1)) I oI { s with heap := h, toks := tk } Q) E { s with heap := h, toks := tk })
    (done : ∀ (m₁ : Str → Option Value) (h : Heap) (tk : Nat), Fr h₀ env.locals h (fun y => if y = (Str.ofString "w") then some (.int w tw) else if y = (Str.ofString "n") then some (.int n tn) else m₁ y) → News h₀ env.locals h [] → Q .next { s with heap := h, toks := tk }) :
    wpAny (model prog wd) A (pyIter (.ref r)) (fun it s₂ => LoopAtV prog wd A h₀ env x body Q E it s₂) E s := by
  refine range_J (J1 w n tw tn pa pi oi (T w n)) hh hr hsmall hn F (news := [(pa, listOf [.int q tq, .ref pi].toArray kq), (pi, oi), (ra, listOf vr.toArray kr), (wa, listOf vw.toArray kw)]) (fun p hp => ?_) ⟨q, tq, kq, ra, vr, xr, kr, wa, vw, xw, kw, rfl, hq, hvr, hvw, n1, n2, hT, hm⟩ ?_ ?_
  · simp only [List.mem_cons, List.not_mem_nil, or_false] at hp
    rcases hp with rfl | rfl | rfl | rfl
    · exact N _ g1
    · exact N _ g2
    · exact N _ g3
    · exact N _ g4
  · rintro i t m₁ news₁ h tk I oI hi ⟨q, tq, kq, ra, vr, xr, kr, wa, vw, xw, kw, rfl, hq, hvr, hvw, n1, n2, hT, hm⟩ hI F₁ N₁
    exact turn i t q tq kq ra vr xr kr wa vw xw kw m₁ h tk I oI hi hq hvr hvw n1 n2 n3 (Ne.symm (hI _ (.head _))) (Ne.symm (hI _ (.tail _ (.head _)))) (Ne.symm (hI _ (.tail _ (.tail _ (.head _))))) (Ne.symm (hI _ (.tail _ (.tail _ (.tail _ (.head _)))))) hT (fr_names _ hm F₁) N₁
  · rintro m₁ news₁ h tk ⟨q, tq, kq, ra, vr, xr, kr, wa, vw, xw, kw, rfl, hq, hvr, hvw, n1, n2, hT, hm⟩ F₁ N₁
    exact done m₁ h tk (fr_names0 [(Str.ofString "w", .int w tw), (Str.ofString "n", .int n tn)] (fun p hp => by
      rcases List.mem_cons.mp hp with rfl | hp
      · exact hm _ (.tail _ (.head _))
      · rw [List.mem_singleton.mp hp]; exact hm _ (.tail _ (.tail _ (.head _)))) F₁) News.nil
theorem loop2 {r : Addr} {a₀ b₀ : Int} {t₀ u₀ v₀ : Tok} {cnt : Nat} {m₀ : Str → Option Value} {news : List (Addr × Obj)} {w n : Int} {tw tn : Tok} {ra : Addr} {vr : List Value} {xr : List Int} {kr : Nat} {wa : Addr} {vw : List Value} {xw : List Int} {kw : Nat} (T : Int → Int → Nat → List Int → List Int → Prop)
    (hh : A.handled = none) (hr : IsRange s.heap r a₀ b₀ 1 t₀ u₀ v₀) (hsmall : Builtin.Range.small a₀ b₀ 1 = true) (hn : Builtin.Range.rangeSize a₀ b₀ 1 = (cnt : Int)) (F : Fr h₀ env.locals s.heap m₀) (N : News h₀ env.locals s.heap news)
    (g3 : (ra, listOf vr.toArray kr) ∈ news) (g4 : (wa, listOf vw.toArray kw) ∈ news) (hvr : IntsAre vr xr) (hvw : IntsAre vw xw) (hT : T w n 0 xr xw)
    (hm : ∀ p ∈ [(Str.ofString "w", Value.int w tw), (Str.ofString "n", .int n tn), (Str.ofString "rest", .ref ra), (Str.ofString "ways", .ref wa)], m₀ p.1 = some p.2)
    (turn : ∀ (i : Nat) (t : Tok) (ra : Addr) (vr : List Value) (xr : List Int) (kr : Nat) (wa : Addr) (vw : List Value) (xw : List Int) (kw : Nat) (m₁ : Str → Option Value) (h : Heap) (tk : Nat) (I : Addr) (oI : Obj), i < cnt → IntsAre vr xr → IntsAre vw xw → I ≠ ra → I ≠ wa → T w n i xr xw →
      Fr h₀ env.locals h (fun y => if y = x then some (.int (a₀ + (i : Int)) t) else if y = (Str.ofString "w") then some (.int w tw) else if y = (Str.ofString "n") then some (.int n tn) else if y = (Str.ofString "rest") then some (.ref ra) else if y = (Str.ofString "ways") then some (.ref wa) else m₁ y) →
      News h₀ env.locals h [(I, oI), (ra, listOf vr.toArray kr), (wa, listOf vw.toArray kw)] →
      wpAny (model prog wd) A (execs body env) (JPost h₀ env.locals (J2 w n tw tn (T w n) (i + 1)) I oI { s with heap := h, toks := tk } Q) E { s with heap := h, toks := tk })
    (done : ∀ (ra : Addr) (vr : List Value) (xr : List Int) (kr : Nat) (wa : Addr) (vw : List Value) (xw : List Int) (kw : Nat) (m₁ : Str → Option Value) (h : Heap) (tk : Nat), IntsAre vr xr → IntsAre vw xw → T w n cnt xr xw →
      Fr h₀ env.locals h (fun y => if y = (Str.ofString "w") then some (.int w tw) else if y = (Str.ofString "n") then some (.int n tn) else if y = (Str.ofString "rest") then some (.ref ra) else if y = (Str.ofString "ways") then some (.ref wa) else m₁ y) → News h₀ env.locals h [(ra, listOf vr.toArray kr), (wa, listOf vw.toArray kw)] → Q .next { s with heap := h, toks := tk }) :
    wpAny (model prog wd) A (pyIter (.ref r)) (fun it s₂ => LoopAtV prog wd A h₀ env x body Q E it s₂) E s := by
  refine range_J (J2 w n tw tn (T w n)) hh hr hsmall hn F (news := [(ra, listOf vr.toArray kr), (wa, listOf vw.toArray kw)]) (fun p hp => ?_) ⟨ra, vr, xr, kr, wa, vw, xw, kw, rfl, hvr, hvw, hT, hm⟩ ?_ ?_
  · simp only [List.mem_cons, List.not_mem_nil, or_false] at hp
    rcases hp with rfl | rfl
    · exact N _ g3
    · exact N _ g4
  · rintro i t m₁ news₁ h tk I oI hi ⟨ra, vr, xr, kr, wa, vw, xw, kw, rfl, hvr, hvw, hT, hm⟩ hI F₁ N₁
    exact turn i t ra vr xr kr wa vw xw kw m₁ h tk I oI hi hvr hvw (Ne.symm (hI _ (.head _))) (Ne.symm (hI _ (.tail _ (.head _)))) hT (fr_names _ hm F₁) N₁
  · rintro m₁ news₁ h tk ⟨ra, vr, xr, kr, wa, vw, xw, kw, rfl, hvr, hvw, hT, hm⟩ F₁ N₁
    exact done ra vr xr kr wa vw xw kw m₁ h tk hvr hvw hT (fr_names0 _ hm F₁) N₁
/-- how a turn ends -/
theorem J1_end {L : Addr} {w n : Int} {tw tn : Tok} {pa pi : Addr} {oi : Obj} {T : Nat → List Int → List Int → Prop} {i : Nat} {I : Addr} {oI : Obj} {s₁ : Shared} {h' : Heap} {tk : Nat} {m' : Str → Option Value} {news : List (Addr × Obj)} {q : Int} {tq : Tok} {kq : Nat} {ra : Addr} {vr : List Value} {xr : List Int} {kr : Nat} {wa : Addr} {vw : List Value} {xw : List Int} {kw : Nat}
    (F : Fr h₀ L h' m') (N : News h₀ L h' news) (g0 : (I, oI) ∈ news) (g1 : (pa, listOf [.int q tq, .ref pi].toArray kq) ∈ news) (g2 : (pi, oi) ∈ news) (g3 : (ra, listOf vr.toArray kr) ∈ news) (g4 : (wa, listOf vw.toArray kw) ∈ news) (hq : 0 ≤ q) (hvr : IntsAre vr xr) (hvw : IntsAre vw xw) (n1 : ra ≠ pa) (n2 : wa ≠ pa) (e1 : I ≠ pa) (e2 : I ≠ pi) (e3 : I ≠ ra) (e4 : I ≠ wa) (hT : T i xr xw)
    (hm : ∀ p ∈ [(Str.ofString "purse", Value.ref pa), (Str.ofString "w", .int w tw), (Str.ofString "n", .int n tn), (Str.ofString "rest", .ref ra), (Str.ofString "ways", .ref wa)], m' p.1 = some p.2) : JEnd h₀ L (J1 w n tw tn pa pi oi T i) I oI s₁ { s₁ with heap := h', toks := tk } := by
  refine ⟨h', tk, m', _, rfl, F, fun p hp => ?_, fun p hp => ?_, ⟨q, tq, kq, ra, vr, xr, kr, wa, vw, xw, kw, rfl, hq, hvr, hvw, n1, n2, hT, hm⟩⟩
  · simp only [List.mem_cons, List.not_mem_nil, or_false] at hp
    rcases hp with rfl | rfl | rfl | rfl | rfl
    · exact N _ g0
    · exact N _ g1
    · exact N _ g2
    · exact N _ g3
    · exact N _ g4
  · simp only [List.mem_cons, List.not_mem_nil, or_false] at hp
    rcases hp with rfl | rfl | rfl | rfl
    · exact Ne.symm e1
    · exact Ne.symm e2
    · exact Ne.symm e3
    · exact Ne.symm e4
theorem J2_end {L : Addr} {w n : Int} {tw tn : Tok} {T : Nat → List Int → List Int → Prop} {i : Nat} {I : Addr} {oI : Obj} {s₁ : Shared} {h' : Heap} {tk : Nat} {m' : Str → Option Value} {news : List (Addr × Obj)} {ra : Addr} {vr : List Value} {xr : List Int} {kr : Nat} {wa : Addr} {vw : List Value} {xw : List Int} {kw : Nat}
    (F : Fr h₀ L h' m') (N : News h₀ L h' news) (g0 : (I, oI) ∈ news) (g3 : (ra, listOf vr.toArray kr) ∈ news) (g4 : (wa, listOf vw.toArray kw) ∈ news) (hvr : IntsAre vr xr) (hvw : IntsAre vw xw) (e3 : I ≠ ra) (e4 : I ≠ wa) (hT : T i xr xw)
    (hm : ∀ p ∈ [(Str.ofString "w", Value.int w tw), (Str.ofString "n", .int n tn), (Str.ofString "rest", .ref ra), (Str.ofString "ways", .ref wa)], m' p.1 = some p.2) : JEnd h₀ L (J2 w n tw tn T i) I oI s₁ { s₁ with heap := h', toks := tk } := by
  refine ⟨h', tk, m', _, rfl, F, fun p hp => ?_, fun p hp => ?_, ⟨ra, vr, xr, kr, wa, vw, xw, kw, rfl, hvr, hvw, hT, hm⟩⟩
  · simp only [List.mem_cons, List.not_mem_nil, or_false] at hp
    rcases hp with rfl | rfl | rfl
    · exact N _ g0
    · exact N _ g3
    · exact N _ g4
  · simp only [List.mem_cons, List.not_mem_nil, or_false] at hp
    rcases hp with rfl | rfl
    · exact Ne.symm e3
    · exact Ne.symm e4
end
end
section
open PySem PySem.W PySem.Calls PyProof.Rows PySem.Spec
theorem normal_says (w : World) (l : Addr) (vs : List Value) (ns : List Int) (hi : IntsAre vs ns) (hn : ns.length < 2 ^ 20) : Says 3 w 58 [.ref l] (fun h => h.IsList l vs.toArray) (RetP fun xs => xs = trim ns ∧ xs.length ≤ ns.length) := by
  w_top off
  k_with_none
  have kf : True ∨ (PySem.Challenge.rw_xm0384_01.row.prog = PySem.Challenge.rw_xm0384_01.row.prog ∧ hd.heap_1 = hd.heap_1) := by k_fill; exact .inl trivial
  clear kf
  refine' says_of (binds := [(Str.ofString "a", .ref l)]) ?hb ?ho ?hc ?hbi ?hl ?h1 ?h2 ?h3 ?h4 ?h5
  rotate_left
  case ho => k_is
  case hc => k_is
  case hbi => exact fun s => BindsTo.of_eq rfl
  case hl => exact locs rfl
  case h1 => exact rfl
  case h2 => exact rfl
  case h3 => exact rfl
  case h4 => decide
  case h5 => decide
  unfold Body
  intro mean mg mb dp un gd outer A₀ base g h L s tk B F N X T hpre hdp hun
  k_fold
  k_steps
  all_goals (try dsimp only)
  all_goals (try (k_unfold; dsimp only))
  all_goals ((rename News _ _ _ _ => nE); (try simp only [List.push_toArray] at nE))
  all_goals (refine Ends.intro (by assumption) nE ⟨_, _, _, _, rfl, by k_mem, by k_intsEnd, ?_⟩)
  all_goals exact trim_end2 (by assumption) (by assumption) (by assumption) (by assumption)
theorem trimmed_says (w : World) (l : Addr) (vs : List Value) (ns : List Int) (hi : IntsAre vs ns) (hn : ns.length < 2 ^ 20) : Says 3 w 203 [.ref l] (fun h => h.IsList l vs.toArray) (RetP fun xs => xs = trim ns ∧ xs.length ≤ ns.length) := by
  w_top off
  k_with_none
  have kf : True ∨ (PySem.Challenge.rw_xm0384_01.row.prog = PySem.Challenge.rw_xm0384_01.row.prog ∧ hd.heap_1 = hd.heap_1) := by k_fill; exact .inl trivial
  clear kf
  refine' says_of (binds := [(Str.ofString "row", .ref l)]) ?hb ?ho ?hc ?hbi ?hl ?h1 ?h2 ?h3 ?h4 ?h5
  rotate_left
  case ho => k_is
  case hc => k_is
  case hbi => exact fun s => BindsTo.of_eq rfl
  case hl => exact locs rfl
  case h1 => exact rfl
  case h2 => exact rfl
  case h3 => exact rfl
  case h4 => decide
  case h5 => decide
  unfold Body
  intro mean mg mb dp un gd outer A₀ base g h L s tk B F N X T hpre hdp hun
  k_fold
  k_steps
  all_goals (try dsimp only)
  all_goals (try (k_unfold; dsimp only))
  all_goals ((rename News _ _ _ _ => nE); (try simp only [List.push_toArray] at nE))
  all_goals (refine Ends.intro (by assumption) nE ⟨_, _, _, _, rfl, by k_mem, by k_intsEnd, ?_⟩)
  all_goals exact trim_end2 (by assumption) (by assumption) (by assumption) (by assumption)
end
section
open PySem PySem.W PySem.Calls PyProof.Rows PySem.Spec
theorem low_f {a ms ns : List Int} {n : Int} (e : ms = trim ns) (h : ns = a.take n.toNat) : ms = trim (a.take n.toNat) ∧ ms.length ≤ a.length ∧ ms.length ≤ n.toNat := by
  subst e h
  have := trim_le (a.take n.toNat)
  rw [List.length_take] at this
  exact ⟨rfl, by omega, by omega⟩
theorem low_says (w_ : World) (a_l : Addr) (a_v : List Value) (a : List Int) (a_hi : IntsAre a_v a) (a_hn : a.length < 2 ^ 19) (n : Int) (n_t : Tok) (n_0 : 0 ≤ n) (n_1 : n ≤ 16) :
    Says 5 w_ 121 [.ref a_l, .int n n_t] (fun h => h.IsList a_l a_v.toArray) (RetP fun ns => ns = trim (a.take n.toNat) ∧ ns.length ≤ a.length ∧ ns.length ≤ n.toNat) := by
  w_top off
  k_with_none
  k_with "call ref" => (k_here; k_dflt (refine' says_list (normal_says _ _ _ _ ?i1 ?n1) ?B ?F ?X ?T ?N ?ck ?pre ?dp ?hu ?_; (case B => k_asm); (case F => k_asm); (case X => k_asm); (case T => k_asm); (case N => k_asm); (case ck => exact rfl); (case pre => (first | exact News.isList (by k_asm) (by k_mem) | exact isList_kept (by k_asm) (by k_asm))); (case i1 => first | exact IntsAre.cons _ _ IntsAre.nil | l_ints); (case n1 => first | assumption | decide | omega | (simp only [List.length_append, List.length_cons, List.length_nil, List.length_take, List.length_drop, List.length_map, rangeKs_length] at *; omega)); (case dp => omega); (case hu => omega); k_whole; intro r' vs' n' ns' h' tk' F' N' l1' i1' p1'; clear l1'; (try dsimp only at p1'); (try ((with_reducible have pa' := And.left p1'); (with_reducible have pb' := And.right p1'); clear p1')); (try k_sweep)))
  have kf : True ∨ (PySem.Challenge.rw_xm0384_01.row.prog = PySem.Challenge.rw_xm0384_01.row.prog ∧ hd.heap_1 = hd.heap_1) := by k_fill; exact .inl trivial
  clear kf
  refine' says_of (binds := [(Str.ofString "a", .ref a_l), (Str.ofString "n", .int n n_t)]) ?hb ?ho ?hc ?hbi ?hl ?h1 ?h2 ?h3 ?h4 ?h5
  rotate_left
  case ho => k_is
  case hc => k_is
  case hbi => exact fun s => BindsTo.of_eq rfl
  case hl => exact locs rfl
  case h1 => exact rfl
  case h2 => exact rfl
  case h3 => exact rfl
  case h4 => decide
  case h5 => decide
  unfold Body
  intro mean mg mb dp un gd outer A₀ base g h L s tk B F N X T hpre hdp hun
  k_fold
  k_steps
  all_goals (try dsimp only)
  all_goals (try (k_unfold; dsimp only))
  all_goals ((rename News _ _ _ _ => nE); (try simp only [List.push_toArray] at nE))
  all_goals (refine Ends.intro (by assumption) nE ⟨_, _, _, _, rfl, by k_mem, by k_intsEnd, ?_⟩)
  all_goals exact low_f (by assumption) rfl
end
section
open PySem PySem.W PySem.Calls PyProof.Rows PySem.Spec
theorem add_says (w_ : World) (a_l : Addr) (a_v : List Value) (a : List Int) (a_hi : IntsAre a_v a) (a_hn : a.length < 2 ^ 20) (b_l : Addr) (b_v : List Value) (b : List Int) (b_hi : IntsAre b_v b) (b_hn : b.length < 2 ^ 20) (w : Int) (w_t : Tok) (w_0 : 8 ≤ w) (w_1 : w ≤ 12) (ha : Limbs (2 ^ w.toNat) a) (hb : Limbs (2 ^ w.toNat) b) :
    Says 3 w_ 72 [.ref a_l, .ref b_l, .int w w_t] (fun h => h.IsList a_l a_v.toArray ∧ h.IsList b_l b_v.toArray) (RetP fun ns => Lim (2 ^ w.toNat) (val (2 ^ w.toNat) a + val (2 ^ w.toNat) b) ns ∧ ns.length ≤ a.length + b.length + 1) := by
  w_top off
  k_with_none
  have kf : True ∨ (PySem.Challenge.rw_xm0384_01.row.prog = PySem.Challenge.rw_xm0384_01.row.prog ∧ hd.heap_1 = hd.heap_1) := by k_fill; exact .inl trivial
  clear kf
  refine' says_of (binds := [(Str.ofString "a", .ref a_l), (Str.ofString "b", .ref b_l), (Str.ofString "w", .int w w_t)]) ?hb ?ho ?hc ?hbi ?hl ?h1 ?h2 ?h3 ?h4 ?h5
  rotate_left
  case ho => k_is
  case hc => k_is
  case hbi => exact fun s => BindsTo.of_eq rfl
  case hl => exact locs rfl
  case h1 => exact rfl
  case h2 => exact rfl
  case h3 => exact rfl
  case h4 => decide
  case h5 => decide
  unfold Body
  intro mean mg mb dp un gd outer A₀ base g h L s tk B F N X T hpre hdp hun
  obtain ⟨hpa, hpb⟩ := hpre
  k_with "pyIter ref" => refine hold ?_
  k_with "state" => first
    | with_reducible exact ⟨rfl, AddI0 _ _ _⟩
    | with_reducible exact add_t1 ha hb (by assumption) (by assumption) (by assumption)
    | with_reducible exact add_t1' ha hb (by assumption) (by assumption) (by assumption)
    | with_reducible exact add_s2 (by assumption) (by assumption)
    | with_reducible exact add_s2' (by assumption) (by assumption)
    | with_reducible exact add_t2 ha hb (by assumption) (by assumption) (by assumption)
    | with_reducible exact add_t2' ha hb (by assumption) (by assumption) (by assumption)
  k_fold
  k_steps
  all_goals refine unhold ?_
  all_goals k_state (fun pre found carry => found.length = pre.length ∧ AddI w.toNat a b found carry) "found" "carry"
  all_goals k_steps
  all_goals refine unhold ?_
  all_goals first
    | ((rename (_ < (_ : Int)) => hab); k_state (fun pre found carry => found.length = a.length + pre.length ∧ AddI w.toNat a b found carry) "found" "carry")
    | k_state (fun pre found carry => found.length = b.length + pre.length ∧ AddI w.toNat a b found carry) "found" "carry"
  all_goals k_steps
  all_goals (try dsimp only)
  all_goals (try (k_unfold; dsimp only))
  all_goals ((rename News _ _ _ _ => nE); (try simp only [List.push_toArray] at nE))
  all_goals (refine Ends.intro (by assumption) nE ⟨_, _, _, _, rfl, by k_mem, by k_intsEnd, ?_⟩)
  all_goals first
    | with_reducible exact add_f1 (by omega) (by omega) (by assumption) (by assumption) (by assumption)
    | with_reducible exact add_f0 (by omega) (by assumption) (by assumption) (by assumption)
    | with_reducible exact add_f1' (by omega) (by omega) (by assumption) (by assumption) (by assumption)
    | with_reducible exact add_f0' (by omega) (by assumption) (by assumption) (by assumption)
end
section
open PySem PySem.W PySem.Calls PyProof.Rows PySem.Spec
theorem compare_says (w_ : World) (a_l : Addr) (a_v : List Value) (a : List Int) (a_hi : IntsAre a_v a) (a_hn : a.length < 2 ^ 20) (b_l : Addr) (b_v : List Value) (b : List Int) (b_hi : IntsAre b_v b) (b_hn : b.length < 2 ^ 20) (hab : a.length ≠ b.length) :
    Says 3 w_ 65 [.ref a_l, .ref b_l] (fun h => h.IsList a_l a_v.toArray ∧ h.IsList b_l b_v.toArray) (RetI fun x => (a.length < b.length ∧ x = -1) ∨ (¬ a.length < b.length ∧ x = 1)) := by
  w_top off
  k_with_none
  have kf : True ∨ (PySem.Challenge.rw_xm0384_01.row.prog = PySem.Challenge.rw_xm0384_01.row.prog ∧ hd.heap_1 = hd.heap_1) := by k_fill; exact .inl trivial
  clear kf
  refine' says_of (binds := [(Str.ofString "a", .ref a_l), (Str.ofString "b", .ref b_l)]) ?hb ?ho ?hc ?hbi ?hl ?h1 ?h2 ?h3 ?h4 ?h5
  rotate_left
  case ho => k_is
  case hc => k_is
  case hbi => exact fun s => BindsTo.of_eq rfl
  case hl => exact locs rfl
  case h1 => exact rfl
  case h2 => exact rfl
  case h3 => exact rfl
  case h4 => decide
  case h5 => decide
  unfold Body
  intro mean mg mb dp un gd outer A₀ base g h L s tk B F N X T hpre hdp hun
  obtain ⟨hpa, hpb⟩ := hpre
  k_fold
  k_steps
  all_goals (try dsimp only)
  all_goals (try (k_unfold; dsimp only))
  all_goals (refine Ends.intro (by assumption) (by assumption) ⟨_, _, rfl, ?_⟩)
  all_goals omega
end
section
open PySem PySem.W PySem.Calls PyProof.Rows PySem.Spec
theorem sub_says (w_ : World) (a_l : Addr) (a_v : List Value) (a : List Int) (a_hi : IntsAre a_v a) (a_hn : a.length < 2 ^ 20) (b_l : Addr) (b_v : List Value) (b : List Int) (b_hi : IntsAre b_v b) (b_hn : b.length < 2 ^ 20) (w : Int) (w_t : Tok) (w_0 : 8 ≤ w) (w_1 : w ≤ 12) (ha : Limbs (2 ^ w.toNat) a) (hb : Limbs (2 ^ w.toNat) b) (hab : b.length < a.length) (hle : val (2 ^ w.toNat) b ≤ val (2 ^ w.toNat) a) :
    Says 6 w_ 79 [.ref a_l, .ref b_l, .int w w_t] (fun h => h.IsList a_l a_v.toArray ∧ h.IsList b_l b_v.toArray) (RetP fun ns => Num (2 ^ w.toNat) (val (2 ^ w.toNat) a - val (2 ^ w.toNat) b) ns ∧ ns.length ≤ a.length) := by
  w_top off
  k_with_none
  k_with "call ref" => (k_here; k_dflt (refine' says_int (compare_says _ _ _ _ ?i1 ?n1 _ _ _ ?i2 ?n2 ?hab) ?B ?F ?X ?T ?N ?ck ?pre ?dp ?hu ?_; (case B => k_asm); (case F => k_asm); (case X => k_asm); (case T => k_asm); (case N => k_asm); (case ck => exact rfl); (case pre => refine ⟨?_, ?_⟩ <;> (first | exact News.isList (by k_asm) (by k_mem) | exact isList_kept (by k_asm) (by k_asm))); (case i1 => first | exact IntsAre.cons _ _ IntsAre.nil | l_ints); (case n1 => first | assumption | decide | omega | (simp only [List.length_append, List.length_cons, List.length_nil, List.length_take, List.length_drop, List.length_map, rangeKs_length] at *; omega)); (case i2 => first | exact IntsAre.cons _ _ IntsAre.nil | l_ints); (case n2 => first | assumption | decide | omega | (simp only [List.length_append, List.length_cons, List.length_nil, List.length_take, List.length_drop, List.length_map, rangeKs_length] at *; omega)); (case hab => omega); (case dp => omega); (case hu => omega); k_whole; intro x' t' h' tk' F' N' p1'; (try dsimp only at p1'); (try ((with_reducible have pa' := And.left p1'); (with_reducible have pb' := And.right p1'); clear p1')); (try k_sweep)))
  k_with "call ref" => (k_here; k_dflt (refine' says_list (normal_says _ _ _ _ ?i1 ?n1) ?B ?F ?X ?T ?N ?ck ?pre ?dp ?hu ?_; (case B => k_asm); (case F => k_asm); (case X => k_asm); (case T => k_asm); (case N => k_asm); (case ck => exact rfl); (case pre => (first | exact News.isList (by k_asm) (by k_mem) | exact isList_kept (by k_asm) (by k_asm))); (case i1 => first | exact IntsAre.cons _ _ IntsAre.nil | l_ints); (case n1 => first | assumption | decide | omega | (simp only [List.length_append, List.length_cons, List.length_nil, List.length_take, List.length_drop, List.length_map, rangeKs_length] at *; omega)); (case dp => omega); (case hu => omega); k_whole; intro r' vs' n' ns' h' tk' F' N' l1' i1' p1'; clear l1'; (try dsimp only at p1'); (try ((with_reducible have pa' := And.left p1'); (with_reducible have pb' := And.right p1'); clear p1')); (try k_sweep)))
  have kf : True ∨ (PySem.Challenge.rw_xm0384_01.row.prog = PySem.Challenge.rw_xm0384_01.row.prog ∧ hd.heap_1 = hd.heap_1) := by k_fill; exact .inl trivial
  clear kf
  refine' says_of (binds := [(Str.ofString "a", .ref a_l), (Str.ofString "b", .ref b_l), (Str.ofString "w", .int w w_t)]) ?hb ?ho ?hc ?hbi ?hl ?h1 ?h2 ?h3 ?h4 ?h5
  rotate_left
  case ho => k_is
  case hc => k_is
  case hbi => exact fun s => BindsTo.of_eq rfl
  case hl => exact locs rfl
  case h1 => exact rfl
  case h2 => exact rfl
  case h3 => exact rfl
  case h4 => decide
  case h5 => decide
  unfold Body
  intro mean mg mb dp un gd outer A₀ base g h L s tk B F N X T hpre hdp hun
  obtain ⟨hpa, hpb⟩ := hpre
  k_with "pyIter ref" => refine hold ?_
  k_with "state" => first
    | with_reducible exact ⟨rfl, SubI0 _ _ _⟩
    | with_reducible exact sub_t1 ha hb (by assumption) (by assumption) (by assumption) (by assumption)
    | with_reducible exact sub_t2 ha hb (by assumption) (by assumption) (by assumption) (by assumption)
    | with_reducible exact sub_t3 ha hb (by assumption) (by assumption) (by assumption) (by assumption) (by assumption)
    | with_reducible exact sub_t4 ha hb (by assumption) (by assumption) (by assumption) (by assumption) (by assumption)
  k_fold
  k_steps
  all_goals refine unhold ?_
  all_goals k_state (fun pre found borrow => found.length = pre.length ∧ SubI w.toNat a b found borrow) "found" "borrow"
  all_goals k_steps
  all_goals (try dsimp only)
  all_goals (try (k_unfold; dsimp only))
  all_goals ((rename News _ _ _ _ => nE); (try simp only [List.push_toArray] at nE))
  all_goals (refine Ends.intro (by assumption) nE ⟨_, _, _, _, rfl, by k_mem, by k_intsEnd, ?_⟩)
  all_goals with_reducible exact sub_f (by assumption) (by assumption) hab hle (by assumption)
end
section
open PySem PySem.W PySem.Calls PyProof.Rows PySem.Spec
theorem shift_says (w_ : World) (a_l : Addr) (a_v : List Value) (a : List Int) (a_hi : IntsAre a_v a) (a_hn : a.length < 2 ^ 20) (n : Int) (n_t : Tok) (w : Int) (w_t : Tok) (w_0 : 8 ≤ w) (w_1 : w ≤ 12) (ha : Limbs (2 ^ w.toNat) a) (c : Int) (c_0 : 1 ≤ c) (c_1 : c ≤ 8) (hq : n.fdiv w = c) (hr : n.fmod w = 0) (hna : 0 < a.length) :
    Says 4 w_ 93 [.ref a_l, .int n n_t, .int w w_t] (fun h => h.IsList a_l a_v.toArray) (RetP fun ns => ns = List.replicate c.toNat 0 ++ a ∧ ns.length = c.toNat + a.length) := by
  w_top off
  k_with_none
  k_with "binaryOp LShift int int" => (k_here; (with_reducible refine lshift_int_small ?kb1 ?kb2 ?kb3 ?_); (case kb1 => omega); (case kb2 => omega); (case kb3 => exact limbs_small (by assumption) (by assumption) (by assumption)))
  have kf : True ∨ (PySem.Challenge.rw_xm0384_01.row.prog = PySem.Challenge.rw_xm0384_01.row.prog ∧ hd.heap_1 = hd.heap_1) := by k_fill; exact .inl trivial
  clear kf
  refine' says_of (binds := [(Str.ofString "a", .ref a_l), (Str.ofString "n", .int n n_t), (Str.ofString "w", .int w w_t)]) ?hb ?ho ?hc ?hbi ?hl ?h1 ?h2 ?h3 ?h4 ?h5
  rotate_left
  case ho => k_is
  case hc => k_is
  case hbi => exact fun s => BindsTo.of_eq rfl
  case hl => exact locs rfl
  case h1 => exact rfl
  case h2 => exact rfl
  case h3 => exact rfl
  case h4 => decide
  case h5 => decide
  unfold Body
  intro mean mg mb dp un gd outer A₀ base g h L s tk B F N X T hpre hdp hun
  k_with "pyIter ref" => refine hold ?_
  k_with "state" => first
    | with_reducible exact sh_0 hq
    | with_reducible exact sh_t ha (by assumption) hr (by assumption) (by assumption)
  k_fold
  k_steps
  all_goals first | (exfalso; omega) | refine unhold ?_
  all_goals k_state (fun pre found carry => found.length = c.toNat + pre.length ∧ ShI c.toNat pre found carry) "found" "carry"
  all_goals k_steps
  all_goals first | ((rename ShI _ _ _ _ => hs); (have := hs.2); exfalso; omega) | skip
  all_goals (try dsimp only)
  all_goals (try (k_unfold; dsimp only))
  all_goals ((rename News _ _ _ _ => nE); (try simp only [List.push_toArray] at nE))
  all_goals (refine Ends.intro (by assumption) nE ⟨_, _, _, _, rfl, by k_mem, by k_intsEnd, ?_⟩)
  all_goals with_reducible exact ⟨sh_f (by assumption), by assumption⟩
end
section
open PySem PySem.W PySem.Calls PyProof.Rows PySem.Spec
theorem invlimb_says (w_ : World) (d : Int) (d_t : Tok) (d_0 : 0 ≤ d) (d_1 : d.fmod 2 = 1) (w : Int) (w_t : Tok) (w_0 : 8 ≤ w) (w_1 : w ≤ 12) :
    Says 4 w_ 114 [.int d d_t, .int w w_t] (fun _ => True) (RetI fun x => 0 ≤ x ∧ x < 2 ^ w.toNat ∧ d * x % 2 ^ w.toNat = 1) := by
  w_top off
  k_with_none
  have kf : True ∨ (PySem.Challenge.rw_xm0384_01.row.prog = PySem.Challenge.rw_xm0384_01.row.prog ∧ hd.heap_1 = hd.heap_1) := by k_fill; exact .inl trivial
  clear kf
  refine' says_of (binds := [(Str.ofString "d", .int d d_t), (Str.ofString "w", .int w w_t)]) ?hb ?ho ?hc ?hbi ?hl ?h1 ?h2 ?h3 ?h4 ?h5
  rotate_left
  case ho => k_is
  case hc => k_is
  case hbi => exact fun s => BindsTo.of_eq rfl
  case hl => exact locs rfl
  case h1 => exact rfl
  case h2 => exact rfl
  case h3 => exact rfl
  case h4 => decide
  case h5 => decide
  unfold Body
  intro mean mg mb dp un gd outer A₀ base g h L s tk B F N X T hpre hdp hun
  k_with "exec While Compare cons nil" => refine hold ?_
  k_with "state" => first
    | with_reducible exact inv_0 w_0 w_1 d_1
    | with_reducible exact inv_t w_0 w_1 (by assumption) (by assumption) (by assumption)
  k_fold
  k_steps
  all_goals refine unhold ?_
  all_goals k_while (fun _ found sure => (sure = 3 ∨ sure = 6 ∨ sure = 12) ∧ 0 ≤ found ∧ found < 4096 ∧ InvI w.toNat d found sure) (fun _ found sure => (16 - sure).toNat) "found" "sure"
  all_goals k_steps
  all_goals (try dsimp only)
  all_goals (try (k_unfold; dsimp only))
  all_goals (refine Ends.intro (by assumption) (by assumption) ⟨_, _, rfl, ?_⟩)
  all_goals with_reducible exact inv_f w_0 w_1 (by assumption) (by assumption)
end
section
open PySem PySem.W PySem.Calls PyProof.Rows PySem.Spec
theorem ways_says (w_ : World) (a_l : Addr) (a_v : List Value) (a : List Int) (a_hi : IntsAre a_v a) (a_hn : a.length < 2 ^ 20) (c : Int) (c_t : Tok) (c_0 : 1 ≤ c) (c_1 : c ≤ 8) :
    Says 4 w_ 196 [.ref a_l, .int c c_t] (fun h => h.IsList a_l a_v.toArray) (RetP fun ns => ns = waysK a c.toNat (a.length - c.toNat) ∧ ns.length = a.length) := by
  w_top off
  k_with_none
  have kf : True ∨ (PySem.Challenge.rw_xm0384_01.row.prog = PySem.Challenge.rw_xm0384_01.row.prog ∧ hd.heap_1 = hd.heap_1) := by k_fill; exact .inl trivial
  clear kf
  refine' says_of (binds := [(Str.ofString "ways", .ref a_l), (Str.ofString "coin", .int c c_t)]) ?hb ?ho ?hc ?hbi ?hl ?h1 ?h2 ?h3 ?h4 ?h5
  rotate_left
  case ho => k_is
  case hc => k_is
  case hbi => exact fun s => BindsTo.of_eq rfl
  case hl => exact locs rfl
  case h1 => exact rfl
  case h2 => exact rfl
  case h3 => exact rfl
  case h4 => decide
  case h5 => decide
  unfold Body
  intro mean mg mb dp un gd outer A₀ base g h L s tk B F N X T hpre hdp hun
  k_with "pyIter ref" => refine hold ?_
  k_with "state" => first
    | with_reducible exact ways_0 _ _
    | with_reducible exact ways_t c_0 (by assumption) (by assumption) (by assumption)
  k_fold
  k_steps
  all_goals refine unhold ?_
  all_goals k_state (fun pre found => found.length = a.length ∧ found = waysK a c.toNat pre.length) "found"
  all_goals k_steps
  all_goals (try dsimp only)
  all_goals (try (k_unfold; dsimp only))
  all_goals ((rename News _ _ _ _ => nE); (try simp only [List.push_toArray] at nE))
  all_goals (refine Ends.intro (by assumption) nE ⟨_, _, _, _, rfl, by k_mem, by k_intsEnd, ?_⟩)
  all_goals with_reducible exact ways_f (by assumption) (by assumption)
theorem lawlimbs_says (w_ : World) (n : Int) (n_t : Tok) (n_0 : 0 ≤ n) (n_1 : Sm n) (w : Int) (w_t : Tok) (w_0 : 8 ≤ w) (w_1 : w ≤ 12) :
    Says 4 w_ 189 [.int n n_t, .int w w_t] (fun _ => True) (RetP fun ns => Num (2 ^ w.toNat) n ns) := by
  w_top off
  k_with_none
  have kf : True ∨ (PySem.Challenge.rw_xm0384_01.row.prog = PySem.Challenge.rw_xm0384_01.row.prog ∧ hd.heap_1 = hd.heap_1) := by k_fill; exact .inl trivial
  clear kf
  refine' says_of (binds := [(Str.ofString "number", .int n n_t), (Str.ofString "w", .int w w_t)]) ?hb ?ho ?hc ?hbi ?hl ?h1 ?h2 ?h3 ?h4 ?h5
  rotate_left
  case ho => k_is
  case hc => k_is
  case hbi => exact fun s => BindsTo.of_eq rfl
  case hl => exact locs rfl
  case h1 => exact rfl
  case h2 => exact rfl
  case h3 => exact rfl
  case h4 => decide
  case h5 => decide
  unfold Body
  intro mean mg mb dp un gd outer A₀ base g h L s tk B F N X T hpre hdp hun
  k_with "exec While Compare cons nil" => refine hold ?_
  k_with "measure" => with_reducible exact ll_m w_0 (by assumption)
  k_with "state" => first
    | with_reducible exact ll_0 n_0
    | with_reducible exact ll_t w_0 n_1 (by assumption) (by assumption) (by assumption) (by assumption)
  k_fold
  k_steps
  all_goals refine unhold ?_
  (rename Fr _ _ _ _ => lF'); (rename News _ _ _ _ => lN')
  rename_i l' _ _ _
  refine' ksw_while (σ := List Value × List Int × Nat × Int × Nat) (fun c => [(l', listOf c.1.toArray c.2.2.1)]) (fun c => [(Str.ofString "number", .int c.2.2.2.1 c.2.2.2.2)]) (fun c => IntsAre c.1 c.2.1) [] (fun c => c.2.1.length ≤ 13 ∧ 0 ≤ c.2.2.2.1 ∧ LlI w.toNat n c.2.1 c.2.2.2.1) (fun c => c.2.2.2.1.toNat) ([], [], 0, n, n_t) lF' lN' .nil ?kk (ll_0 n_0) ?_
  case kk => kst_all
  rintro ⟨vs, ns, k, num, t⟩ u h1 tk1 hf ⟨hp1, hp2, hp3⟩ F1 N1
  dsimp only [kstB] at F1 N1 hf hp1 hp2 hp3
  dsimp only
  k_fold
  k_steps
  all_goals (try dsimp only)
  all_goals (try (k_unfold; dsimp only))
  all_goals ((rename News _ _ _ _ => nE); (try simp only [List.push_toArray] at nE))
  all_goals (refine Ends.intro (by assumption) nE ⟨_, _, _, _, rfl, by k_mem, by k_intsEnd, ?_⟩)
  all_goals with_reducible exact ll_f (by assumption) (by assumption) (by assumption)
end
section
open PySem PySem.W PySem.Calls PyProof.Rows PySem.Spec
theorem mul_says (w_ : World) (a_l : Addr) (a_v : List Value) (a : List Int) (a_hi : IntsAre a_v a) (a_hn : a.length < 2 ^ 16) (b_l : Addr) (b_v : List Value) (b : List Int) (b_hi : IntsAre b_v b) (b_hn : b.length < 2 ^ 16) (w : Int) (w_t : Tok) (w_0 : 8 ≤ w) (w_1 : w ≤ 12) (ha : Limbs (2 ^ w.toNat) a) (hb : Limbs (2 ^ w.toNat) b) :
    Says 6 w_ 140 [.ref a_l, .ref b_l, .int w w_t] (fun h => h.IsList a_l a_v.toArray ∧ h.IsList b_l b_v.toArray) (RetP fun ns => Num (2 ^ w.toNat) (val (2 ^ w.toNat) a * val (2 ^ w.toNat) b) ns ∧ ns.length ≤ a.length + b.length) := by
  w_top off
  k_with_none
  k_with "call ref" => (k_here; k_dflt (refine' says_list (normal_says _ _ _ _ ?i1 ?n1) ?B ?F ?X ?T ?N ?ck ?pre ?dp ?hu ?_; (case B => k_asm); (case F => k_asm); (case X => k_asm); (case T => k_asm); (case N => k_asm); (case ck => exact rfl); (case pre => (first | exact News.isList (by k_asm) (by k_mem) | exact isList_kept (by k_asm) (by k_asm))); (case i1 => first | exact IntsAre.cons _ _ IntsAre.nil | l_ints); (case n1 => first | assumption | decide | omega | (simp only [List.length_append, List.length_cons, List.length_nil, List.length_take, List.length_drop, List.length_map, rangeKs_length] at *; omega)); (case dp => omega); (case hu => omega); k_whole; intro r' vs' n' ns' h' tk' F' N' l1' i1' p1'; clear l1'; (try dsimp only at p1'); (try ((with_reducible have pa' := And.left p1'); (with_reducible have pb' := And.right p1'); clear p1')); (try k_sweep)))
  have kf : True ∨ (PySem.Challenge.rw_xm0384_01.row.prog = PySem.Challenge.rw_xm0384_01.row.prog ∧ hd.heap_1 = hd.heap_1) := by k_fill; exact .inl trivial
  clear kf
  refine' says_of (binds := [(Str.ofString "a", .ref a_l), (Str.ofString "b", .ref b_l), (Str.ofString "w", .int w w_t)]) ?hb ?ho ?hc ?hbi ?hl ?h1 ?h2 ?h3 ?h4 ?h5
  rotate_left
  case ho => k_is
  case hc => k_is
  case hbi => exact fun s => BindsTo.of_eq rfl
  case hl => exact locs rfl
  case h1 => exact rfl
  case h2 => exact rfl
  case h3 => exact rfl
  case h4 => decide
  case h5 => decide
  unfold Body
  intro mean mg mb dp un gd outer A₀ base g h L s tk B F N X T hpre hdp hun
  obtain ⟨hpa, hpb⟩ := hpre
  k_with "pyIter ref" => refine hold ?_
  k_with "state" => first
    | with_reducible exact mul_s1 ha hb (by assumption) (by assumption) (by assumption) (by assumption) (by assumption) (by assumption)
    | with_reducible exact mul_s2 (by assumption) (by assumption) (by assumption) (by assumption)
  k_fold
  k_steps
  refine unhold ?_
  refine enumA [Str.ofString "limb", Str.ofString "carry", Str.ofString "spot", Str.ofString "other"] (fun pre xs => xs.length = a.length + b.length ∧ MulO w.toNat a b pre.length xs) (PairSrcL.at (by assumption) _ rfl) (by assumption) mul_0 ?_ ?_
  · intro vs xs k pre pst n i t t' u h1 tk1 own e1 e2 ho hf hp F1 N1
    obtain ⟨hl, hm⟩ := hp
    obtain ⟨n0, n1⟩ := limb_bits ha (x := n) (by rw [e1]; simp) w_1
    obtain ⟨hka, _⟩ := take_mid e1
    dsimp only at ho
    simp only [List.map_cons, List.map_nil] at ho
    simp only [List.cons_append, List.nil_append] at N1
    dsimp only at F1 N1
    k_fold
    k_steps
    refine unhold ?_
    refine enumB (Str.ofString "carry") [Str.ofString "other"] (fun pr ys c => ys.length = a.length + b.length ∧ MulM w.toNat a b pre.length pr.length ys c) (PairSrcL.at (by assumption) _ rfl) hf rfl ⟨hl, mulM_0 hm⟩ ?_ ?_
    · intro vs2 ys k2 c tc pr2 pst2 n2 i2 t2 t2' u2 h2 tk2 own2 e3 e4 ho2 hf2 hp2 F2 N2
      obtain ⟨hl2, hm2⟩ := hp2
      obtain ⟨n3, n4⟩ := limb_bits hb (x := n2) (by rw [e3]; simp) w_1
      obtain ⟨hkb, _⟩ := take_mid e3
      obtain kMark := kstMark
      dsimp only at ho2 F2 N2
      simp only [List.map_cons, List.map_nil] at ho2
      simp only [List.cons_append, List.nil_append] at N2
      k_fold
      k_steps
    · intro vs2 ys k2 c tc u2 h2 tk2 hf2 hp2 F2 N2
      obtain ⟨hl2, hm2⟩ := hp2
      dsimp only at F2 N2
      k_steps
  · intro vs xs k u h1 tk1 hf hp F1 N1
    obtain ⟨hl, hm⟩ := hp
    k_steps
    all_goals (try dsimp only)
    all_goals (try (k_unfold; dsimp only))
    all_goals ((rename News _ _ _ _ => nE); (try simp only [List.push_toArray] at nE))
    all_goals (refine Ends.intro (by assumption) nE ⟨_, _, _, _, rfl, by k_mem, by k_intsEnd, ?_⟩)
    all_goals with_reducible exact mul_f (by assumption) (by assumption) (by assumption)
end
section
open PySem PySem.W PySem.Calls PyProof.Rows PySem.Spec
theorem compl_says (w_ : World) (a_l : Addr) (a_v : List Value) (a : List Int) (a_hi : IntsAre a_v a) (a_hn : a.length < 2 ^ 16) (n : Int) (n_t : Tok) (n_0 : 0 ≤ n) (n_1 : n ≤ 8) (w : Int) (w_t : Tok) (w_0 : 8 ≤ w) (w_1 : w ≤ 12) (ha : Limbs (2 ^ w.toNat) a) :
    Says 9 w_ 126 [.ref a_l, .int n n_t, .int w w_t] (fun h => h.IsList a_l a_v.toArray) (RetP fun ns => Num (2 ^ w.toNat) (((2 ^ w.toNat) ^ n.toNat - val (2 ^ w.toNat) (a.take n.toNat)) % (2 ^ w.toNat) ^ n.toNat) ns ∧ ns.length ≤ n.toNat) := by
  w_top off
  k_with_none
  k_with "call ref" => (k_here; k_dflt (refine' says_list (normal_says _ _ _ _ ?i1 ?n1) ?B ?F ?X ?T ?N ?ck ?pre ?dp ?hu ?_; (case B => k_asm); (case F => k_asm); (case X => k_asm); (case T => k_asm); (case N => k_asm); (case ck => exact rfl); (case pre => (first | exact News.isList (by k_asm) (by k_mem) | exact isList_kept (by k_asm) (by k_asm))); (case i1 => first | exact IntsAre.cons _ _ IntsAre.nil | l_ints); (case n1 => first | assumption | decide | omega | (simp only [List.length_append, List.length_cons, List.length_nil, List.length_take, List.length_drop, List.length_map, rangeKs_length] at *; omega)); (case dp => omega); (case hu => omega); k_whole; intro r' vs' n' ns' h' tk' F' N' l1' i1' p1'; clear l1'; (try dsimp only at p1'); (try ((with_reducible have pa' := And.left p1'); (with_reducible have pb' := And.right p1'); clear p1')); (try k_sweep)))
  k_with "call ref" => (k_here; k_dflt (refine' says_list (low_says _ _ _ _ ?i1 ?n1 _ _ ?q1 ?q2) ?B ?F ?X ?T ?N ?ck ?pre ?dp ?hu ?_; (case B => k_asm); (case F => k_asm); (case X => k_asm); (case T => k_asm); (case N => k_asm); (case ck => exact rfl); (case pre => (first | exact News.isList (by k_asm) (by k_mem) | exact isList_kept (by k_asm) (by k_asm))); (case i1 => first | exact IntsAre.cons _ _ IntsAre.nil | l_ints); (case n1 => first | assumption | decide | omega | (simp only [List.length_append, List.length_cons, List.length_nil, List.length_take, List.length_drop, List.length_map, rangeKs_length] at *; omega)); (case q1 => omega); (case q2 => omega); (case dp => omega); (case hu => omega); k_whole; intro r' vs' n' ns' h' tk' F' N' l1' i1' p1'; clear l1'; (try dsimp only at p1'); (try ((with_reducible have pa' := And.left p1'); (with_reducible have pb' := And.right p1'); clear p1')); (try k_sweep)))
  k_with "call ref" => (k_here; k_dflt (refine' says_list (add_says _ _ _ _ ?i1 ?n1 _ _ _ ?i2 ?n2 _ _ ?q1 ?q2 ?q3 ?q4) ?B ?F ?X ?T ?N ?ck ?pre ?dp ?hu ?_; (case B => k_asm); (case F => k_asm); (case X => k_asm); (case T => k_asm); (case N => k_asm); (case ck => exact rfl); (case pre => refine ⟨?_, ?_⟩ <;> (first | exact News.isList (by k_asm) (by k_mem) | exact isList_kept (by k_asm) (by k_asm))); (case i1 => first | exact IntsAre.cons _ _ IntsAre.nil | l_ints); (case n1 => first | assumption | decide | omega | (simp only [List.length_append, List.length_cons, List.length_nil, List.length_take, List.length_drop, List.length_map, rangeKs_length] at *; omega)); (case i2 => first | exact IntsAre.cons _ _ IntsAre.nil | l_ints); (case n2 => first | assumption | decide | omega | (simp only [List.length_append, List.length_cons, List.length_nil, List.length_take, List.length_drop, List.length_map, rangeKs_length] at *; omega)); (case q1 => assumption); (case q2 => assumption); (case q3 => k_extra "limbs"); (case q4 => k_extra "limbs"); (case dp => omega); (case hu => omega); k_whole; intro r' vs' n' ns' h' tk' F' N' l1' i1' p1'; clear l1'; (try dsimp only at p1'); (try ((with_reducible have pa' := And.left p1'); (with_reducible have pb' := And.right p1'); clear p1')); (try k_sweep)))
  k_with "limbs" => first
    | with_reducible exact compl_l ha (by assumption)
    | exact limbs_lit w_0 (by decide) (by decide)
  have kf : True ∨ (PySem.Challenge.rw_xm0384_01.row.prog = PySem.Challenge.rw_xm0384_01.row.prog ∧ hd.heap_1 = hd.heap_1) := by k_fill; exact .inl trivial
  clear kf
  refine' says_ofC (binds := [(Str.ofString "a", .ref a_l), (Str.ofString "n", .int n n_t), (Str.ofString "w", .int w w_t)]) ?hb ?ho ?hc ?hbi ?hl ?h4 ?h1 ?h2 ?h3 ?h5
  rotate_left
  case ho => k_is
  case hc => k_is
  case hbi => exact fun s => BindsTo.of_eq rfl
  case hl => exact rfl
  case h4 => decide +kernel
  case h1 => exact rfl
  case h2 => exact rfl
  case h3 => exact rfl
  case h5 => decide
  unfold BodyC
  intro mean mg mb dp un gd outer A₀ base g h L s tk cells B F N Y X T hpre hdp hun
  k_cells Y
  (try dsimp only)
  (try k_fold)
  k_steps
  all_goals (try dsimp only)
  all_goals (try (k_unfold; dsimp only))
  all_goals ((rename News _ _ _ _ => nE); (try simp only [List.push_toArray] at nE))
  all_goals (refine Ends.intro (by assumption) nE ⟨_, _, _, _, rfl, by k_mem, by k_intsEnd, ?_⟩)
  all_goals with_reducible exact compl_f ha (by assumption) (by assumption) (by assumption)
end
section
open PySem PySem.W PySem.Calls PyProof.Rows PySem.Spec
theorem low_v (w_ : World) (a_l : Addr) (a_v : List Value) (a : List Int) (a_hi : IntsAre a_v a) (a_hn : a.length < 2 ^ 16) (n : Int) (n_t : Tok) (n_0 : 0 ≤ n) (n_1 : n ≤ 16) {W : Nat} {v : Int} (h : Lim (2 ^ W) v a) :
    Says 5 w_ 121 [.ref a_l, .int n n_t] (fun h => h.IsList a_l a_v.toArray) (RetP fun ns => Num (2 ^ W) (v % (2 ^ W) ^ n.toNat) ns ∧ ns.length ≤ n.toNat) :=
  (low_says w_ a_l a_v a a_hi (by omega) n n_t n_0 n_1).mono (RetP.mono fun ns p => ⟨by rw [p.1]; exact low_num (kbt_pos W) h _, p.2.2⟩)
theorem add_v (w_ : World) (a_l : Addr) (a_v : List Value) (a : List Int) (a_hi : IntsAre a_v a) (a_hn : a.length < 2 ^ 16) (b_l : Addr) (b_v : List Value) (b : List Int) (b_hi : IntsAre b_v b) (b_hn : b.length < 2 ^ 16) (w : Int) (w_t : Tok) (w_0 : 8 ≤ w) (w_1 : w ≤ 12) {x y : Int} (ha : Lim (2 ^ w.toNat) x a) (hb : Lim (2 ^ w.toNat) y b) :
    Says 3 w_ 72 [.ref a_l, .ref b_l, .int w w_t] (fun h => h.IsList a_l a_v.toArray ∧ h.IsList b_l b_v.toArray) (RetP fun ns => Lim (2 ^ w.toNat) (x + y) ns ∧ ns.length ≤ a.length + b.length + 1) :=
  (add_says w_ a_l a_v a a_hi (by omega) b_l b_v b b_hi (by omega) w w_t w_0 w_1 ha.1 hb.1).mono (RetP.mono fun ns p => by rw [ha.2, hb.2] at p; exact p)
theorem mul_v (w_ : World) (a_l : Addr) (a_v : List Value) (a : List Int) (a_hi : IntsAre a_v a) (a_hn : a.length < 2 ^ 16) (b_l : Addr) (b_v : List Value) (b : List Int) (b_hi : IntsAre b_v b) (b_hn : b.length < 2 ^ 16) (w : Int) (w_t : Tok) (w_0 : 8 ≤ w) (w_1 : w ≤ 12) {x y : Int} (ha : Lim (2 ^ w.toNat) x a) (hb : Lim (2 ^ w.toNat) y b) :
    Says 6 w_ 140 [.ref a_l, .ref b_l, .int w w_t] (fun h => h.IsList a_l a_v.toArray ∧ h.IsList b_l b_v.toArray) (RetP fun ns => Num (2 ^ w.toNat) (x * y) ns ∧ ns.length ≤ a.length + b.length) :=
  (mul_says w_ a_l a_v a a_hi a_hn b_l b_v b b_hi b_hn w w_t w_0 w_1 ha.1 hb.1).mono (RetP.mono fun ns p => by rw [ha.2, hb.2] at p; exact p)
theorem compl_v (w_ : World) (a_l : Addr) (a_v : List Value) (a : List Int) (a_hi : IntsAre a_v a) (a_hn : a.length < 2 ^ 16) (n : Int) (n_t : Tok) (n_0 : 0 ≤ n) (n_1 : n ≤ 8) (w : Int) (w_t : Tok) (w_0 : 8 ≤ w) (w_1 : w ≤ 12) {x : Int} (ha : Lim (2 ^ w.toNat) x a) (hl : a.length ≤ n.toNat) :
    Says 9 w_ 126 [.ref a_l, .int n n_t, .int w w_t] (fun h => h.IsList a_l a_v.toArray) (RetP fun ns => Num (2 ^ w.toNat) (((2 ^ w.toNat) ^ n.toNat - x) % (2 ^ w.toNat) ^ n.toNat) ns ∧ ns.length ≤ n.toNat) :=
  (compl_says w_ a_l a_v a a_hi a_hn n n_t n_0 n_1 w w_t w_0 w_1 ha.1).mono (RetP.mono fun ns p => by rw [List.take_of_length_le hl, ha.2] at p; exact p)
theorem lim_lit {w x : Int} (hw : 8 ≤ w) (h0 : 0 ≤ x) (h1 : x < 256) : Lim (2 ^ w.toNat) x [x] := ⟨limbs_lit hw h0 h1, by simp [val]⟩
end
section
open PySem PySem.W PySem.Calls PyProof.Rows PySem.Spec
theorem shift_lim {B R : Int} (hB : 0 < B) {a : List Int} (h : Lim B R a) (c : Nat) : Lim B (B ^ c * R) (List.replicate c 0 ++ a) := by
  refine ⟨limbs_append (fun x hx => by rw [List.eq_of_mem_replicate hx]; exact ⟨Int.le_refl _, hB⟩) h.1, ?_⟩
  rw [val_append, val_zeros B fun x hx => List.eq_of_mem_replicate hx, List.length_replicate, h.2, Int.zero_add]
theorem num_pos {B v : Int} {xs : List Int} (h : Num B v xs) (hv : 0 < v) : 0 < xs.length := by
  cases xs with
  | nil => have := h.2.1; simp only [val] at this; omega
  | cons x r => simp
theorem compare_lt (w_ : World) (a_l : Addr) (a_v : List Value) (a : List Int) (a_hi : IntsAre a_v a) (a_hn : a.length < 2 ^ 16) (b_l : Addr) (b_v : List Value) (b : List Int) (b_hi : IntsAre b_v b) (b_hn : b.length < 2 ^ 16) (hab : a.length < b.length) :
    Says 3 w_ 65 [.ref a_l, .ref b_l] (fun h => h.IsList a_l a_v.toArray ∧ h.IsList b_l b_v.toArray) (RetI fun x => x = -1) :=
  (compare_says w_ a_l a_v a a_hi (by omega) b_l b_v b b_hi (by omega) (by omega)).mono fun news v => by
    rintro ⟨x, t, e, p⟩
    exact ⟨x, t, e, by omega⟩
theorem shift_v (w_ : World) (a_l : Addr) (a_v : List Value) (a : List Int) (a_hi : IntsAre a_v a) (a_hn : a.length < 2 ^ 16) (n : Int) (n_t : Tok) (w : Int) (w_t : Tok) (w_0 : 8 ≤ w) (w_1 : w ≤ 12) (c : Int) (c_0 : 1 ≤ c) (c_1 : c ≤ 8) (hq : n.fdiv w = c) (hr : n.fmod w = 0) (hna : 0 < a.length) {R : Int} (h : Lim (2 ^ w.toNat) R a) :
    Says 4 w_ 93 [.ref a_l, .int n n_t, .int w w_t] (fun h => h.IsList a_l a_v.toArray) (RetP fun ns => Lim (2 ^ w.toNat) ((2 ^ w.toNat) ^ c.toNat * R) ns ∧ ns.length = c.toNat + a.length) :=
  (shift_says w_ a_l a_v a a_hi (by omega) n n_t w w_t w_0 w_1 h.1 c c_0 c_1 hq hr hna).mono (RetP.mono fun ns p => ⟨by rw [p.1]; exact shift_lim (kbt_pos _) h _, p.2⟩)
theorem sub_v (w_ : World) (a_l : Addr) (a_v : List Value) (a : List Int) (a_hi : IntsAre a_v a) (a_hn : a.length < 2 ^ 16) (b_l : Addr) (b_v : List Value) (b : List Int) (b_hi : IntsAre b_v b) (b_hn : b.length < 2 ^ 16) (w : Int) (w_t : Tok) (w_0 : 8 ≤ w) (w_1 : w ≤ 12) {x y : Int} (ha : Lim (2 ^ w.toNat) x a) (hb : Lim (2 ^ w.toNat) y b) (hab : b.length < a.length) (hle : y < x) :
    Says 6 w_ 79 [.ref a_l, .ref b_l, .int w w_t] (fun h => h.IsList a_l a_v.toArray ∧ h.IsList b_l b_v.toArray) (RetP fun ns => Num (2 ^ w.toNat) (x - y) ns ∧ (ns.length ≤ a.length ∧ 0 < ns.length)) :=
  (sub_says w_ a_l a_v a a_hi (by omega) b_l b_v b b_hi (by omega) w w_t w_0 w_1 ha.1 hb.1 hab (by rw [ha.2, hb.2]; omega)).mono (RetP.mono fun ns p => by
    rw [ha.2, hb.2] at p
    exact ⟨p.1, p.2, num_pos p.1 (by omega)⟩)
end
section
open PySem PySem.W PySem.Calls PyProof.Rows PySem.Spec
theorem min_gen {prog : Program} {w : World} {A : Around} {E Q : Value → Shared → Prop} {s : Shared} {h₀ : Heap} {L : Addr} {m : Str → Option Value} {news : List (Addr × Obj)} {a b : Int} {ta tb : Tok} (hh : A.handled = none) (F : Fr h₀ L s.heap m) (N : News h₀ L s.heap news)
    (h : ∀ q t h' tk', q ≤ a → q ≤ b → (q = a ∨ q = b) → Fr h₀ L h' m → News h₀ L h' news → Q (.int q t) { s with heap := h', toks := tk' }) : wpAny (model prog w) A (call (.builtin "min") [.int a ta, .int b tb]) Q E s := by
  refine min_two_ints hh fun h' tk hk => ?_
  have F' : Fr h₀ L h' m := ⟨F.ns.keeps hk, fun b o e => hk b o (F.keep b o e), F.above⟩
  have N' : News h₀ L h' news := fun p hp => ⟨hk _ _ (N p hp).1, (N p hp).2⟩
  split
  · exact h b tb h' tk (by omega) (Int.le_refl _) (.inr rfl) F' N'
  · exact h a ta h' tk (Int.le_refl _) (by omega) (.inl rfl) F' N'
theorem inv_says (w_ : World) (b_l : Addr) (b_v : List Value) (b : List Int) (b_hi : IntsAre b_v b) (b_hn : b.length < 2 ^ 10) (n : Int) (n_t : Tok) (n_0 : 5 ≤ n) (n_1 : n ≤ 8) (w : Int) (w_t : Tok) (w_0 : 8 ≤ w) (w_1 : w ≤ 12) (hb : Limbs (2 ^ w.toNat) b) (hbl : 0 < b.length) (hodd : (b.getD 0 0).fmod 2 = 1) :
    Says 14 w_ 133 [.ref b_l, .int n n_t, .int w w_t, .ref 140] (fun h => h.IsList b_l b_v.toArray) (RetP fun ns => (∃ X, Num (2 ^ w.toNat) X ns ∧ InvLo w.toNat (val (2 ^ w.toNat) b) n X) ∧ ns.length ≤ 8) := by
  w_top off
  k_with_none
  k_with "call ref" => (k_here; k_dflt (refine' says_int (invlimb_says _ _ _ ?q0 ?q1 _ _ ?q2 ?q3) ?B ?F ?X ?T ?N ?ck ?pre ?dp ?hu ?_; (case B => k_asm); (case F => k_asm); (case X => k_asm); (case T => k_asm); (case N => k_asm); (case ck => exact rfl); (case pre => trivial); (case q0 => k_extra "lim0"); (case q1 => k_extra "lim0"); (case q2 => assumption); (case q3 => assumption); (case dp => omega); (case hu => omega); k_whole; intro x' t' h' tk' F' N' p1'; (try dsimp only at p1'); (try ((with_reducible have pa' := And.left p1'); (with_reducible have pb' := And.right p1'); clear p1')); (try k_sweep)))
  k_with "call ref" => (k_here; k_dflt (refine' says_list (low_v _ _ _ _ ?i1 ?n1 _ _ ?q1 ?q2 ?q3) ?B ?F ?X ?T ?N ?ck ?pre ?dp ?hu ?_; (case B => k_asm); (case F => k_asm); (case X => k_asm); (case T => k_asm); (case N => k_asm); (case ck => exact rfl); (case pre => (first | exact News.isList (by k_asm) (by k_mem) | exact isList_kept (by k_asm) (by k_asm))); (case i1 => first | exact IntsAre.cons _ _ IntsAre.nil | l_ints); (case n1 => first | assumption | decide | omega | (simp only [List.length_append, List.length_cons, List.length_nil, List.length_take, List.length_drop, List.length_map, rangeKs_length] at *; omega)); (case q1 => omega); (case q2 => omega); (case q3 => k_extra "lim"); (case dp => omega); (case hu => omega); k_whole; intro r' vs' n' ns' h' tk' F' N' l1' i1' p1'; clear l1'; (try dsimp only at p1'); (try ((with_reducible have pa' := And.left p1'); (with_reducible have pb' := And.right p1'); clear p1')); (try k_sweep)))
  k_with "call ref" => (k_here; k_dflt (refine' says_list (add_v _ _ _ _ ?i1 ?n1 _ _ _ ?i2 ?n2 _ _ ?q1 ?q2 ?q3 ?q4) ?B ?F ?X ?T ?N ?ck ?pre ?dp ?hu ?_; (case B => k_asm); (case F => k_asm); (case X => k_asm); (case T => k_asm); (case N => k_asm); (case ck => exact rfl); (case pre => refine ⟨?_, ?_⟩ <;> (first | exact News.isList (by k_asm) (by k_mem) | exact isList_kept (by k_asm) (by k_asm))); (case i1 => first | exact IntsAre.cons _ _ IntsAre.nil | l_ints); (case n1 => first | assumption | decide | omega | (simp only [List.length_append, List.length_cons, List.length_nil, List.length_take, List.length_drop, List.length_map, rangeKs_length] at *; omega)); (case i2 => first | exact IntsAre.cons _ _ IntsAre.nil | l_ints); (case n2 => first | assumption | decide | omega | (simp only [List.length_append, List.length_cons, List.length_nil, List.length_take, List.length_drop, List.length_map, rangeKs_length] at *; omega)); (case q1 => assumption); (case q2 => assumption); (case q3 => k_extra "lim"); (case q4 => k_extra "lim"); (case dp => omega); (case hu => omega); k_whole; intro r' vs' n' ns' h' tk' F' N' l1' i1' p1'; clear l1'; (try dsimp only at p1'); (try ((with_reducible have pa' := And.left p1'); (with_reducible have pb' := And.right p1'); clear p1')); (try k_sweep)))
  k_with "call ref" => (k_here; k_dflt (refine' says_list (mul_v _ _ _ _ ?i1 ?n1 _ _ _ ?i2 ?n2 _ _ ?q1 ?q2 ?q3 ?q4) ?B ?F ?X ?T ?N ?ck ?pre ?dp ?hu ?_; (case B => k_asm); (case F => k_asm); (case X => k_asm); (case T => k_asm); (case N => k_asm); (case ck => exact rfl); (case pre => refine ⟨?_, ?_⟩ <;> (first | exact News.isList (by k_asm) (by k_mem) | exact isList_kept (by k_asm) (by k_asm))); (case i1 => first | exact IntsAre.cons _ _ IntsAre.nil | l_ints); (case n1 => first | assumption | decide | omega | (simp only [List.length_append, List.length_cons, List.length_nil, List.length_take, List.length_drop, List.length_map, rangeKs_length] at *; omega)); (case i2 => first | exact IntsAre.cons _ _ IntsAre.nil | l_ints); (case n2 => first | assumption | decide | omega | (simp only [List.length_append, List.length_cons, List.length_nil, List.length_take, List.length_drop, List.length_map, rangeKs_length] at *; omega)); (case q1 => assumption); (case q2 => assumption); (case q3 => k_extra "lim"); (case q4 => k_extra "lim"); (case dp => omega); (case hu => omega); k_whole; intro r' vs' n' ns' h' tk' F' N' l1' i1' p1'; clear l1'; (try dsimp only at p1'); (try ((with_reducible have pa' := And.left p1'); (with_reducible have pb' := And.right p1'); clear p1')); (try k_sweep)))
  k_with "call ref" => (k_here; k_dflt (refine' says_list (compl_v _ _ _ _ ?i1 ?n1 _ _ ?q5 ?q6 _ _ ?q1 ?q2 ?q3 ?q4) ?B ?F ?X ?T ?N ?ck ?pre ?dp ?hu ?_; (case B => k_asm); (case F => k_asm); (case X => k_asm); (case T => k_asm); (case N => k_asm); (case ck => exact rfl); (case pre => (first | exact News.isList (by k_asm) (by k_mem) | exact isList_kept (by k_asm) (by k_asm))); (case i1 => first | exact IntsAre.cons _ _ IntsAre.nil | l_ints); (case n1 => first | assumption | decide | omega | (simp only [List.length_append, List.length_cons, List.length_nil, List.length_take, List.length_drop, List.length_map, rangeKs_length] at *; omega)); (case q5 => omega); (case q6 => omega); (case q1 => assumption); (case q2 => assumption); (case q3 => k_extra "lim"); (case q4 => omega); (case dp => omega); (case hu => omega); k_whole; intro r' vs' n' ns' h' tk' F' N' l1' i1' p1'; clear l1'; (try dsimp only at p1'); (try ((with_reducible have pa' := And.left p1'); (with_reducible have pb' := And.right p1'); clear p1')); (try k_sweep)))
  k_with "call builtin:min" => (k_here; k_dflt (refine' min_gen ?hh ?F ?N ?_; (case hh => exact rfl); (case F => k_asm); (case N => k_asm); k_whole); intro q' t' h' tk' q1' q2' q3' F' N'; (try k_sweep))
  k_with "lim0" => first
    | exact (limbs_getD (kbt_pos _) hb _).1
    | exact hodd
  k_with "lim" => first
    | with_reducible exact Num.lim (by assumption)
    | with_reducible assumption
    | with_reducible exact lim_of hb
    | with_reducible exact lim_lit w_0 (by decide) (by decide)
  have kf : True ∨ (PySem.Challenge.rw_xm0384_01.row.prog = PySem.Challenge.rw_xm0384_01.row.prog ∧ hd.heap_1 = hd.heap_1) := by k_fill; exact .inl trivial
  clear kf
  refine' says_of (binds := [(Str.ofString "b", .ref b_l), (Str.ofString "n", .int n n_t), (Str.ofString "w", .int w w_t), (Str.ofString "mul", .ref 140)]) ?hb ?ho ?hc ?hbi ?hl ?h1 ?h2 ?h3 ?h4 ?h5
  rotate_left
  case ho => k_is
  case hc => k_is
  case hbi => exact fun s => BindsTo.of_eq rfl
  case hl => exact locs rfl
  case h1 => exact rfl
  case h2 => exact rfl
  case h3 => exact rfl
  case h4 => decide
  case h5 => decide
  unfold Body
  intro mean mg mb dp un gd outer A₀ base g h L s tk B F N X T hpre hdp hun
  k_with "exec While Compare cons nil" => refine hold ?_
  k_fold
  k_steps
  all_goals first | (exfalso; omega) | refine unhold ?_
  (rename Fr _ _ _ _ => lF'); (rename News _ _ _ _ => lN')
  (rename (0 ≤ _) => pz1); (rename (_ ∧ b.getD _ _ * _ % _ = 1) => pz2)
  obtain ⟨i0, n0⟩ := invLo_0 (b := b) pz1 pz2.1 pz2.2
  refine While_inv2 (fun k m nx => ∃ r vs xs c sz t, nx = [(r, listOf vs.toArray c)] ∧ IntsAre vs xs ∧ xs.length ≤ 8 ∧ 1 ≤ sz ∧ sz ≤ n ∧ k = (n - sz).toNat ∧ (∃ X, Num (2 ^ w.toNat) X xs ∧ InvLo w.toNat (val (2 ^ w.toNat) b) sz X) ∧ m (Str.ofString "found") = some (.ref r) ∧ m (Str.ofString "size") = some (.int sz t) ∧
      ∀ z, [Str.ofString "found", Str.ofString "size", Str.ofString "rest", Str.ofString "wanted"].contains z = false → m z = List.lookup z [(Str.ofString "b", Value.ref b_l), (Str.ofString "n", .int n n_t), (Str.ofString "w", .int w w_t), (Str.ofString "mul", .ref 140)].reverse) (n₀ := (n - 1).toNat) lF' (news_tail lN')
    ⟨_, [Value.int _ _], [_], 0, 1, _, rfl, .cons _ _ .nil, by simp, by decide, by omega, rfl, ⟨_, n0, i0⟩, rfl, rfl, fun z hz => ?_⟩ ?_
  · simp only [List.contains_cons, List.contains_nil, Bool.or_false, Bool.or_eq_false_iff, beq_eq_false_iff_ne, ne_eq] at hz
    simp [hz]
  clear i0 n0 pz1 pz2 lF' lN'
  rintro k m₁ nx h₁ tk₁ F₁ N₁ ⟨r, vs, xs, c, sz, t, rfl, hf, hl, s1, s2, hk, ⟨X, hX, hI⟩, m1, m2, m3⟩
  replace F₁ := fr_two [Str.ofString "found", Str.ofString "size", Str.ofString "rest", Str.ofString "wanted"] F₁ m1 m2 m3
  clear m3 m2 m1
  (try dsimp only)
  (try k_fold)
  k_steps
  · (rename Fr _ _ _ _ => lF); (rename News _ _ _ _ => lN); (rename IntsAre _ _ => lI); (rename Num _ _ _ => lX); (rename (_ = 2 * sz ∨ _ = n) => q3); (rename (_ ≤ n) => q2); (rename (_ ≤ 2 * sz) => q1); (rename (List.length _ ≤ Int.toNat _) => lL); (rename (sz < n) => hlt)
    refine ⟨_, _, _, _, _, rfl, lF, news_head lN, ?lt, _, _, _, _, _, _, rfl, lI, ?l, ?a, q2, rfl, ⟨_, lX, ?inv⟩, rfl, rfl, ?z⟩
    case inv => exact invLo_t (by omega) s1 q1 (by omega) hI rfl rfl rfl rfl rfl
    case l => omega
    case a => omega
    case lt => omega
    case z =>
      intro z hz
      simp only [List.contains_cons, List.contains_nil, Bool.or_false, Bool.or_eq_false_iff, beq_eq_false_iff_ne, ne_eq] at hz
      simp [hz]
  all_goals (try dsimp only)
  all_goals (try (k_unfold; dsimp only))
  all_goals ((rename News _ _ _ _ => nE); (try simp only [List.push_toArray] at nE))
  all_goals (refine Ends.intro (by assumption) nE ⟨_, _, _, _, rfl, by k_mem, by k_intsEnd, ?_⟩)
  rw [show n = sz by omega]
  exact ⟨⟨X, hX, hI⟩, hl⟩
end
section
open PySem PySem.W PySem.Calls PyProof.Rows PySem.Spec
theorem less_says (w_ : World) (a_l : Addr) (a_v : List Value) (a : List Int) (a_hi : IntsAre a_v a) (a_hn : a.length ≤ 8) (c : Int) (c_t : Tok) (c_0 : 1 ≤ c) (c_1 : c ≤ 8) (n : Int) (n_t : Tok) (n_0 : 5 ≤ n) (n_1 : n ≤ 8) (w : Int) (w_t : Tok) (w_0 : 8 ≤ w) (w_1 : w ≤ 12) {R : Int} (ha : Lim (2 ^ w.toNat) R a) (hna : 0 < a.length) (hcw : 0 ≤ c * w) (hq : (c * w).fdiv w = c) (hr : (c * w).fmod w = 0) (hle : R < (2 ^ w.toNat) ^ c.toNat * R) :
    Says 24 w_ 210 [.ref a_l, .int c c_t, .int n n_t, .int w w_t] (fun h => h.IsList a_l a_v.toArray) (RetP fun ns => Num (2 ^ w.toNat) (((2 ^ w.toNat) ^ n.toNat - ((2 ^ w.toNat) ^ c.toNat * R - R) % (2 ^ w.toNat) ^ n.toNat) % (2 ^ w.toNat) ^ n.toNat) ns ∧ ns.length ≤ n.toNat) := by
  w_top off
  k_with_none
  k_with "call ref" => (k_here; refine wpAny_call ?_; k_dflt (refine' code_def ?k1 ?k2 ?k3 ?k4 ?k5 ?kA ?kF ?kK ?k6 ?k7 ?k8 ?k9 ?kB ?_ ?c2 ?c3 ?c4 ?c5; (case kA => exact rfl); (case kF => exact rfl); (case kK => exact rfl); (case k1 => k_asm); (case k2 => k_asm); (case k3 => k_asm); (case k4 => k_asm); (case k5 => k_asm); (case k6 => k_is); (case k7 => k_is); (case k8 => ktr_room); (case k9 => exact BindsTo.of_eq rfl); (case c5 => decide); (case kB => exact locs rfl); (case c2 => exact rfl); (case c3 => exact rfl); (case c4 => exact rfl); k_whole; intro g' L' h' FG' F' N' B' X' T'; (try (have hpa := isList_kept FG' hpa)); (try (have hpb := isList_kept FG' hpb)); (try dsimp only); (try k_lift B'); (try k_fold)))
  k_with "call ref" => (k_here; k_dflt (refine' says_int (compare_lt _ _ _ _ ?i1 ?n1 _ _ _ ?i2 ?n2 ?hab) ?B ?F ?X ?T ?N ?ck ?pre ?dp ?hu ?_; (case B => k_asm); (case F => k_asm); (case X => k_asm); (case T => k_asm); (case N => k_asm); (case ck => exact rfl); (case pre => refine ⟨?_, ?_⟩ <;> (first | exact News.isList (by k_asm) (by k_mem) | exact isList_kept (by k_asm) (by k_asm) | exact isList_kept (by k_asm) (isList_kept (by k_asm) (by k_asm)) | exact isList_kept (by k_asm) (isList_kept (by k_asm) (isList_kept (by k_asm) (by k_asm))))); (case i1 => first | exact IntsAre.cons _ _ IntsAre.nil | l_ints); (case n1 => first | assumption | decide | omega | (simp only [List.length_append, List.length_cons, List.length_nil, List.length_take, List.length_drop, List.length_map, rangeKs_length] at *; omega)); (case i2 => first | exact IntsAre.cons _ _ IntsAre.nil | l_ints); (case n2 => first | assumption | decide | omega | (simp only [List.length_append, List.length_cons, List.length_nil, List.length_take, List.length_drop, List.length_map, rangeKs_length] at *; omega)); (case hab => omega); (case dp => first | omega | ktr_room); (case hu => first | omega | ktr_units); k_whole; intro x' t' h' tk' F' N' p1'; (try dsimp only at p1'); (try ((with_reducible have pa' := And.left p1'); (with_reducible have pb' := And.right p1'); clear p1')); (try k_sweep)))
  k_with "call ref" => (k_here; k_dflt (refine' says_list (shift_v _ _ _ _ ?i1 ?n1 _ _ _ _ ?q1 ?q2 _ ?q3 ?q4 ?q5 ?q6 ?q7 ?q8) ?B ?F ?X ?T ?N ?ck ?pre ?dp ?hu ?_; (case B => k_asm); (case F => k_asm); (case X => k_asm); (case T => k_asm); (case N => k_asm); (case ck => exact rfl); (case pre => (first | exact News.isList (by k_asm) (by k_mem) | exact isList_kept (by k_asm) (by k_asm) | exact isList_kept (by k_asm) (isList_kept (by k_asm) (by k_asm)) | exact isList_kept (by k_asm) (isList_kept (by k_asm) (isList_kept (by k_asm) (by k_asm))))); (case i1 => first | exact IntsAre.cons _ _ IntsAre.nil | l_ints); (case n1 => first | assumption | decide | omega | (simp only [List.length_append, List.length_cons, List.length_nil, List.length_take, List.length_drop, List.length_map, rangeKs_length] at *; omega)); (case q1 => assumption); (case q2 => assumption); (case q5 => assumption); (case q6 => assumption); (case q3 => assumption); (case q4 => assumption); (case q7 => omega); (case q8 => k_extra "lim"); (case dp => first | omega | ktr_room); (case hu => first | omega | ktr_units); k_whole; intro r' vs' n' ns' h' tk' F' N' l1' i1' p1'; clear l1'; (try dsimp only at p1'); (try ((with_reducible have pa' := And.left p1'); (with_reducible have pb' := And.right p1'); clear p1')); (try k_sweep)))
  k_with "call ref" => (k_here; k_dflt (refine' says_list (sub_v _ _ _ _ ?i1 ?n1 _ _ _ ?i2 ?n2 _ _ ?q1 ?q2 ?q3 ?q4 ?q5 ?q6) ?B ?F ?X ?T ?N ?ck ?pre ?dp ?hu ?_; (case B => k_asm); (case F => k_asm); (case X => k_asm); (case T => k_asm); (case N => k_asm); (case ck => exact rfl); (case pre => refine ⟨?_, ?_⟩ <;> (first | exact News.isList (by k_asm) (by k_mem) | exact isList_kept (by k_asm) (by k_asm) | exact isList_kept (by k_asm) (isList_kept (by k_asm) (by k_asm)) | exact isList_kept (by k_asm) (isList_kept (by k_asm) (isList_kept (by k_asm) (by k_asm))))); (case i1 => first | exact IntsAre.cons _ _ IntsAre.nil | l_ints); (case n1 => first | assumption | decide | omega | (simp only [List.length_append, List.length_cons, List.length_nil, List.length_take, List.length_drop, List.length_map, rangeKs_length] at *; omega)); (case i2 => first | exact IntsAre.cons _ _ IntsAre.nil | l_ints); (case n2 => first | assumption | decide | omega | (simp only [List.length_append, List.length_cons, List.length_nil, List.length_take, List.length_drop, List.length_map, rangeKs_length] at *; omega)); (case q1 => assumption); (case q2 => assumption); (case q3 => k_extra "lim"); (case q4 => k_extra "lim"); (case q5 => omega); (case q6 => assumption); (case dp => first | omega | ktr_room); (case hu => first | omega | ktr_units); k_whole; intro r' vs' n' ns' h' tk' F' N' l1' i1' p1'; clear l1'; (try dsimp only at p1'); (try ((with_reducible have pa' := And.left p1'); (with_reducible have pb' := And.right p1'); clear p1')); (try k_sweep)))
  k_with "call ref" => (k_here; k_dflt (refine' says_list (low_v _ _ _ _ ?i1 ?n1 _ _ ?q1 ?q2 ?q3) ?B ?F ?X ?T ?N ?ck ?pre ?dp ?hu ?_; (case B => k_asm); (case F => k_asm); (case X => k_asm); (case T => k_asm); (case N => k_asm); (case ck => exact rfl); (case pre => (first | exact News.isList (by k_asm) (by k_mem) | exact isList_kept (by k_asm) (by k_asm) | exact isList_kept (by k_asm) (isList_kept (by k_asm) (by k_asm)) | exact isList_kept (by k_asm) (isList_kept (by k_asm) (isList_kept (by k_asm) (by k_asm))))); (case i1 => first | exact IntsAre.cons _ _ IntsAre.nil | l_ints); (case n1 => first | assumption | decide | omega | (simp only [List.length_append, List.length_cons, List.length_nil, List.length_take, List.length_drop, List.length_map, rangeKs_length] at *; omega)); (case q1 => omega); (case q2 => omega); (case q3 => k_extra "lim"); (case dp => first | omega | ktr_room); (case hu => first | omega | ktr_units); k_whole; intro r' vs' n' ns' h' tk' F' N' l1' i1' p1'; clear l1'; (try dsimp only at p1'); (try ((with_reducible have pa' := And.left p1'); (with_reducible have pb' := And.right p1'); clear p1')); (try k_sweep)))
  k_with "call ref" => (k_here; k_dflt (refine' says_list (compl_v _ _ _ _ ?i1 ?n1 _ _ ?q5 ?q6 _ _ ?q1 ?q2 ?q3 ?q4) ?B ?F ?X ?T ?N ?ck ?pre ?dp ?hu ?_; (case B => k_asm); (case F => k_asm); (case X => k_asm); (case T => k_asm); (case N => k_asm); (case ck => exact rfl); (case pre => (first | exact News.isList (by k_asm) (by k_mem) | exact isList_kept (by k_asm) (by k_asm) | exact isList_kept (by k_asm) (isList_kept (by k_asm) (by k_asm)) | exact isList_kept (by k_asm) (isList_kept (by k_asm) (isList_kept (by k_asm) (by k_asm))))); (case i1 => first | exact IntsAre.cons _ _ IntsAre.nil | l_ints); (case n1 => first | assumption | decide | omega | (simp only [List.length_append, List.length_cons, List.length_nil, List.length_take, List.length_drop, List.length_map, rangeKs_length] at *; omega)); (case q5 => omega); (case q6 => omega); (case q1 => assumption); (case q2 => assumption); (case q3 => k_extra "lim"); (case q4 => omega); (case dp => first | omega | ktr_room); (case hu => first | omega | ktr_units); k_whole; intro r' vs' n' ns' h' tk' F' N' l1' i1' p1'; clear l1'; (try dsimp only at p1'); (try ((with_reducible have pa' := And.left p1'); (with_reducible have pb' := And.right p1'); clear p1')); (try k_sweep)))
  k_with "lim" => first
    | with_reducible exact Num.lim (by assumption)
    | with_reducible assumption
  have kf : True ∨ (PySem.Challenge.rw_xm0384_01.row.prog = PySem.Challenge.rw_xm0384_01.row.prog ∧ hd.heap_1 = hd.heap_1) := by k_fill; exact .inl trivial
  clear kf
  refine' says_of (binds := [(Str.ofString "rest", .ref a_l), (Str.ofString "coin", .int c c_t), (Str.ofString "n", .int n n_t), (Str.ofString "w", .int w w_t)]) ?hb ?ho ?hc ?hbi ?hl ?h1 ?h2 ?h3 ?h4 ?h5
  rotate_left
  case ho => k_is
  case hc => k_is
  case hbi => exact fun s => BindsTo.of_eq rfl
  case hl => exact locs rfl
  case h1 => exact rfl
  case h2 => exact rfl
  case h3 => exact rfl
  case h4 => decide
  case h5 => decide
  unfold Body
  intro mean mg mb dp un gd outer A₀ base g h L s tk B F N X T hpre hdp hun
  k_fold
  k_steps
  all_goals first | ((rename ((false == decide _) = true) => hz); exact absurd hz (by rw [decide_eq_true (by omega)]; decide)) | skip
  all_goals (try dsimp only)
  all_goals (try (k_unfold; dsimp only))
  all_goals ((rename News _ _ _ _ => nE); (try simp only [List.push_toArray] at nE))
  all_goals (refine Ends.intro (by assumption) nE ⟨_, _, _, _, rfl, by k_mem, by k_intsEnd, ?_⟩)
  all_goals (dsimp only; constructor <;> assumption)
end
section
open PySem PySem.W PySem.Calls PyProof.Rows PySem.Spec
theorem whlIf_case {x n : Int} (e : Int) (he : x = e) {T F : Prop} (h1 : e < n → T) (h2 : ¬ e < n → F) : WhlIf (decide (x < n)) T F := by
  subst he
  by_cases h : x < n
  · exact WhlIf.yes (decide_eq_true h) (h1 h)
  · exact WhlIf.no (decide_eq_false h) (h2 h)
theorem whlIf_no {x n : Int} (e : Int) (he : x = e) (h : ¬ e < n) {T F : Prop} (h2 : F) : WhlIf (decide (x < n)) T F := by
  subst he
  exact WhlIf.no (decide_eq_false h) h2
theorem whlIf_yes {x n : Int} (e : Int) (he : x = e) (h : e < n) {T F : Prop} (h2 : T) : WhlIf (decide (x < n)) T F := by
  subst he
  exact WhlIf.yes (decide_eq_true h) h2
theorem gen_toks {α : Type} {M : Model} {A : Around} {t : Sem α} {Q : α → Shared → Prop} {E : Value → Shared → Prop} {h : Heap} {g : Array GenState} {d : Drawn} {o : OsState} {X : Nat} (k : ∀ n, wpAny M A t Q E ⟨h, g, d, n, o⟩) : wpAny M A t Q E ⟨h, g, d, X, o⟩ := k X
theorem pow2 {prog : Program} {w : World} {A : Around} {E Q : Value → Shared → Prop} {s : Shared} {x : Int} {t u : Tok} (e : Int) (he : x = e) (h0 : 0 ≤ e) (h1 : e ≤ 1000) (h : Q (.int (2 ^ e.toNat) s.toks) { s with toks := s.toks + 1 }) : wpAny (model prog w) A (binaryOp .Pow (.int 2 t) (.int x u)) Q E s := by
  subst he
  exact pow_int_small h0 (by omega) (by decide) h
theorem corn_says (w_ : World) (n : Int) (n_t : Tok) (n_0 : 5 ≤ n) (n_1 : n ≤ 8) (w : Int) (w_t : Tok) (w_0 : 8 ≤ w) (w_1 : w ≤ 12) :
    Says 8 w_ 217 [.int n n_t, .int w w_t] (fun _ => True) (RetP fun ns => Num (2 ^ w.toNat) (cornV (2 ^ w.toNat) n % (2 ^ w.toNat) ^ n.toNat) ns) := by
  w_top off
  k_with_none
  k_with "call ref" => (k_here; k_dflt (refine' says_list (lawlimbs_says _ _ _ ?q1 ?q2 _ _ ?q3 ?q4) ?B ?F ?X ?T ?N ?ck ?pre ?dp ?hu ?_; (case B => k_asm); (case F => k_asm); (case X => k_asm); (case T => k_asm); (case N => k_asm); (case ck => exact rfl); (case pre => trivial); (case q1 => k_extra "lim"); (case q2 => k_extra "lim"); (case q3 => assumption); (case q4 => assumption); (case dp => first | omega | ktr_room); (case hu => first | omega | ktr_units); k_whole; intro r' vs' n' ns' h' tk' F' N' l1' i1' p1'; clear l1'; (try dsimp only at p1'); (try ((with_reducible have pa' := And.left p1'); (with_reducible have pb' := And.right p1'); clear p1')); (try k_sweep)))
  k_with "WhlIf" => refine hold ?_
  k_with "execs cons" => (k_here; (with_reducible show wpAny _ _ _ _ _ (Shared.mk _ _ _ (_ + 1) _)); with_reducible refine gen_toks ?_; intro tk')
  k_with "execs nil" => (k_here; (with_reducible show wpAny _ _ _ _ _ (Shared.mk _ _ _ (_ + 1) _)); with_reducible refine gen_toks ?_; intro tk')
  k_with "binaryOp Pow int int" => refine hold ?_
  k_with "lim" => first
    | with_reducible exact corn_lim0 _ _
    | with_reducible exact corn_lim1 _ (by assumption)
  have kf : True ∨ (PySem.Challenge.rw_xm0384_01.row.prog = PySem.Challenge.rw_xm0384_01.row.prog ∧ hd.heap_1 = hd.heap_1) := by k_fill; exact .inl trivial
  clear kf
  refine' says_of (binds := [(Str.ofString "n", .int n n_t), (Str.ofString "w", .int w w_t)]) ?hb ?ho ?hc ?hbi ?hl ?h1 ?h2 ?h3 ?h4 ?h5
  rotate_left
  case ho => k_is
  case hc => k_is
  case hbi => exact fun s => BindsTo.of_eq rfl
  case hl => exact locs rfl
  case h1 => exact rfl
  case h2 => exact rfl
  case h3 => exact rfl
  case h4 => decide
  case h5 => decide
  unfold Body
  intro mean mg mb dp un gd outer A₀ base g h L s tk B F N X T hpre hdp hun
  obtain ⟨wn0, wn1⟩ := wn_bounds w_0 w_1 n_0 n_1
  k_with "exec While Compare cons nil" => refine hold ?_
  k_with "exec While" => refine hold ?_
  k_fold
  k_steps
  refine unhold ?_
  k_dflt (refine whl_start 100 ?_)
  k_steps
  refine unhold ?_
  refine whlIf_yes 1 (by decide) (by omega) ?_
  k_steps
  refine unhold ?_
  refine pow2 (w * 1) rfl (by omega) (by omega) ?_
  k_steps
  refine unhold ?_
  refine pow2 (w * 2) rfl (by omega) (by omega) ?_
  k_steps
  refine unhold ?_
  refine whlIf_case 5 (by decide) (fun hc => ?_) (fun hc => ?_)
  · k_steps
    refine unhold ?_
    refine pow2 (w * 5) rfl (by omega) (by omega) ?_
    k_steps
    refine unhold ?_
    refine pow2 (w * 7) rfl (by omega) (by omega) ?_
    k_steps
    refine unhold ?_
    refine whlIf_no 12 (by decide) (by omega) ?_
    k_steps
    refine unhold ?_
    refine pow2 (w * n) rfl (by omega) (by omega) ?_
    k_steps
    all_goals (try dsimp only)
    all_goals (try (k_unfold; dsimp only))
    all_goals ((rename News _ _ _ _ => nE); (try simp only [List.push_toArray] at nE))
    all_goals (refine Ends.intro (by assumption) nE ⟨_, _, _, _, rfl, by k_mem, by k_intsEnd, ?_⟩)
    all_goals with_reducible exact corn_f1 w_0 n_0 hc (by assumption)
  · k_steps
    refine unhold ?_
    refine pow2 (w * n) rfl (by omega) (by omega) ?_
    k_steps
    all_goals (try dsimp only)
    all_goals (try (k_unfold; dsimp only))
    all_goals ((rename News _ _ _ _ => nE); (try simp only [List.push_toArray] at nE))
    all_goals (refine Ends.intro (by assumption) nE ⟨_, _, _, _, rfl, by k_mem, by k_intsEnd, ?_⟩)
    all_goals with_reducible exact corn_f2 w_0 n_0 hc (by assumption)
end
section
open PySem PySem.W PySem.Calls PyProof.Rows PySem.Spec
theorem handed_says (w : World) (pa pi : Addr) (vi : List Value) (xi : List Int) (ki kq : Nat) (q : Int) (tq : Tok) (mn : Int) (tm : Tok) (hi : IntsAre vi xi) (hxi : xi.length < 2 ^ 20) (hq : 0 ≤ q) (hmn : 0 < mn)
    {mean : ExcName → Option Value} {mg mb : Str → Option Value} {dp un : Nat} {gd : Option (List Code)} {cn : Str} {cs : Scope} {a : Addr} {ccd : Value} {cl : List (Str × Addr)} {outer : List Env} {A₀ : Around} {base h₀ : Heap} {L : Addr} {m : Str → Option Value} {s : Shared} {news : List (Addr × Obj)} {G : Obj → List (Addr × Obj)}
    {Q E : Value → Shared → Prop} (B : Below A₀ base outer h₀) (F : Fr h₀ L s.heap m) (X : (hd.heap_1 w.params).In h₀) (T : Top hd.view_1 (looseW hd.view_1 []) mean mg mb h₀) (N : News h₀ L s.heap news) (U : UpdF pa (listOf [.int q tq, .ref pi].toArray kq) news G) (hck : cs.kind = .function)
    (hp : (pi, listOf vi.toArray ki) ∈ news) (hne : pi ≠ pa) (hdp : dp + 4 < recursionLimit) (hu : un + 8 * 4 < cLine)
    (ret : ∀ x t tq' h' tk', 0 ≤ x → x < mn → Fr h₀ L h' m → News h₀ L h' (G (listOf [.int (q + 1) tq', .ref pi].toArray kq)) → Q (.int x t) { s with heap := h', toks := tk' }) :
    wpAny (model PySem.Challenge.rw_xm0384_01.row.prog w) (ktrTop dp un gd cn cs L a ccd cl outer) (call (.ref 182) [.ref pa, .int mn tm]) Q E s := by
  w_top off
  k_with_none
  have kf : True ∨ (PySem.Challenge.rw_xm0384_01.row.prog = PySem.Challenge.rw_xm0384_01.row.prog ∧ hd.heap_1 = hd.heap_1) := by k_fill; exact .inl trivial
  clear kf
  refine' says_ofM (binds := [(Str.ofString "purse", .ref pa), (Str.ofString "many", .int mn tm)]) ?hb ?ho ?hc ?hbi ?hl ?h1 ?h2 ?h3 ?h4 ?h5 B F X T N U hck (pre := fun h => h.IsList pi vi.toArray) (fun g hg => ⟨_, hg _ _ (N _ hp).1 hne, rfl, _, rfl⟩) hdp hu (ret := fun o' v => ∃ x t tq', v = .int x t ∧ 0 ≤ x ∧ x < mn ∧ o' = listOf [.int (q + 1) tq', .ref pi].toArray kq) (fun v o' h' tk' F' N' r => by obtain ⟨x, t, tq', rfl, h0, h1, rfl⟩ := r; exact ret x t tq' h' tk' h0 h1 F' N')
  rotate_left
  case ho => k_is
  case hc => k_is
  case hbi => exact fun s => BindsTo.of_eq rfl
  case hl => exact locs rfl
  case h1 => exact rfl
  case h2 => exact rfl
  case h3 => exact rfl
  case h4 => decide
  case h5 => decide
  unfold BodyM
  clear hdp hu ret B F X T N U hck hp hne
  intro mean mg mb dp un gd outer A₀ base g h L s tk B F N X T hpre hdp hun
  k_fold
  k_steps
  all_goals (try dsimp only)
  all_goals (try (k_unfold; dsimp only))
  all_goals (refine EndsM.intro (by assumption) (by assumption) (by k_mem) ⟨_, _, _, rfl, ?_, ?_, rfl⟩)
  all_goals first
    | exact Int.fmod_nonneg_of_pos _ hmn
    | exact Int.fmod_lt_of_pos _ hmn
end
section
open PySem PySem.W PySem.Calls PyProof.Rows PySem.Spec
theorem num_limbs {B v : Int} {xs : List Int} (h : Num B v xs) : Limbs B xs := h.1
noncomputable def T1L (w n : Int) (i : Nat) (xr xw : List Int) : Prop := T1 w.toNat n.toNat i xr xw ∧ xr.length ≤ 8 ∧ xw.length = n.toNat
noncomputable def T2L (w n : Int) (i : Nat) (xr xw : List Int) : Prop := Num (2 ^ w.toNat) (rIter (2 ^ w.toNat) n.toNat i) xr ∧ xr.length ≤ 8 ∧ xw = wIter n.toNat i
theorem start_row {n : Int} (hn : 5 ≤ n) : [1] ++ (List.replicate (n - 1).toNat [(0 : Int)]).flatten = 1 :: List.replicate (n.toNat - 1) 0 := by
  rw [mul_zeros, show (n - 1).toNat = n.toNat - 1 by omega]; rfl
theorem T1L_0 {w n : Int} (hw : 8 ≤ w) (hn : 5 ≤ n) : T1L w n 0 [1] ([1] ++ (List.replicate (n - 1).toNat [(0 : Int)]).flatten) := by
  rw [start_row hn]
  exact ⟨T1_0 hw _ _ (by omega), by decide, by simp; omega⟩
theorem T2L_0 {w n : Int} (hw : 8 ≤ w) (hn : 5 ≤ n) : T2L w n 0 [1] ([1] ++ (List.replicate (n - 1).toNat [(0 : Int)]).flatten) := by
  rw [start_row hn]
  have := base_ge hw
  exact ⟨⟨limbs_one (by decide) (by omega), by simp [val, rIter], by simp⟩, by decide, rfl⟩
theorem T2L_next {w n : Int} {i : Nat} {xr xw nr nw : List Int} (hn : 5 ≤ n) (hn1 : n ≤ 8) (h : T2L w n i xr xw) (hnw : nw = waysK xw (1 + (i : Int)).toNat (xw.length - (1 + (i : Int)).toNat))
    (hnr : Num (2 ^ w.toNat) (((2 ^ w.toNat) ^ n.toNat - ((2 ^ w.toNat) ^ (1 + (i : Int)).toNat * rIter (2 ^ w.toNat) n.toNat i - rIter (2 ^ w.toNat) n.toNat i) % (2 ^ w.toNat) ^ n.toNat) % (2 ^ w.toNat) ^ n.toNat) nr) (hl : nr.length ≤ n.toNat) : T2L w n (i + 1) nr nw := by
  have e : (1 + (i : Int)).toNat = i + 1 := by omega
  obtain ⟨h1, h2, h3⟩ := h
  rw [e] at hnw hnr
  refine ⟨hnr, by omega, ?_⟩
  rw [hnw, h3]
  rfl
theorem T2L_row {w n : Int} {i : Nat} {xr xw : List Int} (hw : 8 ≤ w) (hn : 5 ≤ n) (h : T2L w n i xr xw) : Num (2 ^ w.toNat) (rIter (2 ^ w.toNat) n.toNat i) xr ∧ xr.length ≤ 8 ∧ xw.length = n.toNat ∧ rIter (2 ^ w.toNat) n.toNat i * val (2 ^ w.toNat) xw % (2 ^ w.toNat) ^ n.toNat = 1 := by
  refine ⟨h.1, h.2.1, ?_⟩
  rw [h.2.2]
  exact ⟨wIter_length _ (by omega) _, iter_inv hw _ (by omega) _⟩
theorem T2L_corn {w n : Int} {cnt : Nat} {xr xw ns : List Int} (hw : 8 ≤ w) (hw1 : w ≤ 12) (hn : 5 ≤ n) (hn1 : n ≤ 8) (hc : cnt = (n - 1).toNat) (h : T2L w n cnt xr xw) (hs : Num (2 ^ w.toNat) (cornV (2 ^ w.toNat) n % (2 ^ w.toNat) ^ n.toNat) ns) : xr = ns := by
  have e : cnt = n.toNat - 1 := by omega
  have hB := base_ge hw
  obtain ⟨h1, _, _⟩ := h
  rw [e, rIter_corn w.toNat n.toNat (by omega) (by omega) (by omega) (by omega), show ((n.toNat : Nat) : Int) = n by omega] at h1
  exact num_unique (B := 2 ^ w.toNat) (by omega) h1 hs
theorem T2L_inv {w n : Int} {cnt : Nat} {xr xw ns : List Int} (hw : 8 ≤ w) (hw1 : w ≤ 12) (hn : 5 ≤ n) (hn1 : n ≤ 8) (hc : cnt = (n - 1).toNat) (h : T2L w n cnt xr xw) (hx : ∃ X, Num (2 ^ w.toNat) X ns ∧ InvLo w.toNat (val (2 ^ w.toNat) xr) n X) : ns = xw := by
  have e : cnt = n.toNat - 1 := by omega
  have hB := base_ge hw
  obtain ⟨_, _, hl, hv⟩ := T2L_row hw hn h
  obtain ⟨h1, _, h3⟩ := h
  obtain ⟨X, hX, i1, i2, i3⟩ := hx
  obtain ⟨s1, s2⟩ := wIter_small n.toNat (by omega) (by omega)
  rw [← e, ← h3] at s1 s2
  have hlim : Limbs (2 ^ w.toNat) xw := fun x hx => by have := s1 x hx; omega
  have b := val_bound (B := 2 ^ w.toNat) (by omega) hlim
  rw [hl] at b
  rw [h1.2.1] at i3
  have : X = val (2 ^ w.toNat) xw := mod_unique i3 hv i1 i2 b.1 b.2
  rw [this] at hX
  exact num_unique (B := 2 ^ w.toNat) (by omega) hX ⟨hlim, rfl, s2⟩
theorem go : PySem.Challenge.rw_xm0384_01.Holds := by
  w_on
  o_law
  refine holds_open (q := hd.view_1) (loose := []) (Xt := xt) (XP := XL hd.view_1 []) left (Hook.of (kHook hd.heap_1 (2 :: 3 :: 15 :: 22 :: 23 :: 24 :: 25 :: 28 :: 35 :: 36 :: 37 :: 40 :: 47 :: 48 :: 49 :: 52 :: 54 :: 55 :: 57 :: 58 :: 59 :: 61 :: 62 :: 64 :: 65 :: 66 :: 68 :: 69 :: 71 :: 72 :: 73 :: 75 :: 76 :: 78 :: 79 :: 80 :: 82 :: 83 :: 85 :: 86 :: 87 :: 89 :: 90 :: 92 :: 93 :: 94 :: 96 :: 97 :: 99 :: 100 :: 101 :: 103 :: 104 :: 106 :: 107 :: 108 :: 110 :: 111 :: 113 :: 114 :: 115 :: 117 :: 118 :: 120 :: 121 :: 122 :: 125 :: 126 :: 127 :: 129 :: 130 :: 132 :: 133 :: 134 :: 136 :: 137 :: 139 :: 140 :: 141 :: 143 :: 144 :: 146 :: 147 :: 148 :: 150 :: 151 :: 153 :: 154 :: 155 :: 157 :: 158 :: 160 :: 161 :: 162 :: 164 :: 165 :: 167 :: 168 :: 169 :: 171 :: 172 :: 174 :: 175 :: 176 :: 178 :: 179 :: 181 :: 182 :: 183 :: 185 :: 186 :: 188 :: 189 :: 190 :: 192 :: 193 :: 195 :: 196 :: 197 :: 199 :: 200 :: 202 :: 203 :: 204 :: 206 :: 207 :: 209 :: 210 :: 211 :: 213 :: 214 :: 216 :: 217 :: 218 :: 221 :: 222 :: []) (fun _ => by kernel_rfl))) (Hook.keeps (kHook hd.heap_1 (2 :: 3 :: 15 :: 22 :: 23 :: 24 :: 25 :: 28 :: 35 :: 36 :: 37 :: 40 :: 47 :: 48 :: 49 :: 52 :: 54 :: 55 :: 57 :: 58 :: 59 :: 61 :: 62 :: 64 :: 65 :: 66 :: 68 :: 69 :: 71 :: 72 :: 73 :: 75 :: 76 :: 78 :: 79 :: 80 :: 82 :: 83 :: 85 :: 86 :: 87 :: 89 :: 90 :: 92 :: 93 :: 94 :: 96 :: 97 :: 99 :: 100 :: 101 :: 103 :: 104 :: 106 :: 107 :: 108 :: 110 :: 111 :: 113 :: 114 :: 115 :: 117 :: 118 :: 120 :: 121 :: 122 :: 125 :: 126 :: 127 :: 129 :: 130 :: 132 :: 133 :: 134 :: 136 :: 137 :: 139 :: 140 :: 141 :: 143 :: 144 :: 146 :: 147 :: 148 :: 150 :: 151 :: 153 :: 154 :: 155 :: 157 :: 158 :: 160 :: 161 :: 162 :: 164 :: 165 :: 167 :: 168 :: 169 :: 171 :: 172 :: 174 :: 175 :: 176 :: 178 :: 179 :: 181 :: 182 :: 183 :: 185 :: 186 :: 188 :: 189 :: 190 :: 192 :: 193 :: 195 :: 196 :: 197 :: 199 :: 200 :: 202 :: 203 :: 204 :: 206 :: 207 :: 209 :: 210 :: 211 :: 213 :: 214 :: 216 :: 217 :: 218 :: 221 :: 222 :: []) (fun _ => by kernel_rfl))) (fun s e => xl_of s (Bool.and_eq_true_iff.mp e).1) XL.keeps (by rfl) (by rfl) (by rfl) (fun s e => recFacts_of (Bool.and_eq_true_iff.mp e).2) (by rfl) (by assumption) (by decide +kernel) ⟨rfl, rfl, rfl, rfl, rfl, by decide +kernel⟩ ?hw ?hc
  case hw => w_witness2
  (rename (_ = true) => hsaid); clear hsaid
  w_top off
  k_with_none
  k_with "call ref" => refine hold ?_
  k_with "call ref" => (k_here; k_dflt (refine' handed_says _ _ _ _ _ _ _ _ _ _ _ ?hi ?hx ?hq ?hm ?B ?F ?X ?T ?N ?U ?ck ?hp ?hne ?dp ?hu ?_; (case B => k_asm); (case F => k_asm); (case X => k_asm); (case T => k_asm); (case N => k_asm); (case ck => exact rfl); (case U => k_updF); (case hp => k_mem); (case hi => l_ints); (case hx => first | assumption | (simp only [List.length_map, List.length_take]; omega)); (case hq => omega); (case hm => first | decide | omega); (case hne => k_ne); (case dp => first | ktr_room | omega); (case hu => first | ktr_units | omega); k_whole); intro hx' ht' htq' h' tk' hx0' hx1' F' N'; (try dsimp only at N'); (try k_sweep))
  k_with "call ref" => (k_here; k_dflt (refine' says_list (less_says _ _ _ _ ?i1 ?n1 _ _ ?q1 ?q2 _ _ ?q3 ?q4 _ _ ?q5 ?q6 ?q7 ?q8 ?q9 ?q10 ?q11 ?q12) ?B ?F ?X ?T ?N ?ck ?pre ?dp ?hu ?_; (case B => k_asm); (case F => k_asm); (case X => k_asm); (case T => k_asm); (case N => k_asm); (case ck => exact rfl); (case pre => (first | exact News.isList (by k_asm) (by k_mem) | exact isList_kept (by k_asm) (by k_asm) | exact isList_kept (by k_asm) (isList_kept (by k_asm) (by k_asm)) | exact isList_kept (by k_asm) (isList_kept (by k_asm) (isList_kept (by k_asm) (by k_asm))))); (case i1 => first | exact IntsAre.cons _ _ IntsAre.nil | l_ints); (case n1 => first | assumption | decide | omega | (simp only [List.length_append, List.length_cons, List.length_nil, List.length_take, List.length_drop, List.length_map, rangeKs_length] at *; omega)); (case q1 => omega); (case q2 => omega); (case q3 => omega); (case q4 => omega); (case q5 => omega); (case q6 => omega); (case q7 => k_extra "lim"); (case q8 => assumption); (case q9 => k_extra "cw"); (case q10 => k_extra "cw"); (case q11 => k_extra "cw"); (case q12 => k_extra "gt"); (case dp => first | ktr_room | omega); (case hu => first | ktr_units | omega); k_whole; intro r' vs' n' ns' h' tk' F' N' l1' i1' p1'; (try simp only [AllNe, and_true] at l1'); (try dsimp only at p1'); (try ((with_reducible have pa' := And.left p1'); (with_reducible have pb' := And.right p1'); clear p1')); (try k_sweep)))
  k_with "call ref" => (k_here; k_dflt (refine' says_list (ways_says _ _ _ _ ?i1 ?n1 _ _ ?q1 ?q2) ?B ?F ?X ?T ?N ?ck ?pre ?dp ?hu ?_; (case B => k_asm); (case F => k_asm); (case X => k_asm); (case T => k_asm); (case N => k_asm); (case ck => exact rfl); (case pre => (first | exact News.isList (by k_asm) (by k_mem) | exact isList_kept (by k_asm) (by k_asm) | exact isList_kept (by k_asm) (isList_kept (by k_asm) (by k_asm)) | exact isList_kept (by k_asm) (isList_kept (by k_asm) (isList_kept (by k_asm) (by k_asm))))); (case i1 => first | exact IntsAre.cons _ _ IntsAre.nil | l_ints); (case n1 => first | assumption | decide | omega | (simp only [List.length_append, List.length_cons, List.length_nil, List.length_take, List.length_drop, List.length_map, rangeKs_length] at *; omega)); (case q1 => omega); (case q2 => omega); (case dp => first | ktr_room | omega); (case hu => first | ktr_units | omega); k_whole; intro r' vs' n' ns' h' tk' F' N' l1' i1' p1'; (try simp only [AllNe, and_true] at l1'); (try dsimp only at p1'); (try ((with_reducible have pa' := And.left p1'); (with_reducible have pb' := And.right p1'); clear p1')); (try k_sweep)))
  k_with "call ref" => (k_here; k_dflt (refine' says_list (inv_says _ _ _ _ ?i1 ?n1 _ _ ?q1 ?q2 _ _ ?q3 ?q4 ?q5 ?q6 ?q7) ?B ?F ?X ?T ?N ?ck ?pre ?dp ?hu ?_; (case B => k_asm); (case F => k_asm); (case X => k_asm); (case T => k_asm); (case N => k_asm); (case ck => exact rfl); (case pre => (first | exact News.isList (by k_asm) (by k_mem) | exact isList_kept (by k_asm) (by k_asm) | exact isList_kept (by k_asm) (isList_kept (by k_asm) (by k_asm)) | exact isList_kept (by k_asm) (isList_kept (by k_asm) (isList_kept (by k_asm) (by k_asm))))); (case i1 => first | exact IntsAre.cons _ _ IntsAre.nil | l_ints); (case n1 => first | assumption | decide | omega | (simp only [List.length_append, List.length_cons, List.length_nil, List.length_take, List.length_drop, List.length_map, rangeKs_length] at *; omega)); (case q1 => omega); (case q2 => omega); (case q3 => omega); (case q4 => omega); (case q5 => k_extra "i1"); (case q6 => k_extra "i2"); (case q7 => k_extra "i3"); (case dp => first | ktr_room | omega); (case hu => first | ktr_units | omega); k_whole; intro r' vs' n' ns' h' tk' F' N' l1' i1' p1'; clear l1'; (try dsimp only at p1'); (try ((with_reducible have pa' := And.left p1'); (with_reducible have pb' := And.right p1'); clear p1')); (try k_sweep)))
  k_with "call ref" => (k_here; k_dflt (refine' says_list (trimmed_says _ _ _ _ ?i1 ?n1) ?B ?F ?X ?T ?N ?ck ?pre ?dp ?hu ?_; (case B => k_asm); (case F => k_asm); (case X => k_asm); (case T => k_asm); (case N => k_asm); (case ck => exact rfl); (case pre => (first | exact News.isList (by k_asm) (by k_mem) | exact isList_kept (by k_asm) (by k_asm) | exact isList_kept (by k_asm) (isList_kept (by k_asm) (by k_asm)) | exact isList_kept (by k_asm) (isList_kept (by k_asm) (isList_kept (by k_asm) (by k_asm))))); (case i1 => first | exact IntsAre.cons _ _ IntsAre.nil | l_ints); (case n1 => first | assumption | decide | omega | (simp only [List.length_append, List.length_cons, List.length_nil, List.length_take, List.length_drop, List.length_map, rangeKs_length] at *; omega)); (case dp => first | ktr_room | omega); (case hu => first | ktr_units | omega); k_whole; intro r' vs' n' ns' h' tk' F' N' l1' i1' p1'; clear l1'; (try dsimp only at p1'); (try ((with_reducible have pa' := And.left p1'); (with_reducible have pb' := And.right p1'); clear p1')); (try k_sweep)))
  k_with "call ref" => (k_here; k_dflt (refine' says_list (corn_says _ _ _ ?q1 ?q2 _ _ ?q3 ?q4) ?B ?F ?X ?T ?N ?ck ?pre ?dp ?hu ?_; (case B => k_asm); (case F => k_asm); (case X => k_asm); (case T => k_asm); (case N => k_asm); (case ck => exact rfl); (case pre => trivial); (case q1 => omega); (case q2 => omega); (case q3 => omega); (case q4 => omega); (case dp => first | ktr_room | omega); (case hu => first | ktr_units | omega); k_whole; intro r' vs' n' ns' h' tk' F' N' l1' i1' p1'; clear l1'; (try dsimp only at p1'); (try ((with_reducible have pa' := And.left p1'); (with_reducible have pb' := And.right p1'); clear p1')); (try k_sweep)))
  k_with "pyIter ref" => refine hold ?_
  k_go0
  (all_goals try k_fold)
  k_steps
  refine unhold ?_
  (rename Fr _ _ _ _ => lF); (rename News _ _ _ _ => lN); (rename IsRange _ _ _ _ _ _ _ _ => lR)
  refine' loop1 T1L ?hh lR (small_one (by omega) (by omega) (by omega) (by omega)) (rangeSize_nat _ _) lF lN ?g1 ?g2 ?g3 ?g4 ?hq ?v1 ?v2 ?n1 ?n2 ?n3 ?hT ?hm ?turn ?done
  case hh => rfl
  case hm => kst_all
  case g1 => k_mem
  case g2 => k_mem
  case g3 => k_mem
  case g4 => k_mem
  case hq => omega
  case v1 => first | exact IntsAre.cons _ _ IntsAre.nil | l_ints
  case v2 => l_ints
  case n1 => k_ne
  case n2 => k_ne
  case n3 => k_ne
  case hT => exact T1L_0 (by omega) (by omega)
  case turn =>
    intro i t q tq kq ra vr xr kr wa vw xw kw m₁ h tk I oI hi hq hvr hvw n1 n2 n3 e1 e2 e3 e4 hT F1 N1
    obtain ⟨⟨⟨R, hR, hRV⟩, h0, hs⟩, hrl, hwl⟩ := hT
    obtain ⟨rp, rl, _⟩ := odd_of (by omega) (by omega) hR hRV
    k_with "lim" => first
      | with_reducible exact Num.lim (by assumption)
      | with_reducible assumption
    k_with "cw" => first
      | with_reducible exact (cw_facts (by omega) (by omega)).1
      | with_reducible exact (cw_facts (by omega) (by omega)).2.1
      | with_reducible exact (cw_facts (by omega) (by omega)).2.2
    k_with "gt" => with_reducible exact shift_gt (by omega) rp (by omega)
    k_with "i1" => with_reducible exact num_limbs (by assumption)
    k_with "i2" => with_reducible exact (odd_of (by omega) (by omega) (by assumption) (turn_inv (by omega) (by omega) hwl (by omega) hRV (by assumption))).2.1
    k_with "i3" => with_reducible exact (odd_of (by omega) (by omega) (by assumption) (turn_inv (by omega) (by omega) hwl (by omega) hRV (by assumption))).2.2
    (repeat (first | ((rename (@LT.lt Nat _ _ _ ∧ _) => hz); clear hz) | ((rename (@LT.lt Addr _ _ _ ∧ _) => hz); clear hz)))
    k_fold
    k_steps
    · (rename Fr _ _ _ _ => lF); (rename News _ _ _ _ => lN)
      dsimp only [JPost]
      refine' J1_end lF lN ?g0 ?g1 ?g2 ?g3 ?g4 ?hq ?v1 ?v2 ?n1 ?n2 e1 e2 ?e3 ?e4 ?hT ?hm
      case hm => kst_all
      case g0 => k_mem
      case g1 => k_mem
      case g2 => k_mem
      case g3 => k_mem
      case g4 => k_mem
      case hq => omega
      case v1 => assumption
      case v2 => assumption
      case n1 => k_ne
      case n2 => k_ne
      case e3 => k_ne
      case e4 => k_ne
      case hT =>
        (rename (_ = waysK _ _ _) => hnw)
        exact ⟨T1_next (by omega) (by omega) (by omega) hwl (by omega) hRV h0 hs hnw (by assumption), by omega, by omega⟩
    · (rename (_ = waysK _ _ _) => hnw); (rename (∃ X, _) => hX); (rename (_ = trim _) => hts); (rename ((_ : List Int) ≠ _) => hne)
      exact absurd ((turn_eq (by omega) (by omega) hwl (by omega) hRV h0 hs (by omega) hnw (by assumption) hX).trans hts.symm) hne
  case done =>
    intro m₁ h tk F1 N1
    (repeat (first | ((rename (@LT.lt Nat _ _ _ ∧ _) => hz); clear hz) | ((rename (@LT.lt Addr _ _ _ ∧ _) => hz); clear hz)))
    (try dsimp only)
    k_steps
    refine unhold ?_
    (rename Fr _ _ _ _ => lF); (rename News _ _ _ _ => lN); (rename IsRange _ _ _ _ _ _ _ _ => lR)
    refine' loop2 T2L ?hh lR (small_one (by omega) (by omega) (by omega) (by omega)) (rangeSize_nat _ _) lF lN ?g3 ?g4 ?v1 ?v2 ?hT ?hm ?turn ?done
    case hh => rfl
    case hm => kst_all
    case g3 => k_mem
    case g4 => k_mem
    case v1 => first | exact IntsAre.cons _ _ IntsAre.nil | l_ints
    case v2 => l_ints
    case hT => exact T2L_0 (by omega) (by omega)
    case turn =>
      intro i t ra vr xr kr wa vw xw kw m₁ h tk I oI hi hvr hvw e3 e4 hT F1 N1
      obtain ⟨hR, hrl, hwl, hRV⟩ := T2L_row (by omega) (by omega) hT
      obtain ⟨rp, rl, _⟩ := odd_of (by omega) (by omega) hR hRV
      k_with_none
      k_with "call ref" => refine hold ?_
      k_with "call ref" => (k_here; k_dflt (refine' handed_says _ _ _ _ _ _ _ _ _ _ _ ?hi ?hx ?hq ?hm ?B ?F ?X ?T ?N ?U ?ck ?hp ?hne ?dp ?hu ?_; (case B => k_asm); (case F => k_asm); (case X => k_asm); (case T => k_asm); (case N => k_asm); (case ck => exact rfl); (case U => k_updF); (case hp => k_mem); (case hi => l_ints); (case hx => first | assumption | (simp only [List.length_map, List.length_take]; omega)); (case hq => omega); (case hm => first | decide | omega); (case hne => k_ne); (case dp => first | ktr_room | omega); (case hu => first | ktr_units | omega); k_whole); intro hx' ht' htq' h' tk' hx0' hx1' F' N'; (try dsimp only at N'); (try k_sweep))
      k_with "call ref" => (k_here; k_dflt (refine' says_list (less_says _ _ _ _ ?i1 ?n1 _ _ ?q1 ?q2 _ _ ?q3 ?q4 _ _ ?q5 ?q6 ?q7 ?q8 ?q9 ?q10 ?q11 ?q12) ?B ?F ?X ?T ?N ?ck ?pre ?dp ?hu ?_; (case B => k_asm); (case F => k_asm); (case X => k_asm); (case T => k_asm); (case N => k_asm); (case ck => exact rfl); (case pre => (first | exact News.isList (by k_asm) (by k_mem) | exact isList_kept (by k_asm) (by k_asm) | exact isList_kept (by k_asm) (isList_kept (by k_asm) (by k_asm)) | exact isList_kept (by k_asm) (isList_kept (by k_asm) (isList_kept (by k_asm) (by k_asm))))); (case i1 => first | exact IntsAre.cons _ _ IntsAre.nil | l_ints); (case n1 => first | assumption | decide | omega | (simp only [List.length_append, List.length_cons, List.length_nil, List.length_take, List.length_drop, List.length_map, rangeKs_length] at *; omega)); (case q1 => omega); (case q2 => omega); (case q3 => omega); (case q4 => omega); (case q5 => omega); (case q6 => omega); (case q7 => k_extra "lim"); (case q8 => assumption); (case q9 => k_extra "cw"); (case q10 => k_extra "cw"); (case q11 => k_extra "cw"); (case q12 => k_extra "gt"); (case dp => first | ktr_room | omega); (case hu => first | ktr_units | omega); k_whole; intro r' vs' n' ns' h' tk' F' N' l1' i1' p1'; (try simp only [AllNe, and_true] at l1'); (try dsimp only at p1'); (try ((with_reducible have pa' := And.left p1'); (with_reducible have pb' := And.right p1'); clear p1')); (try k_sweep)))
      k_with "call ref" => (k_here; k_dflt (refine' says_list (ways_says _ _ _ _ ?i1 ?n1 _ _ ?q1 ?q2) ?B ?F ?X ?T ?N ?ck ?pre ?dp ?hu ?_; (case B => k_asm); (case F => k_asm); (case X => k_asm); (case T => k_asm); (case N => k_asm); (case ck => exact rfl); (case pre => (first | exact News.isList (by k_asm) (by k_mem) | exact isList_kept (by k_asm) (by k_asm) | exact isList_kept (by k_asm) (isList_kept (by k_asm) (by k_asm)) | exact isList_kept (by k_asm) (isList_kept (by k_asm) (isList_kept (by k_asm) (by k_asm))))); (case i1 => first | exact IntsAre.cons _ _ IntsAre.nil | l_ints); (case n1 => first | assumption | decide | omega | (simp only [List.length_append, List.length_cons, List.length_nil, List.length_take, List.length_drop, List.length_map, rangeKs_length] at *; omega)); (case q1 => omega); (case q2 => omega); (case dp => first | ktr_room | omega); (case hu => first | ktr_units | omega); k_whole; intro r' vs' n' ns' h' tk' F' N' l1' i1' p1'; (try simp only [AllNe, and_true] at l1'); (try dsimp only at p1'); (try ((with_reducible have pa' := And.left p1'); (with_reducible have pb' := And.right p1'); clear p1')); (try k_sweep)))
      k_with "call ref" => (k_here; k_dflt (refine' says_list (inv_says _ _ _ _ ?i1 ?n1 _ _ ?q1 ?q2 _ _ ?q3 ?q4 ?q5 ?q6 ?q7) ?B ?F ?X ?T ?N ?ck ?pre ?dp ?hu ?_; (case B => k_asm); (case F => k_asm); (case X => k_asm); (case T => k_asm); (case N => k_asm); (case ck => exact rfl); (case pre => (first | exact News.isList (by k_asm) (by k_mem) | exact isList_kept (by k_asm) (by k_asm) | exact isList_kept (by k_asm) (isList_kept (by k_asm) (by k_asm)) | exact isList_kept (by k_asm) (isList_kept (by k_asm) (isList_kept (by k_asm) (by k_asm))))); (case i1 => first | exact IntsAre.cons _ _ IntsAre.nil | l_ints); (case n1 => first | assumption | decide | omega | (simp only [List.length_append, List.length_cons, List.length_nil, List.length_take, List.length_drop, List.length_map, rangeKs_length] at *; omega)); (case q1 => omega); (case q2 => omega); (case q3 => omega); (case q4 => omega); (case q5 => k_extra "i1"); (case q6 => k_extra "i2"); (case q7 => k_extra "i3"); (case dp => first | ktr_room | omega); (case hu => first | ktr_units | omega); k_whole; intro r' vs' n' ns' h' tk' F' N' l1' i1' p1'; clear l1'; (try dsimp only at p1'); (try ((with_reducible have pa' := And.left p1'); (with_reducible have pb' := And.right p1'); clear p1')); (try k_sweep)))
      k_with "call ref" => (k_here; k_dflt (refine' says_list (trimmed_says _ _ _ _ ?i1 ?n1) ?B ?F ?X ?T ?N ?ck ?pre ?dp ?hu ?_; (case B => k_asm); (case F => k_asm); (case X => k_asm); (case T => k_asm); (case N => k_asm); (case ck => exact rfl); (case pre => (first | exact News.isList (by k_asm) (by k_mem) | exact isList_kept (by k_asm) (by k_asm) | exact isList_kept (by k_asm) (isList_kept (by k_asm) (by k_asm)) | exact isList_kept (by k_asm) (isList_kept (by k_asm) (isList_kept (by k_asm) (by k_asm))))); (case i1 => first | exact IntsAre.cons _ _ IntsAre.nil | l_ints); (case n1 => first | assumption | decide | omega | (simp only [List.length_append, List.length_cons, List.length_nil, List.length_take, List.length_drop, List.length_map, rangeKs_length] at *; omega)); (case dp => first | ktr_room | omega); (case hu => first | ktr_units | omega); k_whole; intro r' vs' n' ns' h' tk' F' N' l1' i1' p1'; clear l1'; (try dsimp only at p1'); (try ((with_reducible have pa' := And.left p1'); (with_reducible have pb' := And.right p1'); clear p1')); (try k_sweep)))
      k_with "call ref" => (k_here; k_dflt (refine' says_list (corn_says _ _ _ ?q1 ?q2 _ _ ?q3 ?q4) ?B ?F ?X ?T ?N ?ck ?pre ?dp ?hu ?_; (case B => k_asm); (case F => k_asm); (case X => k_asm); (case T => k_asm); (case N => k_asm); (case ck => exact rfl); (case pre => trivial); (case q1 => omega); (case q2 => omega); (case q3 => omega); (case q4 => omega); (case dp => first | ktr_room | omega); (case hu => first | ktr_units | omega); k_whole; intro r' vs' n' ns' h' tk' F' N' l1' i1' p1'; clear l1'; (try dsimp only at p1'); (try ((with_reducible have pa' := And.left p1'); (with_reducible have pb' := And.right p1'); clear p1')); (try k_sweep)))
      k_with "pyIter ref" => refine hold ?_
      k_with "lim" => first
        | with_reducible exact Num.lim (by assumption)
        | with_reducible assumption
      k_with "cw" => first
        | with_reducible exact (cw_facts (by omega) (by omega)).1
        | with_reducible exact (cw_facts (by omega) (by omega)).2.1
        | with_reducible exact (cw_facts (by omega) (by omega)).2.2
      k_with "gt" => with_reducible exact shift_gt (by omega) rp (by omega)
      (repeat (first | ((rename (@LT.lt Nat _ _ _ ∧ _) => hz); clear hz) | ((rename (@LT.lt Addr _ _ _ ∧ _) => hz); clear hz)))
      k_fold
      k_steps
      (rename Fr _ _ _ _ => lF); (rename News _ _ _ _ => lN)
      dsimp only [JPost]
      refine' J2_end lF lN ?g0 ?g3 ?g4 ?v1 ?v2 ?e3 ?e4 ?hT ?hm
      case hm => kst_all
      case g0 => k_mem
      case g3 => k_mem
      case g4 => k_mem
      case v1 => assumption
      case v2 => assumption
      case e3 => k_ne
      case e4 => k_ne
      case hT =>
        (rename (_ = waysK _ _ _) => hnw)
        exact T2L_next (by omega) (by omega) hT hnw (by assumption) (by assumption)
    case done =>
      intro ra vr xr kr wa vw xw kw m₁ h tk hvr hvw hT F1 N1
      obtain ⟨hR, hrl, hwl, hRV⟩ := T2L_row (by omega) (by omega) hT
      obtain ⟨rp, rl, ro⟩ := odd_of (by omega) (by omega) hR hRV
      k_with_none
      k_with "call ref" => refine hold ?_
      k_with "call ref" => (k_here; k_dflt (refine' handed_says _ _ _ _ _ _ _ _ _ _ _ ?hi ?hx ?hq ?hm ?B ?F ?X ?T ?N ?U ?ck ?hp ?hne ?dp ?hu ?_; (case B => k_asm); (case F => k_asm); (case X => k_asm); (case T => k_asm); (case N => k_asm); (case ck => exact rfl); (case U => k_updF); (case hp => k_mem); (case hi => l_ints); (case hx => first | assumption | (simp only [List.length_map, List.length_take]; omega)); (case hq => omega); (case hm => first | decide | omega); (case hne => k_ne); (case dp => first | ktr_room | omega); (case hu => first | ktr_units | omega); k_whole); intro hx' ht' htq' h' tk' hx0' hx1' F' N'; (try dsimp only at N'); (try k_sweep))
      k_with "call ref" => (k_here; k_dflt (refine' says_list (less_says _ _ _ _ ?i1 ?n1 _ _ ?q1 ?q2 _ _ ?q3 ?q4 _ _ ?q5 ?q6 ?q7 ?q8 ?q9 ?q10 ?q11 ?q12) ?B ?F ?X ?T ?N ?ck ?pre ?dp ?hu ?_; (case B => k_asm); (case F => k_asm); (case X => k_asm); (case T => k_asm); (case N => k_asm); (case ck => exact rfl); (case pre => (first | exact News.isList (by k_asm) (by k_mem) | exact isList_kept (by k_asm) (by k_asm) | exact isList_kept (by k_asm) (isList_kept (by k_asm) (by k_asm)) | exact isList_kept (by k_asm) (isList_kept (by k_asm) (isList_kept (by k_asm) (by k_asm))))); (case i1 => first | exact IntsAre.cons _ _ IntsAre.nil | l_ints); (case n1 => first | assumption | decide | omega | (simp only [List.length_append, List.length_cons, List.length_nil, List.length_take, List.length_drop, List.length_map, rangeKs_length] at *; omega)); (case q1 => omega); (case q2 => omega); (case q3 => omega); (case q4 => omega); (case q5 => omega); (case q6 => omega); (case q7 => k_extra "lim"); (case q8 => assumption); (case q9 => k_extra "cw"); (case q10 => k_extra "cw"); (case q11 => k_extra "cw"); (case q12 => k_extra "gt"); (case dp => first | ktr_room | omega); (case hu => first | ktr_units | omega); k_whole; intro r' vs' n' ns' h' tk' F' N' l1' i1' p1'; (try simp only [AllNe, and_true] at l1'); (try dsimp only at p1'); (try ((with_reducible have pa' := And.left p1'); (with_reducible have pb' := And.right p1'); clear p1')); (try k_sweep)))
      k_with "call ref" => (k_here; k_dflt (refine' says_list (ways_says _ _ _ _ ?i1 ?n1 _ _ ?q1 ?q2) ?B ?F ?X ?T ?N ?ck ?pre ?dp ?hu ?_; (case B => k_asm); (case F => k_asm); (case X => k_asm); (case T => k_asm); (case N => k_asm); (case ck => exact rfl); (case pre => (first | exact News.isList (by k_asm) (by k_mem) | exact isList_kept (by k_asm) (by k_asm) | exact isList_kept (by k_asm) (isList_kept (by k_asm) (by k_asm)) | exact isList_kept (by k_asm) (isList_kept (by k_asm) (isList_kept (by k_asm) (by k_asm))))); (case i1 => first | exact IntsAre.cons _ _ IntsAre.nil | l_ints); (case n1 => first | assumption | decide | omega | (simp only [List.length_append, List.length_cons, List.length_nil, List.length_take, List.length_drop, List.length_map, rangeKs_length] at *; omega)); (case q1 => omega); (case q2 => omega); (case dp => first | ktr_room | omega); (case hu => first | ktr_units | omega); k_whole; intro r' vs' n' ns' h' tk' F' N' l1' i1' p1'; (try simp only [AllNe, and_true] at l1'); (try dsimp only at p1'); (try ((with_reducible have pa' := And.left p1'); (with_reducible have pb' := And.right p1'); clear p1')); (try k_sweep)))
      k_with "call ref" => (k_here; k_dflt (refine' says_list (inv_says _ _ _ _ ?i1 ?n1 _ _ ?q1 ?q2 _ _ ?q3 ?q4 ?q5 ?q6 ?q7) ?B ?F ?X ?T ?N ?ck ?pre ?dp ?hu ?_; (case B => k_asm); (case F => k_asm); (case X => k_asm); (case T => k_asm); (case N => k_asm); (case ck => exact rfl); (case pre => (first | exact News.isList (by k_asm) (by k_mem) | exact isList_kept (by k_asm) (by k_asm) | exact isList_kept (by k_asm) (isList_kept (by k_asm) (by k_asm)) | exact isList_kept (by k_asm) (isList_kept (by k_asm) (isList_kept (by k_asm) (by k_asm))))); (case i1 => first | exact IntsAre.cons _ _ IntsAre.nil | l_ints); (case n1 => first | assumption | decide | omega | (simp only [List.length_append, List.length_cons, List.length_nil, List.length_take, List.length_drop, List.length_map, rangeKs_length] at *; omega)); (case q1 => omega); (case q2 => omega); (case q3 => omega); (case q4 => omega); (case q5 => k_extra "i1"); (case q6 => k_extra "i2"); (case q7 => k_extra "i3"); (case dp => first | ktr_room | omega); (case hu => first | ktr_units | omega); k_whole; intro r' vs' n' ns' h' tk' F' N' l1' i1' p1'; clear l1'; (try dsimp only at p1'); (try ((with_reducible have pa' := And.left p1'); (with_reducible have pb' := And.right p1'); clear p1')); (try k_sweep)))
      k_with "call ref" => (k_here; k_dflt (refine' says_list (trimmed_says _ _ _ _ ?i1 ?n1) ?B ?F ?X ?T ?N ?ck ?pre ?dp ?hu ?_; (case B => k_asm); (case F => k_asm); (case X => k_asm); (case T => k_asm); (case N => k_asm); (case ck => exact rfl); (case pre => (first | exact News.isList (by k_asm) (by k_mem) | exact isList_kept (by k_asm) (by k_asm) | exact isList_kept (by k_asm) (isList_kept (by k_asm) (by k_asm)) | exact isList_kept (by k_asm) (isList_kept (by k_asm) (isList_kept (by k_asm) (by k_asm))))); (case i1 => first | exact IntsAre.cons _ _ IntsAre.nil | l_ints); (case n1 => first | assumption | decide | omega | (simp only [List.length_append, List.length_cons, List.length_nil, List.length_take, List.length_drop, List.length_map, rangeKs_length] at *; omega)); (case dp => first | ktr_room | omega); (case hu => first | ktr_units | omega); k_whole; intro r' vs' n' ns' h' tk' F' N' l1' i1' p1'; clear l1'; (try dsimp only at p1'); (try ((with_reducible have pa' := And.left p1'); (with_reducible have pb' := And.right p1'); clear p1')); (try k_sweep)))
      k_with "call ref" => (k_here; k_dflt (refine' says_list (corn_says _ _ _ ?q1 ?q2 _ _ ?q3 ?q4) ?B ?F ?X ?T ?N ?ck ?pre ?dp ?hu ?_; (case B => k_asm); (case F => k_asm); (case X => k_asm); (case T => k_asm); (case N => k_asm); (case ck => exact rfl); (case pre => trivial); (case q1 => omega); (case q2 => omega); (case q3 => omega); (case q4 => omega); (case dp => first | ktr_room | omega); (case hu => first | ktr_units | omega); k_whole; intro r' vs' n' ns' h' tk' F' N' l1' i1' p1'; clear l1'; (try dsimp only at p1'); (try ((with_reducible have pa' := And.left p1'); (with_reducible have pb' := And.right p1'); clear p1')); (try k_sweep)))
      k_with "i1" => with_reducible exact num_limbs (by assumption)
      k_with "i2" => with_reducible exact rl
      k_with "i3" => with_reducible exact ro
      (repeat (first | ((rename (@LT.lt Nat _ _ _ ∧ _) => hz); clear hz) | ((rename (@LT.lt Addr _ _ _ ∧ _) => hz); clear hz)))
      (try dsimp only)
      k_steps
      · (rename (∃ X, _ ∧ InvLo _ _ _ _) => hX)
        rw [decide_eq_true (T2L_inv (by omega) (by omega) (by omega) (by omega) rfl hT hX)]
        w_end
        refine goodW_bool (by assumption) (by assumption) (raisesW_false ?_) ?_
        · wrow_none_raised
        · wrow_post
      · (rename (¬ xr = _) => hne)
        exact absurd (T2L_corn (by omega) (by omega) (by omega) (by omega) rfl hT (by assumption)) hne
end
end Mine
theorem PySem.Challenge.cw_xm0384_01_holds : PySem.Challenge.rw_xm0384_01.Holds := by
  exact Mine.go
