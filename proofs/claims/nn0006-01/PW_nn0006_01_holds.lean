import PyProof.Rows.All
import Wide.All
import OpenK.AllK
import Wide.FinOn
import Lean
import PySem.Challenge.RW_nn0006_01
set_option Elab.async false
set_option rowWalk.seconds 0
section
open PySem PySem.W PyProof.Rows
namespace Mine
/-- the text without the rows that bind __name__ -/
def vw : Program := view PySem.Challenge.pw_nn0006_01 [1, 2, 3, 4, 5, 7, 8, 9, 10, 11, 12, 13, 14, 15, 16, 18, 19, 20, 21, 22, 23, 24, 25, 26]
set_option maxRecDepth 100000 in
theorem head2 {H : Hook} {d : DefRec} {kwd : List (Str × Expr)}
    (hdef : defOf vw (OpenLaw.row PySem.Challenge.rw_nn0006_01).name = some (d, kwd))
    (hp : (OpenLaw.row PySem.Challenge.rw_nn0006_01).prog.theDef (OpenLaw.row PySem.Challenge.rw_nn0006_01).name = some (d.params, d.body, d.scope))
    (hk : kwWritten? d.params.kwonlyargs d.params.kw_defaults = some kwd)
    (k1 : (OpenLaw.row PySem.Challenge.rw_nn0006_01).wellSaid = true)
    (hw : (OpenLaw.row PySem.Challenge.rw_nn0006_01).toRowW.promised)
    (hc : LeftO (OpenLaw.row PySem.Challenge.rw_nn0006_01).prog vw [] (fun s => xlAt vw [] s && recOk (RowW.records (OpenRow.toRowW (OpenLaw.row PySem.Challenge.rw_nn0006_01))) s) H.obs H.val 2820 ∧
      WalkO vw [] (XL vw []) H.says (OpenLaw.row PySem.Challenge.rw_nn0006_01).toRowW d kwd fun f vs => PySem.call f vs) : (OpenLaw.row PySem.Challenge.rw_nn0006_01).Holds :=
  holds_open hc.1 H.of H.keeps (fun s e => xl_of s (Bool.and_eq_true_iff.mp e).1) XL.keeps hdef hp hk (fun s e => recFacts_of (Bool.and_eq_true_iff.mp e).2) (by rfl) k1 (by decide +kernel) ⟨rfl, rfl, rfl, rfl, rfl, by decide +kernel⟩ hw hc.2
set_option hygiene false in
local macro_rules | `(tactic| o_head $H) => `(tactic| refine Mine.head2 (H := $H) (by rfl) (by rfl) (by rfl) (by first | assumption | decide +kernel) ?hw ?hc)
set_option maxRecDepth 100000 in
set_option maxHeartbeats 8000000 in
open_top hd for PySem.Challenge.rw_nn0006_01
end Mine
end
section
open PySem PySem.W PyProof.Rows
set_option maxRecDepth 100000
set_option maxHeartbeats 8000000
set_option linter.unusedVariables false
namespace Mine
noncomputable def ob (P : Params) (i : Nat) : Obj := ((hd.heap_39 P).lookup i).getD default
noncomputable def bare : Obj → Obj
  | ⟨_, _, .func f, _⟩ => ⟨.none, none, .func { name := f.name, qualname := f.qualname, params := f.params, body := f.body, scope := f.scope, globals := 0, closure := [], defaults := .none, kwdefaults := .none }, #[]⟩
  | o => o
noncomputable def o11_a (P : Params) : Obj := { cls := Value.type "tuple", data := Data.seq #[] }
noncomputable def o12_a (P : Params) : Obj := { cls := Value.none, data := Data.fields #[] }
noncomputable def o13_a (P : Params) : Obj := { cls := Value.type "code", data := Data.fields #[Value.str (Str.ofString "<module>") 182, Value.str (Str.ofString "<module>") 183, Value.str (Str.ofString "/claim/cut.py") 184, Value.int 1 0, Value.int 0 0, Value.int 0 0, Value.int 0 0, Value.int 0 0, Value.ref 11, Value.bool false, Value.int 181 0, Value.ref 12, Value.none, Value.none, Value.none, Value.none, Value.int 185 0, Value.int 1 0, Value.str (Str.ofString "/claim/cut.py") 186] }
noncomputable def o14_a (P : Params) : Obj := { cls := Value.type "frame", slots := #[some (Value.ref 13), some (Value.ref 3), some (Value.ref 3), none, some (Value.str (Str.ofString "__main__") 164), none, some (Value.ref 0)] }
noncomputable def o3_2 (P : Params) : Obj := { cls := Value.type "dict", data := Data.dict #[{ hash := PyData.keyHash P (Str.ofString "__name__"), key := Value.str (Str.ofString "__name__") 165, val := Value.str (Str.ofString "gmp.limbs") 187 }, { hash := PyData.keyHash P (Str.ofString "__doc__"), key := Value.str (Str.ofString "__doc__") 166, val := Value.none }, { hash := PyData.keyHash P (Str.ofString "__package__"), key := Value.str (Str.ofString "__package__") 167, val := Value.none }, { hash := PyData.keyHash P (Str.ofString "__loader__"), key := Value.str (Str.ofString "__loader__") 168, val := Value.builtin "__main__.__loader__#opaque" }, { hash := PyData.keyHash P (Str.ofString "__spec__"), key := Value.str (Str.ofString "__spec__") 169, val := Value.none }, { hash := PyData.keyHash P (Str.ofString "__annotations__"), key := Value.str (Str.ofString "__annotations__") 170, val := Value.ref 6 }, { hash := PyData.keyHash P (Str.ofString "__builtins__"), key := Value.str (Str.ofString "__builtins__") 171, val := Value.ref 4 }, { hash := PyData.keyHash P (Str.ofString "__file__"), key := Value.str (Str.ofString "__file__") 173, val := Value.str (Str.ofString "/claim/cut.py") 172 }, { hash := PyData.keyHash P (Str.ofString "__cached__"), key := Value.str (Str.ofString "__cached__") 174, val := Value.none }, { hash := PyData.keyHash P (Str.ofString "GmpError"), key := Value.str (Str.ofString "GmpError") 208, val := Value.ref 24 }] 10 }
noncomputable def o12_2 (P : Params) : Obj := { cls := Value.none, data := Data.fields #[Value.int 2 0, Value.int 0 0, Value.ref 20] }
noncomputable def o16_2 (P : Params) : Obj := { cls := Value.type "builtin_function_or_method", data := Data.fields #[Value.builtin "type.__prepare__", Value.type "type"] }
noncomputable def o17_2 (P : Params) : Obj := { cls := Value.type "dict", data := Data.dict #[{ hash := PyData.keyHash P (Str.ofString "__module__"), key := Value.str (Str.ofString "__module__") 196, val := Value.str (Str.ofString "gmp.limbs") 187 }, { hash := PyData.keyHash P (Str.ofString "__qualname__"), key := Value.str (Str.ofString "__qualname__") 198, val := Value.str (Str.ofString "GmpError") 197 }, { hash := PyData.keyHash P (Str.ofString "__firstlineno__"), key := Value.str (Str.ofString "__firstlineno__") 200, val := Value.int 2 199 }, { hash := PyData.keyHash P (Str.ofString "__static_attributes__"), key := Value.str (Str.ofString "__static_attributes__") 201, val := Value.ref 22 }] 4 }
noncomputable def o20_2 (P : Params) : Obj := { cls := Value.type "code", data := Data.fields #[Value.str (Str.ofString "GmpError") 191, Value.str (Str.ofString "GmpError") 192, Value.str (Str.ofString "/claim/cut.py") 193, Value.int 2 0, Value.int 0 0, Value.int 0 0, Value.int 0 0, Value.int 0 0, Value.ref 18, Value.bool false, Value.int 181 0, Value.ref 19, Value.none, Value.none, Value.none, Value.none, Value.int 194 0, Value.int 2 0, Value.str (Str.ofString "/claim/cut.py") 195] }
noncomputable def o21_2 (P : Params) : Obj := { cls := Value.type "frame", slots := #[some (Value.ref 20), some (Value.ref 3), some (Value.ref 17), none, some (Value.str (Str.ofString "gmp.limbs") 187), none, some (Value.ref 0)] }
noncomputable def o24_2 (P : Params) : Obj := { cls := Value.type "type", data := Data.cls { name := Str.ofString "GmpError", bases := [Value.type "Exception"], mro := [Value.ref 24, Value.type "Exception", Value.type "BaseException", Value.type "object"], ns := 23, qualname := Str.ofString "GmpError" }, slots := #[some (Value.ref 15), none, some (Value.str (Str.ofString "GmpError") 189), some (Value.str (Str.ofString "GmpError") 197), some (Value.builtin "Exception.__new__"), some (Value.bool true)] }
noncomputable def o26_2 (P : Params) : Obj := { cls := Value.type "super", data := Data.fields #[Value.ref 24, Value.ref 24, Value.ref 24] }
noncomputable def o27_2 (P : Params) : Obj := { cls := Value.type "builtin_function_or_method", data := Data.fields #[Value.builtin "object.__init_subclass__", Value.ref 24] }
noncomputable def o3_3 (P : Params) : Obj := { cls := Value.type "dict", data := Data.dict #[{ hash := PyData.keyHash P (Str.ofString "__name__"), key := Value.str (Str.ofString "__name__") 165, val := Value.str (Str.ofString "gmp.limbs") 187 }, { hash := PyData.keyHash P (Str.ofString "__doc__"), key := Value.str (Str.ofString "__doc__") 166, val := Value.none }, { hash := PyData.keyHash P (Str.ofString "__package__"), key := Value.str (Str.ofString "__package__") 167, val := Value.none }, { hash := PyData.keyHash P (Str.ofString "__loader__"), key := Value.str (Str.ofString "__loader__") 168, val := Value.builtin "__main__.__loader__#opaque" }, { hash := PyData.keyHash P (Str.ofString "__spec__"), key := Value.str (Str.ofString "__spec__") 169, val := Value.none }, { hash := PyData.keyHash P (Str.ofString "__annotations__"), key := Value.str (Str.ofString "__annotations__") 170, val := Value.ref 6 }, { hash := PyData.keyHash P (Str.ofString "__builtins__"), key := Value.str (Str.ofString "__builtins__") 171, val := Value.ref 4 }, { hash := PyData.keyHash P (Str.ofString "__file__"), key := Value.str (Str.ofString "__file__") 173, val := Value.str (Str.ofString "/claim/cut.py") 172 }, { hash := PyData.keyHash P (Str.ofString "__cached__"), key := Value.str (Str.ofString "__cached__") 174, val := Value.none }, { hash := PyData.keyHash P (Str.ofString "GmpError"), key := Value.str (Str.ofString "GmpError") 208, val := Value.ref 24 }, { hash := PyData.keyHash P (Str.ofString "NoInverse"), key := Value.str (Str.ofString "NoInverse") 224, val := Value.ref 37 }] 11 }
noncomputable def o12_3 (P : Params) : Obj := { cls := Value.none, data := Data.fields #[Value.int 2 0, Value.int 0 0, Value.ref 20, Value.int 4 0, Value.int 0 0, Value.ref 33] }
noncomputable def o24_3 (P : Params) : Obj := { cls := Value.type "type", data := Data.cls { name := Str.ofString "GmpError", bases := [Value.type "Exception"], mro := [Value.ref 24, Value.type "Exception", Value.type "BaseException", Value.type "object"], ns := 23, qualname := Str.ofString "GmpError", subclasses := [Value.ref 37] }, slots := #[some (Value.ref 15), none, some (Value.str (Str.ofString "GmpError") 189), some (Value.str (Str.ofString "GmpError") 197), some (Value.builtin "Exception.__new__"), some (Value.bool true)] }
noncomputable def o30_3 (P : Params) : Obj := { cls := Value.type "dict", data := Data.dict #[{ hash := PyData.keyHash P (Str.ofString "__module__"), key := Value.str (Str.ofString "__module__") 216, val := Value.str (Str.ofString "gmp.limbs") 187 }, { hash := PyData.keyHash P (Str.ofString "__qualname__"), key := Value.str (Str.ofString "__qualname__") 218, val := Value.str (Str.ofString "NoInverse") 217 }, { hash := PyData.keyHash P (Str.ofString "__firstlineno__"), key := Value.str (Str.ofString "__firstlineno__") 220, val := Value.int 4 219 }, { hash := PyData.keyHash P (Str.ofString "__static_attributes__"), key := Value.str (Str.ofString "__static_attributes__") 221, val := Value.ref 35 }] 4 }
noncomputable def o33_3 (P : Params) : Obj := { cls := Value.type "code", data := Data.fields #[Value.str (Str.ofString "NoInverse") 211, Value.str (Str.ofString "NoInverse") 212, Value.str (Str.ofString "/claim/cut.py") 213, Value.int 4 0, Value.int 0 0, Value.int 0 0, Value.int 0 0, Value.int 0 0, Value.ref 31, Value.bool false, Value.int 181 0, Value.ref 32, Value.none, Value.none, Value.none, Value.none, Value.int 214 0, Value.int 4 0, Value.str (Str.ofString "/claim/cut.py") 215] }
noncomputable def o34_3 (P : Params) : Obj := { cls := Value.type "frame", slots := #[some (Value.ref 33), some (Value.ref 3), some (Value.ref 30), none, some (Value.str (Str.ofString "gmp.limbs") 187), none, some (Value.ref 0)] }
noncomputable def o38_3 (P : Params) : Obj := { cls := Value.type "super", data := Data.fields #[Value.ref 37, Value.ref 37, Value.ref 37] }
noncomputable def o39_3 (P : Params) : Obj := { cls := Value.type "builtin_function_or_method", data := Data.fields #[Value.builtin "object.__init_subclass__", Value.ref 37] }
noncomputable def o3_4 (P : Params) : Obj := { cls := Value.type "dict", data := Data.dict #[{ hash := PyData.keyHash P (Str.ofString "__name__"), key := Value.str (Str.ofString "__name__") 165, val := Value.str (Str.ofString "gmp.limbs") 187 }, { hash := PyData.keyHash P (Str.ofString "__doc__"), key := Value.str (Str.ofString "__doc__") 166, val := Value.none }, { hash := PyData.keyHash P (Str.ofString "__package__"), key := Value.str (Str.ofString "__package__") 167, val := Value.none }, { hash := PyData.keyHash P (Str.ofString "__loader__"), key := Value.str (Str.ofString "__loader__") 168, val := Value.builtin "__main__.__loader__#opaque" }, { hash := PyData.keyHash P (Str.ofString "__spec__"), key := Value.str (Str.ofString "__spec__") 169, val := Value.none }, { hash := PyData.keyHash P (Str.ofString "__annotations__"), key := Value.str (Str.ofString "__annotations__") 170, val := Value.ref 6 }, { hash := PyData.keyHash P (Str.ofString "__builtins__"), key := Value.str (Str.ofString "__builtins__") 171, val := Value.ref 4 }, { hash := PyData.keyHash P (Str.ofString "__file__"), key := Value.str (Str.ofString "__file__") 173, val := Value.str (Str.ofString "/claim/cut.py") 172 }, { hash := PyData.keyHash P (Str.ofString "__cached__"), key := Value.str (Str.ofString "__cached__") 174, val := Value.none }, { hash := PyData.keyHash P (Str.ofString "GmpError"), key := Value.str (Str.ofString "GmpError") 208, val := Value.ref 24 }, { hash := PyData.keyHash P (Str.ofString "NoInverse"), key := Value.str (Str.ofString "NoInverse") 224, val := Value.ref 37 }, { hash := PyData.keyHash P (Str.ofString "OutOfRange"), key := Value.str (Str.ofString "OutOfRange") 240, val := Value.ref 49 }] 12 }
noncomputable def o12_4 (P : Params) : Obj := { cls := Value.none, data := Data.fields #[Value.int 2 0, Value.int 0 0, Value.ref 20, Value.int 4 0, Value.int 0 0, Value.ref 33, Value.int 6 0, Value.int 0 0, Value.ref 45] }
noncomputable def o42_4 (P : Params) : Obj := { cls := Value.type "dict", data := Data.dict #[{ hash := PyData.keyHash P (Str.ofString "__module__"), key := Value.str (Str.ofString "__module__") 232, val := Value.str (Str.ofString "gmp.limbs") 187 }, { hash := PyData.keyHash P (Str.ofString "__qualname__"), key := Value.str (Str.ofString "__qualname__") 234, val := Value.str (Str.ofString "OutOfRange") 233 }, { hash := PyData.keyHash P (Str.ofString "__firstlineno__"), key := Value.str (Str.ofString "__firstlineno__") 236, val := Value.int 6 235 }, { hash := PyData.keyHash P (Str.ofString "__static_attributes__"), key := Value.str (Str.ofString "__static_attributes__") 237, val := Value.ref 47 }] 4 }
noncomputable def o45_4 (P : Params) : Obj := { cls := Value.type "code", data := Data.fields #[Value.str (Str.ofString "OutOfRange") 227, Value.str (Str.ofString "OutOfRange") 228, Value.str (Str.ofString "/claim/cut.py") 229, Value.int 6 0, Value.int 0 0, Value.int 0 0, Value.int 0 0, Value.int 0 0, Value.ref 43, Value.bool false, Value.int 181 0, Value.ref 44, Value.none, Value.none, Value.none, Value.none, Value.int 230 0, Value.int 6 0, Value.str (Str.ofString "/claim/cut.py") 231] }
noncomputable def o46_4 (P : Params) : Obj := { cls := Value.type "frame", slots := #[some (Value.ref 45), some (Value.ref 3), some (Value.ref 42), none, some (Value.str (Str.ofString "gmp.limbs") 187), none, some (Value.ref 0)] }
noncomputable def o50_4 (P : Params) : Obj := { cls := Value.type "super", data := Data.fields #[Value.ref 49, Value.ref 49, Value.ref 49] }
noncomputable def o51_4 (P : Params) : Obj := { cls := Value.type "builtin_function_or_method", data := Data.fields #[Value.builtin "object.__init_subclass__", Value.ref 49] }
noncomputable def o3_8 (P : Params) : Obj := { cls := Value.type "dict", data := Data.dict #[{ hash := PyData.keyHash P (Str.ofString "__name__"), key := Value.str (Str.ofString "__name__") 165, val := Value.str (Str.ofString "gmp.hensel") 262 }, { hash := PyData.keyHash P (Str.ofString "__doc__"), key := Value.str (Str.ofString "__doc__") 166, val := Value.none }, { hash := PyData.keyHash P (Str.ofString "__package__"), key := Value.str (Str.ofString "__package__") 167, val := Value.none }, { hash := PyData.keyHash P (Str.ofString "__loader__"), key := Value.str (Str.ofString "__loader__") 168, val := Value.builtin "__main__.__loader__#opaque" }, { hash := PyData.keyHash P (Str.ofString "__spec__"), key := Value.str (Str.ofString "__spec__") 169, val := Value.none }, { hash := PyData.keyHash P (Str.ofString "__annotations__"), key := Value.str (Str.ofString "__annotations__") 170, val := Value.ref 6 }, { hash := PyData.keyHash P (Str.ofString "__builtins__"), key := Value.str (Str.ofString "__builtins__") 171, val := Value.ref 4 }, { hash := PyData.keyHash P (Str.ofString "__file__"), key := Value.str (Str.ofString "__file__") 173, val := Value.str (Str.ofString "/claim/cut.py") 172 }, { hash := PyData.keyHash P (Str.ofString "__cached__"), key := Value.str (Str.ofString "__cached__") 174, val := Value.none }, { hash := PyData.keyHash P (Str.ofString "GmpError"), key := Value.str (Str.ofString "GmpError") 208, val := Value.ref 24 }, { hash := PyData.keyHash P (Str.ofString "NoInverse"), key := Value.str (Str.ofString "NoInverse") 224, val := Value.ref 37 }, { hash := PyData.keyHash P (Str.ofString "OutOfRange"), key := Value.str (Str.ofString "OutOfRange") 240, val := Value.ref 49 }, { hash := PyData.keyHash P (Str.ofString "normal"), key := Value.str (Str.ofString "normal") 248, val := Value.ref 58 }, { hash := PyData.keyHash P (Str.ofString "add"), key := Value.str (Str.ofString "add") 261, val := Value.ref 65 }, { hash := PyData.keyHash P (Str.ofString "inverse_limb"), key := Value.str (Str.ofString "inverse_limb") 274, val := Value.ref 72 }] 15 }
noncomputable def o12_8 (P : Params) : Obj := { cls := Value.none, data := Data.fields #[Value.int 2 0, Value.int 0 0, Value.ref 20, Value.int 4 0, Value.int 0 0, Value.ref 33, Value.int 6 0, Value.int 0 0, Value.ref 45, Value.int 8 0, Value.int 0 0, Value.ref 57, Value.int 13 0, Value.int 0 0, Value.ref 64, Value.int 29 0, Value.int 0 0, Value.ref 71] }
noncomputable def o3_12 (P : Params) : Obj := { cls := Value.type "dict", data := Data.dict #[{ hash := PyData.keyHash P (Str.ofString "__name__"), key := Value.str (Str.ofString "__name__") 165, val := Value.str (Str.ofString "gmp.hensel") 262 }, { hash := PyData.keyHash P (Str.ofString "__doc__"), key := Value.str (Str.ofString "__doc__") 166, val := Value.none }, { hash := PyData.keyHash P (Str.ofString "__package__"), key := Value.str (Str.ofString "__package__") 167, val := Value.none }, { hash := PyData.keyHash P (Str.ofString "__loader__"), key := Value.str (Str.ofString "__loader__") 168, val := Value.builtin "__main__.__loader__#opaque" }, { hash := PyData.keyHash P (Str.ofString "__spec__"), key := Value.str (Str.ofString "__spec__") 169, val := Value.none }, { hash := PyData.keyHash P (Str.ofString "__annotations__"), key := Value.str (Str.ofString "__annotations__") 170, val := Value.ref 6 }, { hash := PyData.keyHash P (Str.ofString "__builtins__"), key := Value.str (Str.ofString "__builtins__") 171, val := Value.ref 4 }, { hash := PyData.keyHash P (Str.ofString "__file__"), key := Value.str (Str.ofString "__file__") 173, val := Value.str (Str.ofString "/claim/cut.py") 172 }, { hash := PyData.keyHash P (Str.ofString "__cached__"), key := Value.str (Str.ofString "__cached__") 174, val := Value.none }, { hash := PyData.keyHash P (Str.ofString "GmpError"), key := Value.str (Str.ofString "GmpError") 208, val := Value.ref 24 }, { hash := PyData.keyHash P (Str.ofString "NoInverse"), key := Value.str (Str.ofString "NoInverse") 224, val := Value.ref 37 }, { hash := PyData.keyHash P (Str.ofString "OutOfRange"), key := Value.str (Str.ofString "OutOfRange") 240, val := Value.ref 49 }, { hash := PyData.keyHash P (Str.ofString "normal"), key := Value.str (Str.ofString "normal") 248, val := Value.ref 58 }, { hash := PyData.keyHash P (Str.ofString "add"), key := Value.str (Str.ofString "add") 261, val := Value.ref 65 }, { hash := PyData.keyHash P (Str.ofString "inverse_limb"), key := Value.str (Str.ofString "inverse_limb") 274, val := Value.ref 72 }, { hash := PyData.keyHash P (Str.ofString "low_limbs"), key := Value.str (Str.ofString "low_limbs") 282, val := Value.ref 79 }, { hash := PyData.keyHash P (Str.ofString "complement"), key := Value.str (Str.ofString "complement") 288, val := Value.ref 84 }, { hash := PyData.keyHash P (Str.ofString "inverse_low"), key := Value.str (Str.ofString "inverse_low") 302, val := Value.ref 91 }, { hash := PyData.keyHash P (Str.ofString "take_product"), key := Value.str (Str.ofString "take_product") 318, val := Value.ref 98 }] 19 }
noncomputable def o12_12 (P : Params) : Obj := { cls := Value.none, data := Data.fields #[Value.int 2 0, Value.int 0 0, Value.ref 20, Value.int 4 0, Value.int 0 0, Value.ref 33, Value.int 6 0, Value.int 0 0, Value.ref 45, Value.int 8 0, Value.int 0 0, Value.ref 57, Value.int 13 0, Value.int 0 0, Value.ref 64, Value.int 29 0, Value.int 0 0, Value.ref 71, Value.int 38 0, Value.int 0 0, Value.ref 78, Value.int 40 0, Value.int 0 0, Value.ref 83, Value.int 44 0, Value.int 0 0, Value.ref 90, Value.int 56 0, Value.int 0 0, Value.ref 97] }
noncomputable def o3_16 (P : Params) : Obj := { cls := Value.type "dict", data := Data.dict #[{ hash := PyData.keyHash P (Str.ofString "__name__"), key := Value.str (Str.ofString "__name__") 165, val := Value.str (Str.ofString "gmp.hensel") 262 }, { hash := PyData.keyHash P (Str.ofString "__doc__"), key := Value.str (Str.ofString "__doc__") 166, val := Value.none }, { hash := PyData.keyHash P (Str.ofString "__package__"), key := Value.str (Str.ofString "__package__") 167, val := Value.none }, { hash := PyData.keyHash P (Str.ofString "__loader__"), key := Value.str (Str.ofString "__loader__") 168, val := Value.builtin "__main__.__loader__#opaque" }, { hash := PyData.keyHash P (Str.ofString "__spec__"), key := Value.str (Str.ofString "__spec__") 169, val := Value.none }, { hash := PyData.keyHash P (Str.ofString "__annotations__"), key := Value.str (Str.ofString "__annotations__") 170, val := Value.ref 6 }, { hash := PyData.keyHash P (Str.ofString "__builtins__"), key := Value.str (Str.ofString "__builtins__") 171, val := Value.ref 4 }, { hash := PyData.keyHash P (Str.ofString "__file__"), key := Value.str (Str.ofString "__file__") 173, val := Value.str (Str.ofString "/claim/cut.py") 172 }, { hash := PyData.keyHash P (Str.ofString "__cached__"), key := Value.str (Str.ofString "__cached__") 174, val := Value.none }, { hash := PyData.keyHash P (Str.ofString "GmpError"), key := Value.str (Str.ofString "GmpError") 208, val := Value.ref 24 }, { hash := PyData.keyHash P (Str.ofString "NoInverse"), key := Value.str (Str.ofString "NoInverse") 224, val := Value.ref 37 }, { hash := PyData.keyHash P (Str.ofString "OutOfRange"), key := Value.str (Str.ofString "OutOfRange") 240, val := Value.ref 49 }, { hash := PyData.keyHash P (Str.ofString "normal"), key := Value.str (Str.ofString "normal") 248, val := Value.ref 58 }, { hash := PyData.keyHash P (Str.ofString "add"), key := Value.str (Str.ofString "add") 261, val := Value.ref 65 }, { hash := PyData.keyHash P (Str.ofString "inverse_limb"), key := Value.str (Str.ofString "inverse_limb") 274, val := Value.ref 72 }, { hash := PyData.keyHash P (Str.ofString "low_limbs"), key := Value.str (Str.ofString "low_limbs") 282, val := Value.ref 79 }, { hash := PyData.keyHash P (Str.ofString "complement"), key := Value.str (Str.ofString "complement") 288, val := Value.ref 84 }, { hash := PyData.keyHash P (Str.ofString "inverse_low"), key := Value.str (Str.ofString "inverse_low") 302, val := Value.ref 91 }, { hash := PyData.keyHash P (Str.ofString "take_product"), key := Value.str (Str.ofString "take_product") 318, val := Value.ref 98 }, { hash := PyData.keyHash P (Str.ofString "divrem_low"), key := Value.str (Str.ofString "divrem_low") 337, val := Value.ref 105 }, { hash := PyData.keyHash P (Str.ofString "mod_small_power"), key := Value.str (Str.ofString "mod_small_power") 346, val := Value.ref 112 }, { hash := PyData.keyHash P (Str.ofString "folded"), key := Value.str (Str.ofString "folded") 359, val := Value.ref 119 }, { hash := PyData.keyHash P (Str.ofString "mod_ones"), key := Value.str (Str.ofString "mod_ones") 369, val := Value.ref 126 }] 23 }
noncomputable def o12_16 (P : Params) : Obj := { cls := Value.none, data := Data.fields #[Value.int 2 0, Value.int 0 0, Value.ref 20, Value.int 4 0, Value.int 0 0, Value.ref 33, Value.int 6 0, Value.int 0 0, Value.ref 45, Value.int 8 0, Value.int 0 0, Value.ref 57, Value.int 13 0, Value.int 0 0, Value.ref 64, Value.int 29 0, Value.int 0 0, Value.ref 71, Value.int 38 0, Value.int 0 0, Value.ref 78, Value.int 40 0, Value.int 0 0, Value.ref 83, Value.int 44 0, Value.int 0 0, Value.ref 90, Value.int 56 0, Value.int 0 0, Value.ref 97, Value.int 69 0, Value.int 0 0, Value.ref 104, Value.int 83 0, Value.int 0 0, Value.ref 111, Value.int 87 0, Value.int 0 0, Value.ref 118, Value.int 93 0, Value.int 0 0, Value.ref 125] }
noncomputable def o3_20 (P : Params) : Obj := { cls := Value.type "dict", data := Data.dict #[{ hash := PyData.keyHash P (Str.ofString "__name__"), key := Value.str (Str.ofString "__name__") 165, val := Value.str (Str.ofString "law_nn0006_01") 382 }, { hash := PyData.keyHash P (Str.ofString "__doc__"), key := Value.str (Str.ofString "__doc__") 166, val := Value.none }, { hash := PyData.keyHash P (Str.ofString "__package__"), key := Value.str (Str.ofString "__package__") 167, val := Value.none }, { hash := PyData.keyHash P (Str.ofString "__loader__"), key := Value.str (Str.ofString "__loader__") 168, val := Value.builtin "__main__.__loader__#opaque" }, { hash := PyData.keyHash P (Str.ofString "__spec__"), key := Value.str (Str.ofString "__spec__") 169, val := Value.none }, { hash := PyData.keyHash P (Str.ofString "__annotations__"), key := Value.str (Str.ofString "__annotations__") 170, val := Value.ref 6 }, { hash := PyData.keyHash P (Str.ofString "__builtins__"), key := Value.str (Str.ofString "__builtins__") 171, val := Value.ref 4 }, { hash := PyData.keyHash P (Str.ofString "__file__"), key := Value.str (Str.ofString "__file__") 173, val := Value.str (Str.ofString "/claim/cut.py") 172 }, { hash := PyData.keyHash P (Str.ofString "__cached__"), key := Value.str (Str.ofString "__cached__") 174, val := Value.none }, { hash := PyData.keyHash P (Str.ofString "GmpError"), key := Value.str (Str.ofString "GmpError") 208, val := Value.ref 24 }, { hash := PyData.keyHash P (Str.ofString "NoInverse"), key := Value.str (Str.ofString "NoInverse") 224, val := Value.ref 37 }, { hash := PyData.keyHash P (Str.ofString "OutOfRange"), key := Value.str (Str.ofString "OutOfRange") 240, val := Value.ref 49 }, { hash := PyData.keyHash P (Str.ofString "normal"), key := Value.str (Str.ofString "normal") 248, val := Value.ref 58 }, { hash := PyData.keyHash P (Str.ofString "add"), key := Value.str (Str.ofString "add") 261, val := Value.ref 65 }, { hash := PyData.keyHash P (Str.ofString "inverse_limb"), key := Value.str (Str.ofString "inverse_limb") 274, val := Value.ref 72 }, { hash := PyData.keyHash P (Str.ofString "low_limbs"), key := Value.str (Str.ofString "low_limbs") 282, val := Value.ref 79 }, { hash := PyData.keyHash P (Str.ofString "complement"), key := Value.str (Str.ofString "complement") 288, val := Value.ref 84 }, { hash := PyData.keyHash P (Str.ofString "inverse_low"), key := Value.str (Str.ofString "inverse_low") 302, val := Value.ref 91 }, { hash := PyData.keyHash P (Str.ofString "take_product"), key := Value.str (Str.ofString "take_product") 318, val := Value.ref 98 }, { hash := PyData.keyHash P (Str.ofString "divrem_low"), key := Value.str (Str.ofString "divrem_low") 337, val := Value.ref 105 }, { hash := PyData.keyHash P (Str.ofString "mod_small_power"), key := Value.str (Str.ofString "mod_small_power") 346, val := Value.ref 112 }, { hash := PyData.keyHash P (Str.ofString "folded"), key := Value.str (Str.ofString "folded") 359, val := Value.ref 119 }, { hash := PyData.keyHash P (Str.ofString "mod_ones"), key := Value.str (Str.ofString "mod_ones") 369, val := Value.ref 126 }, { hash := PyData.keyHash P (Str.ofString "mod_ones_above"), key := Value.str (Str.ofString "mod_ones_above") 381, val := Value.ref 133 }, { hash := PyData.keyHash P (Str.ofString "_law_cell"), key := Value.str (Str.ofString "_law_cell") 391, val := Value.ref 140 }, { hash := PyData.keyHash P (Str.ofString "_law_limbs"), key := Value.str (Str.ofString "_law_limbs") 400, val := Value.ref 147 }] 26 }
noncomputable def o12_20 (P : Params) : Obj := { cls := Value.none, data := Data.fields #[Value.int 2 0, Value.int 0 0, Value.ref 20, Value.int 4 0, Value.int 0 0, Value.ref 33, Value.int 6 0, Value.int 0 0, Value.ref 45, Value.int 8 0, Value.int 0 0, Value.ref 57, Value.int 13 0, Value.int 0 0, Value.ref 64, Value.int 29 0, Value.int 0 0, Value.ref 71, Value.int 38 0, Value.int 0 0, Value.ref 78, Value.int 40 0, Value.int 0 0, Value.ref 83, Value.int 44 0, Value.int 0 0, Value.ref 90, Value.int 56 0, Value.int 0 0, Value.ref 97, Value.int 69 0, Value.int 0 0, Value.ref 104, Value.int 83 0, Value.int 0 0, Value.ref 111, Value.int 87 0, Value.int 0 0, Value.ref 118, Value.int 93 0, Value.int 0 0, Value.ref 125, Value.int 98 0, Value.int 0 0, Value.ref 132, Value.int 105 0, Value.int 0 0, Value.ref 139, Value.int 109 0, Value.int 0 0, Value.ref 146] }
noncomputable def o3_24 (P : Params) : Obj := { cls := Value.type "dict", data := Data.dict #[{ hash := PyData.keyHash P (Str.ofString "__name__"), key := Value.str (Str.ofString "__name__") 165, val := Value.str (Str.ofString "law_nn0006_01") 382 }, { hash := PyData.keyHash P (Str.ofString "__doc__"), key := Value.str (Str.ofString "__doc__") 166, val := Value.none }, { hash := PyData.keyHash P (Str.ofString "__package__"), key := Value.str (Str.ofString "__package__") 167, val := Value.none }, { hash := PyData.keyHash P (Str.ofString "__loader__"), key := Value.str (Str.ofString "__loader__") 168, val := Value.builtin "__main__.__loader__#opaque" }, { hash := PyData.keyHash P (Str.ofString "__spec__"), key := Value.str (Str.ofString "__spec__") 169, val := Value.none }, { hash := PyData.keyHash P (Str.ofString "__annotations__"), key := Value.str (Str.ofString "__annotations__") 170, val := Value.ref 6 }, { hash := PyData.keyHash P (Str.ofString "__builtins__"), key := Value.str (Str.ofString "__builtins__") 171, val := Value.ref 4 }, { hash := PyData.keyHash P (Str.ofString "__file__"), key := Value.str (Str.ofString "__file__") 173, val := Value.str (Str.ofString "/claim/cut.py") 172 }, { hash := PyData.keyHash P (Str.ofString "__cached__"), key := Value.str (Str.ofString "__cached__") 174, val := Value.none }, { hash := PyData.keyHash P (Str.ofString "GmpError"), key := Value.str (Str.ofString "GmpError") 208, val := Value.ref 24 }, { hash := PyData.keyHash P (Str.ofString "NoInverse"), key := Value.str (Str.ofString "NoInverse") 224, val := Value.ref 37 }, { hash := PyData.keyHash P (Str.ofString "OutOfRange"), key := Value.str (Str.ofString "OutOfRange") 240, val := Value.ref 49 }, { hash := PyData.keyHash P (Str.ofString "normal"), key := Value.str (Str.ofString "normal") 248, val := Value.ref 58 }, { hash := PyData.keyHash P (Str.ofString "add"), key := Value.str (Str.ofString "add") 261, val := Value.ref 65 }, { hash := PyData.keyHash P (Str.ofString "inverse_limb"), key := Value.str (Str.ofString "inverse_limb") 274, val := Value.ref 72 }, { hash := PyData.keyHash P (Str.ofString "low_limbs"), key := Value.str (Str.ofString "low_limbs") 282, val := Value.ref 79 }, { hash := PyData.keyHash P (Str.ofString "complement"), key := Value.str (Str.ofString "complement") 288, val := Value.ref 84 }, { hash := PyData.keyHash P (Str.ofString "inverse_low"), key := Value.str (Str.ofString "inverse_low") 302, val := Value.ref 91 }, { hash := PyData.keyHash P (Str.ofString "take_product"), key := Value.str (Str.ofString "take_product") 318, val := Value.ref 98 }, { hash := PyData.keyHash P (Str.ofString "divrem_low"), key := Value.str (Str.ofString "divrem_low") 337, val := Value.ref 105 }, { hash := PyData.keyHash P (Str.ofString "mod_small_power"), key := Value.str (Str.ofString "mod_small_power") 346, val := Value.ref 112 }, { hash := PyData.keyHash P (Str.ofString "folded"), key := Value.str (Str.ofString "folded") 359, val := Value.ref 119 }, { hash := PyData.keyHash P (Str.ofString "mod_ones"), key := Value.str (Str.ofString "mod_ones") 369, val := Value.ref 126 }, { hash := PyData.keyHash P (Str.ofString "mod_ones_above"), key := Value.str (Str.ofString "mod_ones_above") 381, val := Value.ref 133 }, { hash := PyData.keyHash P (Str.ofString "_law_cell"), key := Value.str (Str.ofString "_law_cell") 391, val := Value.ref 140 }, { hash := PyData.keyHash P (Str.ofString "_law_limbs"), key := Value.str (Str.ofString "_law_limbs") 400, val := Value.ref 147 }, { hash := PyData.keyHash P (Str.ofString "_law_number"), key := Value.str (Str.ofString "_law_number") 410, val := Value.ref 154 }, { hash := PyData.keyHash P (Str.ofString "_law_mul"), key := Value.str (Str.ofString "_law_mul") 419, val := Value.ref 161 }, { hash := PyData.keyHash P (Str.ofString "_law_wide"), key := Value.str (Str.ofString "_law_wide") 430, val := Value.ref 168 }, { hash := PyData.keyHash P (Str.ofString "_law_refuses"), key := Value.str (Str.ofString "_law_refuses") 438, val := Value.ref 175 }] 30 }
noncomputable def o12_24 (P : Params) : Obj := { cls := Value.none, data := Data.fields #[Value.int 2 0, Value.int 0 0, Value.ref 20, Value.int 4 0, Value.int 0 0, Value.ref 33, Value.int 6 0, Value.int 0 0, Value.ref 45, Value.int 8 0, Value.int 0 0, Value.ref 57, Value.int 13 0, Value.int 0 0, Value.ref 64, Value.int 29 0, Value.int 0 0, Value.ref 71, Value.int 38 0, Value.int 0 0, Value.ref 78, Value.int 40 0, Value.int 0 0, Value.ref 83, Value.int 44 0, Value.int 0 0, Value.ref 90, Value.int 56 0, Value.int 0 0, Value.ref 97, Value.int 69 0, Value.int 0 0, Value.ref 104, Value.int 83 0, Value.int 0 0, Value.ref 111, Value.int 87 0, Value.int 0 0, Value.ref 118, Value.int 93 0, Value.int 0 0, Value.ref 125, Value.int 98 0, Value.int 0 0, Value.ref 132, Value.int 105 0, Value.int 0 0, Value.ref 139, Value.int 109 0, Value.int 0 0, Value.ref 146, Value.int 115 0, Value.int 0 0, Value.ref 153, Value.int 122 0, Value.int 0 0, Value.ref 160, Value.int 124 0, Value.int 0 0, Value.ref 167, Value.int 127 0, Value.int 0 0, Value.ref 174] }
noncomputable def o12_27 (P : Params) : Obj := { cls := Value.none, data := Data.fields #[Value.int 2 0, Value.int 0 0, Value.ref 20, Value.int 4 0, Value.int 0 0, Value.ref 33, Value.int 6 0, Value.int 0 0, Value.ref 45, Value.int 8 0, Value.int 0 0, Value.ref 57, Value.int 13 0, Value.int 0 0, Value.ref 64, Value.int 29 0, Value.int 0 0, Value.ref 71, Value.int 38 0, Value.int 0 0, Value.ref 78, Value.int 40 0, Value.int 0 0, Value.ref 83, Value.int 44 0, Value.int 0 0, Value.ref 90, Value.int 56 0, Value.int 0 0, Value.ref 97, Value.int 69 0, Value.int 0 0, Value.ref 104, Value.int 83 0, Value.int 0 0, Value.ref 111, Value.int 87 0, Value.int 0 0, Value.ref 118, Value.int 93 0, Value.int 0 0, Value.ref 125, Value.int 98 0, Value.int 0 0, Value.ref 132, Value.int 105 0, Value.int 0 0, Value.ref 139, Value.int 109 0, Value.int 0 0, Value.ref 146, Value.int 115 0, Value.int 0 0, Value.ref 153, Value.int 122 0, Value.int 0 0, Value.ref 160, Value.int 124 0, Value.int 0 0, Value.ref 167, Value.int 127 0, Value.int 0 0, Value.ref 174, Value.int 133 0, Value.int 0 0, Value.ref 181, Value.int 142 0, Value.int 0 0, Value.ref 188, Value.int 149 0, Value.int 0 0, Value.ref 195] }
noncomputable def h_a (P : Params) : Heap := ⟨⟨[boot_o_0 P, boot_o_1 P, boot_o_2 P, boot_o_3 P, boot_o_4 P, boot_o_5 P, boot_o_6 P, boot_o_7 P, boot_o_8 P, boot_o_9 P, boot_o_10 P, o11_a P, o12_a P, o13_a P, o14_a P]⟩, (boot_heap P).life⟩
noncomputable def h_2 (P : Params) : Heap := ⟨⟨[boot_o_0 P, boot_o_1 P, ob P 2, o3_2 P, boot_o_4 P, boot_o_5 P, boot_o_6 P, boot_o_7 P, boot_o_8 P, boot_o_9 P, boot_o_10 P, o11_a P, o12_2 P, o13_a P, o14_a P, ob P 15, o16_2 P, o17_2 P, o11_a P, o12_a P, o20_2 P, o21_2 P, ob P 22, ob P 23, o24_2 P, ob P 25, o26_2 P, o27_2 P]⟩, (boot_heap P).life⟩
noncomputable def h_3 (P : Params) : Heap := ⟨⟨[boot_o_0 P, boot_o_1 P, ob P 2, o3_3 P, boot_o_4 P, boot_o_5 P, boot_o_6 P, boot_o_7 P, boot_o_8 P, boot_o_9 P, boot_o_10 P, o11_a P, o12_3 P, o13_a P, o14_a P, ob P 15, o16_2 P, o17_2 P, o11_a P, o12_a P, o20_2 P, o21_2 P, ob P 22, ob P 23, o24_3 P, ob P 25, o26_2 P, o27_2 P, ob P 28, o16_2 P, o30_3 P, o11_a P, o12_a P, o33_3 P, o34_3 P, ob P 35, ob P 36, ob P 37, o38_3 P, o39_3 P]⟩, (boot_heap P).life⟩
noncomputable def h_4 (P : Params) : Heap := ⟨⟨[boot_o_0 P, boot_o_1 P, ob P 2, o3_4 P, boot_o_4 P, boot_o_5 P, boot_o_6 P, boot_o_7 P, boot_o_8 P, boot_o_9 P, boot_o_10 P, o11_a P, o12_4 P, o13_a P, o14_a P, ob P 15, o16_2 P, o17_2 P, o11_a P, o12_a P, o20_2 P, o21_2 P, ob P 22, ob P 23, ob P 24, ob P 25, o26_2 P, o27_2 P, ob P 28, o16_2 P, o30_3 P, o11_a P, o12_a P, o33_3 P, o34_3 P, ob P 35, ob P 36, ob P 37, o38_3 P, o39_3 P, ob P 40, o16_2 P, o42_4 P, o11_a P, o12_a P, o45_4 P, o46_4 P, ob P 47, ob P 48, ob P 49, o50_4 P, o51_4 P]⟩, (boot_heap P).life⟩
noncomputable def h_8 (P : Params) : Heap := ⟨⟨[boot_o_0 P, boot_o_1 P, ob P 2, o3_8 P, boot_o_4 P, boot_o_5 P, boot_o_6 P, boot_o_7 P, boot_o_8 P, boot_o_9 P, boot_o_10 P, o11_a P, o12_8 P, o13_a P, o14_a P, ob P 15, o16_2 P, o17_2 P, o11_a P, o12_a P, o20_2 P, o21_2 P, ob P 22, ob P 23, ob P 24, ob P 25, o26_2 P, o27_2 P, ob P 28, o16_2 P, o30_3 P, o11_a P, o12_a P, o33_3 P, o34_3 P, ob P 35, ob P 36, ob P 37, o38_3 P, o39_3 P, ob P 40, o16_2 P, o42_4 P, o11_a P, o12_a P, o45_4 P, o46_4 P, ob P 47, ob P 48, ob P 49, o50_4 P, o51_4 P, ob P 52, o12_a P, ob P 54, ob P 55, bare (ob P 58), ob P 57, ob P 58, ob P 59, o12_a P, ob P 61, ob P 62, bare (ob P 65), ob P 64, ob P 65, ob P 66, o12_a P, ob P 68, ob P 69, bare (ob P 72), ob P 71, ob P 72]⟩, (boot_heap P).life⟩
noncomputable def h_12 (P : Params) : Heap := ⟨⟨[boot_o_0 P, boot_o_1 P, ob P 2, o3_12 P, boot_o_4 P, boot_o_5 P, boot_o_6 P, boot_o_7 P, boot_o_8 P, boot_o_9 P, boot_o_10 P, o11_a P, o12_12 P, o13_a P, o14_a P, ob P 15, o16_2 P, o17_2 P, o11_a P, o12_a P, o20_2 P, o21_2 P, ob P 22, ob P 23, ob P 24, ob P 25, o26_2 P, o27_2 P, ob P 28, o16_2 P, o30_3 P, o11_a P, o12_a P, o33_3 P, o34_3 P, ob P 35, ob P 36, ob P 37, o38_3 P, o39_3 P, ob P 40, o16_2 P, o42_4 P, o11_a P, o12_a P, o45_4 P, o46_4 P, ob P 47, ob P 48, ob P 49, o50_4 P, o51_4 P, ob P 52, o12_a P, ob P 54, ob P 55, bare (ob P 58), ob P 57, ob P 58, ob P 59, o12_a P, ob P 61, ob P 62, bare (ob P 65), ob P 64, ob P 65, ob P 66, o12_a P, ob P 68, ob P 69, bare (ob P 72), ob P 71, ob P 72, ob P 73, o12_a P, ob P 75, ob P 76, bare (ob P 79), ob P 78, ob P 79, ob P 80, o12_a P, bare (ob P 84), ob P 83, ob P 84, ob P 85, o12_a P, ob P 87, ob P 88, bare (ob P 91), ob P 90, ob P 91, ob P 92, o12_a P, ob P 94, ob P 95, bare (ob P 98), ob P 97, ob P 98]⟩, (boot_heap P).life⟩
noncomputable def h_16 (P : Params) : Heap := ⟨⟨[boot_o_0 P, boot_o_1 P, ob P 2, o3_16 P, boot_o_4 P, boot_o_5 P, boot_o_6 P, boot_o_7 P, boot_o_8 P, boot_o_9 P, boot_o_10 P, o11_a P, o12_16 P, o13_a P, o14_a P, ob P 15, o16_2 P, o17_2 P, o11_a P, o12_a P, o20_2 P, o21_2 P, ob P 22, ob P 23, ob P 24, ob P 25, o26_2 P, o27_2 P, ob P 28, o16_2 P, o30_3 P, o11_a P, o12_a P, o33_3 P, o34_3 P, ob P 35, ob P 36, ob P 37, o38_3 P, o39_3 P, ob P 40, o16_2 P, o42_4 P, o11_a P, o12_a P, o45_4 P, o46_4 P, ob P 47, ob P 48, ob P 49, o50_4 P, o51_4 P, ob P 52, o12_a P, ob P 54, ob P 55, bare (ob P 58), ob P 57, ob P 58, ob P 59, o12_a P, ob P 61, ob P 62, bare (ob P 65), ob P 64, ob P 65, ob P 66, o12_a P, ob P 68, ob P 69, bare (ob P 72), ob P 71, ob P 72, ob P 73, o12_a P, ob P 75, ob P 76, bare (ob P 79), ob P 78, ob P 79, ob P 80, o12_a P, bare (ob P 84), ob P 83, ob P 84, ob P 85, o12_a P, ob P 87, ob P 88, bare (ob P 91), ob P 90, ob P 91, ob P 92, o12_a P, ob P 94, ob P 95, bare (ob P 98), ob P 97, ob P 98, ob P 99, o12_a P, ob P 101, ob P 102, bare (ob P 105), ob P 104, ob P 105, ob P 106, o12_a P, ob P 108, ob P 109, bare (ob P 112), ob P 111, ob P 112, ob P 113, o12_a P, ob P 115, ob P 116, bare (ob P 119), ob P 118, ob P 119, ob P 120, o12_a P, ob P 122, ob P 123, bare (ob P 126), ob P 125, ob P 126]⟩, (boot_heap P).life⟩
noncomputable def h_20 (P : Params) : Heap := ⟨⟨[boot_o_0 P, boot_o_1 P, ob P 2, o3_20 P, boot_o_4 P, boot_o_5 P, boot_o_6 P, boot_o_7 P, boot_o_8 P, boot_o_9 P, boot_o_10 P, o11_a P, o12_20 P, o13_a P, o14_a P, ob P 15, o16_2 P, o17_2 P, o11_a P, o12_a P, o20_2 P, o21_2 P, ob P 22, ob P 23, ob P 24, ob P 25, o26_2 P, o27_2 P, ob P 28, o16_2 P, o30_3 P, o11_a P, o12_a P, o33_3 P, o34_3 P, ob P 35, ob P 36, ob P 37, o38_3 P, o39_3 P, ob P 40, o16_2 P, o42_4 P, o11_a P, o12_a P, o45_4 P, o46_4 P, ob P 47, ob P 48, ob P 49, o50_4 P, o51_4 P, ob P 52, o12_a P, ob P 54, ob P 55, bare (ob P 58), ob P 57, ob P 58, ob P 59, o12_a P, ob P 61, ob P 62, bare (ob P 65), ob P 64, ob P 65, ob P 66, o12_a P, ob P 68, ob P 69, bare (ob P 72), ob P 71, ob P 72, ob P 73, o12_a P, ob P 75, ob P 76, bare (ob P 79), ob P 78, ob P 79, ob P 80, o12_a P, bare (ob P 84), ob P 83, ob P 84, ob P 85, o12_a P, ob P 87, ob P 88, bare (ob P 91), ob P 90, ob P 91, ob P 92, o12_a P, ob P 94, ob P 95, bare (ob P 98), ob P 97, ob P 98, ob P 99, o12_a P, ob P 101, ob P 102, bare (ob P 105), ob P 104, ob P 105, ob P 106, o12_a P, ob P 108, ob P 109, bare (ob P 112), ob P 111, ob P 112, ob P 113, o12_a P, ob P 115, ob P 116, bare (ob P 119), ob P 118, ob P 119, ob P 120, o12_a P, ob P 122, ob P 123, bare (ob P 126), ob P 125, ob P 126, ob P 127, o12_a P, ob P 129, ob P 130, bare (ob P 133), ob P 132, ob P 133, ob P 134, o12_a P, ob P 136, ob P 137, bare (ob P 140), ob P 139, ob P 140, ob P 141, o12_a P, ob P 143, ob P 144, bare (ob P 147), ob P 146, ob P 147]⟩, (boot_heap P).life⟩
noncomputable def h_24 (P : Params) : Heap := ⟨⟨[boot_o_0 P, boot_o_1 P, ob P 2, o3_24 P, boot_o_4 P, boot_o_5 P, boot_o_6 P, boot_o_7 P, boot_o_8 P, boot_o_9 P, boot_o_10 P, o11_a P, o12_24 P, o13_a P, o14_a P, ob P 15, o16_2 P, o17_2 P, o11_a P, o12_a P, o20_2 P, o21_2 P, ob P 22, ob P 23, ob P 24, ob P 25, o26_2 P, o27_2 P, ob P 28, o16_2 P, o30_3 P, o11_a P, o12_a P, o33_3 P, o34_3 P, ob P 35, ob P 36, ob P 37, o38_3 P, o39_3 P, ob P 40, o16_2 P, o42_4 P, o11_a P, o12_a P, o45_4 P, o46_4 P, ob P 47, ob P 48, ob P 49, o50_4 P, o51_4 P, ob P 52, o12_a P, ob P 54, ob P 55, bare (ob P 58), ob P 57, ob P 58, ob P 59, o12_a P, ob P 61, ob P 62, bare (ob P 65), ob P 64, ob P 65, ob P 66, o12_a P, ob P 68, ob P 69, bare (ob P 72), ob P 71, ob P 72, ob P 73, o12_a P, ob P 75, ob P 76, bare (ob P 79), ob P 78, ob P 79, ob P 80, o12_a P, bare (ob P 84), ob P 83, ob P 84, ob P 85, o12_a P, ob P 87, ob P 88, bare (ob P 91), ob P 90, ob P 91, ob P 92, o12_a P, ob P 94, ob P 95, bare (ob P 98), ob P 97, ob P 98, ob P 99, o12_a P, ob P 101, ob P 102, bare (ob P 105), ob P 104, ob P 105, ob P 106, o12_a P, ob P 108, ob P 109, bare (ob P 112), ob P 111, ob P 112, ob P 113, o12_a P, ob P 115, ob P 116, bare (ob P 119), ob P 118, ob P 119, ob P 120, o12_a P, ob P 122, ob P 123, bare (ob P 126), ob P 125, ob P 126, ob P 127, o12_a P, ob P 129, ob P 130, bare (ob P 133), ob P 132, ob P 133, ob P 134, o12_a P, ob P 136, ob P 137, bare (ob P 140), ob P 139, ob P 140, ob P 141, o12_a P, ob P 143, ob P 144, bare (ob P 147), ob P 146, ob P 147, ob P 148, o12_a P, ob P 150, ob P 151, bare (ob P 154), ob P 153, ob P 154, ob P 155, o12_a P, ob P 157, ob P 158, bare (ob P 161), ob P 160, ob P 161, ob P 162, o12_a P, ob P 164, ob P 165, bare (ob P 168), ob P 167, ob P 168, ob P 169, o12_a P, ob P 171, ob P 172, bare (ob P 175), ob P 174, ob P 175]⟩, (boot_heap P).life⟩
noncomputable def h_27 (P : Params) : Heap := ⟨⟨[boot_o_0 P, boot_o_1 P, ob P 2, ob P 3, boot_o_4 P, boot_o_5 P, boot_o_6 P, boot_o_7 P, boot_o_8 P, boot_o_9 P, boot_o_10 P, o11_a P, o12_27 P, o13_a P, o14_a P, ob P 15, o16_2 P, o17_2 P, o11_a P, o12_a P, o20_2 P, o21_2 P, ob P 22, ob P 23, ob P 24, ob P 25, o26_2 P, o27_2 P, ob P 28, o16_2 P, o30_3 P, o11_a P, o12_a P, o33_3 P, o34_3 P, ob P 35, ob P 36, ob P 37, o38_3 P, o39_3 P, ob P 40, o16_2 P, o42_4 P, o11_a P, o12_a P, o45_4 P, o46_4 P, ob P 47, ob P 48, ob P 49, o50_4 P, o51_4 P, ob P 52, o12_a P, ob P 54, ob P 55, bare (ob P 58), ob P 57, ob P 58, ob P 59, o12_a P, ob P 61, ob P 62, bare (ob P 65), ob P 64, ob P 65, ob P 66, o12_a P, ob P 68, ob P 69, bare (ob P 72), ob P 71, ob P 72, ob P 73, o12_a P, ob P 75, ob P 76, bare (ob P 79), ob P 78, ob P 79, ob P 80, o12_a P, bare (ob P 84), ob P 83, ob P 84, ob P 85, o12_a P, ob P 87, ob P 88, bare (ob P 91), ob P 90, ob P 91, ob P 92, o12_a P, ob P 94, ob P 95, bare (ob P 98), ob P 97, ob P 98, ob P 99, o12_a P, ob P 101, ob P 102, bare (ob P 105), ob P 104, ob P 105, ob P 106, o12_a P, ob P 108, ob P 109, bare (ob P 112), ob P 111, ob P 112, ob P 113, o12_a P, ob P 115, ob P 116, bare (ob P 119), ob P 118, ob P 119, ob P 120, o12_a P, ob P 122, ob P 123, bare (ob P 126), ob P 125, ob P 126, ob P 127, o12_a P, ob P 129, ob P 130, bare (ob P 133), ob P 132, ob P 133, ob P 134, o12_a P, ob P 136, ob P 137, bare (ob P 140), ob P 139, ob P 140, ob P 141, o12_a P, ob P 143, ob P 144, bare (ob P 147), ob P 146, ob P 147, ob P 148, o12_a P, ob P 150, ob P 151, bare (ob P 154), ob P 153, ob P 154, ob P 155, o12_a P, ob P 157, ob P 158, bare (ob P 161), ob P 160, ob P 161, ob P 162, o12_a P, ob P 164, ob P 165, bare (ob P 168), ob P 167, ob P 168, ob P 169, o12_a P, ob P 171, ob P 172, bare (ob P 175), ob P 174, ob P 175, ob P 176, o12_a P, ob P 178, ob P 179, bare (ob P 182), ob P 181, ob P 182, ob P 183, o12_a P, ob P 185, ob P 186, bare (ob P 189), ob P 188, ob P 189, ob P 190, o12_a P, ob P 192, ob P 193, bare (ob P 196), ob P 195, ob P 196]⟩, (boot_heap P).life⟩
noncomputable abbrev pw : Program := PySem.Challenge.pw_nn0006_01
noncomputable def bodyT : List Stmt := behindTheImports pw
noncomputable def envT : Env := { scope := pw.main.scope, locals := mainNs, globals := mainNs, cells := [], code := .ref 13, frame := some 14 }
noncomputable def codeT : Code := .body bodyT envT
noncomputable def pos0 : Pos := ⟨0, 0, 0, 0⟩
noncomputable abbrev stT (h : Params → Heap) (k : Nat) (w : World) (os : OsState) : Shared := ⟨h w.params, Array.mk [], boot_drawn, k, os⟩
theorem grp {w : World} {n N i m : Nat} {s s' r : Shared} {c : Code} {pos p' : Pos} (h : segRun treeTable pw w 11 (some (.ref 6)) 1 n s (piecesOf ((bodyT.drop i).take m) envT c pos [topFrame pos0]) = some (.next, s', c, p'))
    (k : topRun treeTable pw w 11 (some (.ref 6)) N s' (restOf (bodyT.drop (i + m)) envT c p' [topFrame pos0]) = some r) : topRun treeTable pw w 11 (some (.ref 6)) (n + N) s (restOf (bodyT.drop i) envT c pos [topFrame pos0]) = some r := by
  have x := piece_app h k
  rwa [← List.drop_drop, List.take_append_drop] at x
theorem run_pre (w : World) (os : OsState) : topGo treeTable pw w 11 (some (.ref 6)) 12 (stT boot_heap boot_toks w os) (topStub pw) = some (stT h_a 187 w os, ⟨denote treeTable codeT, codeT, pos0, [topFrame pos0]⟩) := by kernel_rfl
theorem run_block (w : World) (os : OsState) : segRun treeTable pw w 11 (some (.ref 6)) 1 1 (stT h_a 187 w os) (blockOf bodyT envT codeT pos0 [topFrame pos0]) = some (.next, stT h_a 187 w os, codeT, pos0) := by kernel_rfl
theorem run_2 (w : World) (os : OsState) : segRun treeTable pw w 11 (some (.ref 6)) 1 214 (stT h_a 187 w os) (piecesOf ((bodyT.drop 0).take 2) envT codeT ⟨0, 0, 0, 0⟩ [topFrame pos0]) = some (.next, stT h_2 209 w os, codeT, ⟨2, 0, 3, 8⟩) := by kernel_rfl
theorem run_3 (w : World) (os : OsState) : segRun treeTable pw w 11 (some (.ref 6)) 1 218 (stT h_2 209 w os) (piecesOf ((bodyT.drop 2).take 1) envT codeT ⟨2, 0, 3, 8⟩ [topFrame pos0]) = some (.next, stT h_3 225 w os, codeT, ⟨4, 0, 5, 8⟩) := by kernel_rfl
theorem run_4 (w : World) (os : OsState) : segRun treeTable pw w 11 (some (.ref 6)) 1 218 (stT h_3 225 w os) (piecesOf ((bodyT.drop 3).take 1) envT codeT ⟨4, 0, 5, 8⟩ [topFrame pos0]) = some (.next, stT h_4 241 w os, codeT, ⟨6, 0, 7, 8⟩) := by kernel_rfl
theorem run_8 (w : World) (os : OsState) : segRun treeTable pw w 11 (some (.ref 6)) 1 124 (stT h_4 241 w os) (piecesOf ((bodyT.drop 4).take 4) envT codeT ⟨6, 0, 7, 8⟩ [topFrame pos0]) = some (.next, stT h_8 275 w os, codeT, ⟨29, 0, 37, 16⟩) := by kernel_rfl
theorem run_12 (w : World) (os : OsState) : segRun treeTable pw w 11 (some (.ref 6)) 1 147 (stT h_8 275 w os) (piecesOf ((bodyT.drop 8).take 4) envT codeT ⟨29, 0, 37, 16⟩ [topFrame pos0]) = some (.next, stT h_12 319 w os, codeT, ⟨56, 0, 68, 17⟩) := by kernel_rfl
theorem run_16 (w : World) (os : OsState) : segRun treeTable pw w 11 (some (.ref 6)) 1 156 (stT h_12 319 w os) (piecesOf ((bodyT.drop 12).take 4) envT codeT ⟨56, 0, 68, 17⟩ [topFrame pos0]) = some (.next, stT h_16 370 w os, codeT, ⟨93, 0, 97, 79⟩) := by kernel_rfl
theorem run_20 (w : World) (os : OsState) : segRun treeTable pw w 11 (some (.ref 6)) 1 121 (stT h_16 370 w os) (piecesOf ((bodyT.drop 16).take 4) envT codeT ⟨93, 0, 97, 79⟩ [topFrame pos0]) = some (.next, stT h_20 401 w os, codeT, ⟨109, 0, 114, 16⟩) := by kernel_rfl
theorem run_24 (w : World) (os : OsState) : segRun treeTable pw w 11 (some (.ref 6)) 1 143 (stT h_20 401 w os) (piecesOf ((bodyT.drop 20).take 4) envT codeT ⟨109, 0, 114, 16⟩ [topFrame pos0]) = some (.next, stT h_24 439 w os, codeT, ⟨127, 0, 132, 16⟩) := by kernel_rfl
theorem run_27 (w : World) (os : OsState) : segRun treeTable pw w 11 (some (.ref 6)) 1 123 (stT h_24 439 w os) (piecesOf ((bodyT.drop 24).take 3) envT codeT ⟨127, 0, 132, 16⟩ [topFrame pos0]) = some (.next, stT h_27 483 w os, codeT, ⟨149, 0, 169, 68⟩) := by kernel_rfl
theorem run_fin (w : World) (os : OsState) : topRun treeTable pw w 11 (some (.ref 6)) 4 (stT h_27 483 w os) (restOf (bodyT.drop 27) envT codeT ⟨149, 0, 169, 68⟩ [topFrame pos0]) = some (stT h_27 483 w os) := by kernel_rfl
theorem run_all (w : World) (os : OsState) : topRun treeTable pw w 11 (some (.ref 6)) (12 + (1 + (214 + (218 + (218 + (124 + (147 + (156 + (121 + (143 + (123 + 4))))))))))) (stT boot_heap boot_toks w os) (topStub pw) = some (stT h_27 483 w os) :=
  go_top (run_pre w os) (piece_block (run_block w os) (grp (run_2 w os) (grp (run_3 w os) (grp (run_4 w os) (grp (run_8 w os) (grp (run_12 w os) (grp (run_16 w os) (grp (run_20 w os) (grp (run_24 w os) (grp (run_27 w os) (run_fin w os)))))))))))
theorem run_size (w : World) : ((boot_heap w.params).isNs mainGlobals && (Array.mk [] : Array GenState).size == 0, (boot_heap w.params).objs.size, (boot_heap w.params).nsMap mainGlobals "__annotations__") = (true, 11, some (.ref 6)) := by kernel_rfl
theorem run_open : ∀ w : World, (fencedOpening treeTable pw w 2820).map (fun s => (s.heap, s.gens, s.drawn, s.toks)) = some (boot_heap w.params, Array.mk [], boot_drawn, boot_toks) := boot_open (by kernel_rfl) (by rfl) (fun _ => by kernel_rfl)
noncomputable def hk : Hook := kmHook hd.heap_39 [2, 3, 15, 22, 23, 24, 25, 28, 35, 36, 37, 40, 47, 48, 49, 52, 54, 55, 57, 58, 59, 61, 62, 64, 65, 66, 68, 69, 71, 72, 73, 75, 76, 78, 79, 80, 83, 84, 85, 87, 88, 90, 91, 92, 94, 95, 97, 98, 99, 101, 102, 104, 105, 106, 108, 109, 111, 112, 113, 115, 116, 118, 119, 120, 122, 123, 125, 126, 127, 129, 130, 132, 133, 134, 136, 137, 139, 140, 141, 143, 144, 146, 147, 148, 150, 151, 153, 154, 155, 157, 158, 160, 161, 162, 164, 165, 167, 168, 169, 171, 172, 174, 175, 176, 178, 179, 181, 182, 183, 185, 186, 188, 189, 190, 192, 193, 195, 196] (fun _ => by kernel_rfl) [191]
theorem look1 (w : World) (os : OsState) : (staticsOk (importedModules pw.main.body) (boot_heap w.params) (h_27 w.params) && namesBound pw (h_27 w.params) && gensDone (stT h_27 483 w os) && laidKept (boot_heap w.params) (h_27 w.params)) = true := by kernel_rfl
theorem look2 (w : World) (os : OsState) : openSeen vw [] (importedModules pw.main.body) (fun s => xlAt vw [] s && recOk (RowW.records (OpenRow.toRowW (OpenLaw.row PySem.Challenge.rw_nn0006_01))) s) true (stT h_27 483 w os) = openGood vw [] := by kernel_rfl
theorem look3 (w : World) (os : OsState) : hk.obs (stT h_27 483 w os) = hk.val w := by kernel_rfl
theorem left : LeftO (OpenLaw.row PySem.Challenge.rw_nn0006_01).prog vw [] (fun s => xlAt vw [] s && recOk (RowW.records (OpenRow.toRowW (OpenLaw.row PySem.Challenge.rw_nn0006_01))) s) hk.obs hk.val 2820 :=
  LeftO.of_pieces run_open run_size run_all (by rfl) fun w => funext fun os => looks_pair (look1 w os) (looks_pair (look2 w os) (look3 w os))
end Mine
end
section
set_option autoImplicit false
namespace Mine

/-- the number that a row of limbs stands for, the least limb first -/
def val (B : Int) : List Int → Int
  | [] => 0
  | d :: r => d + B * val B r
def Dig (B : Int) (ns : List Int) : Prop := ∀ d ∈ ns, 0 ≤ d ∧ d < B
/-- without the noughts at the high end -/
def norm : List Int → List Int
  | [] => []
  | d :: r => if norm r = [] ∧ d = 0 then [] else d :: norm r
/-- no nought at the high end -/
def Nrm (ns : List Int) : Prop := norm ns = ns

theorem norm_nil_iff : ∀ (ns : List Int), norm ns = [] ↔ ∀ d ∈ ns, d = 0
  | [] => by simp [norm]
  | d :: r => by
    have ih := norm_nil_iff r
    simp only [norm, List.mem_cons, forall_eq_or_imp]
    by_cases h : norm r = [] ∧ d = 0
    · simp only [h, and_self, if_true, true_and, true_iff]; exact ih.mp h.1
    · simp only [h, if_false]
      constructor
      · intro h'; cases h'
      · rintro ⟨h1, h2⟩; exact absurd ⟨ih.mpr h2, h1⟩ h
theorem norm_norm : ∀ (ns : List Int), norm (norm ns) = norm ns
  | [] => rfl
  | d :: r => by
    have ih := norm_norm r
    simp only [norm]
    by_cases h : norm r = [] ∧ d = 0
    · simp only [h, and_self, if_true, norm]
    · simp only [h, if_false, norm, ih]
theorem nrm_norm (ns : List Int) : Nrm (norm ns) := norm_norm ns
theorem norm_length : ∀ (ns : List Int), (norm ns).length ≤ ns.length
  | [] => Nat.le_refl _
  | d :: r => by
    have ih := norm_length r
    simp only [norm]
    split
    · simp
    · simp; omega
theorem val_norm (B : Int) : ∀ (ns : List Int), val B (norm ns) = val B ns
  | [] => rfl
  | d :: r => by
    have ih := val_norm B r
    simp only [norm, val]
    split
    · rename_i h
      rw [h.1] at ih
      simp only [val] at ih ⊢
      rw [← ih, h.2]; simp
    · simp only [val, ih]
theorem mem_norm : ∀ (ns : List Int) (d : Int), d ∈ norm ns → d ∈ ns
  | [], _, h => h
  | e :: r, d, h => by
    simp only [norm] at h
    split at h
    · cases h
    · rcases List.mem_cons.mp h with rfl | h
      · exact .head _
      · exact .tail _ (mem_norm r d h)
theorem dig_norm {B : Int} {ns : List Int} (h : Dig B ns) : Dig B (norm ns) := fun d hd => h d (mem_norm ns d hd)

theorem norm_take : ∀ (ns : List Int) (k : Nat), (∀ j, k ≤ j → j < ns.length → ns.getD j 0 = 0) → (k = 0 ∨ ns.getD (k - 1) 0 ≠ 0) → ns.take k = norm ns
  | [], k, _, _ => by simp [norm]
  | d :: r, 0, h, _ => by
    have : norm (d :: r) = [] := by
      rw [norm_nil_iff]
      intro x hx
      obtain ⟨j, hj, rfl⟩ := List.mem_iff_getElem.mp hx
      have := h j (Nat.zero_le _) hj
      simpa only [List.getD, List.getElem?_eq_getElem hj, Option.getD_some] using this
    rw [this]; rfl
  | d :: r, k + 1, h, h2 => by
    have h' : ∀ j, k ≤ j → j < r.length → r.getD j 0 = 0 := fun j hj hl => by
      have := h (j + 1) (by omega) (by simp; omega)
      simpa [List.getD] using this
    have hne : ¬ (norm r = [] ∧ d = 0) := by
      rintro ⟨a, b⟩
      rcases h2 with h2 | h2
      · omega
      · rw [norm_nil_iff] at a
        cases k with
        | zero => exact h2 (by simpa [List.getD] using b)
        | succ k =>
          have : (d :: r).getD (k + 1 + 1 - 1) 0 = r.getD k 0 := by simp [List.getD]
          rw [this] at h2
          by_cases hk : k < r.length
          · exact h2 (by simp only [List.getD, List.getElem?_eq_getElem hk, Option.getD_some]; exact a _ (List.getElem_mem hk))
          · exact h2 (by simp [List.getD, Nat.not_lt.mp hk])
    simp only [List.take_succ_cons, norm, hne, if_false]
    cases k with
    | zero =>
      rw [norm_take r 0 h' (.inl rfl)]
    | succ k =>
      rw [norm_take r (k + 1) h' (.inr ?_)]
      rcases h2 with h2 | h2
      · omega
      · simpa [List.getD] using h2
end Mine
end
section
set_option autoImplicit false
namespace Mine
/-- a fact that no unfolding opens -/
structure Hid (p : Prop) : Prop where
  out : p

theorem val_append (B : Int) : ∀ (a b : List Int), val B (a ++ b) = val B a + B ^ a.length * val B b
  | [], b => by simp [val]
  | d :: r, b => by
    have ih := val_append B r b
    simp only [List.cons_append, val, List.length_cons, ih, Int.pow_succ]
    grind
theorem val_snoc (B : Int) (a : List Int) (d : Int) : val B (a ++ [d]) = val B a + B ^ a.length * d := by
  rw [val_append]; simp [val]
theorem val_take_succ (B : Int) : ∀ (a : List Int) (i : Nat), val B (a.take (i + 1)) = val B (a.take i) + B ^ i * a.getD i 0
  | [], i => by simp [val]
  | d :: r, 0 => by simp [val]
  | d :: r, i + 1 => by
    have ih := val_take_succ B r i
    simp only [List.take_succ_cons, val, ih, Int.pow_succ]
    have e : (d :: r).getD (i + 1) 0 = r.getD i 0 := by simp [List.getD]
    rw [e]
    grind
theorem dig_snoc {B : Int} {a : List Int} {d : Int} (h : Dig B a) (h0 : 0 ≤ d) (h1 : d < B) : Dig B (a ++ [d]) := by
  intro x hx
  rcases List.mem_append.mp hx with hx | hx
  · exact h x hx
  · rw [List.mem_singleton.mp hx]; exact ⟨h0, h1⟩
theorem dig_getD {B : Int} {a : List Int} (h : Dig B a) (hB : 0 < B) (i : Nat) : 0 ≤ a.getD i 0 ∧ a.getD i 0 < B := by
  by_cases hi : i < a.length
  · have e : a.getD i 0 = a[i] := by simp [List.getD, hi]
    rw [e]; exact h _ (List.getElem_mem hi)
  · have e : a.getD i 0 = 0 := by simp [List.getD, Nat.not_lt.mp hi]
    rw [e]; exact ⟨Int.le_refl _, hB⟩
theorem dig_take {B : Int} {a : List Int} (h : Dig B a) (n : Nat) : Dig B (a.take n) := fun d hd => h d (List.mem_of_mem_take hd)
theorem dig_drop {B : Int} {a : List Int} (h : Dig B a) (n : Nat) : Dig B (a.drop n) := fun d hd => h d (List.mem_of_mem_drop hd)
theorem pow_pos {B : Int} (hB : 0 < B) (n : Nat) : 0 < B ^ n := Int.pow_pos hB
theorem val_range {B : Int} (hB : 0 < B) : ∀ {a : List Int}, Dig B a → 0 ≤ val B a ∧ val B a < B ^ a.length
  | [], _ => by simp [val]
  | d :: r, h => by
    have ih := val_range hB (a := r) fun x hx => h x (.tail _ hx)
    have hd := h d (.head _)
    simp only [val, List.length_cons, Int.pow_succ]
    have h1 : 0 ≤ B * val B r := Int.mul_nonneg (Int.le_of_lt hB) ih.1
    have h2 : B * val B r ≤ B * (B ^ r.length - 1) := Int.mul_le_mul_of_nonneg_left (by omega) (Int.le_of_lt hB)
    have h3 : B * (B ^ r.length - 1) = B ^ r.length * B - B := by grind
    omega
theorem val_take_drop (B : Int) (a : List Int) (n : Nat) : val B a = val B (a.take n) + B ^ (min n a.length) * val B (a.drop n) := by
  have := val_append B (a.take n) (a.drop n)
  rw [List.take_append_drop] at this
  rw [this, List.length_take]

def AddP (B : Int) (a b : List Int) (c : Int) (f : List Int) : Prop := Dig B f ∧ 0 ≤ c ∧ c ≤ 1 ∧ val B f + c * B ^ f.length = val B (a.take f.length) + val B (b.take f.length)
theorem add_start (B : Int) (a b : List Int) : ([] : List Int).length = ([] : List Int).length ∧ AddP B a b 0 [] := ⟨rfl, by simp [AddP, Dig, val]⟩
theorem add_step {B : Int} {a b : List Int} {c : Int} {f : List Int} {X : Int} (hB : 2 ≤ B) (da : Dig B a) (db : Dig B b) (h : AddP B a b c f) (hX : X = c + a.getD f.length 0 + b.getD f.length 0) :
    AddP B a b (X / B) (f ++ [X % B]) := by
  obtain ⟨h1, h2, h3, h4⟩ := h
  have ha := dig_getD da (by omega) f.length
  have hb := dig_getD db (by omega) f.length
  have hm0 := Int.emod_nonneg X (b := B) (by omega)
  have hm1 := Int.emod_lt_of_pos X (b := B) (by omega)
  have hd := Int.mul_ediv_add_emod X B
  refine ⟨dig_snoc h1 hm0 hm1, Int.ediv_nonneg (by omega) (by omega), ?_, ?_⟩
  · have : X / B < 2 := Int.ediv_lt_of_lt_mul (by omega) (by omega)
    omega
  · rw [val_snoc, List.length_append, List.length_singleton, val_take_succ, val_take_succ]
    have e : B ^ f.length * (X % B) + (X / B) * B ^ (f.length + 1) = B ^ f.length * X := by
      have q : (X / B) * B ^ (f.length + 1) = B ^ f.length * (B * (X / B)) := by rw [Int.pow_succ]; grind
      rw [q, ← Int.mul_add]
      congr 1
      omega
    have e2 : B ^ f.length * X = B ^ f.length * c + B ^ f.length * a.getD f.length 0 + B ^ f.length * b.getD f.length 0 := by rw [hX]; grind
    have e3 : c * B ^ f.length = B ^ f.length * c := Int.mul_comm _ _
    omega
/-- the end of an addition -/
theorem add_end {B : Int} {a b : List Int} {c : Int} {f : List Int} (h : AddP B a b c f) (ha : a.length ≤ f.length) (hb : b.length ≤ f.length) :
    val B f + c * B ^ f.length = val B a + val B b := by
  have := h.2.2.2
  rwa [List.take_of_length_le ha, List.take_of_length_le hb] at this
theorem add_fin0 {B : Int} {a b : List Int} {c : Int} {f : List Int} (h : AddP B a b c f) (hc : ¬ 0 < c) (ha : a.length ≤ f.length) (hb : b.length ≤ f.length) (hm : f.length ≤ max a.length b.length) :
    Dig B f ∧ val B f = val B a + val B b ∧ f.length ≤ max a.length b.length + 1 := by
  have h1 := add_end h ha hb
  obtain ⟨h2, h3, h4, _⟩ := h
  have : c = 0 := by omega
  subst this
  exact ⟨h2, by simpa using h1, by omega⟩
theorem add_fin1 {B : Int} {a b : List Int} {c : Int} {f : List Int} (hB : 2 ≤ B) (h : AddP B a b c f) (_hc : 0 < c) (ha : a.length ≤ f.length) (hb : b.length ≤ f.length) (hm : f.length ≤ max a.length b.length) :
    Dig B (f ++ [c]) ∧ val B (f ++ [c]) = val B a + val B b ∧ (f ++ [c]).length ≤ max a.length b.length + 1 := by
  have h1 := add_end h ha hb
  obtain ⟨h2, h3, h4, _⟩ := h
  refine ⟨dig_snoc h2 h3 (by omega), ?_, by simp; omega⟩
  rw [val_snoc, Int.mul_comm]
  exact h1
end Mine
end
section
set_option autoImplicit false
namespace Mine

theorem nrm_snoc : ∀ (f : List Int) {d : Int}, d ≠ 0 → Nrm (f ++ [d])
  | [], d, h => by simp [Nrm, norm, h]
  | e :: r, d, h => by
    have ih := nrm_snoc r h
    unfold Nrm at ih ⊢
    simp only [List.cons_append, norm, ih]
    simp
theorem nrm_last {ns : List Int} (h : Nrm ns) (hp : 0 < ns.length) : ns.getD (ns.length - 1) 0 ≠ 0 := by
  induction ns with
  | nil => simp at hp
  | cons d r ih =>
    unfold Nrm at h
    simp only [norm] at h
    split at h
    · cases h
    · rename_i hne
      have hr : norm r = r := (List.cons.inj h).2
      cases r with
      | nil =>
        simp only [List.length_cons, List.length_nil, List.getD]
        simp only [norm, true_and] at hne
        simpa using hne
      | cons e q =>
        have := ih hr (by simp)
        simpa [List.getD] using this
theorem nrm_nil : Nrm [] := rfl

theorem nrm_cons {d : Int} {r : List Int} (h : Nrm (d :: r)) : Nrm r ∧ (r = [] → d ≠ 0) := by
  unfold Nrm at h ⊢
  simp only [norm] at h
  split at h
  · cases h
  · rename_i hne
    have hr : norm r = r := (List.cons.inj h).2
    refine ⟨hr, fun e => ?_⟩
    subst e
    simp only [norm, true_and] at hne
    exact hne
theorem val_zero_nrm {B : Int} (hB : 0 < B) : ∀ {ns : List Int}, Dig B ns → Nrm ns → val B ns = 0 → ns = []
  | [], _, _, _ => rfl
  | d :: r, hd, hn, hv => by
    have hd' : Dig B r := fun x hx => hd x (.tail _ hx)
    have h0 := hd d (.head _)
    have hr := val_range hB hd'
    have ⟨hn1, hn2⟩ := nrm_cons hn
    simp only [val] at hv
    have hm : 0 ≤ B * val B r := Int.mul_nonneg (Int.le_of_lt hB) hr.1
    have hz : B * val B r = 0 := by omega
    have hz2 : val B r = 0 := by
      rcases Int.mul_eq_zero.mp hz with h | h
      · omega
      · exact h
    have := val_zero_nrm hB hd' hn1 hz2
    exact absurd (by omega) (hn2 this)
/-- the limbs of a number are one row alone -/
theorem limbs_unique {B : Int} (hB : 0 < B) : ∀ {x y : List Int}, Dig B x → Dig B y → Nrm x → Nrm y → val B x = val B y → x = y
  | [], y, _, hy, _, ny, h => (val_zero_nrm hB hy ny h.symm).symm
  | d :: r, [], hx, _, nx, _, h => val_zero_nrm hB hx nx h
  | d :: r, e :: q, hx, hy, nx, ny, h => by
    have h1 := hx d (.head _)
    have h2 := hy e (.head _)
    simp only [val] at h
    have e1 : d = e := by
      have a1 : (d + B * val B r) % B = d := by rw [Int.add_mul_emod_self_left, Int.emod_eq_of_lt h1.1 h1.2]
      have a2 : (e + B * val B q) % B = e := by rw [Int.add_mul_emod_self_left, Int.emod_eq_of_lt h2.1 h2.2]
      rw [← a1, ← a2, h]
    subst e1
    have e2 : val B r = val B q := by
      have : B * val B r = B * val B q := by omega
      exact Int.eq_of_mul_eq_mul_left (by omega) this
    rw [limbs_unique hB (fun x hx' => hx x (.tail _ hx')) (fun x hy' => hy x (.tail _ hy')) (nrm_cons nx).1 (nrm_cons ny).1 e2]

theorem pow2_cast (n : Nat) : (2 : Int) ^ n = ((2 ^ n : Nat) : Int) := by rw [Int.natCast_pow]; rfl
theorem pow2_pos (n : Nat) : (0 : Int) < 2 ^ n := Int.pow_pos (by omega)
theorem pow2_le {m n : Nat} (h : m ≤ n) : (2 : Int) ^ m ≤ 2 ^ n := by
  rw [pow2_cast, pow2_cast]; exact Int.ofNat_le.mpr (Nat.pow_le_pow_right (by omega) h)
theorem two_le_pow {k : Nat} (hk : 1 ≤ k) : (2 : Int) ≤ 2 ^ k := by
  have := pow2_le hk
  simpa using this
theorem pow_pow (k n : Nat) : ((2 : Int) ^ k) ^ n = 2 ^ (k * n) := Int.pow_mul.symm

theorem pow2_dvd {m n : Nat} (h : m ≤ n) : (2 : Int) ^ m ∣ 2 ^ n := ⟨2 ^ (n - m), by rw [← Int.pow_add]; congr 1; omega⟩

def Small (N : Int) : Prop := Hid (N < 2 ^ 500)
def LimP (k : Nat) (N : Int) (n : Int) (f : List Int) : Prop := Hid (n < 2 ^ (500 - f.length) ∧ Dig (2 ^ k) f ∧ val (2 ^ k) f + n * (2 ^ k) ^ f.length = N ∧ (n = 0 → Nrm f))
theorem limP_start {k : Nat} {N : Int} (h : 0 ≤ N) (hN : Small N) : 0 ≤ N ∧ ([] : List Int).length ≤ 500 ∧ LimP k N N [] :=
  ⟨h, by simp, ⟨by simpa using hN.out, (fun d hd => nomatch hd), by simp [val], fun _ => nrm_nil⟩⟩
theorem limP_step {k : Nat} {N n : Int} {f : List Int} (hk : 1 ≤ k) (h0 : 0 < n) (hl : f.length ≤ 500) (h : LimP k N n f) :
    0 ≤ n / 2 ^ k ∧ (f ++ [n % 2 ^ k]).length ≤ 500 ∧ LimP k N (n / 2 ^ k) (f ++ [n % 2 ^ k]) := by
  obtain ⟨h1, h2, h3, _⟩ := h.out
  have hB := two_le_pow hk
  have hlen : f.length < 500 := by
    rcases Nat.lt_or_ge f.length 500 with q | q
    · exact q
    · have e : 500 - f.length = 0 := by omega
      rw [e] at h1; simp at h1; omega
  have hm0 := Int.emod_nonneg n (b := 2 ^ k) (by omega)
  have hm1 := Int.emod_lt_of_pos n (b := 2 ^ k) (by omega)
  have hd := Int.mul_ediv_add_emod n (2 ^ k)
  have hq : 0 ≤ n / 2 ^ k := Int.ediv_nonneg (by omega) (by omega)
  refine ⟨hq, by simp; omega, ⟨?_, dig_snoc h2 hm0 hm1, ?_, ?_⟩⟩
  · rw [List.length_append, List.length_singleton]
    have e : 500 - f.length = (500 - (f.length + 1)) + 1 := by omega
    rw [e, Int.pow_succ] at h1
    have hp := pow2_pos (500 - (f.length + 1))
    refine Int.ediv_lt_of_lt_mul (by omega) ?_
    have : (2 : Int) ^ (500 - (f.length + 1)) * 2 ≤ 2 ^ (500 - (f.length + 1)) * 2 ^ k := Int.mul_le_mul_of_nonneg_left hB (by omega)
    omega
  · rw [val_snoc, List.length_append, List.length_singleton, Int.pow_succ]
    have e : (2 ^ k) ^ f.length * (n % 2 ^ k) + n / 2 ^ k * ((2 ^ k) ^ f.length * 2 ^ k) = n * (2 ^ k) ^ f.length := by
      have : n / 2 ^ k * ((2 ^ k) ^ f.length * 2 ^ k) = (2 ^ k) ^ f.length * (2 ^ k * (n / 2 ^ k)) := by grind
      rw [this, ← Int.mul_add, Int.add_comm, hd, Int.mul_comm]
    omega
  · intro hz
    refine nrm_snoc f ?_
    rw [hz, Int.mul_zero] at hd
    omega
theorem limP_falls {k : Nat} {n : Int} (hk : 1 ≤ k) (h0 : 0 < n) : (n / 2 ^ k).toNat < n.toNat := by
  have hB := two_le_pow hk
  have : n / 2 ^ k < n := Int.ediv_lt_of_lt_mul (by omega) (by
    have := Int.mul_le_mul_of_nonneg_left hB (Int.le_of_lt h0)
    omega)
  omega
theorem limP_end {k : Nat} {N n : Int} {f : List Int} (h0 : 0 ≤ n) (h1 : ¬ 0 < n) (hl : f.length ≤ 500) (h : LimP k N n f) :
    Dig (2 ^ k) f ∧ val (2 ^ k) f = N ∧ Nrm f ∧ f.length ≤ 500 := by
  obtain ⟨_, h2, h3, h4⟩ := h.out
  have : n = 0 := by omega
  subst this
  exact ⟨h2, by simpa using h3, h4 rfl, hl⟩

theorem val_rev_step {B : Int} {pre : List Int} {f d : Int} (h : f = val B pre.reverse) : f * B + d = val B (pre ++ [d]).reverse := by
  rw [h, List.reverse_append, List.reverse_singleton, List.singleton_append, val, Int.mul_comm, Int.add_comm]
theorem dig_rev {B : Int} {ns : List Int} (h : Dig B ns) : Dig B ns.reverse := fun d hd => h d (List.mem_reverse.mp hd)

/-- Newton's step -/
def InvP (k : Nat) (d f s : Int) : Prop := Hid ((2 : Int) ^ (min s.toNat k) ∣ f * d - 1)
theorem dvd_emod_iff {m M X Y : Int} (h : m ∣ M) : (m ∣ (X % M) * Y - 1) ↔ (m ∣ X * Y - 1) := by
  have e : X * Y - 1 = (X % M) * Y - 1 + M * ((X / M) * Y) := by
    have := Int.mul_ediv_add_emod X M
    have e2 : X * Y = (M * (X / M) + X % M) * Y := by rw [this]
    rw [e2]; grind
  rw [e]
  constructor
  · intro q; exact Int.dvd_add q (Int.dvd_trans h (Int.dvd_mul_right _ _))
  · intro q; exact (Int.dvd_add_left (Int.dvd_trans h (Int.dvd_mul_right _ _))).mp q
theorem sq_mod8 {d : Int} (h : d % 2 = 1) : (8 : Int) ∣ d * d - 1 := by
  have : d % 8 = 1 ∨ d % 8 = 3 ∨ d % 8 = 5 ∨ d % 8 = 7 := by omega
  have e := Int.mul_ediv_add_emod d 8
  rcases this with q | q | q | q <;> rw [q] at e
  · exact ⟨(d / 8) * (8 * (d / 8) + 2), by rw [← e]; grind⟩
  · exact ⟨(d / 8) * (8 * (d / 8) + 6) + 1, by rw [← e]; grind⟩
  · exact ⟨(d / 8) * (8 * (d / 8) + 10) + 3, by rw [← e]; grind⟩
  · exact ⟨(d / 8) * (8 * (d / 8) + 14) + 6, by rw [← e]; grind⟩
theorem invP_start {k : Nat} {d : Int} (h : d % 2 = 1) : InvP k d (d % 2 ^ k) 3 := by
  refine ⟨?_⟩
  have hm : (2 : Int) ^ (min (3 : Int).toNat k) ∣ 2 ^ k := pow2_dvd (Nat.min_le_right _ _)
  rw [dvd_emod_iff hm]
  have h8 : (2 : Int) ^ (min (3 : Int).toNat k) ∣ 8 := by
    have : (8 : Int) = 2 ^ 3 := by decide
    rw [this]; exact pow2_dvd (Nat.min_le_left _ _)
  exact Int.dvd_trans h8 (sq_mod8 h)
theorem invP_step {k : Nat} {d f s : Int} (hs : 1 ≤ s) (h : InvP k d f s) : InvP k d ((f * ((2 - d * f) % 2 ^ k)) % 2 ^ k) (2 * s) := by
  have h := h.out
  refine ⟨?_⟩
  have hm : (2 : Int) ^ (min (2 * s).toNat k) ∣ 2 ^ k := pow2_dvd (Nat.min_le_right _ _)
  rw [dvd_emod_iff hm]
  have e1 : f * ((2 - d * f) % 2 ^ k) * d - 1 = ((2 - d * f) % 2 ^ k) * (f * d) - 1 := by grind
  rw [e1, dvd_emod_iff hm]
  have e2 : (2 - d * f) * (f * d) - 1 = -((f * d - 1) * (f * d - 1)) := by grind
  rw [e2, Int.dvd_neg]
  have hp : (2 : Int) ^ (min (2 * s).toNat k) ∣ 2 ^ (min s.toNat k) * 2 ^ (min s.toNat k) := by
    rw [← Int.pow_add]
    exact pow2_dvd (by omega)
  exact Int.dvd_trans hp (Int.mul_dvd_mul h h)
theorem invP_end {k : Nat} {d f s : Int} (hs : (k : Int) ≤ s) (h : InvP k d f s) : (2 : Int) ^ k ∣ f * d - 1 := by
  have h := h.out
  have e : min s.toNat k = k := by omega
  rwa [e] at h
end Mine
end
section
set_option autoImplicit false
namespace Mine
theorem getD_geP (a : List Int) {i : Nat} (h : a.length ≤ i) : a.getD i 0 = 0 := by simp [List.getD, h]

/-- the limbs turned over -/
theorem compl_val {B : Int} (f : Nat → Int) (a : List Int) (hf : ∀ i : Nat, f i = B - 1 - a.getD i 0) :
    ∀ n : Nat, val B ((List.range n).map fun (i : Nat) => f i) + val B (a.take n) = B ^ n - 1
  | 0 => by simp [val]
  | n + 1 => by
    have ih := compl_val f a hf n
    rw [List.range_succ, List.map_append, List.map_singleton, val_snoc, val_take_succ, List.length_map, List.length_range, hf n, Int.pow_succ]
    have e : B ^ n * (B - 1 - a.getD n 0) = B ^ n * B - B ^ n - B ^ n * a.getD n 0 := by grind
    omega
theorem compl_dig {B : Int} (hB : 0 < B) (f : Nat → Int) (a : List Int) (da : Dig B a) (hf : ∀ i : Nat, f i = B - 1 - a.getD i 0) (n : Nat) :
    Dig B ((List.range n).map fun (i : Nat) => f i) := by
  intro d hd
  obtain ⟨i, _, rfl⟩ := List.mem_map.mp hd
  have := dig_getD da hB i
  rw [hf i]
  omega
theorem val_emod_take {B : Int} (hB : 0 < B) {x : List Int} (dx : Dig B x) (n : Nat) : val B (x.take n) = val B x % B ^ n := by
  have h := val_take_drop B x n
  rcases Nat.le_total n x.length with q | q
  · rw [Nat.min_eq_left q] at h
    have hr := val_range hB (dig_take dx n)
    rw [List.length_take, Nat.min_eq_left q] at hr
    rw [h, Int.add_mul_emod_self_left, Int.emod_eq_of_lt hr.1 hr.2]
  · have hr := val_range hB dx
    rw [List.take_of_length_le q]
    have hp : B ^ x.length ≤ B ^ n := by
      have e : n = x.length + (n - x.length) := by omega
      rw [e, Int.pow_add]
      have h1 : 0 < B ^ x.length := pow_pos hB _
      have h2 : 0 < B ^ (n - x.length) := pow_pos hB _
      have := Int.mul_le_mul_of_nonneg_left (show (1 : Int) ≤ B ^ (n - x.length) by omega) (Int.le_of_lt h1)
      omega
    rw [Int.emod_eq_of_lt hr.1 (by omega)]
/-- the end of the complement: the row turned over, one more, cut -/
theorem compl_end {B : Int} (hB : 0 < B) {a y : List Int} {n : Nat} (T : List Int) (ha : a.length ≤ n) (hT : val B T + val B (a.take n) = B ^ n - 1)
    (dy : Dig B y) (hy : val B y = val B (norm T) + val B [1]) :
    Dig B (norm (y.take n)) ∧ val B (norm (y.take n)) = (- val B a) % B ^ n ∧ Nrm (norm (y.take n)) ∧ (norm (y.take n)).length ≤ n := by
  refine ⟨dig_norm (dig_take dy n), ?_, nrm_norm _, Nat.le_trans (norm_length _) (by rw [List.length_take]; exact Nat.min_le_left _ _)⟩
  rw [val_norm, val_emod_take hB dy, hy, val_norm]
  rw [List.take_of_length_le ha] at hT
  have e : val B T + val B [1] = B ^ n * 1 + (- val B a) := by simp only [val]; omega
  rw [e, Int.mul_add_emod_self_left]
end Mine
end
section
set_option autoImplicit false
namespace Mine
theorem mod_of_dvd {m X Y : Int} (h : m ∣ X - Y) : X % m = Y % m := by
  obtain ⟨c, hc⟩ := h
  have : X = Y + m * c := by omega
  rw [this, Int.add_mul_emod_self_left]
theorem val_congr {m f B : Int} (h : m ∣ f - B) : ∀ a : List Int, m ∣ val f a - val B a
  | [] => by simp [val]
  | d :: r => by
    have ih := val_congr h r
    simp only [val]
    have e : d + f * val f r - (d + B * val B r) = (f - B) * val f r + B * (val f r - val B r) := by grind
    rw [e]
    exact Int.dvd_add (Int.dvd_trans h (Int.dvd_mul_right _ _)) (Int.dvd_trans ih (Int.dvd_mul_left _ _))
theorem dvd_emod_sub (m X : Int) : m ∣ X % m - X := ⟨-(X / m), by have := Int.mul_ediv_add_emod X m; grind⟩
theorem pow_one_dvd (n : Nat) : ∀ q : Nat, (2 : Int) ^ n - 1 ∣ 2 ^ (n * q) - 1
  | 0 => by simp
  | q + 1 => by
    have ih := pow_one_dvd n q
    have e : (2 : Int) ^ (n * (q + 1)) - 1 = (2 ^ (n * q) - 1) * 2 ^ n + (2 ^ n - 1) := by
      rw [Nat.mul_succ, Int.pow_add]; grind
    rw [e]
    exact Int.dvd_add (Int.dvd_trans ih (Int.dvd_mul_right _ _)) (Int.dvd_refl _)
theorem pow_rest_one (k n : Nat) : (2 : Int) ^ n - 1 ∣ 2 ^ (k % n) - 2 ^ k := by
  have e : (2 : Int) ^ k = 2 ^ (n * (k / n)) * 2 ^ (k % n) := by rw [← Int.pow_add, Nat.div_add_mod]
  have e2 : (2 : Int) ^ (k % n) - 2 ^ k = -((2 ^ (n * (k / n)) - 1) * 2 ^ (k % n)) := by rw [e]; grind
  rw [e2, Int.dvd_neg]
  exact Int.dvd_trans (pow_one_dvd n (k / n)) (Int.dvd_mul_right _ _)
theorem pow_above_dvd (n : Nat) : ∀ q : Nat, (2 : Int) ^ n + 1 ∣ 2 ^ (n * q) - (if q % 2 = 0 then 1 else -1)
  | 0 => by simp
  | q + 1 => by
    have ih := pow_above_dvd n q
    have e : (2 : Int) ^ (n * (q + 1)) - (if (q + 1) % 2 = 0 then 1 else -1) = (2 ^ (n * q) - (if q % 2 = 0 then 1 else -1)) * 2 ^ n + (if q % 2 = 0 then 1 else -1) * (2 ^ n + 1) := by
      rw [Nat.mul_succ, Int.pow_add]
      rcases Nat.mod_two_eq_zero_or_one q with h | h
      · have h2 : (q + 1) % 2 = 1 := by omega
        rw [h, h2]; simp; grind
      · have h2 : (q + 1) % 2 = 0 := by omega
        rw [h, h2]; simp; grind
    rw [e]
    exact Int.dvd_add (Int.dvd_trans ih (Int.dvd_mul_right _ _)) (Int.dvd_mul_left _ _)
theorem pow_rest_above (k n : Nat) : (2 : Int) ^ n + 1 ∣ (if (k / n) % 2 = 0 then 1 else -1) * 2 ^ (k % n) - 2 ^ k := by
  have e : (2 : Int) ^ k = 2 ^ (n * (k / n)) * 2 ^ (k % n) := by rw [← Int.pow_add, Nat.div_add_mod]
  have e2 : (if (k / n) % 2 = 0 then 1 else -1) * (2 : Int) ^ (k % n) - 2 ^ k = -((2 ^ (n * (k / n)) - (if (k / n) % 2 = 0 then 1 else -1)) * 2 ^ (k % n)) := by rw [e]; grind
  rw [e2, Int.dvd_neg]
  exact Int.dvd_trans (pow_above_dvd n (k / n)) (Int.dvd_mul_right _ _)
theorem ones_val (k n : Nat) (a : List Int) : val (2 ^ (k % n) % (2 ^ n - 1)) a % (2 ^ n - 1) = val (2 ^ k) a % (2 ^ n - 1) := by
  refine mod_of_dvd (val_congr ?_ a)
  have h1 := dvd_emod_sub (2 ^ n - 1) (2 ^ (k % n))
  have h2 := pow_rest_one k n
  have e : (2 : Int) ^ (k % n) % (2 ^ n - 1) - 2 ^ k = (2 ^ (k % n) % (2 ^ n - 1) - 2 ^ (k % n)) + (2 ^ (k % n) - 2 ^ k) := by omega
  rw [e]; exact Int.dvd_add h1 h2
theorem above_val_even {k n : Nat} (h : (k / n) % 2 = 0) (a : List Int) : val (2 ^ (k % n) % (2 ^ n + 1)) a % (2 ^ n + 1) = val (2 ^ k) a % (2 ^ n + 1) := by
  refine mod_of_dvd (val_congr ?_ a)
  have h1 := dvd_emod_sub (2 ^ n + 1) (2 ^ (k % n))
  have h2 := pow_rest_above k n
  rw [if_pos h, Int.one_mul] at h2
  have e : (2 : Int) ^ (k % n) % (2 ^ n + 1) - 2 ^ k = (2 ^ (k % n) % (2 ^ n + 1) - 2 ^ (k % n)) + (2 ^ (k % n) - 2 ^ k) := by omega
  rw [e]; exact Int.dvd_add h1 h2
theorem above_val_odd {k n : Nat} (h : (k / n) % 2 ≠ 0) (a : List Int) : val ((-2 ^ (k % n)) % (2 ^ n + 1)) a % (2 ^ n + 1) = val (2 ^ k) a % (2 ^ n + 1) := by
  refine mod_of_dvd (val_congr ?_ a)
  have h1 := dvd_emod_sub (2 ^ n + 1) (-2 ^ (k % n))
  have h2 := pow_rest_above k n
  rw [if_neg h] at h2
  have e : (-2 ^ (k % n) : Int) % (2 ^ n + 1) - 2 ^ k = ((-2 ^ (k % n)) % (2 ^ n + 1) - (-2 ^ (k % n))) + (-1 * 2 ^ (k % n) - 2 ^ k) := by omega
  rw [e]; exact Int.dvd_add h1 h2
end Mine
end
section
set_option autoImplicit false
namespace Mine
theorem val_set {B : Int} : ∀ (r : List Int) (i : Nat) (d : Int), i < r.length → val B (r.set i d) = val B r + B ^ i * (d - r.getD i 0)
  | [], _, _, h => by simp at h
  | e :: r, 0, d, _ => by simp [val]; omega
  | e :: r, i + 1, d, h => by
    have ih := val_set (B := B) r i d (by simpa using h)
    have e2 : (e :: r).getD (i + 1) 0 = r.getD i 0 := by simp [List.getD]
    simp only [List.set_cons_succ, val, ih, e2, Int.pow_succ]
    grind
theorem dig_set {B : Int} {r : List Int} {i : Nat} {d : Int} (h : Dig B r) (h0 : 0 ≤ d) (h1 : d < B) : Dig B (r.set i d) := by
  intro x hx
  rcases List.mem_or_eq_of_mem_set hx with q | q
  · exact h x q
  · rw [q]; exact ⟨h0, h1⟩

/-- the row while a product is taken from it -/
def TakP (B : Int) (row b : List Int) (limb : Int) (spot : Nat) (pos : Int) (bo : Int) (r : List Int) : Prop := Hid (Dig B r ∧ val B r = val B row - limb * val B b * B ^ spot + bo * B ^ pos.toNat)
theorem tak_start {B : Int} {row : List Int} {limb pos : Int} {spot : Nat} (d : Dig B row) : TakP B row [] limb spot pos 0 row := ⟨d, by simp [val]⟩
/-- one limb of the row less the product's limb and what is owed -/
theorem tak_step {B : Int} (hB : 2 ≤ B) {row pre r : List Int} {limb pos bo piece : Int} {spot : Nat} (hl0 : 0 ≤ limb) (hl1 : limb < B) (hp0 : 0 ≤ piece) (hp1 : piece < B) (hb0 : 0 ≤ bo) (hb1 : bo < B)
    (hpos : pos = (spot : Int) + (pre.length : Int)) (hr : pos.toNat < r.length) (h : TakP B row pre limb spot pos bo r) :
    0 ≤ -((r.getD pos.toNat 0 - limb * piece - bo) / B) ∧ -((r.getD pos.toNat 0 - limb * piece - bo) / B) < B ∧
      TakP B row (pre ++ [piece]) limb spot (pos + 1) (-((r.getD pos.toNat 0 - limb * piece - bo) / B)) (r.set pos.toNat ((r.getD pos.toNat 0 - limb * piece - bo) % B)) := by
  obtain ⟨h1, h2⟩ := h.out
  have hd := dig_getD h1 (by omega) pos.toNat
  have hm0 := Int.emod_nonneg (r.getD pos.toNat 0 - limb * piece - bo) (b := B) (by omega)
  have hm1 := Int.emod_lt_of_pos (r.getD pos.toNat 0 - limb * piece - bo) (b := B) (by omega)
  have he := Int.mul_ediv_add_emod (r.getD pos.toNat 0 - limb * piece - bo) B
  have hlp0 : 0 ≤ limb * piece := Int.mul_nonneg hl0 hp0
  have hlp1 : limb * piece ≤ (B - 1) * (B - 1) := Int.mul_le_mul (by omega) (by omega) hp0 (by omega)
  have hlp2 : (B - 1) * (B - 1) = B * B - 2 * B + 1 := by grind
  refine ⟨?_, ?_, ⟨dig_set h1 hm0 hm1, ?_⟩⟩
  · have : (r.getD pos.toNat 0 - limb * piece - bo) / B < 1 := Int.ediv_lt_of_lt_mul (by omega) (by omega)
    omega
  · have : -B < (r.getD pos.toNat 0 - limb * piece - bo) / B := by
      have hb : -B + 1 ≤ (r.getD pos.toNat 0 - limb * piece - bo) / B := by
        refine Int.le_ediv_of_mul_le (by omega) ?_
        have : (-B + 1) * B = B - B * B := by grind
        omega
      omega
    omega
  · rw [val_set _ _ _ hr, h2, val_snoc]
    have e1 : (pos + 1).toNat = pos.toNat + 1 := by omega
    have e2 : pos.toNat = spot + pre.length := by omega
    have e3 : (r.getD pos.toNat 0 - limb * piece - bo) % B = (r.getD pos.toNat 0 - limb * piece - bo) - B * ((r.getD pos.toNat 0 - limb * piece - bo) / B) := by omega
    rw [e1, e3, e2, Int.pow_succ, Int.pow_add]
    grind
theorem tak_turn {B : Int} (hB : 2 ≤ B) {row b r : List Int} {limb pos bo : Int} {spot : Nat} (hb0 : 0 ≤ bo) (hb1 : bo < B) (hpos : 0 ≤ pos) (hr : pos.toNat < r.length) (h : TakP B row b limb spot pos bo r) :
    0 ≤ -((r.getD pos.toNat 0 - bo) / B) ∧ -((r.getD pos.toNat 0 - bo) / B) < B ∧ TakP B row b limb spot (pos + 1) (-((r.getD pos.toNat 0 - bo) / B)) (r.set pos.toNat ((r.getD pos.toNat 0 - bo) % B)) := by
  obtain ⟨h1, h2⟩ := h.out
  have hd := dig_getD h1 (by omega) pos.toNat
  have hm0 := Int.emod_nonneg (r.getD pos.toNat 0 - bo) (b := B) (by omega)
  have hm1 := Int.emod_lt_of_pos (r.getD pos.toNat 0 - bo) (b := B) (by omega)
  have he := Int.mul_ediv_add_emod (r.getD pos.toNat 0 - bo) B
  refine ⟨?_, ?_, ⟨dig_set h1 hm0 hm1, ?_⟩⟩
  · have : (r.getD pos.toNat 0 - bo) / B < 1 := Int.ediv_lt_of_lt_mul (by omega) (by omega)
    omega
  · have hb : -1 ≤ (r.getD pos.toNat 0 - bo) / B := Int.le_ediv_of_mul_le (by omega) (by omega)
    omega
  · rw [val_set _ _ _ hr, h2]
    have e1 : (pos + 1).toNat = pos.toNat + 1 := by omega
    have e3 : (r.getD pos.toNat 0 - bo) % B = (r.getD pos.toNat 0 - bo) - B * ((r.getD pos.toNat 0 - bo) / B) := by omega
    rw [e1, e3, Int.pow_succ]
    grind
theorem tak_end {B : Int} {row b r : List Int} {limb pos bo : Int} {spot : Nat} (hr : r.length = row.length) (hb0 : 0 ≤ bo) (hpos : pos ≤ row.length) (hend : ¬ (0 < bo ∧ pos < row.length)) (h : TakP B row b limb spot pos bo r) :
    r.length = row.length ∧ Dig B r ∧ 0 ≤ bo ∧ val B r = val B row - limb * val B b * B ^ spot + bo * B ^ row.length := by
  obtain ⟨h1, h2⟩ := h.out
  refine ⟨hr, h1, hb0, ?_⟩
  rw [h2]
  by_cases hb : bo = 0
  · subst hb; simp
  · have : pos.toNat = row.length := by omega
    rw [this]
end Mine
end
section
set_option autoImplicit false
namespace Mine
theorem zeros_flat : ∀ m : Nat, (List.replicate m [(0 : Int)]).flatten = List.replicate m 0
  | 0 => rfl
  | m + 1 => by rw [List.replicate_succ, List.flatten_cons, zeros_flat m, List.replicate_succ]; rfl
theorem val_zeros (B : Int) : ∀ m : Nat, val B (List.replicate m 0) = 0
  | 0 => rfl
  | m + 1 => by rw [List.replicate_succ, val, val_zeros B m]; simp
theorem dig_zeros {B : Int} (hB : 0 < B) (m : Nat) : Dig B (List.replicate m 0) := fun d hd => by
  rw [(List.mem_replicate.mp hd).2]; exact ⟨Int.le_refl _, hB⟩
theorem dig_append {B : Int} {a b : List Int} (ha : Dig B a) (hb : Dig B b) : Dig B (a ++ b) := fun d hd => (List.mem_append.mp hd).elim (ha d) (hb d)

def DivP (B : Int) (a b : List Int) (size : Nat) (i : Nat) (bo : Int) (r f : List Int) : Prop := Hid (Dig B f ∧ val B r = val B a - val B f * val B b + bo * B ^ size ∧ B ^ i ∣ val B r)
theorem div_start {B : Int} (hB : 0 < B) {a b : List Int} {m size : Nat} (da : Dig B a) (hs : a.length + m = size) :
    (a ++ (List.replicate m [(0 : Int)]).flatten).length = size ∧ Dig B (a ++ (List.replicate m [(0 : Int)]).flatten) ∧ DivP B a b size 0 0 (a ++ (List.replicate m [(0 : Int)]).flatten) [] := by
  rw [zeros_flat]
  refine ⟨by simp [hs], dig_append da (dig_zeros hB m), ⟨(fun _ h => nomatch h), ?_, ?_⟩⟩
  · rw [val_append, val_zeros]; simp [val]
  · simp
theorem val_low {B : Int} (hB : 0 < B) {r : List Int} (dr : Dig B r) {i : Nat} (hi : i ≤ r.length) (h : B ^ i ∣ val B r) : val B r = B ^ i * val B (r.drop i) := by
  have h1 := val_take_drop B r i
  rw [Nat.min_eq_left hi] at h1
  have h2 := val_emod_take hB dr i
  rw [Int.emod_eq_zero_of_dvd h] at h2
  rw [h2] at h1
  omega
theorem drop_getD (r : List Int) (i : Nat) (hi : i < r.length) : r.drop i = r.getD i 0 :: r.drop (i + 1) := by
  rw [List.drop_eq_getElem_cons hi]
  simp [List.getD, hi]
theorem div_step {B : Int} (hB : 2 ≤ B) {a b r r' f : List Int} {size i : Nat} {bo bo2 inv limb : Int} (dr : Dig B r) (hr : r.length = size) (hi : i < size) (hb : 0 < b.length)
    (hinv : B ∣ inv * b.getD 0 0 - 1) (hlimb : limb = (r.getD i 0 * inv) % B) (h : DivP B a b size i bo r f) (hf : f.length = i)
    (hv : val B r' = val B r - limb * val B b * B ^ i + bo2 * B ^ size) : DivP B a b size (i + 1) (bo + bo2) r' (f ++ [limb]) := by
  obtain ⟨h1, h2, h3⟩ := h.out
  have hl0 := Int.emod_nonneg (r.getD i 0 * inv) (b := B) (by omega)
  have hl1 := Int.emod_lt_of_pos (r.getD i 0 * inv) (b := B) (by omega)
  rw [← hlimb] at hl0 hl1
  refine ⟨dig_snoc h1 hl0 hl1, ?_, ?_⟩
  · rw [hv, h2, val_snoc, hf]; grind
  · have hlow := val_low (by omega) dr (by omega) h3
    rw [drop_getD r i (by omega), val] at hlow
    have hbv : val B b = b.getD 0 0 + B * val B (b.drop 1) := by
      cases b with
      | nil => simp at hb
      | cons e q => simp [val, List.getD]
    have hx : B ∣ r.getD i 0 - limb * b.getD 0 0 := by
      have e1 := Int.mul_ediv_add_emod (r.getD i 0 * inv) B
      rw [← hlimb] at e1
      have e2 : r.getD i 0 - limb * b.getD 0 0 = -(r.getD i 0 * (inv * b.getD 0 0 - 1)) + B * ((r.getD i 0 * inv / B) * b.getD 0 0) := by
        have : limb = r.getD i 0 * inv - B * (r.getD i 0 * inv / B) := by omega
        rw [this]; grind
      rw [e2]
      exact Int.dvd_add (Int.dvd_neg.mpr (Int.dvd_trans hinv (Int.dvd_mul_left _ _))) (Int.dvd_mul_right _ _)
    have hsz : B ^ (i + 1) ∣ B ^ size := ⟨B ^ (size - (i + 1)), by rw [← Int.pow_add]; congr 1; omega⟩
    have e3 : val B r' = B ^ i * ((r.getD i 0 - limb * b.getD 0 0) + B * (val B (r.drop (i + 1)) - limb * val B (b.drop 1))) + bo2 * B ^ size := by
      rw [hv, hlow, hbv]; grind
    rw [e3]
    refine Int.dvd_add ?_ (Int.dvd_trans hsz (Int.dvd_mul_left _ _))
    rw [Int.pow_succ]
    exact Int.mul_dvd_mul (Int.dvd_refl _) (Int.dvd_add hx (Int.dvd_mul_right _ _))

def DivOut (B : Int) (a b : List Int) (n : Nat) (flag : Bool) (q r : List Int) : Prop :=
  Hid (Dig B q ∧ Nrm q ∧ q.length ≤ n ∧ Dig B r ∧ Nrm r ∧ (flag = true → 0 < val B r) ∧ val B a = val B q * val B b + (if flag then - val B r else val B r) * B ^ n)
theorem div_out0 {B : Int} (hB : 0 < B) {a b r f : List Int} {size n : Nat} {bo : Int} (dr : Dig B r) (hr : r.length = size) (hn : n ≤ size) (hf : f.length = n) (hb0 : 0 ≤ bo) (hb : ¬ 0 < bo) (h : DivP B a b size n bo r f) :
    DivOut B a b n false (norm f) (norm (r.drop n)) := by
  obtain ⟨h1, h2, h3⟩ := h.out
  have hlow := val_low hB dr (by omega) h3
  have hz : bo = 0 := by omega
  subst hz
  refine ⟨dig_norm h1, nrm_norm _, hf ▸ norm_length _, dig_norm (dig_drop dr n), nrm_norm _, (by intro h; cases h), ?_⟩
  rw [val_norm, val_norm]
  simp only [Bool.false_eq_true, if_false]
  have e : val B (r.drop n) * B ^ n = val B r := by rw [hlow, Int.mul_comm]
  rw [e, h2]; omega
theorem pow_mono {B : Int} (hB : 1 ≤ B) {m n : Nat} (h : m ≤ n) : B ^ m ≤ B ^ n := by
  have e : n = m + (n - m) := by omega
  rw [e, Int.pow_add]
  have h1 : 0 < B ^ m := Int.pow_pos (by omega)
  have h2 : 0 < B ^ (n - m) := Int.pow_pos (by omega)
  have := Int.mul_le_mul_of_nonneg_left (show (1 : Int) ≤ B ^ (n - m) by omega) (Int.le_of_lt h1)
  omega
theorem div_out1 {B : Int} (hB : 2 ≤ B) {a b r f x : List Int} {size n : Nat} {bo : Int} (da : Dig B a) (db : Dig B b) (dr : Dig B r) (hr : r.length = size) (hn : n + b.length ≤ size) (hf : f.length = n) (hb : 0 < bo) (h : DivP B a b size n bo r f)
    (dx : Dig B x) (nx : Nrm x) (hx : val B x = (- val B (norm (r.drop n))) % B ^ (size - n)) : DivOut B a b n true (norm f) x := by
  obtain ⟨h1, h2, h3⟩ := h.out
  have hlow := val_low (by omega) dr (by omega) h3
  have ha := val_range (by omega) da
  have hbv := val_range (by omega) db
  have hfv := val_range (by omega) h1
  have hrv := val_range (by omega) dr
  rw [hf] at hfv
  rw [hr] at hrv
  have hRv := val_range (by omega) (dig_drop dr n)
  rw [List.length_drop, hr] at hRv
  rw [val_norm] at hx
  -- quotient times divisor is below the size
  have hp : 0 < B ^ size := Int.pow_pos (by omega)
  have hpn : 0 < B ^ n := Int.pow_pos (by omega)
  have hqb : val B f * val B b ≤ (B ^ n - 1) * (B ^ b.length - 1) := Int.mul_le_mul (by omega) (by omega) hbv.1 (by omega)
  have hpb : 0 < B ^ b.length := Int.pow_pos (by omega)
  have hqb2 : (B ^ n - 1) * (B ^ b.length - 1) < B ^ size := by
    have e : (B ^ n - 1) * (B ^ b.length - 1) = B ^ (n + b.length) - B ^ n - B ^ b.length + 1 := by rw [Int.pow_add]; grind
    have := pow_mono (B := B) (by omega) hn
    omega
  have hone : bo = 1 := by
    have h4 : bo * B ^ size < 2 * B ^ size := by omega
    have := Int.lt_of_mul_lt_mul_right h4 (Int.le_of_lt hp)
    omega
  subst hone
  have hsz : B ^ size = B ^ n * B ^ (size - n) := by rw [← Int.pow_add]; congr 1; omega
  have hR0 : val B (r.drop n) ≠ 0 := by
    intro e
    rw [e, Int.mul_zero] at hlow
    omega
  have hm : (- val B (r.drop n)) % B ^ (size - n) = B ^ (size - n) - val B (r.drop n) := by
    have e : - val B (r.drop n) = (B ^ (size - n) - val B (r.drop n)) + B ^ (size - n) * (-1) := by omega
    rw [e, Int.add_mul_emod_self_left, Int.emod_eq_of_lt (by omega) (by omega)]
  rw [hm] at hx
  refine ⟨dig_norm h1, nrm_norm _, hf ▸ norm_length _, dx, nx, (fun _ => by omega), ?_⟩
  rw [val_norm, hx]
  simp only [if_true]
  have e : -(B ^ (size - n) - val B (r.drop n)) * B ^ n = val B r - B ^ size := by rw [hlow, hsz]; grind
  rw [e, h2]; omega
/-- the rest is below the divisor or what the number has there -/
theorem div_bound {B : Int} (hB : 2 ≤ B) {a b q r : List Int} {n : Nat} {flag : Bool} (da : Dig B a) (hb : 0 < val B b) (h : DivOut B a b n flag q r) :
    0 ≤ val B q ∧ val B q < B ^ n ∧ 0 ≤ val B r ∧ (val B r ≤ val B b ∨ val B r ≤ val B a / B ^ n) := by
  obtain ⟨h1, _, h3, h4, _, _, h7⟩ := h.out
  have hq := val_range (by omega) h1
  have hr := val_range (by omega) h4
  have hpn : 0 < B ^ n := Int.pow_pos (by omega)
  have hqn : val B q < B ^ n := Int.lt_of_lt_of_le hq.2 (pow_mono (by omega) h3)
  have hqb : 0 ≤ val B q * val B b := Int.mul_nonneg hq.1 (Int.le_of_lt hb)
  refine ⟨hq.1, hqn, hr.1, ?_⟩
  cases flag with
  | false =>
    right
    simp only [Bool.false_eq_true, if_false] at h7
    exact Int.le_ediv_of_mul_le hpn (by omega)
  | true =>
    have ha := (val_range (by omega) da).1
    left
    simp only [if_true] at h7
    have e : val B r * B ^ n ≤ val B q * val B b := by
      have : -val B r * B ^ n = -(val B r * B ^ n) := by grind
      omega
    have e2 : val B q * val B b ≤ B ^ n * val B b := Int.mul_le_mul_of_nonneg_right (by omega) (Int.le_of_lt hb)
    have e3 : B ^ n * val B b = val B b * B ^ n := Int.mul_comm _ _
    exact Int.le_of_mul_le_mul_right (by omega) hpn
end Mine
end
section
set_option autoImplicit false
namespace Mine
def LowP (B : Int) (b : List Int) (f : List Int) (s : Int) : Prop := Hid (Dig B f ∧ Nrm f ∧ f.length ≤ s.toNat ∧ B ^ s.toNat ∣ val B f * val B b - 1)
theorem LowP.dig {B : Int} {b f : List Int} {s : Int} (h : LowP B b f s) : Dig B f := h.out.1
theorem LowP.nrm {B : Int} {b f : List Int} {s : Int} (h : LowP B b f s) : Nrm f := h.out.2.1
theorem pow_dvd {B : Int} {m n : Nat} (h : m ≤ n) : B ^ m ∣ B ^ n := ⟨B ^ (n - m), by rw [← Int.pow_add]; congr 1; omega⟩
theorem dvd_emod_left {m M X Y : Int} (h : m ∣ M) (c : Int) : (m ∣ (X % M) * Y - c) ↔ (m ∣ X * Y - c) := by
  have e : X * Y - c = (X % M) * Y - c + M * ((X / M) * Y) := by
    have := Int.mul_ediv_add_emod X M
    have e2 : X * Y = (M * (X / M) + X % M) * Y := by rw [this]
    rw [e2]; grind
  rw [e]
  constructor
  · intro q; exact Int.dvd_add q (Int.dvd_trans h (Int.dvd_mul_right _ _))
  · intro q; exact (Int.dvd_add_left (Int.dvd_trans h (Int.dvd_mul_right _ _))).mp q
/-- Newton's step upon limbs -/
theorem low_step {B : Int} (hB : 2 ≤ B) {b f p1 c s3 p4 : List Int} {s : Int} {S : Nat} (db : Dig B b) (hS : S ≤ 2 * s.toNat)
    (h : LowP B b f s) (d1 : Dig B p1) (v1 : val B p1 = val B (norm (b.take S)) * val B f) (v2 : val B c = (- val B (norm (p1.take S))) % B ^ S) (d3 : Dig B s3) (v3 : val B s3 = val B c + val B [2])
    (d4 : Dig B p4) (v4 : val B p4 = val B f * val B (norm (s3.take S))) : LowP B b (norm (p4.take S)) S := by
  obtain ⟨h1, h2, h3, h4⟩ := h.out
  have hB0 : 0 < B := by omega
  refine ⟨dig_norm (dig_take d4 S), nrm_norm _, ?_, ?_⟩
  · rw [Int.toNat_natCast]
    exact Nat.le_trans (norm_length _) (by rw [List.length_take]; exact Nat.min_le_left _ _)
  · rw [Int.toNat_natCast]
    rw [val_norm, val_emod_take hB0 d4, v4, val_norm, val_emod_take hB0 d3, v3, v2, val_norm, val_emod_take hB0 d1, v1, val_norm, val_emod_take hB0 db]
    generalize hX : val B b = X
    generalize hF : val B f = F
    rw [hX, hF] at h4
    have hd : B ^ S ∣ B ^ S := Int.dvd_refl _
    rw [dvd_emod_left hd]
    have e1 : ∀ Z : Int, F * Z * X - 1 = Z * (F * X) - 1 := fun Z => by grind
    rw [e1, dvd_emod_left hd]
    simp only [val]
    have e2 : ∀ Z : Int, (-Z % B ^ S + (2 + B * 0)) * (F * X) - 1 = (-Z % B ^ S) * (F * X) - (1 - 2 * (F * X)) := fun Z => by grind
    rw [e2, dvd_emod_left hd]
    have e3 : ∀ Z : Int, -(Z % B ^ S) * (F * X) - (1 - 2 * (F * X)) = (Z % B ^ S) * (-(F * X)) - (1 - 2 * (F * X)) := fun Z => by grind
    rw [e3, dvd_emod_left hd]
    have e4 : ∀ Z : Int, Z * F * -(F * X) - (1 - 2 * (F * X)) = Z * (F * -(F * X)) - (1 - 2 * (F * X)) := fun Z => by grind
    rw [e4, dvd_emod_left hd]
    have e5 : X * (F * -(F * X)) - (1 - 2 * (F * X)) = -((F * X - 1) * (F * X - 1)) := by grind
    rw [e5, Int.dvd_neg]
    refine Int.dvd_trans (pow_dvd hS) ?_
    rw [Nat.two_mul, Int.pow_add]
    exact Int.mul_dvd_mul h4 h4
theorem low_start {B : Int} (hB : 2 ≤ B) {b : List Int} {x : Int} (hb : 0 < b.length) (h0 : 0 ≤ x) (h1 : x < B) (h : B ∣ x * b.getD 0 0 - 1) : LowP B b [x] 1 := by
  refine ⟨fun d hd => by rw [List.mem_singleton.mp hd]; exact ⟨h0, h1⟩, ?_, by simp, ?_⟩
  · have hx : x ≠ 0 := by
      rintro rfl
      obtain ⟨c, hc⟩ := h
      have h2 : (B * c) % B = (0 * b.getD 0 0 - 1) % B := by rw [hc]
      rw [Int.mul_emod_right] at h2
      have h3 : (0 * b.getD 0 0 - 1 : Int) = (B - 1) + B * (-1) := by omega
      rw [h3, Int.add_mul_emod_self_left, Int.emod_eq_of_lt (by omega) (by omega)] at h2
      omega
    exact nrm_snoc [] hx
  · cases b with
    | nil => simp at hb
    | cons e q =>
      simp only [val, Int.toNat_one, Int.pow_one]
      have e2 : (x + B * 0) * (e + B * val B q) - 1 = (x * e - 1) + B * (x * val B q) := by grind
      rw [e2]
      simp only [List.getD, List.getElem?_cons_zero, Option.getD_some] at h
      exact Int.dvd_add h (Int.dvd_mul_right _ _)
end Mine
end
section
set_option autoImplicit false
namespace Mine
theorem val_ge {B : Int} (hB : 1 ≤ B) : ∀ {x : List Int}, Dig B x → Nrm x → x ≠ [] → B ^ (x.length - 1) ≤ val B x
  | [], _, _, h => absurd rfl h
  | d :: r, hd, hn, _ => by
    have hd' : Dig B r := fun e he => hd e (.tail _ he)
    have h0 := hd d (.head _)
    obtain ⟨n1, n2⟩ := nrm_cons hn
    cases r with
    | nil =>
      have := n2 rfl
      simp [val]; omega
    | cons e q =>
      have ih := val_ge hB hd' n1 (by simp)
      simp only [List.length_cons, Nat.add_sub_cancel] at ih ⊢
      rw [val, Int.pow_succ, Int.mul_comm]
      have := Int.mul_le_mul_of_nonneg_left ih (show 0 ≤ B by omega)
      omega
theorem len_of_val {B : Int} (hB : 2 ≤ B) {x : List Int} {m : Nat} (hd : Dig B x) (hn : Nrm x) (h : val B x < B ^ m) : x.length ≤ m := by
  rcases Nat.lt_or_ge m x.length with q | q
  · have hne : x ≠ [] := by rintro rfl; simp at q
    have h1 := val_ge (by omega) hd hn hne
    have h2 := pow_mono (B := B) (by omega) (show m ≤ x.length - 1 by omega)
    omega
  · exact q
theorem odd_first {k : Nat} (hk : 1 ≤ k) {x : List Int} (h : val (2 ^ k) x % 2 = 1) : 0 < x.length ∧ x.getD 0 0 % 2 = 1 := by
  cases x with
  | nil => simp [val] at h
  | cons d r =>
    refine ⟨by simp, ?_⟩
    simp only [val] at h
    obtain ⟨j, rfl⟩ : ∃ j, k = j + 1 := ⟨k - 1, by omega⟩
    rw [Int.pow_succ] at h
    have e : d + 2 ^ j * 2 * val (2 ^ (j + 1)) r = d + 2 * (2 ^ j * val (2 ^ (j + 1)) r) := by grind
    have h' : (d + 2 * (2 ^ j * val (2 ^ (j + 1)) r)) % 2 = 1 := by rw [← e]; simpa [Int.pow_succ] using h
    rw [Int.add_mul_emod_self_left] at h'
    simpa [List.getD] using h'

/-- the one row of limbs of a number -/
noncomputable def limbsOf (k : Nat) (N : Int) : List Int := Classical.epsilon fun x => Dig (2 ^ k) x ∧ val (2 ^ k) x = N ∧ Nrm x
theorem limbsOf_eq {k : Nat} {N : Int} {x : List Int} (h1 : Dig (2 ^ k) x) (h2 : val (2 ^ k) x = N) (h3 : Nrm x) : x = limbsOf k N := by
  have := Classical.epsilon_spec (p := fun x => Dig (2 ^ k) x ∧ val (2 ^ k) x = N ∧ Nrm x) ⟨x, h1, h2, h3⟩
  exact limbs_unique (pow2_pos k) h1 this.1 h3 this.2.2 (h2.trans this.2.1.symm)
end Mine
end
section
open PySem PySem.Spec PySem.Calls PySem.W PyProof.Rows
set_option maxRecDepth 100000
namespace Mine

/-- all objects but those at the given places stand as they stood -/
def Kept (h h' : Heap) (xs : List Addr) : Prop := ∀ b o, b ∉ xs → h.get? b = some o → h'.get? b = some o

/-- a call of the def at f: what it asks, what it gives; the frame of the caller and all that is not named stand -/
def FnC (prog : Program) (w : World) (K : Frag) (f : Addr) (vs : List Value) (muts : List (Addr × Obj)) (lv : Nat) (pre : Heap → Prop) (post : Heap → Value → Heap → Prop) : Prop :=
  ∀ (p : Program) (loose : List Str) (mean : ExcName → Option Value) (mg mb : Str → Option Value) (dp un : Nat) (gd : Option (List Code)) (cn : Str) (cs : Scope) (a : Addr) (ccd : Value) (cl : List (Str × Addr)) (outer : List Env) (A₀ : Around) (base h₀ : Heap) (L : Addr) (m : Str → Option Value) (s : Shared)
    (Q E : Value → Shared → Prop),
    Below A₀ base outer h₀ → Fr h₀ L s.heap m → K.In h₀ → News h₀ L s.heap muts → Top p loose mean mg mb h₀ → cs.kind = .function → dp + lv < recursionLimit → un + 10 * lv < cLine → pre s.heap →
    (∀ r h' tk', Kept s.heap h' (muts.map (·.1)) → post s.heap r h' → Q r { s with heap := h', toks := tk' }) →
    wpAny (model prog w) (ktrTop dp un gd cn cs L a ccd cl outer) (call (.ref f) vs) Q E s

/-- the end of a body -/
def FnOut (g : Heap) (s : Shared) (post : Value → Heap → Prop) (v : Value) (s' : Shared) : Prop :=
  ∃ L' m' h' tk, s' = { s with heap := h', toks := tk } ∧ Fr g L' h' m' ∧ post v h'

theorem fnOut {g : Heap} {s : Shared} {post : Value → Heap → Prop} {v : Value} {L' : Addr} {m' : Str → Option Value} {h' : Heap} {tk : Nat} (F : Fr g L' h' m') (hp : post v h') : FnOut g s post v { s with heap := h', toks := tk } :=
  ⟨L', m', h', tk, rfl, F, hp⟩

section
variable {prog : Program} {w : World} {A₀ A : Around} {s : Shared} {base h₀ : Heap} {outer : List Env} {L : Addr} {m : Str → Option Value} {env : Env} {muts : List (Addr × Obj)} {K : Frag}
  {R : Result → Shared → Prop} {name qual : Str} {params : Arguments} {body : List Stmt} {scope : Scope} {dV kV doc pm cdv ct oc : Value} {an od : Option Addr} {osl : Array (Option Value)} {f : Addr} {args : Args} {binds : List (Str × Value)}
  {p : Program} {loose : List Str} {mean : ExcName → Option Value} {mg mb : Str → Option Value}

theorem enterY (B : Below A₀ base outer h₀) (F : Fr h₀ L s.heap m) (X₀ : K.In h₀) (N : News h₀ L s.heap muts) (T : Top p loose mean mg mb h₀) (hA : A.frames = some (env :: outer)) (hf : env.frame = some L) (hke : env.scope.kind = .function)
    (ho : K.lookup f = some ⟨oc, od, .func (fnOf name qual params body scope dV kV doc pm an cdv ct), osl⟩) (hcd : codeIn K cdv qual = true) (hroom : A.depth < recursionLimit)
    (hbind : BindsTo s (fnOf name qual params body scope dV kV doc pm an cdv ct) args binds) (hloc : ∀ y ∈ binds, scope.names.lookup y.1 = some .local)
    (h : ∀ g L' h₁, Kept s.heap g (muts.map (·.1)) → Fr g L' h₁ (fun y => binds.reverse.lookup y) → News g L' h₁ muts → Below A base (env :: outer) g → K.In g → Top p loose mean mg mb g → (∀ p ∈ muts, p.1 < L') →
      wpAny (model prog w) (A.deeper (envOf qual scope L' f cdv)) (execs body (envOf qual scope L' f cdv))
        (fun fl s' => R (.ok (.ret (match fl with | .ret v => v | _ => .none))) s')
        (fun e s' => wpAny (model prog w) (A.deeper (envOf qual scope L' f cdv)) (leaving (envOf qual scope L' f cdv) e) (fun _ s'' => R (.error e) s'') (fun e' s'' => R (.error e') s'') s')
        { s with heap := h₁, toks := s.toks + binds.length })
    (hco : scope.isCoroutine = false) (hgen : scope.isGenerator = false) (hk : scope.kind = .function)
    (hcell : ∀ x ∈ scope.names, x.2 ≠ .cell) : codeAny (model prog w) A (.call (.ref f) args) R s := by
  obtain ⟨FG, BG, st, _⟩ := groundX (R := R) B F N hA hf hke
  have X := X₀.keeps F.keep
  refine codeAny_call_def (fd := fnOf name qual params body scope dV kV doc pm an cdv ct) (body := body) (binds := binds) hroom (X _ _ ho) rfl (T.nolimit.keeps F.keep) (codeRec_of X hcd) rfl hbind hcell hloc (fun h₁ hns hk₁ => ?_) hco hgen hk
  exact h _ s.heap.objs.size h₁ (fun b o hb e => hideAll_get _ e hb) ⟨hns, fun b o e => hk₁ b o (of_hideAll _ e), Nat.le_of_eq (hideAll_size _ _)⟩
    (fun p hp => ⟨hk₁ _ _ (N p hp).1, Nat.ne_of_lt (Heap.lt_size (N p hp).1), hideAll_none _ (List.mem_map_of_mem hp)⟩) BG (X₀.keeps st) (T.keeps st) (fun p hp => Heap.lt_size (N p hp).1)

/-- a def's contract from its body's -/
theorem fn_intro {vs : List Value} {lv : Nat} {pre : Heap → Prop} {post : Heap → Value → Heap → Prop}
    (ho : K.lookup f = some ⟨oc, od, .func (fnOf name qual params body scope dV kV doc pm an cdv ct), osl⟩) (hcd : codeIn K cdv qual = true)
    (hbind : ∀ s, BindsTo s (fnOf name qual params body scope dV kV doc pm an cdv ct) ⟨vs, []⟩ binds) (hloc : ∀ y ∈ binds, scope.names.lookup y.1 = some .local)
    (hco : scope.isCoroutine = false) (hgen : scope.isGenerator = false) (hk : scope.kind = .function) (hcell : ∀ x ∈ scope.names, x.2 ≠ .cell)
    (h : ∀ (dp un : Nat) (gd : Option (List Code)) (outer : List Env) (A₀ : Around) (base : Heap) (p : Program) (loose : List Str) (mean : ExcName → Option Value) (mg mb : Str → Option Value) (h₀ g : Heap) (L' : Addr) (s : Shared),
      dp + lv < recursionLimit → un + 10 * lv < cLine → pre h₀ → Kept h₀ g (muts.map (·.1)) → Fr g L' s.heap (fun y => binds.reverse.lookup y) → News g L' s.heap muts → Below A₀ base outer g → K.In g → Top p loose mean mg mb g → (∀ p ∈ muts, p.1 < L') →
      wpAny (model prog w) (ktrTop dp un gd qual scope L' f cdv [] outer) (execs body (envOf qual scope L' f cdv))
        (fun fl s' => FnOut g s (post h₀) (match fl with | .ret v => v | _ => .none) s') (fun _ _ => False) s) :
    FnC prog w K f vs muts (lv + 1) pre post := by
  intro p loose mean mg mb dp un gd cn cs a ccd cl outer A₀ base h₀ L m s Q E B F X N T hkk hd hu hpre ret
  refine wpAny_call ?_
  refine enterY B F X N T rfl rfl hkk ho hcd ?_ (hbind s) hloc (fun g L' h₁ kp F' N' B' X' T' lt => ?_) hco hgen hk hcell
  · show dp < _
    omega
  · refine wpAny_mono (h _ _ _ _ _ _ _ _ _ _ _ s.heap g L' { s with heap := h₁, toks := s.toks + binds.length } ?_ ?_ hpre kp F' N' B' X' T' lt) (fun fl s' q => ?_) fun _ _ y => y.elim
    · show dp + 1 + lv < _
      omega
    · show un + 3 + 10 * lv < _
      omega
    · obtain ⟨L₂, m₂, h₂, tk₂, rfl, F₂, hp⟩ := q
      exact ret _ h₂ tk₂ (fun b o hb e => F₂.keep _ _ (kp b o hb e)) hp

theorem enterC (B : Below A₀ base outer h₀) (F : Fr h₀ L s.heap m) (X₀ : K.In h₀) (N : News h₀ L s.heap muts) (T : Top p loose mean mg mb h₀) (hA : A.frames = some (env :: outer)) (hf : env.frame = some L) (hke : env.scope.kind = .function)
    (ho : K.lookup f = some ⟨oc, od, .func (fnOf name qual params body scope dV kV doc pm an cdv ct), osl⟩) (hcd : codeIn K cdv qual = true) (hroom : A.depth < recursionLimit)
    (hbind : BindsTo s (fnOf name qual params body scope dV kV doc pm an cdv ct) args binds) (hkind : (binds.all fun y => scope.names.lookup y.1 == some .local || scope.names.lookup y.1 == some .cell) = true)
    (hnd : ((cellsFrom 0 scope.names []).map (·.1)).Nodup)
    (h : ∀ g L' h₁ tk cells, Kept s.heap g (muts.map (·.1)) → Fr g L' h₁ (bindL (envOfC qual scope L' f cdv).kindOf binds fun _ => none) → News g L' h₁ (cells ++ muts) →
      CellsAre (bindC (envOfC qual scope L' f cdv).kindOf binds fun _ => none) (cellsFrom (L' + 1) scope.names []) cells → Below A base (env :: outer) g → K.In g → Top p loose mean mg mb g → (∀ p ∈ muts, p.1 < L') →
      wpAny (model prog w) (A.deeper (envOfC qual scope L' f cdv)) (execs body (envOfC qual scope L' f cdv))
        (fun fl s' => R (.ok (.ret (match fl with | .ret v => v | _ => .none))) s')
        (fun e s' => wpAny (model prog w) (A.deeper (envOfC qual scope L' f cdv)) (leaving (envOfC qual scope L' f cdv) e) (fun _ s'' => R (.error e) s'') (fun e' s'' => R (.error e') s'') s')
        { s with heap := h₁, toks := tk })
    (hco : scope.isCoroutine = false) (hgen : scope.isGenerator = false) (hk : scope.kind = .function) : codeAny (model prog w) A (.call (.ref f) args) R s := by
  obtain ⟨FG, BG, st, _⟩ := groundX (R := R) B F N hA hf hke
  have X := X₀.keeps F.keep
  refine codeAny_call_function hroom (X _ _ ho) rfl hco hgen rfl (codeRec_of X hcd) (hbind _ _ _ _ ?_)
  refine wpAny_newFunctionEnv_cells hk (kindsX hkind _) fun env' he s' x => ?_
  subst he
  refine ⟨(T.nolimit.keeps F.keep).keeps x.toInCall.keep, codeAny_func ?_⟩
  obtain ⟨h₁, tk, rfl, _⟩ := x.done
  have hk₁ := x.toInCall.keep
  obtain ⟨cells, NC, Y⟩ := Cl.news (h₀ := s.heap) (Nat.le_refl _) fun n c hm => ⟨x.cell n c (lookup_of_mem_nodup (cellsFrom_names scope.names 0 (s.heap.objs.size + 1) [] [] rfl ▸ hnd) hm), x.above n c hm⟩
  refine h _ s.heap.objs.size h₁ tk cells (fun b o hb e => hideAll_get _ e hb) ⟨x.toInCall.ns, fun b o e => hk₁ b o (of_hideAll _ e), Nat.le_of_eq (hideAll_size _ _)⟩ (fun p hp => ?_) Y BG (X₀.keeps st) (T.keeps st) (fun p hp => Heap.lt_size (N p hp).1)
  rcases List.mem_append.mp hp with hp | hp
  · refine ⟨(NC p hp).1, (NC p hp).2.1, ?_⟩
    cases q : (hideAll s.heap (muts.map (·.1))).get? p.1 with
    | none => rfl
    | some o => have := of_hideAll _ q; rw [(NC p hp).2.2] at this; cases this
  · exact ⟨hk₁ _ _ (N p hp).1, Nat.ne_of_lt (Heap.lt_size (N p hp).1), hideAll_none _ (List.mem_map_of_mem hp)⟩

theorem fn_introC {vs : List Value} {lv : Nat} {pre : Heap → Prop} {post : Heap → Value → Heap → Prop}
    (ho : K.lookup f = some ⟨oc, od, .func (fnOf name qual params body scope dV kV doc pm an cdv ct), osl⟩) (hcd : codeIn K cdv qual = true)
    (hbind : ∀ s, BindsTo s (fnOf name qual params body scope dV kV doc pm an cdv ct) ⟨vs, []⟩ binds) (hkind : (binds.all fun y => scope.names.lookup y.1 == some .local || scope.names.lookup y.1 == some .cell) = true)
    (hnd : ((cellsFrom 0 scope.names []).map (·.1)).Nodup) (hco : scope.isCoroutine = false) (hgen : scope.isGenerator = false) (hk : scope.kind = .function)
    (h : ∀ (dp un : Nat) (gd : Option (List Code)) (outer : List Env) (A₀ : Around) (base : Heap) (p : Program) (loose : List Str) (mean : ExcName → Option Value) (mg mb : Str → Option Value) (h₀ g : Heap) (L' : Addr) (s : Shared) (cells : List (Addr × Obj)),
      dp + lv < recursionLimit → un + 10 * lv < cLine → pre h₀ → Kept h₀ g (muts.map (·.1)) → Fr g L' s.heap (bindL (envOfC qual scope L' f cdv).kindOf binds fun _ => none) → News g L' s.heap (cells ++ muts) →
      CellsAre (bindC (envOfC qual scope L' f cdv).kindOf binds fun _ => none) (cellsFrom (L' + 1) scope.names []) cells → Below A₀ base outer g → K.In g → Top p loose mean mg mb g → (∀ p ∈ muts, p.1 < L') →
      wpAny (model prog w) (ktrTop dp un gd qual scope L' f cdv (cellsFrom (L' + 1) scope.names []) outer) (execs body (envOfC qual scope L' f cdv))
        (fun fl s' => FnOut g s (post h₀) (match fl with | .ret v => v | _ => .none) s') (fun _ _ => False) s) :
    FnC prog w K f vs muts (lv + 1) pre post := by
  intro p loose mean mg mb dp un gd cn cs a ccd cl outer A₀ base h₀ L m s Q E B F X N T hkk hd hu hpre ret
  refine wpAny_call ?_
  refine enterC B F X N T rfl rfl hkk ho hcd ?_ (hbind s) hkind hnd (fun g L' h₁ tk cells kp F' N' Y B' X' T' lt => ?_) hco hgen hk
  · show dp < _
    omega
  · refine wpAny_mono (h _ _ _ _ _ _ _ _ _ _ _ s.heap g L' { s with heap := h₁, toks := tk } cells ?_ ?_ hpre kp F' N' Y B' X' T' lt) (fun fl s' q => ?_) fun _ _ y => y.elim
    · show dp + 1 + lv < _
      omega
    · show un + 3 + 10 * lv < _
      omega
    · obtain ⟨L₂, m₂, h₂, tk₂, rfl, F₂, hp⟩ := q
      exact ret _ h₂ tk₂ (fun b o hb e => F₂.keep _ _ (kp b o hb e)) hp
end

section
variable {h₀ h h' : Heap} {L : Addr} {m : Str → Option Value} {news : List (Addr × Obj)}
theorem keptFr (k : Kept h h' []) (F : Fr h₀ L h m) : Fr h₀ L h' m := by
  obtain ⟨oL, es, ep, hL, r⟩ := F.ns
  exact ⟨⟨oL, es, ep, k _ _ (by simp) hL, r⟩, fun b o e => k _ _ (by simp) (F.keep b o e), F.above⟩
theorem keptNews (k : Kept h h' []) (N : News h₀ L h news) : News h₀ L h' news := fun p hp => ⟨k _ _ (by simp) (N p hp).1, (N p hp).2⟩
theorem keptCons {l : Addr} {o : Obj} (k : Kept h h' []) (F : Fr h₀ L h m) (N : News h₀ L h news) (hn : h.get? l = none) (ho : h'.get? l = some o) : News h₀ L h' ((l, o) :: news) := by
  intro p hp
  rcases List.mem_cons.mp hp with rfl | hp
  · obtain ⟨oL, _, _, hL, _⟩ := F.ns
    refine ⟨ho, fun e => ?_, ?_⟩
    · rw [← e, hn] at hL; cases hL
    · cases q : h₀.get? l with
      | none => rfl
      | some o' => have := F.keep _ _ q; rw [hn] at this; cases this
  · exact keptNews k N p hp
theorem ne_of_fresh {l : Addr} (N : News h₀ L h news) (hn : h.get? l = none) : ∀ p ∈ news, @Ne Nat p.1 l := fun p hp e => by
  have := (N p hp).1
  rw [e, hn] at this; cases this
end

/-- the places where a list may be read -/
theorem keptList {h h' : Heap} {l : Addr} {xs : Array Value} (k : Kept h h' []) (x : h.IsList l xs) : h'.IsList l xs := by
  obtain ⟨o, ho, r⟩ := x
  exact ⟨o, k _ _ (by simp) ho, r⟩

theorem newsGet {h₀ h : Heap} {L l : Addr} {news : List (Addr × Obj)} {vs : List Value} {n : Nat} (N : News h₀ L h news) (hm : (l, listOf vs.toArray n) ∈ news) : h.get? l = some (listOf vs.toArray n) := (N _ hm).1
theorem isListOf {h₀ h : Heap} {L l : Addr} {news : List (Addr × Obj)} {vs : List Value} {n : Nat} (N : News h₀ L h news) (hm : (l, listOf vs.toArray n) ∈ news) : h.IsList l vs.toArray := ⟨_, (N _ hm).1, rfl, _, rfl⟩

/-- what a def hands back that makes a new list of ints -/
def NewInts (φ : List Int → Prop) (h : Heap) (r : Value) (h' : Heap) : Prop :=
  ∃ l' vs' n' ns', r = .ref l' ∧ h.get? l' = none ∧ h'.get? l' = some (listOf vs'.toArray n') ∧ IntsAre vs' ns' ∧ φ ns'

theorem newInts {g h h' : Heap} {L l' : Addr} {news : List (Addr × Obj)} {φ : List Int → Prop} {vs' : List Value} {n' : Nat} (ns' : List Int) (k : Kept h g []) (N : News g L h' news) (hm : (l', listOf vs'.toArray n') ∈ news) (hi : IntsAre vs' ns') (hp : φ ns') :
    NewInts φ h (.ref l') h' := by
  refine ⟨l', vs', n', ns', rfl, ?_, (N _ hm).1, hi, hp⟩
  cases q : h.get? l' with
  | none => rfl
  | some o => have := k _ _ (by simp) q; rw [(N _ hm).2.2] at this; cases this

section
variable {prog : Program} {w : World} {K : Frag} {f : Addr} {vs : List Value} {lv : Nat} {pre : Heap → Prop}
  {p : Program} {loose : List Str} {mean : ExcName → Option Value} {mg mb : Str → Option Value} {dp un : Nat} {gd : Option (List Code)} {cn : Str} {cs : Scope} {a : Addr} {ccd : Value} {cl : List (Str × Addr)} {outer : List Env} {A₀ : Around} {base h₀ : Heap} {L : Addr} {m : Str → Option Value} {s : Shared}
  {Q E : Value → Shared → Prop} {news : List (Addr × Obj)}
theorem use_ints {φ : List Int → Prop} (C : FnC prog w K f vs [] lv pre (NewInts φ)) (B : Below A₀ base outer h₀) (F : Fr h₀ L s.heap m) (X : K.In h₀) (N : News h₀ L s.heap news) (T : Top p loose mean mg mb h₀) (hk : cs.kind = .function) (hd : dp + lv < recursionLimit) (hu : un + 10 * lv < cLine) (hp : pre s.heap)
    (ret : ∀ l' vs' n' ns' h' tk', Fr h₀ L h' m → News h₀ L h' ((l', listOf vs'.toArray n') :: news) → (∀ p ∈ news, @Ne Nat p.1 l') → IntsAre vs' ns' → φ ns' → Q (.ref l') { s with heap := h', toks := tk' }) :
    wpAny (model prog w) (ktrTop dp un gd cn cs L a ccd cl outer) (call (.ref f) vs) Q E s := by
  refine C p loose mean mg mb dp un gd cn cs a ccd cl outer A₀ base h₀ L m s Q E B F X (fun _ h => nomatch h) T hk hd hu hp ?_
  rintro r h' tk' k ⟨l', vs', n', ns', rfl, h1, h2, h3, h4⟩
  exact ret l' vs' n' ns' h' tk' (keptFr k F) (keptCons k F N h1 h2) (ne_of_fresh N h1) h3 h4
theorem use_int {φ : Int → Prop} (C : FnC prog w K f vs [] lv pre (fun _ r _ => ∃ x t, r = .int x t ∧ φ x)) (B : Below A₀ base outer h₀) (F : Fr h₀ L s.heap m) (X : K.In h₀) (N : News h₀ L s.heap news) (T : Top p loose mean mg mb h₀) (hk : cs.kind = .function) (hd : dp + lv < recursionLimit) (hu : un + 10 * lv < cLine) (hp : pre s.heap)
    (ret : ∀ x t h' tk', Fr h₀ L h' m → News h₀ L h' news → φ x → Q (.int x t) { s with heap := h', toks := tk' }) :
    wpAny (model prog w) (ktrTop dp un gd cn cs L a ccd cl outer) (call (.ref f) vs) Q E s := by
  refine C p loose mean mg mb dp un gd cn cs a ccd cl outer A₀ base h₀ L m s Q E B F X (fun _ h => nomatch h) T hk hd hu hp ?_
  rintro r h' tk' k ⟨x, t, rfl, h1⟩
  exact ret x t h' tk' (keptFr k F) (keptNews k N) h1
theorem use_mut {φ : Int → List Int → Prop} {l : Addr} {o : Obj} {gl : Obj → List (Addr × Obj)} (C : FnC prog w K f vs [(l, o)] lv pre (fun _ r h' => ∃ bo t vr' nr' row', r = .int bo t ∧ h'.get? l = some (listOf vr'.toArray nr') ∧ IntsAre vr' row' ∧ φ bo row')) (B : Below A₀ base outer h₀) (F : Fr h₀ L s.heap m) (X : K.In h₀) (N : News h₀ L s.heap news) (T : Top p loose mean mg mb h₀) (hk : cs.kind = .function) (hd : dp + lv < recursionLimit) (hu : un + 10 * lv < cLine) (hp : pre s.heap) (U : UpdF l o news gl)
    (ret : ∀ bo t vr' nr' row' h' tk', Fr h₀ L h' m → News h₀ L h' (gl (listOf vr'.toArray nr')) → IntsAre vr' row' → φ bo row' → Q (.int bo t) { s with heap := h', toks := tk' }) :
    wpAny (model prog w) (ktrTop dp un gd cn cs L a ccd cl outer) (call (.ref f) vs) Q E s := by
  obtain ⟨own, rest, rfl, hg, q1, q2⟩ := U.split
  have D := N (l, o) (List.mem_append_right _ (.head _))
  refine C p loose mean mg mb dp un gd cn cs a ccd cl outer A₀ base h₀ L m s Q E B F X (fun p hp => ?_) T hk hd hu hp ?_
  · rw [List.mem_singleton.mp hp]; exact D
  rintro r h' tk' k ⟨bo, t, vr', nr', row', rfl, h1, h2, h3⟩
  have kk : ∀ b ob, b ≠ l → s.heap.get? b = some ob → h'.get? b = some ob := fun b ob hb e => k b ob (by simpa using hb) e
  refine ret bo t vr' nr' row' h' tk' ?_ (hg _ ▸ ?_) h2 h3
  · obtain ⟨oL, es, ep, hL, rr⟩ := F.ns
    refine ⟨⟨oL, es, ep, kk _ _ (Ne.symm D.2.1) hL, rr⟩, fun b ob e => kk _ _ (fun q => ?_) (F.keep b ob e), F.above⟩
    rw [q, D.2.2] at e; cases e
  · intro q hq
    rcases List.mem_append.mp hq with hq | hq
    · have P := N q (List.mem_append_left _ hq)
      exact ⟨kk _ _ (q1 q hq) P.1, P.2⟩
    · rcases List.mem_cons.mp hq with rfl | hq
      · exact ⟨h1, D.2⟩
      · have P := N q (List.mem_append_right _ (.tail _ hq))
        exact ⟨kk _ _ (q2 q hq) P.1, P.2⟩
theorem ne_of_base {l l' : Addr} {xs : Array Value} {o : Obj} {h : Heap} (x : h₀.IsList l xs) (N : News h₀ L h news) (hm : (l', o) ∈ news) : l ≠ l' := by
  rintro rfl
  obtain ⟨ob, ho, _⟩ := x
  rw [(N _ hm).2.2] at ho; cases ho
end
/-- two places differ; a fact that the arithmetic does not see -/
structure NeN (a b : Nat) : Prop where
  out : a ≠ b
section
variable {prog : Program} {w : World} {K : Frag} {f : Addr} {vs : List Value} {lv : Nat} {pre : Heap → Prop}
  {p : Program} {loose : List Str} {mean : ExcName → Option Value} {mg mb : Str → Option Value} {dp un : Nat} {gd : Option (List Code)} {cn : Str} {cs : Scope} {a : Addr} {ccd : Value} {cl : List (Str × Addr)} {outer : List Env} {A₀ : Around} {base h₀ : Heap} {L : Addr} {m : Str → Option Value} {s : Shared}
  {Q E : Value → Shared → Prop} {news : List (Addr × Obj)}
theorem use_intsN {φ : List Int → Prop} (C : FnC prog w K f vs [] lv pre (NewInts φ)) (B : Below A₀ base outer h₀) (F : Fr h₀ L s.heap m) (X : K.In h₀) (N : News h₀ L s.heap news) (T : Top p loose mean mg mb h₀) (hk : cs.kind = .function) (hd : dp + lv < recursionLimit) (hu : un + 10 * lv < cLine) (hp : pre s.heap)
    (ret : ∀ l' vs' n' ns' h' tk', Fr h₀ L h' m → News h₀ L h' ((l', listOf vs'.toArray n') :: news) → (∀ p ∈ news, NeN p.1 l') → IntsAre vs' ns' → φ ns' → Q (.ref l') { s with heap := h', toks := tk' }) :
    wpAny (model prog w) (ktrTop dp un gd cn cs L a ccd cl outer) (call (.ref f) vs) Q E s :=
  use_ints C B F X N T hk hd hu hp fun l' vs' n' ns' h' tk' F' N' ne I e => ret l' vs' n' ns' h' tk' F' N' (fun p hp => ⟨ne p hp⟩) I e
end
theorem neOf {l a : Nat} {o : Obj} {news : List (Addr × Obj)} (h : ∀ p ∈ news, NeN p.1 l) (hm : ((a : Addr), o) ∈ news) : a ≠ l := (h _ hm).out
theorem ltOf {l a : Addr} {o : Obj} {news : List (Addr × Obj)} (h : ∀ p ∈ news, p.1 < l) (hm : (a, o) ∈ news) : @Ne Nat a l := Nat.ne_of_lt (h _ hm)
end Mine
end
section
open PySem PySem.Spec PySem.Calls PySem.W PyProof.Rows
set_option maxRecDepth 100000
namespace Mine
theorem mask_eq (x : Int) (k : Nat) : Builtin.bitAnd x (1 * 2 ^ (k : Int).toNat - 1) = x % 2 ^ k := by
  rw [Int.one_mul, Int.toNat_natCast]; exact kbt_mask x k
theorem fdiv_two (x : Int) (k : Nat) : x.fdiv (2 ^ (k : Int).toNat) = x / 2 ^ k := by
  rw [Int.toNat_natCast]; exact Int.fdiv_eq_ediv_of_nonneg _ (Int.le_of_lt (Int.pow_pos (by omega)))
theorem fmod_two (x : Int) (k : Nat) : x.fmod (1 * 2 ^ (k : Int).toNat) = x % 2 ^ k := by
  rw [Int.one_mul, Int.toNat_natCast]; exact Int.fmod_eq_emod_of_nonneg _ (Int.le_of_lt (Int.pow_pos (by omega)))
theorem fdiv_one_two (x : Int) (k : Nat) : x.fdiv (1 * 2 ^ (k : Int).toNat) = x / 2 ^ k := by rw [Int.one_mul]; exact fdiv_two x k
theorem one_two (k : Nat) : (1 : Int) * 2 ^ (k : Int).toNat = 2 ^ k := by rw [Int.one_mul, Int.toNat_natCast]
theorem getD_ge (a : List Int) {i : Nat} (h : a.length ≤ i) : a.getD i 0 = 0 := by simp [List.getD, h]
theorem bits_small {b : Int} {k : Nat} (h0 : 0 ≤ b) (h1 : b < 2 ^ k) : Builtin.Int.intBits b ≤ k := by
  refine intBits_le_iff.mpr ?_
  rw [pow2_cast] at h1
  omega
theorem mulOk_right {a b : Int} {k : Nat} (h0 : 0 ≤ b) (h1 : b < 2 ^ k) (hk : k ≤ 64) : IntMulOk a b :=
  IntMulOk.of_right (Nat.le_trans (bits_small h0 h1) hk)
theorem mulOk_left {a b : Int} {k : Nat} (h0 : 0 ≤ a) (h1 : a < 2 ^ k) (hk : k ≤ 64) : IntMulOk a b :=
  IntMulOk.of_left (Nat.le_trans (bits_small h0 h1) hk)
theorem shift_bits {B : Int} {k : Nat} {ns pre post : List Int} {f d : Int} (hB : B = 2 ^ k) (dn : Dig B ns) (e : ns.reverse = pre ++ d :: post) (hf : f = val B pre.reverse) (hl : ns.length ≤ 500) (hk : k ≤ 64) :
    (Builtin.Int.intBits f : Int) + (k : Int) ≤ 2 ^ 27 := by
  have hp : pre.length ≤ 500 := by
    have := congrArg List.length e
    simp only [List.length_reverse, List.length_append, List.length_cons] at this
    omega
  have dp : Dig B pre.reverse := by
    intro x hx
    refine dn x ?_
    have : x ∈ ns.reverse := by rw [e]; exact List.mem_append_left _ (List.mem_reverse.mp hx)
    exact List.mem_reverse.mp this
  have hr := val_range (by rw [hB]; exact pow2_pos k) dp
  rw [← hf, hB, pow_pow] at hr
  have hb := bits_small hr.1 hr.2
  have : k * pre.reverse.length ≤ 64 * 500 := Nat.mul_le_mul hk (by simpa using hp)
  have e27 : (2 : Int) ^ 27 = 134217728 := by decide
  omega
end Mine
end
open PySem PySem.Spec PySem.Calls PySem.W PyProof.Rows
local macro_rules | `(tactic| walk_at $s:str) => `(tactic| k_extra $s)
local macro_rules | `(tactic| kst_facts1) => `(tactic| with_reducible exact IntsAre.nil)
local macro_rules | `(tactic| mul_fits) => `(tactic| k_extra "mul")
local macro_rules | `(tactic| k_ne) => `(tactic| k_extra "ne")
section
open PySem PySem.Spec PySem.Calls PySem.W PyProof.Rows
set_option maxRecDepth 100000
namespace Mine

theorem norm_of_walk {ns : List Int} {k : Int} (h1 : 0 ≤ k) (h2 : k ≤ ns.length)
    (h3 : ∀ (j : Int), k < j → j ≤ (ns.length : Int) → (if 0 < j then if (ns.getD (j - 1).toNat 0 == 0) = true then true else false else false) = true)
    (h4 : (if 0 < k then if (ns.getD (k - 1).toNat 0 == 0) = true then true else false else false) = false) : ns.take k.toNat = norm ns := by
  refine norm_take ns k.toNat (fun j hj hl => ?_) ?_
  · have := h3 (j + 1) (by omega) (by omega)
    have e : ((j : Int) + 1 - 1).toNat = j := by omega
    rw [e] at this
    have hp : (0 : Int) < (j : Int) + 1 := by omega
    simp only [hp, if_true] at this
    simpa using this
  · by_cases hk : 0 < k
    · right
      have e : (k - 1).toNat = k.toNat - 1 := by omega
      rw [if_pos hk, e] at h4
      simpa using h4
    · left; omega

set_option maxHeartbeats 4000000 in
theorem normal_fn (w : World) (l : Addr) (vs : List Value) (ns : List Int) (hi : IntsAre vs ns) (hlen : ns.length ≤ 1000) :
    FnC PySem.Challenge.rw_nn0006_01.row.prog w (hd.heap_39 w.params) 58 [.ref l] [] 3 (fun h => h.IsList l vs.toArray) (NewInts fun x => x = norm ns) := by
  w_top off
  k_with_none
  (k_with "ne" => (refine neN ?_; (try dsimp only); first | exact neOf (by with_reducible assumption) (by k_mem) | exact Ne.symm (neOf (by with_reducible assumption) (by k_mem)) | exact ltOf (by with_reducible assumption) (by k_mem) | exact Ne.symm (ltOf (by with_reducible assumption) (by k_mem)) | omega))
  k_fill
  k_dflt (refine' fn_intro (binds := [(Str.ofString "a", .ref l)]) ?k6 ?k7 ?k9 ?kB ?c2 ?c3 ?c4 ?c5 ?_; (case k6 => k_is); (case k7 => k_is); (case k9 => exact fun _ => BindsTo.of_eq rfl); (case c5 => decide); (case kB => exact locs rfl); (case c2 => exact rfl); (case c3 => exact rfl); (case c4 => exact rfl); k_whole)
  intro dp un gd outer A₀ base p loose mean mg mb h₀ g L' s hdp hun hpre kp F' N' B' X' T' l1
  have hl := keptList kp hpre
  (try dsimp only)
  k_steps
  dsimp only
  rename_i F9 N9 I9 _ _ _
  refine fnOut F9 (newInts _ kp N9 (.head _) I9 (norm_of_walk ?_ ?_ ?_ ?_))
  all_goals first | assumption | omega
end Mine
end
section
open PySem PySem.Spec PySem.Calls PySem.W PyProof.Rows
set_option maxRecDepth 100000
namespace Mine


set_option maxHeartbeats 4000000 in
theorem low_limbs_fn (w : World) (l : Addr) (vs : List Value) (ns : List Int) (n : Int) (t : Tok) (hi : IntsAre vs ns) (hlen : ns.length ≤ 1000) (hn : 0 ≤ n) (hn2 : n ≤ 1000) :
    FnC PySem.Challenge.rw_nn0006_01.row.prog w (Mine.hd.heap_39 w.params) 79 [.ref l, .int n t] [] 4 (fun h => h.IsList l vs.toArray) (NewInts fun x => x = norm (ns.take n.toNat)) := by
  w_top off
  k_with_none
  (k_with "ne" => (refine neN ?_; (try dsimp only); first | exact neOf (by with_reducible assumption) (by k_mem) | exact Ne.symm (neOf (by with_reducible assumption) (by k_mem)) | exact ltOf (by with_reducible assumption) (by k_mem) | exact Ne.symm (ltOf (by with_reducible assumption) (by k_mem)) | omega))
  (k_with "call ref" => (k_here; (with_reducible show wpAny _ _ (call (Value.ref 58) _) _ _ _); k_dflt (refine' use_intsN (normal_fn _ _ _ _ ?zqki ?zqkn) ?zqk1 ?zqk2 ?zqk3 ?zqk4 ?zqk5 ?zqkK ?zqkd ?zqku ?zqkp ?_; (case zqk1 => k_asm); (case zqk2 => k_asm); (case zqk3 => k_asm); (case zqk4 => k_asm); (case zqk5 => k_asm); (case zqkK => first | exact rfl | assumption); (case zqkp => is_list); (case zqki => l_ints); (case zqkn => first | omega | l_fit); (case zqkd => ktr_room); (case zqku => ktr_units)); intro l9 vs9 n9 ns9 h9 tk9 F9 N9 l9n I9 e9; subst e9; (try dsimp only); (try k_fold)))
  k_fill
  k_dflt (refine' fn_intro (binds := [(Str.ofString "a", .ref l), (Str.ofString "n", .int n t)]) ?k6 ?k7 ?k9 ?kB ?c2 ?c3 ?c4 ?c5 ?_; (case k6 => k_is); (case k7 => k_is); (case k9 => exact fun _ => BindsTo.of_eq rfl); (case c5 => decide); (case kB => exact locs rfl); (case c2 => exact rfl); (case c3 => exact rfl); (case c4 => exact rfl); k_whole)
  intro dp un gd outer A₀ base p loose mean mg mb h₀ g L' s hdp hun hpre kp F' N' B' X' T' l1
  have hl := keptList kp hpre
  (try dsimp only)
  k_steps
  rename_i l9 vs9 n9 h9 tk9 F9 N9 q1 I9
  exact fnOut F9 (newInts _ kp N9 (.head _) I9 rfl)
end Mine
end
section
open PySem PySem.Spec PySem.Calls PySem.W PyProof.Rows
set_option maxRecDepth 100000
namespace Mine



section
variable {k lo : Nat} {a b f pre : List Int} {c kN X : Int}
theorem add_turn (hk : 1 ≤ k) (da : Dig (2 ^ k) a) (db : Dig (2 ^ k) b) (hP : AddP (2 ^ k) a b c f) (hl : f.length = lo + pre.length) (hX : X = c + a.getD f.length 0 + b.getD f.length 0) :
    (f ++ [Builtin.bitAnd X (1 * 2 ^ (k : Int).toNat - 1)]).length = lo + (pre ++ [kN]).length ∧ AddP (2 ^ k) a b (X.fdiv (2 ^ (k : Int).toNat)) (f ++ [Builtin.bitAnd X (1 * 2 ^ (k : Int).toNat - 1)]) := by
  rw [mask_eq, fdiv_two]
  exact ⟨by simp [hl]; omega, add_step (two_le_pow hk) da db hP hX⟩
theorem add_turnA (hk : 1 ≤ k) (da : Dig (2 ^ k) a) (db : Dig (2 ^ k) b) (hP : AddP (2 ^ k) a b c f) (hl : f.length = lo + pre.length) (hN : kN.toNat = lo + pre.length) :
    (f ++ [Builtin.bitAnd (c + (a.getD kN.toNat 0 + b.getD kN.toNat 0)) (1 * 2 ^ (k : Int).toNat - 1)]).length = lo + (pre ++ [kN]).length ∧ AddP (2 ^ k) a b ((c + (a.getD kN.toNat 0 + b.getD kN.toNat 0)).fdiv (2 ^ (k : Int).toNat)) (f ++ [Builtin.bitAnd (c + (a.getD kN.toNat 0 + b.getD kN.toNat 0)) (1 * 2 ^ (k : Int).toNat - 1)]) :=
  add_turn hk da db hP hl (by rw [hN, hl]; omega)
theorem add_turnB (hk : 1 ≤ k) (da : Dig (2 ^ k) a) (db : Dig (2 ^ k) b) (hP : AddP (2 ^ k) a b c f) (hl : f.length = lo + pre.length) (hN : kN.toNat = lo + pre.length) :
    (f ++ [Builtin.bitAnd (c + (b.getD kN.toNat 0 + a.getD kN.toNat 0)) (1 * 2 ^ (k : Int).toNat - 1)]).length = lo + (pre ++ [kN]).length ∧ AddP (2 ^ k) a b ((c + (b.getD kN.toNat 0 + a.getD kN.toNat 0)).fdiv (2 ^ (k : Int).toNat)) (f ++ [Builtin.bitAnd (c + (b.getD kN.toNat 0 + a.getD kN.toNat 0)) (1 * 2 ^ (k : Int).toNat - 1)]) :=
  add_turn hk da db hP hl (by rw [hN, hl]; omega)
theorem add_turnC (hk : 1 ≤ k) (da : Dig (2 ^ k) a) (db : Dig (2 ^ k) b) (hP : AddP (2 ^ k) a b c f) (hl : f.length = lo + pre.length) (hN : kN.toNat = lo + pre.length) (hb : b.length ≤ lo) :
    (f ++ [Builtin.bitAnd (c + a.getD kN.toNat 0) (1 * 2 ^ (k : Int).toNat - 1)]).length = lo + (pre ++ [kN]).length ∧ AddP (2 ^ k) a b ((c + a.getD kN.toNat 0).fdiv (2 ^ (k : Int).toNat)) (f ++ [Builtin.bitAnd (c + a.getD kN.toNat 0) (1 * 2 ^ (k : Int).toNat - 1)]) :=
  add_turn hk da db hP hl (by rw [hN, hl, getD_ge b (by omega)]; omega)
theorem add_turnD (hk : 1 ≤ k) (da : Dig (2 ^ k) a) (db : Dig (2 ^ k) b) (hP : AddP (2 ^ k) a b c f) (hl : f.length = lo + pre.length) (hN : kN.toNat = lo + pre.length) (hb : a.length ≤ lo) :
    (f ++ [Builtin.bitAnd (c + b.getD kN.toNat 0) (1 * 2 ^ (k : Int).toNat - 1)]).length = lo + (pre ++ [kN]).length ∧ AddP (2 ^ k) a b ((c + b.getD kN.toNat 0).fdiv (2 ^ (k : Int).toNat)) (f ++ [Builtin.bitAnd (c + b.getD kN.toNat 0) (1 * 2 ^ (k : Int).toNat - 1)]) :=
  add_turn hk da db hP hl (by rw [hN, hl, getD_ge a (by omega)]; omega)
theorem add_startA : ([] : List Int).length = 0 + ([] : List Int).length ∧ AddP (2 ^ k) a b 0 [] := ⟨rfl, (add_start _ _ _).2⟩
theorem add_startB (hP : AddP (2 ^ k) a b c f) (hl : f.length = lo) : f.length = lo + ([] : List Int).length ∧ AddP (2 ^ k) a b c f := ⟨by simpa using hl, hP⟩
end

set_option maxHeartbeats 4000000 in
theorem add_fn (w : World) (la lb : Addr) (va vb : List Value) (a b : List Int) (k : Nat) (t : Tok) (ha : IntsAre va a) (hb : IntsAre vb b) (la1 : a.length ≤ 1000) (lb1 : b.length ≤ 1000) (hk : 1 ≤ k) (hk2 : k ≤ 64) (da : Dig (2 ^ k) a) (db : Dig (2 ^ k) b) :
    FnC PySem.Challenge.rw_nn0006_01.row.prog w (Mine.hd.heap_39 w.params) 65 [.ref la, .ref lb, .int k t] [] 3 (fun h => h.IsList la va.toArray ∧ h.IsList lb vb.toArray) (NewInts fun x => Dig (2 ^ k) x ∧ val (2 ^ k) x = val (2 ^ k) a + val (2 ^ k) b ∧ x.length ≤ max a.length b.length + 1) := by
  w_top off
  k_with_none
  (k_with "ne" => (refine neN ?_; (try dsimp only); first | exact neOf (by with_reducible assumption) (by k_mem) | exact Ne.symm (neOf (by with_reducible assumption) (by k_mem)) | exact ltOf (by with_reducible assumption) (by k_mem) | exact Ne.symm (ltOf (by with_reducible assumption) (by k_mem)) | omega))
  (k_with "FnOut" => (k_here; exfalso; k_extra "absurd"))
  (k_with "FnOut" => (k_here; (with_reducible show FnOut _ _ _ (Value.ref _) _); (rename News _ _ _ _ => N9); (try simp only [List.push_toArray] at N9); (refine' fnOut ?zqf (newInts _ ?zqkp N9 ?zqm ?zqi ?zqh)); (case zqf => with_reducible assumption); (case zqkp => assumption); (case zqm => k_mem); (case zqi => k_intsEnd); (case zqh => k_extra "out")))
  (k_with "FnOut" => (k_here; (with_reducible show FnOut _ _ _ (Value.int _ _) _); (refine' fnOut ?zqf ⟨_, _, rfl, ?zqh⟩); (case zqf => with_reducible assumption); (case zqh => k_extra "out")))
  k_fill
  k_dflt (refine' fn_intro (binds := [(Str.ofString "a", .ref la), (Str.ofString "b", .ref lb), (Str.ofString "w", .int k t)]) ?k6 ?k7 ?k9 ?kB ?c2 ?c3 ?c4 ?c5 ?_; (case k6 => k_is); (case k7 => k_is); (case k9 => exact fun _ => BindsTo.of_eq rfl); (case c5 => decide); (case kB => exact locs rfl); (case c2 => exact rfl); (case c3 => exact rfl); (case c4 => exact rfl); k_whole)
  intro dp un gd outer A₀ base p loose mean mg mb h₀ g L' s hdp hun hpre kp F' N' B' X' T' l1
  have hl := keptList kp hpre.1
  have hl2 := keptList kp hpre.2
  (try dsimp only)
  (k_with "pyIter ref" => k_state (fun pre c f => f.length = min a.length b.length + pre.length ∧ AddP (2 ^ k) a b c f) "carry" "found")
  (k_with "pyIter ref" => k_state (fun pre c f => f.length = 0 + pre.length ∧ AddP (2 ^ k) a b c f) "carry" "found")
  (k_with "state" => first | with_reducible exact add_startA | (with_reducible refine add_startB ?_ ?_ <;> first | assumption | (simp only [rangeKs_length] at *; omega)) | (with_reducible refine add_turnA hk da db ?_ ?_ ?_ <;> first | assumption | omega) | (with_reducible refine add_turnB hk da db ?_ ?_ ?_ <;> first | assumption | omega) | (with_reducible refine add_turnC hk da db ?_ ?_ ?_ ?_ <;> first | assumption | omega) | (with_reducible refine add_turnD hk da db ?_ ?_ ?_ ?_ <;> first | assumption | omega))
  (k_with "out" => ((simp only [rangeKs_length] at *); (first | (with_reducible refine add_fin1 (two_le_pow hk) (by assumption) ?_ ?_ ?_ ?_) | (with_reducible refine add_fin0 (by assumption) ?_ ?_ ?_ ?_)) <;> first | assumption | omega))
  k_steps
end Mine
end
section
open PySem PySem.Spec PySem.Calls PySem.W PyProof.Rows
set_option maxRecDepth 100000
namespace Mine


theorem cell_out1 {j : Int} (h0 : 0 ≤ j) (h1 : j ≤ 20) : 0 ≤ 7919 * j * j + 104729 * j + 31 ∧ Builtin.Int.intBits (7919 * j * j + 104729 * j + 31) ≤ 1048580 := by
  have h2 : 0 ≤ 7919 * j * j := Int.mul_nonneg (by omega) h0
  have h3 : 7919 * j * j ≤ 7919 * 20 * 20 := Int.mul_le_mul (by omega) h1 h0 (by omega)
  exact ⟨by omega, Nat.le_trans (intBits_le_iff (m := 30).mpr (by omega)) (by decide)⟩
theorem cell_out2 {ns : List Int} {i : Nat} {j : Int} (h0 : 0 ≤ j) (h1 : j ≤ 20) (hb : ∀ x ∈ ns, Builtin.Int.intBits x ≤ 1048576) :
    0 ≤ (if ns.getD i 0 < 0 then -ns.getD i 0 else ns.getD i 0) + 17 * j.fdiv ↑ns.length ∧ Builtin.Int.intBits ((if ns.getD i 0 < 0 then -ns.getD i 0 else ns.getD i 0) + 17 * j.fdiv ↑ns.length) ≤ 1048580 := by
  have hx : Builtin.Int.intBits (ns.getD i 0) ≤ 1048576 := by
    by_cases hi : i < ns.length
    · have e : ns.getD i 0 = ns[i] := by simp [List.getD, hi]
      rw [e]; exact hb _ (List.getElem_mem hi)
    · rw [getD_ge ns (Nat.not_lt.mp hi)]; exact Nat.le_trans (intBits_le_iff (m := 1).mpr (by decide)) (by decide)
  have hq : 0 ≤ j.fdiv ns.length ∧ j.fdiv ns.length ≤ 20 := by
    rw [Int.fdiv_eq_ediv_of_nonneg _ (by omega)]
    exact ⟨Int.ediv_nonneg h0 (by omega), Int.le_trans (Int.ediv_le_self _ h0) h1⟩
  have hy : Builtin.Int.intBits (17 * j.fdiv ns.length) ≤ 10 := intBits_le_iff.mpr (by omega)
  have hz : Builtin.Int.intBits (if ns.getD i 0 < 0 then -ns.getD i 0 else ns.getD i 0) ≤ 1048576 := by
    split
    · exact intBits_neg_le hx
    · exact hx
  refine ⟨?_, Nat.le_trans (intBits_add_le hz hy) (by decide)⟩
  split <;> omega

set_option maxHeartbeats 4000000 in
theorem law_cell_fn (w : World) (l : Addr) (vs : List Value) (ns : List Int) (j : Int) (t : Tok) (hi : IntsAre vs ns) (hlen : ns.length ≤ 63) (hb : ∀ x ∈ ns, Builtin.Int.intBits x ≤ 1048576) (hj : 0 ≤ j) (hj2 : j ≤ 20) :
    FnC PySem.Challenge.rw_nn0006_01.row.prog w (Mine.hd.heap_39 w.params) 140 [.ref l, .int j t] [] 3 (fun h => h.IsList l vs.toArray) (fun _ r _ => ∃ x t, r = .int x t ∧ 0 ≤ x ∧ Builtin.Int.intBits x ≤ 1048580) := by
  w_top off
  k_with_none
  (k_with "ne" => (refine neN ?_; (try dsimp only); first | exact neOf (by with_reducible assumption) (by k_mem) | exact Ne.symm (neOf (by with_reducible assumption) (by k_mem)) | exact ltOf (by with_reducible assumption) (by k_mem) | exact Ne.symm (ltOf (by with_reducible assumption) (by k_mem)) | omega))
  (k_with "FnOut" => (k_here; exfalso; k_extra "absurd"))
  (k_with "FnOut" => (k_here; (with_reducible show FnOut _ _ _ (Value.ref _) _); (rename News _ _ _ _ => N9); (try simp only [List.push_toArray] at N9); (refine' fnOut ?zqf (newInts _ ?zqkp N9 ?zqm ?zqi ?zqh)); (case zqf => with_reducible assumption); (case zqkp => assumption); (case zqm => k_mem); (case zqi => k_intsEnd); (case zqh => k_extra "out")))
  (k_with "FnOut" => (k_here; (with_reducible show FnOut _ _ _ (Value.int _ _) _); (refine' fnOut ?zqf ⟨_, _, rfl, ?zqh⟩); (case zqf => with_reducible assumption); (case zqh => k_extra "out")))
  k_fill
  k_dflt (refine' fn_intro (binds := [(Str.ofString "script", .ref l), (Str.ofString "at", .int j t)]) ?k6 ?k7 ?k9 ?kB ?c2 ?c3 ?c4 ?c5 ?_; (case k6 => k_is); (case k7 => k_is); (case k9 => exact fun _ => BindsTo.of_eq rfl); (case c5 => decide); (case kB => exact locs rfl); (case c2 => exact rfl); (case c3 => exact rfl); (case c4 => exact rfl); k_whole)
  intro dp un gd outer A₀ base p loose mean mg mb h₀ g L' s hdp hun hpre kp F' N' B' X' T' l1
  have hl := keptList kp hpre
  (try dsimp only)
  (k_with "out" => first | with_reducible exact cell_out1 hj hj2 | with_reducible exact cell_out2 hj hj2 hb)
  k_steps
end Mine
end
section
open PySem PySem.Spec PySem.Calls PySem.W PyProof.Rows
set_option maxRecDepth 100000
namespace Mine


set_option maxHeartbeats 400000 in
theorem law_limbs_fn (w : World) (N : Int) (k : Nat) (t u : Tok) (hN : 0 ≤ N) (hN2 : Small N) (hk : 1 ≤ k) (hk2 : k ≤ 64) :
    FnC PySem.Challenge.rw_nn0006_01.row.prog w (Mine.hd.heap_39 w.params) 147 [.int N t, .int k u] [] 3 (fun _ => True) (NewInts fun x => Dig (2 ^ k) x ∧ val (2 ^ k) x = N ∧ Nrm x ∧ x.length ≤ 500) := by
  w_top off
  k_with_none
  (k_with "ne" => (refine neN ?_; (try dsimp only); first | exact neOf (by with_reducible assumption) (by k_mem) | exact Ne.symm (neOf (by with_reducible assumption) (by k_mem)) | exact ltOf (by with_reducible assumption) (by k_mem) | exact Ne.symm (ltOf (by with_reducible assumption) (by k_mem)) | omega))
  (k_with "FnOut" => (k_here; exfalso; k_extra "absurd"))
  (k_with "FnOut" => (k_here; (with_reducible show FnOut _ _ _ (Value.ref _) _); (rename News _ _ _ _ => N9); (try simp only [List.push_toArray] at N9); (refine' fnOut ?zqf (newInts _ ?zqkp N9 ?zqm ?zqi ?zqh)); (case zqf => with_reducible assumption); (case zqkp => assumption); (case zqm => k_mem); (case zqi => k_intsEnd); (case zqh => k_extra "out")))
  (k_with "FnOut" => (k_here; (with_reducible show FnOut _ _ _ (Value.int _ _) _); (refine' fnOut ?zqf ⟨_, _, rfl, ?zqh⟩); (case zqf => with_reducible assumption); (case zqh => k_extra "out")))
  k_fill
  k_dflt (refine' fn_intro (binds := [(Str.ofString "n", .int N t), (Str.ofString "w", .int k u)]) ?k6 ?k7 ?k9 ?kB ?c2 ?c3 ?c4 ?c5 ?_; (case k6 => k_is); (case k7 => k_is); (case k9 => exact fun _ => BindsTo.of_eq rfl); (case c5 => decide); (case kB => exact locs rfl); (case c2 => exact rfl); (case c3 => exact rfl); (case c4 => exact rfl); k_whole)
  intro dp un gd outer A₀ base p loose mean mg mb h₀ g L' s hdp hun hpre kp F' N' B' X' T' l1
  (try dsimp only)
  (k_with "exec While Compare cons nil" => k_while (fun (_ : List Int) n f => 0 ≤ n ∧ f.length ≤ 500 ∧ LimP k N n f) (fun (_ : List Int) n f => n.toNat) "n" "found")
  (k_with "state" => first | with_reducible exact limP_start hN hN2 | (rw [fdiv_two, fmod_two]; exact limP_step hk (by assumption) (by assumption) (by assumption)))
  (k_with "measure" => (rw [fdiv_two]; exact limP_falls hk (by assumption)))
  (k_with "out" => exact limP_end (by assumption) (by assumption) (by assumption) (by assumption))
  k_steps
end Mine
end
section
open PySem PySem.Spec PySem.Calls PySem.W PyProof.Rows
set_option maxRecDepth 100000
namespace Mine



theorem num_absurd1 {k : Nat} {ns : List Int} {d : Int} (h : Dig (2 ^ k) ns) (hm : d ∈ ns.reverse) (hn : ¬ d < 1 * 2 ^ (k : Int).toNat) : False := by
  rw [one_two] at hn
  exact hn (h d (List.mem_reverse.mp hm)).2
theorem num_absurd2 {k : Nat} {ns : List Int} {d : Int} (h : Dig (2 ^ k) ns) (hm : d ∈ ns.reverse) (hn : ¬ 0 ≤ d) : False := hn (h d (List.mem_reverse.mp hm)).1
theorem num_absurd3 {ns : List Int} (h : Nrm ns) (hp : 0 < (ns.length : Int)) (hn : ns.getD (-1 + (ns.length : Int)).toNat 0 = 0) : False := by
  have e : (-1 + (ns.length : Int)).toNat = ns.length - 1 := by omega
  rw [e] at hn
  exact nrm_last h (by omega) hn
set_option maxHeartbeats 4000000 in
theorem law_number_fn (w : World) (l : Addr) (vs : List Value) (ns : List Int) (k : Nat) (t : Tok) (hi : IntsAre vs ns) (hlen : ns.length ≤ 500) (hk : 1 ≤ k) (hk2 : k ≤ 64) (dn : Dig (2 ^ k) ns) (nn : Nrm ns) :
    FnC PySem.Challenge.rw_nn0006_01.row.prog w (Mine.hd.heap_39 w.params) 154 [.ref l, .int k t] [] 3 (fun h => h.IsList l vs.toArray) (fun _ r _ => ∃ x t, r = .int x t ∧ x = val (2 ^ k) ns) := by
  w_top off
  k_with_none
  (k_with "ne" => (refine neN ?_; (try dsimp only); first | exact neOf (by with_reducible assumption) (by k_mem) | exact Ne.symm (neOf (by with_reducible assumption) (by k_mem)) | exact ltOf (by with_reducible assumption) (by k_mem) | exact Ne.symm (ltOf (by with_reducible assumption) (by k_mem)) | omega))
  (k_with "FnOut" => (k_here; exfalso; k_extra "absurd"))
  (k_with "FnOut" => (k_here; (with_reducible show FnOut _ _ _ (Value.ref _) _); (rename News _ _ _ _ => N9); (try simp only [List.push_toArray] at N9); (refine' fnOut ?zqf (newInts _ ?zqkp N9 ?zqm ?zqi ?zqh)); (case zqf => with_reducible assumption); (case zqkp => assumption); (case zqm => k_mem); (case zqi => k_intsEnd); (case zqh => k_extra "out")))
  (k_with "FnOut" => (k_here; (with_reducible show FnOut _ _ _ (Value.int _ _) _); (refine' fnOut ?zqf ⟨_, _, rfl, ?zqh⟩); (case zqf => with_reducible assumption); (case zqh => k_extra "out")))
  (k_with "binaryOp LShift int int" => (k_here; (with_reducible refine lshift_int ?zqkbn ?zqkbs ?_); (case zqkbn => k_extra "shift0"); (case zqkbs => k_extra "shift")))
  k_fill
  k_dflt (refine' fn_intro (binds := [(Str.ofString "a", .ref l), (Str.ofString "w", .int k t)]) ?k6 ?k7 ?k9 ?kB ?c2 ?c3 ?c4 ?c5 ?_; (case k6 => k_is); (case k7 => k_is); (case k9 => exact fun _ => BindsTo.of_eq rfl); (case c5 => decide); (case kB => exact locs rfl); (case c2 => exact rfl); (case c3 => exact rfl); (case c4 => exact rfl); k_whole)
  intro dp un gd outer A₀ base p loose mean mg mb h₀ g L' s hdp hun hpre kp F' N' B' X' T' l1
  have hl := keptList kp hpre
  (try dsimp only)
  (k_with "pyIter ref" => k_state (fun pre f => f = val (2 ^ k) pre.reverse) "found")
  (k_with "shift0" => omega)
  (k_with "shift" => first | (refine kbm_shl (m := 1) ?_ ?_ ?_ <;> first | decide | omega) | exact shift_bits rfl dn (by assumption) (by assumption) hlen hk2)
  (k_with "state" => first | (simp [val]; done) | (rw [Int.toNat_natCast]; exact val_rev_step (by assumption)))
  (k_with "out" => (rw [List.reverse_reverse] at *; assumption))
  (k_with "absurd" => first | exact num_absurd1 dn (by assumption) (by assumption) | exact num_absurd2 dn (by assumption) (by assumption) | exact num_absurd3 nn (by assumption) (by assumption))
  k_steps
end Mine
end
section
open PySem PySem.Spec PySem.Calls PySem.W PyProof.Rows
set_option maxRecDepth 100000
namespace Mine



theorem fmod2 (d : Int) : d.fmod 2 = d % 2 := Int.fmod_eq_emod_of_nonneg _ (by omega)
theorem inv_range (x : Int) (k : Nat) : 0 ≤ x % 2 ^ k ∧ x % 2 ^ k < 2 ^ k := ⟨Int.emod_nonneg _ (Int.ne_of_gt (pow2_pos k)), Int.emod_lt_of_pos _ (pow2_pos k)⟩
theorem inv_start {k : Nat} {d : Int} (h : d.fmod 2 = 1) : 1 ≤ (3 : Int) ∧ (3 : Int) ≤ 200 ∧ 0 ≤ d % 2 ^ k ∧ d % 2 ^ k < 2 ^ k ∧ InvP k d (d % 2 ^ k) 3 :=
  ⟨by decide, by decide, (inv_range _ _).1, (inv_range _ _).2, invP_start (by rwa [fmod2] at h)⟩
theorem inv_step {k : Nat} {d f s : Int} (hs : 1 ≤ s) (hs2 : s < k) (hk : k ≤ 64) (h : InvP k d f s) :
    1 ≤ 2 * s ∧ 2 * s ≤ 200 ∧ 0 ≤ (f * ((2 - d * f) % 2 ^ k)) % 2 ^ k ∧ (f * ((2 - d * f) % 2 ^ k)) % 2 ^ k < 2 ^ k ∧ InvP k d ((f * ((2 - d * f) % 2 ^ k)) % 2 ^ k) (2 * s) :=
  ⟨by omega, by omega, (inv_range _ _).1, (inv_range _ _).2, invP_step hs h⟩
set_option maxHeartbeats 4000000 in
theorem inverse_limb_fn (w : World) (d : Int) (k : Nat) (t u : Tok) (hod : d.fmod 2 = 1) (hd0 : 0 ≤ d) (hd1 : d < 2 ^ k) (hk : 2 ≤ k) (hk2 : k ≤ 64) :
    FnC PySem.Challenge.rw_nn0006_01.row.prog w (Mine.hd.heap_39 w.params) 72 [.int d t, .int k u] [] 3 (fun _ => True) (fun _ r _ => ∃ x t, r = .int x t ∧ 0 ≤ x ∧ x < 2 ^ k ∧ (2 : Int) ^ k ∣ x * d - 1) := by
  w_top off
  k_with_none
  (k_with "ne" => (refine neN ?_; (try dsimp only); first | exact neOf (by with_reducible assumption) (by k_mem) | exact Ne.symm (neOf (by with_reducible assumption) (by k_mem)) | exact ltOf (by with_reducible assumption) (by k_mem) | exact Ne.symm (ltOf (by with_reducible assumption) (by k_mem)) | omega))
  (k_with "FnOut" => (k_here; exfalso; k_extra "absurd"))
  (k_with "FnOut" => (k_here; (with_reducible show FnOut _ _ _ (Value.ref _) _); (rename News _ _ _ _ => N9); (try simp only [List.push_toArray] at N9); (refine' fnOut ?zqf (newInts _ ?zqkp N9 ?zqm ?zqi ?zqh)); (case zqf => with_reducible assumption); (case zqkp => assumption); (case zqm => k_mem); (case zqi => k_intsEnd); (case zqh => k_extra "out")))
  (k_with "FnOut" => (k_here; (with_reducible show FnOut _ _ _ (Value.int _ _) _); (refine' fnOut ?zqf ⟨_, _, rfl, ?zqh⟩); (case zqf => with_reducible assumption); (case zqh => k_extra "out")))
  k_fill
  k_dflt (refine' fn_intro (binds := [(Str.ofString "d", .int d t), (Str.ofString "w", .int k u)]) ?k6 ?k7 ?k9 ?kB ?c2 ?c3 ?c4 ?c5 ?_; (case k6 => k_is); (case k7 => k_is); (case k9 => exact fun _ => BindsTo.of_eq rfl); (case c5 => decide); (case kB => exact locs rfl); (case c2 => exact rfl); (case c3 => exact rfl); (case c4 => exact rfl); k_whole)
  intro dp un gd outer A₀ base p loose mean mg mb h₀ g L' s hdp hun hpre kp F' N' B' X' T' l1
  (try dsimp only)
  (k_with "exec While Compare cons nil" => k_while (fun (_ : List Int) f s => 1 ≤ s ∧ s ≤ 200 ∧ 0 ≤ f ∧ f < 2 ^ k ∧ InvP k d f s) (fun (_ : List Int) f s => (200 - s).toNat) "found" "sure")
  (k_with "mul" => first | exact mulOk_left (by assumption) (by assumption) hk2 | exact mulOk_right (by assumption) (by assumption) hk2)
  (k_with "state" => first | (rw [fmod_two]; exact inv_start hod) | (simp only [fmod_two]; exact inv_step (by assumption) (by assumption) hk2 (by assumption)))
  (k_with "measure" => omega)
  (k_with "out" => (refine ⟨by assumption, by assumption, invP_end ?_ (by assumption)⟩; omega))
  k_steps
  all_goals omega
end Mine
end
section
open PySem PySem.Spec PySem.Calls PySem.W PyProof.Rows
set_option maxRecDepth 100000
namespace Mine



theorem compl_fn {k : Nat} {a : List Int} (i : Nat) :
    (if (i : Int) < ↑a.length then (1 : Int) * 2 ^ (↑k : Int).toNat - 1 - a.getD (i : Int).toNat 0 else 1 * 2 ^ (↑k : Int).toNat - 1 - 0) = 2 ^ k - 1 - a.getD i 0 := by
  rw [one_two, Int.toNat_natCast]
  split
  · rfl
  · rename_i h
    rw [getD_ge a (by omega)]
theorem compl_row {k : Nat} (a : List Int) (n : Nat) :
    (List.map (fun k' => if k' < ↑a.length then (1 : Int) * 2 ^ (↑k : Int).toNat - 1 - a.getD k'.toNat 0 else 1 * 2 ^ (↑k : Int).toNat - 1 - 0) (rangeKs 0 ((n : Int) - 0).toNat)) =
      (List.range n).map fun (i : Nat) => (if (i : Int) < ↑a.length then (1 : Int) * 2 ^ (↑k : Int).toNat - 1 - a.getD (i : Int).toNat 0 else 1 * 2 ^ (↑k : Int).toNat - 1 - 0) := by
  unfold rangeKs
  rw [List.map_map, show ((n : Int) - 0).toNat = n by omega]
  apply List.map_congr_left
  intro i _
  simp only [Function.comp_def, Int.zero_add]
theorem compl_len {k : Nat} (a : List Int) {n : Nat} (hn : n ≤ 100) :
    (norm (List.map (fun k' => if k' < ↑a.length then (1 : Int) * 2 ^ (↑k : Int).toNat - 1 - a.getD k'.toNat 0 else 1 * 2 ^ (↑k : Int).toNat - 1 - 0) (rangeKs 0 ((n : Int) - 0).toNat))).length ≤ 1000 := by
  refine Nat.le_trans (norm_length _) ?_
  rw [compl_row, List.length_map, List.length_range]; omega
theorem compl_len2 {k : Nat} {a y : List Int} {n : Nat} (hn : n ≤ 100)
    (h : y.length ≤ max (norm (List.map (fun k' => if k' < ↑a.length then (1 : Int) * 2 ^ (↑k : Int).toNat - 1 - a.getD k'.toNat 0 else 1 * 2 ^ (↑k : Int).toNat - 1 - 0) (rangeKs 0 ((n : Int) - 0).toNat))).length [(1 : Int)].length + 1) : y.length ≤ 1000 := by
  have h1 := norm_length (List.map (fun k' => if k' < ↑a.length then (1 : Int) * 2 ^ (↑k : Int).toNat - 1 - a.getD k'.toNat 0 else 1 * 2 ^ (↑k : Int).toNat - 1 - 0) (rangeKs 0 ((n : Int) - 0).toNat))
  rw [List.length_map, rangeKs_length] at h1
  simp only [List.length_cons, List.length_nil] at h
  omega
theorem compl_digs {k : Nat} {a : List Int} (da : Dig (2 ^ k) a) (n : Nat) :
    Dig (2 ^ k) (norm (List.map (fun k' => if k' < ↑a.length then (1 : Int) * 2 ^ (↑k : Int).toNat - 1 - a.getD k'.toNat 0 else 1 * 2 ^ (↑k : Int).toNat - 1 - 0) (rangeKs 0 ((n : Int) - 0).toNat))) := by
  rw [compl_row]
  exact dig_norm (compl_dig (pow2_pos k) _ a da (fun i => compl_fn i) n)
theorem dig_one {k : Nat} (hk : 2 ≤ k) : Dig (2 ^ k) [1] := by
  intro d hd
  rw [List.mem_singleton.mp hd]
  have := two_le_pow (k := k) (by omega)
  omega
theorem compl_out {k : Nat} {a y : List Int} {n : Nat} (ha : a.length ≤ n) (dy : Dig (2 ^ k) y)
    (hy : val (2 ^ k) y = val (2 ^ k) (norm (List.map (fun k' => if k' < ↑a.length then (1 : Int) * 2 ^ (↑k : Int).toNat - 1 - a.getD k'.toNat 0 else 1 * 2 ^ (↑k : Int).toNat - 1 - 0) (rangeKs 0 ((n : Int) - 0).toNat))) + val (2 ^ k) [1]) :
    Dig (2 ^ k) (norm (y.take (n : Int).toNat)) ∧ val (2 ^ k) (norm (y.take (n : Int).toNat)) = (- val (2 ^ k) a) % (2 ^ k) ^ n ∧ Nrm (norm (y.take (n : Int).toNat)) ∧ (norm (y.take (n : Int).toNat)).length ≤ n := by
  rw [Int.toNat_natCast]
  refine compl_end (pow2_pos k) _ ha ?_ dy hy
  rw [compl_row]
  exact compl_val _ a (fun i => compl_fn i) n

set_option maxHeartbeats 4000000 in
theorem complement_fn (w : World) (l : Addr) (vs : List Value) (a : List Int) (n k : Nat) (t u : Tok) (hi : IntsAre vs a) (hlen : a.length ≤ n) (hn : n ≤ 100) (hk : 2 ≤ k) (hk2 : k ≤ 64) (da : Dig (2 ^ k) a) :
    FnC PySem.Challenge.rw_nn0006_01.row.prog w (Mine.hd.heap_39 w.params) 84 [.ref l, .int n t, .int k u] [] 6 (fun h => h.IsList l vs.toArray) (NewInts fun x => Dig (2 ^ k) x ∧ val (2 ^ k) x = (- val (2 ^ k) a) % (2 ^ k) ^ n ∧ Nrm x ∧ x.length ≤ n) := by
  w_top off
  k_with_none
  (k_with "ne" => (refine neN ?_; (try dsimp only); first | exact neOf (by with_reducible assumption) (by k_mem) | exact Ne.symm (neOf (by with_reducible assumption) (by k_mem)) | exact ltOf (by with_reducible assumption) (by k_mem) | exact Ne.symm (ltOf (by with_reducible assumption) (by k_mem)) | omega))
  (k_with "FnOut" => (k_here; exfalso; k_extra "absurd"))
  (k_with "FnOut" => (k_here; (with_reducible show FnOut _ _ _ (Value.ref _) _); (rename News _ _ _ _ => N9); (try simp only [List.push_toArray] at N9); (refine' fnOut ?zqf (newInts _ ?zqkp N9 ?zqm ?zqi ?zqh)); (case zqf => with_reducible assumption); (case zqkp => assumption); (case zqm => k_mem); (case zqi => k_intsEnd); (case zqh => k_extra "out")))
  (k_with "FnOut" => (k_here; (with_reducible show FnOut _ _ _ (Value.int _ _) _); (refine' fnOut ?zqf ⟨_, _, rfl, ?zqh⟩); (case zqf => with_reducible assumption); (case zqh => k_extra "out")))
  (k_with "call ref" => (k_here; (with_reducible show wpAny _ _ (call (Value.ref 58) _) _ _ _); k_dflt (refine' use_intsN (normal_fn _ _ _ _ ?zqki ?zqkn) ?zqk1 ?zqk2 ?zqk3 ?zqk4 ?zqk5 ?zqkK ?zqkd ?zqku ?zqkp ?_; (case zqk1 => k_asm); (case zqk2 => k_asm); (case zqk3 => k_asm); (case zqk4 => k_asm); (case zqk5 => k_asm); (case zqkK => first | exact rfl | assumption); (case zqkp => first | (refine' isListOf ?zqqN ?zqqm; (case zqqN => k_asm); (case zqqm => k_mem)) | is_list); (case zqki => l_ints); (case zqkn => first | omega | l_fit); (case zqkd => ktr_room); (case zqku => ktr_units)); intro l9 vs9 n9 ns9 h9 tk9 F9 N9 l9n I9 e9; subst e9; (try dsimp only); (try k_fold)))
  (k_with "call ref" => (k_here; (with_reducible show wpAny _ _ (call (Value.ref 79) _) _ _ _); k_dflt (refine' use_intsN (low_limbs_fn _ _ _ _ _ _ ?zqki ?zqkn ?zqkz ?zqky) ?zqk1 ?zqk2 ?zqk3 ?zqk4 ?zqk5 ?zqkK ?zqkd ?zqku ?zqkp ?_; (case zqk1 => k_asm); (case zqk2 => k_asm); (case zqk3 => k_asm); (case zqk4 => k_asm); (case zqk5 => k_asm); (case zqkK => first | exact rfl | assumption); (case zqkp => first | (refine' isListOf ?zqqN ?zqqm; (case zqqN => k_asm); (case zqqm => k_mem)) | is_list); (case zqki => l_ints); (case zqkn => k_extra "len"); (case zqkz => omega); (case zqky => omega); (case zqkd => ktr_room); (case zqku => ktr_units)); intro l9 vs9 n9 ns9 h9 tk9 F9 N9 l9n I9 e9; subst e9; (try dsimp only); (try k_fold)))
  (k_with "call ref" => (k_here; (with_reducible show wpAny _ _ (call (Value.ref 65) _) _ _ _); k_dflt (refine' use_intsN (add_fn _ _ _ _ _ _ _ _ _ ?zqka ?zqkb ?zqkla ?zqklb ?zqkk ?zqkk2 ?zqkda ?zqkdb) ?zqk1 ?zqk2 ?zqk3 ?zqk4 ?zqk5 ?zqkK ?zqkd ?zqku ?zqkp ?_; (case zqk1 => k_asm); (case zqk2 => k_asm); (case zqk3 => k_asm); (case zqk4 => k_asm); (case zqk5 => k_asm); (case zqkK => first | exact rfl | assumption); (case zqkp => (refine' And.intro ?zqkpa ?zqkpb; (case zqkpa => first | (refine' isListOf ?zqqN ?zqqm; (case zqqN => k_asm); (case zqqm => k_mem)) | is_list); (case zqkpb => first | (refine' isListOf ?zqqN ?zqqm; (case zqqN => k_asm); (case zqqm => k_mem)) | is_list))); (case zqka => l_ints); (case zqkb => first | exact IntsAre.cons _ _ .nil | l_ints); (case zqkla => k_extra "len"); (case zqklb => k_extra "len"); (case zqkk => omega); (case zqkk2 => omega); (case zqkda => k_extra "dig"); (case zqkdb => k_extra "dig"); (case zqkd => ktr_room); (case zqku => ktr_units)); intro l9 vs9 n9 ns9 h9 tk9 F9 N9 l9n I9 e9; obtain ⟨d9, v9, m9⟩ := e9; (try dsimp only); (try k_fold)))
  k_fill
  k_dflt (refine' fn_introC (binds := [(Str.ofString "a", .ref l), (Str.ofString "n", .int n t), (Str.ofString "w", .int k u)]) ?k6 ?k7 ?k9 ?kB ?kD ?c2 ?c3 ?c4 ?_; (case k6 => k_is); (case k7 => k_is); (case k9 => exact fun _ => BindsTo.of_eq rfl); (case kB => exact rfl); (case kD => decide +kernel); (case c2 => exact rfl); (case c3 => exact rfl); (case c4 => exact rfl); k_whole)
  intro dp un gd outer A₀ base p loose mean mg mb h₀ g L' s cells' hdp hun hpre kp F' N' Y' B' X' T' l1
  k_cells Y'
  (try simp only [List.cons_append, List.nil_append] at N')
  have hl := keptList kp hpre
  (try dsimp only)
  (k_with "out" => exact compl_out hlen (by assumption) (by assumption))
  (k_with "len" => first | exact compl_len a hn | decide | exact compl_len2 hn (by assumption))
  (k_with "dig" => first | exact compl_digs da n | exact dig_one hk)
  k_steps
end Mine
end
section
open PySem PySem.Spec PySem.Calls PySem.W PyProof.Rows
set_option maxRecDepth 100000
namespace Mine



theorem power_none {a : List Int} {n : Nat} (h : ¬ 0 < (a.length : Int)) : 0 = a.getD 0 0 % 2 ^ n := by
  rw [getD_ge a (by omega), Int.zero_emod]
set_option maxHeartbeats 4000000 in
theorem mod_small_power_fn (w : World) (l : Addr) (vs : List Value) (a : List Int) (n : Nat) (k : Nat) (t u : Tok) (hi : IntsAre vs a) (hlen : a.length ≤ 500) (hn : n ≤ k) (hk2 : k ≤ 64) :
    FnC PySem.Challenge.rw_nn0006_01.row.prog w (Mine.hd.heap_39 w.params) 112 [.ref l, .int n t, .int k u] [] 3 (fun h => h.IsList l vs.toArray) (fun _ r _ => ∃ x t, r = .int x t ∧ x = a.getD 0 0 % 2 ^ n) := by
  w_top off
  k_with_none
  (k_with "ne" => (refine neN ?_; (try dsimp only); first | exact neOf (by with_reducible assumption) (by k_mem) | exact Ne.symm (neOf (by with_reducible assumption) (by k_mem)) | exact ltOf (by with_reducible assumption) (by k_mem) | exact Ne.symm (ltOf (by with_reducible assumption) (by k_mem)) | omega))
  (k_with "FnOut" => (k_here; exfalso; k_extra "absurd"))
  (k_with "FnOut" => (k_here; (with_reducible show FnOut _ _ _ (Value.ref _) _); (rename News _ _ _ _ => N9); (try simp only [List.push_toArray] at N9); (refine' fnOut ?zqf (newInts _ ?zqkp N9 ?zqm ?zqi ?zqh)); (case zqf => with_reducible assumption); (case zqkp => assumption); (case zqm => k_mem); (case zqi => k_intsEnd); (case zqh => k_extra "out")))
  (k_with "FnOut" => (k_here; (with_reducible show FnOut _ _ _ (Value.int _ _) _); (refine' fnOut ?zqf ⟨_, _, rfl, ?zqh⟩); (case zqf => with_reducible assumption); (case zqh => k_extra "out")))
  (k_with "binaryOp Mod int int" => (k_here; (with_reducible refine mod_int' ?zqkbn ?_); (case zqkbn => k_extra "nonzero")))
  (k_with "binaryOp LShift int int" => (k_here; (with_reducible refine lshift_int ?zqkbn ?zqkbs ?_); (case zqkbn => k_extra "shift0"); (case zqkbs => k_extra "shift")))
  k_fill
  k_dflt (refine' fn_intro (binds := [(Str.ofString "a", .ref l), (Str.ofString "n", .int n t), (Str.ofString "w", .int k u)]) ?k6 ?k7 ?k9 ?kB ?c2 ?c3 ?c4 ?c5 ?_; (case k6 => k_is); (case k7 => k_is); (case k9 => exact fun _ => BindsTo.of_eq rfl); (case c5 => decide); (case kB => exact locs rfl); (case c2 => exact rfl); (case c3 => exact rfl); (case c4 => exact rfl); k_whole)
  intro dp un gd outer A₀ base p loose mean mg mb h₀ g L' s hdp hun hpre kp F' N' B' X' T' l1
  have hl := keptList kp hpre
  (try dsimp only)
  (k_with "out" => first | (rw [fmod_two]; rfl) | exact power_none (by assumption))
  k_steps

def FolP (f m : Int) (pre : List Int) (x wt : Int) : Prop := Hid (x % m = val f pre % m ∧ wt % m = f ^ pre.length % m)
theorem fmod_m (x : Int) {m : Int} (hm : 2 ≤ m) : x.fmod m = x % m := Int.fmod_eq_emod_of_nonneg _ (by omega)
theorem fol_range (x : Int) {m : Int} (hm : 2 ≤ m) : 0 ≤ x % m ∧ x % m < m := ⟨Int.emod_nonneg _ (by omega), Int.emod_lt_of_pos _ (by omega)⟩
theorem fol_start {f m : Int} (hm : 2 ≤ m) : 0 ≤ (0 : Int) ∧ 0 < m ∧ 0 ≤ (1 : Int) ∧ 1 < m ∧ FolP f m [] 0 1 := ⟨by omega, by omega, by omega, by omega, ⟨by simp [val]⟩⟩
theorem fol_step {f m x wt d : Int} {pre : List Int} (hm : 2 ≤ m) (h : FolP f m pre x wt) :
    0 ≤ (x + d % m * wt) % m ∧ (x + d % m * wt) % m < m ∧ 0 ≤ (wt * f) % m ∧ (wt * f) % m < m ∧ FolP f m (pre ++ [d]) ((x + d % m * wt) % m) ((wt * f) % m) := by
  obtain ⟨h1, h2⟩ := h.out
  refine ⟨(fol_range _ hm).1, (fol_range _ hm).2, (fol_range _ hm).1, (fol_range _ hm).2, ⟨?_, ?_⟩⟩
  · rw [Int.emod_emod_of_dvd _ (Int.dvd_refl m), val_snoc, Int.add_emod x, h1, Int.mul_emod (d % m), Int.emod_emod_of_dvd _ (Int.dvd_refl m), h2, ← Int.mul_emod, ← Int.add_emod, Int.mul_comm d]
  · rw [Int.emod_emod_of_dvd _ (Int.dvd_refl m), List.length_append, List.length_singleton, Int.pow_succ, Int.mul_emod, h2, ← Int.mul_emod]
theorem fol_end {f m x wt : Int} {a : List Int} (h0 : 0 ≤ x) (h1 : x < m) (h : FolP f m a x wt) : x = val f a % m := by
  have := h.out.1
  rwa [Int.emod_eq_of_lt h0 h1] at this
theorem fol_mul {a b m : Int} (h0 : 0 ≤ b) (h1 : b < m) (hm : m ≤ 1000) : IntMulOk a b := mulOk_right (k := 10) h0 (by omega) (by decide)
set_option maxHeartbeats 4000000 in
theorem folded_fn (w : World) (l : Addr) (vs : List Value) (a : List Int) (f m k : Int) (t u v : Tok) (hi : IntsAre vs a) (hlen : a.length ≤ 500) (hm : 2 ≤ m) (hm2 : m ≤ 1000) (hf0 : 0 ≤ f) (hf1 : f < m) :
    FnC PySem.Challenge.rw_nn0006_01.row.prog w (Mine.hd.heap_39 w.params) 119 [.ref l, .int f t, .int m u, .int k v] [] 3 (fun h => h.IsList l vs.toArray) (fun _ r _ => ∃ x t, r = .int x t ∧ x = val f a % m) := by
  w_top off
  k_with_none
  (k_with "ne" => (refine neN ?_; (try dsimp only); first | exact neOf (by with_reducible assumption) (by k_mem) | exact Ne.symm (neOf (by with_reducible assumption) (by k_mem)) | exact ltOf (by with_reducible assumption) (by k_mem) | exact Ne.symm (ltOf (by with_reducible assumption) (by k_mem)) | omega))
  (k_with "FnOut" => (k_here; exfalso; k_extra "absurd"))
  (k_with "FnOut" => (k_here; (with_reducible show FnOut _ _ _ (Value.ref _) _); (rename News _ _ _ _ => N9); (try simp only [List.push_toArray] at N9); (refine' fnOut ?zqf (newInts _ ?zqkp N9 ?zqm ?zqi ?zqh)); (case zqf => with_reducible assumption); (case zqkp => assumption); (case zqm => k_mem); (case zqi => k_intsEnd); (case zqh => k_extra "out")))
  (k_with "FnOut" => (k_here; (with_reducible show FnOut _ _ _ (Value.int _ _) _); (refine' fnOut ?zqf ⟨_, _, rfl, ?zqh⟩); (case zqf => with_reducible assumption); (case zqh => k_extra "out")))
  (k_with "binaryOp Mod int int" => (k_here; (with_reducible refine mod_int' ?zqkbn ?_); (case zqkbn => k_extra "nonzero")))
  (k_with "binaryOp LShift int int" => (k_here; (with_reducible refine lshift_int ?zqkbn ?zqkbs ?_); (case zqkbn => k_extra "shift0"); (case zqkbs => k_extra "shift")))
  k_fill
  k_dflt (refine' fn_intro (binds := [(Str.ofString "a", .ref l), (Str.ofString "factor", .int f t), (Str.ofString "modulus", .int m u), (Str.ofString "w", .int k v)]) ?k6 ?k7 ?k9 ?kB ?c2 ?c3 ?c4 ?c5 ?_; (case k6 => k_is); (case k7 => k_is); (case k9 => exact fun _ => BindsTo.of_eq rfl); (case c5 => decide); (case kB => exact locs rfl); (case c2 => exact rfl); (case c3 => exact rfl); (case c4 => exact rfl); k_whole)
  intro dp un gd outer A₀ base p loose mean mg mb h₀ g L' s hdp hun hpre kp F' N' B' X' T' l1
  have hl := keptList kp hpre
  (try dsimp only)
  (k_with "pyIter ref" => k_state (fun pre x wt => 0 ≤ x ∧ x < m ∧ 0 ≤ wt ∧ wt < m ∧ FolP f m pre x wt) "found" "weight")
  (k_with "mul" => exact fol_mul (by assumption) (by assumption) hm2)
  (k_with "state" => first | exact fol_start hm | (simp only [fmod_m _ hm]; exact fol_step hm (by assumption)))
  (k_with "out" => exact fol_end (by assumption) (by assumption) (by assumption))
  k_steps

theorem fmod_nat (k n : Nat) : (k : Int).fmod n = ((k % n : Nat) : Int) := by
  rw [Int.fmod_eq_emod_of_nonneg _ (by omega), Int.natCast_emod]
theorem fdiv_nat (k n : Nat) : (k : Int).fdiv n = ((k / n : Nat) : Int) := by
  rw [Int.fdiv_eq_ediv_of_nonneg _ (by omega), Int.natCast_ediv]
theorem rest_pow (k n : Nat) : (1 : Int) * 2 ^ ((k : Int).fmod n).toNat = 2 ^ (k % n) := by rw [fmod_nat, one_two]
theorem rest_shift0 (k n : Nat) : 0 ≤ (k : Int).fmod n := by rw [fmod_nat]; omega
theorem rest_shift {k : Nat} (n : Nat) (hk : k ≤ 9) : (Builtin.Int.intBits 1 : Int) + (k : Int).fmod n ≤ 2 ^ 27 := by
  refine kbm_shl (m := 1) (by decide) ?_ (by decide)
  rw [fmod_nat]
  have := Nat.mod_le k n
  omega
theorem fmod_rng (x : Int) {m : Int} (hm : 2 ≤ m) : 0 ≤ x.fmod m ∧ x.fmod m < m := by
  rw [Int.fmod_eq_emod_of_nonneg _ (by omega)]
  exact ⟨Int.emod_nonneg _ (by omega), Int.emod_lt_of_pos _ (by omega)⟩
theorem pow_nine {n : Nat} (hn : n ≤ 9) : (2 : Int) ^ n ≤ 512 := by have := pow2_le hn; simpa using this
section
variable {k n : Nat} {a : List Int}
theorem ones_out0 (h : (1 : Int) * 2 ^ (n : Int).toNat - 1 = 1) : 0 = val (2 ^ k) a % (2 ^ n - 1) := by
  rw [one_two] at h; rw [h, Int.emod_one]
theorem ones_nz (hn : 1 ≤ n) : (1 : Int) * 2 ^ (n : Int).toNat - 1 ≠ 0 := by
  have := two_le_pow hn
  rw [one_two]; omega
theorem ones_m (hn : 1 ≤ n) (h : (1 : Int) * 2 ^ (n : Int).toNat - 1 ≠ 1) : 2 ≤ (1 : Int) * 2 ^ (n : Int).toNat - 1 := by
  have := two_le_pow hn
  rw [one_two] at h ⊢
  omega
theorem ones_m2 (hn : n ≤ 9) : (1 : Int) * 2 ^ (n : Int).toNat - 1 ≤ 1000 := by
  have := pow_nine hn
  rw [one_two]; omega
theorem ones_out (hm : 2 ≤ (1 : Int) * 2 ^ (n : Int).toNat - 1) :
    val (((1 : Int) * 2 ^ ((k : Int).fmod n).toNat).fmod ((1 : Int) * 2 ^ (n : Int).toNat - 1)) a % ((1 : Int) * 2 ^ (n : Int).toNat - 1) = val (2 ^ k) a % (2 ^ n - 1) := by
  rw [rest_pow]
  rw [one_two] at hm ⊢
  rw [Int.fmod_eq_emod_of_nonneg _ (by omega)]
  exact ones_val k n a
theorem above_m : 2 ≤ (1 : Int) * 2 ^ (n : Int).toNat + 1 := by
  have := pow2_pos n
  rw [one_two]; omega
theorem above_m2 (hn : n ≤ 9) : (1 : Int) * 2 ^ (n : Int).toNat + 1 ≤ 1000 := by
  have := pow_nine hn
  rw [one_two]; omega
theorem above_nz : (1 : Int) * 2 ^ (n : Int).toNat + 1 ≠ 0 := by
  have := pow2_pos n
  rw [one_two]; omega
theorem above_out0 (h : ((k : Int).fdiv n).fmod 2 = 0) :
    val (((1 : Int) * 2 ^ ((k : Int).fmod n).toNat).fmod ((1 : Int) * 2 ^ (n : Int).toNat + 1)) a % ((1 : Int) * 2 ^ (n : Int).toNat + 1) = val (2 ^ k) a % (2 ^ n + 1) := by
  have hp := pow2_pos n
  rw [rest_pow, one_two, Int.fmod_eq_emod_of_nonneg _ (by omega)]
  rw [fdiv_nat, Int.fmod_eq_emod_of_nonneg _ (by omega)] at h
  exact above_val_even (by omega) a
theorem above_out1 (h : ((k : Int).fdiv n).fmod 2 ≠ 0) :
    val ((-((1 : Int) * 2 ^ ((k : Int).fmod n).toNat)).fmod ((1 : Int) * 2 ^ (n : Int).toNat + 1)) a % ((1 : Int) * 2 ^ (n : Int).toNat + 1) = val (2 ^ k) a % (2 ^ n + 1) := by
  have hp := pow2_pos n
  rw [rest_pow, one_two, Int.fmod_eq_emod_of_nonneg _ (by omega)]
  rw [fdiv_nat, Int.fmod_eq_emod_of_nonneg _ (by omega)] at h
  exact above_val_odd (by omega) a
end

set_option maxHeartbeats 4000000 in
theorem mod_ones_fn (w : World) (l : Addr) (vs : List Value) (a : List Int) (n k : Nat) (t u : Tok) (hi : IntsAre vs a) (hlen : a.length ≤ 500) (hn : 1 ≤ n) (hn2 : n ≤ k) (hk2 : k ≤ 9) :
    FnC PySem.Challenge.rw_nn0006_01.row.prog w (Mine.hd.heap_39 w.params) 126 [.ref l, .int n t, .int k u] [] 5 (fun h => h.IsList l vs.toArray) (fun _ r _ => ∃ x t, r = .int x t ∧ x = val (2 ^ k) a % (2 ^ n - 1)) := by
  w_top off
  k_with_none
  (k_with "ne" => (refine neN ?_; (try dsimp only); first | exact neOf (by with_reducible assumption) (by k_mem) | exact Ne.symm (neOf (by with_reducible assumption) (by k_mem)) | exact ltOf (by with_reducible assumption) (by k_mem) | exact Ne.symm (ltOf (by with_reducible assumption) (by k_mem)) | omega))
  (k_with "FnOut" => (k_here; exfalso; k_extra "absurd"))
  (k_with "FnOut" => (k_here; (with_reducible show FnOut _ _ _ (Value.ref _) _); (rename News _ _ _ _ => N9); (try simp only [List.push_toArray] at N9); (refine' fnOut ?zqf (newInts _ ?zqkp N9 ?zqm ?zqi ?zqh)); (case zqf => with_reducible assumption); (case zqkp => assumption); (case zqm => k_mem); (case zqi => k_intsEnd); (case zqh => k_extra "out")))
  (k_with "FnOut" => (k_here; (with_reducible show FnOut _ _ _ (Value.int _ _) _); (refine' fnOut ?zqf ⟨_, _, rfl, ?zqh⟩); (case zqf => with_reducible assumption); (case zqh => k_extra "out")))
  (k_with "binaryOp Mod int int" => (k_here; (with_reducible refine mod_int' ?zqkbn ?_); (case zqkbn => k_extra "nonzero")))
  (k_with "binaryOp LShift int int" => (k_here; (with_reducible refine lshift_int ?zqkbn ?zqkbs ?_); (case zqkbn => k_extra "shift0"); (case zqkbs => k_extra "shift")))
  (k_with "call ref" => (k_here; (with_reducible show wpAny _ _ (call (Value.ref 119) _) _ _ _); k_dflt (refine' use_int (folded_fn _ _ _ _ _ _ _ _ _ _ ?zqki ?zqkn ?zqkm ?zqkm2 ?zqkf0 ?zqkf1) ?zqk1 ?zqk2 ?zqk3 ?zqk4 ?zqk5 ?zqkK ?zqkd ?zqku ?zqkp ?_; (case zqk1 => k_asm); (case zqk2 => k_asm); (case zqk3 => k_asm); (case zqk4 => k_asm); (case zqk5 => k_asm); (case zqkK => first | exact rfl | assumption); (case zqkp => is_list); (case zqki => l_ints); (case zqkn => omega); (case zqkm => k_extra "m"); (case zqkm2 => k_extra "m2"); (case zqkf0 => k_extra "f0"); (case zqkf1 => k_extra "f1"); (case zqkd => ktr_room); (case zqku => ktr_units)); intro x9 t9 h9 tk9 F9 N9 e9; subst e9; (try dsimp only); (try k_fold)))
  k_fill
  k_dflt (refine' fn_intro (binds := [(Str.ofString "a", .ref l), (Str.ofString "n", .int n t), (Str.ofString "w", .int k u)]) ?k6 ?k7 ?k9 ?kB ?c2 ?c3 ?c4 ?c5 ?_; (case k6 => k_is); (case k7 => k_is); (case k9 => exact fun _ => BindsTo.of_eq rfl); (case c5 => decide); (case kB => exact locs rfl); (case c2 => exact rfl); (case c3 => exact rfl); (case c4 => exact rfl); k_whole)
  intro dp un gd outer A₀ base p loose mean mg mb h₀ g L' s hdp hun hpre kp F' N' B' X' T' l1
  have hl := keptList kp hpre
  (try dsimp only)
  (k_with "nonzero" => exact ones_nz hn)
  (k_with "shift0" => first | omega | exact rest_shift0 _ _)
  (k_with "shift" => first | exact rest_shift _ hk2 | (refine kbm_shl (m := 1) ?_ ?_ ?_ <;> first | decide | omega))
  (k_with "m" => exact ones_m hn (by assumption))
  (k_with "m2" => exact ones_m2 (by omega))
  (k_with "f0" => exact (fmod_rng _ (ones_m hn (by assumption))).1)
  (k_with "f1" => exact (fmod_rng _ (ones_m hn (by assumption))).2)
  (k_with "out" => first | exact ones_out0 (by assumption) | exact ones_out (ones_m hn (by assumption)))
  k_steps

set_option maxHeartbeats 4000000 in
theorem mod_ones_above_fn (w : World) (l : Addr) (vs : List Value) (a : List Int) (n k : Nat) (t u : Tok) (hi : IntsAre vs a) (hlen : a.length ≤ 500) (hn : 1 ≤ n) (hn2 : n < k) (hk2 : k ≤ 9) :
    FnC PySem.Challenge.rw_nn0006_01.row.prog w (Mine.hd.heap_39 w.params) 133 [.ref l, .int n t, .int k u] [] 5 (fun h => h.IsList l vs.toArray) (fun _ r _ => ∃ x t, r = .int x t ∧ x = val (2 ^ k) a % (2 ^ n + 1)) := by
  w_top off
  k_with_none
  (k_with "ne" => (refine neN ?_; (try dsimp only); first | exact neOf (by with_reducible assumption) (by k_mem) | exact Ne.symm (neOf (by with_reducible assumption) (by k_mem)) | exact ltOf (by with_reducible assumption) (by k_mem) | exact Ne.symm (ltOf (by with_reducible assumption) (by k_mem)) | omega))
  (k_with "FnOut" => (k_here; exfalso; k_extra "absurd"))
  (k_with "FnOut" => (k_here; (with_reducible show FnOut _ _ _ (Value.ref _) _); (rename News _ _ _ _ => N9); (try simp only [List.push_toArray] at N9); (refine' fnOut ?zqf (newInts _ ?zqkp N9 ?zqm ?zqi ?zqh)); (case zqf => with_reducible assumption); (case zqkp => assumption); (case zqm => k_mem); (case zqi => k_intsEnd); (case zqh => k_extra "out")))
  (k_with "FnOut" => (k_here; (with_reducible show FnOut _ _ _ (Value.int _ _) _); (refine' fnOut ?zqf ⟨_, _, rfl, ?zqh⟩); (case zqf => with_reducible assumption); (case zqh => k_extra "out")))
  (k_with "binaryOp Mod int int" => (k_here; (with_reducible refine mod_int' ?zqkbn ?_); (case zqkbn => k_extra "nonzero")))
  (k_with "binaryOp LShift int int" => (k_here; (with_reducible refine lshift_int ?zqkbn ?zqkbs ?_); (case zqkbn => k_extra "shift0"); (case zqkbs => k_extra "shift")))
  (k_with "call ref" => (k_here; (with_reducible show wpAny _ _ (call (Value.ref 119) _) _ _ _); k_dflt (refine' use_int (folded_fn _ _ _ _ _ _ _ _ _ _ ?zqki ?zqkn ?zqkm ?zqkm2 ?zqkf0 ?zqkf1) ?zqk1 ?zqk2 ?zqk3 ?zqk4 ?zqk5 ?zqkK ?zqkd ?zqku ?zqkp ?_; (case zqk1 => k_asm); (case zqk2 => k_asm); (case zqk3 => k_asm); (case zqk4 => k_asm); (case zqk5 => k_asm); (case zqkK => first | exact rfl | assumption); (case zqkp => is_list); (case zqki => l_ints); (case zqkn => omega); (case zqkm => k_extra "m"); (case zqkm2 => k_extra "m2"); (case zqkf0 => k_extra "f0"); (case zqkf1 => k_extra "f1"); (case zqkd => ktr_room); (case zqku => ktr_units)); intro x9 t9 h9 tk9 F9 N9 e9; subst e9; (try dsimp only); (try k_fold)))
  k_fill
  k_dflt (refine' fn_intro (binds := [(Str.ofString "a", .ref l), (Str.ofString "n", .int n t), (Str.ofString "w", .int k u)]) ?k6 ?k7 ?k9 ?kB ?c2 ?c3 ?c4 ?c5 ?_; (case k6 => k_is); (case k7 => k_is); (case k9 => exact fun _ => BindsTo.of_eq rfl); (case c5 => decide); (case kB => exact locs rfl); (case c2 => exact rfl); (case c3 => exact rfl); (case c4 => exact rfl); k_whole)
  intro dp un gd outer A₀ base p loose mean mg mb h₀ g L' s hdp hun hpre kp F' N' B' X' T' l1
  have hl := keptList kp hpre
  (try dsimp only)
  (k_with "nonzero" => exact above_nz)
  (k_with "shift0" => first | omega | exact rest_shift0 _ _)
  (k_with "shift" => first | exact rest_shift _ hk2 | (refine kbm_shl (m := 1) ?_ ?_ ?_ <;> first | decide | omega))
  (k_with "m" => exact above_m)
  (k_with "m2" => exact above_m2 (by omega))
  (k_with "f0" => exact (fmod_rng _ above_m).1)
  (k_with "f1" => exact (fmod_rng _ above_m).2)
  (k_with "out" => first | exact above_out0 (by assumption) | exact above_out1 (by assumption))
  k_steps
end Mine
end
section
open PySem PySem.Spec PySem.Calls PySem.W PyProof.Rows
set_option maxRecDepth 100000
namespace Mine


theorem pylong_pow (a : Int) {k : Nat} (hk : k ≤ 64) : Builtin.divisionGoesByPylong a (1 * 2 ^ (k : Int).toNat) = false := by
  refine PyProof.noPylong_of_log2 ?_
  rw [one_two, pow2_cast, Int.natAbs_natCast, Nat.log2_two_pow]
  omega

section
variable {k spot : Nat} {row b pre r : List Int} {limb pos bo piece : Int}
theorem tak_first (dr : Dig (2 ^ k) row) (_ : k ≤ 64) : (spot : Int) = ↑spot + ↑([] : List Int).length ∧ row.length = row.length ∧ 0 ≤ (0 : Int) ∧ (0 : Int) < 2 ^ k ∧ TakP (2 ^ k) row [] limb spot (↑spot) 0 row :=
  ⟨by simp, rfl, Int.le_refl _, pow2_pos k, tak_start dr⟩
theorem tak_next (hk : 1 ≤ k) (hl0 : 0 ≤ limb) (hl1 : limb < 2 ^ k) (db : Dig (2 ^ k) b) (hm : piece ∈ b) (hpos : pos = (spot : Int) + (pre.length : Int)) (hr : r.length = row.length) (hb0 : 0 ≤ bo) (hb1 : bo < 2 ^ k) (h : TakP (2 ^ k) row pre limb spot pos bo r) (hs : spot + b.length ≤ row.length) (hlt : pre.length < b.length) :
    pos + 1 = ↑spot + ↑(pre ++ [piece]).length ∧ (r.set pos.toNat ((r.getD pos.toNat 0 - limb * piece - bo).fmod (1 * 2 ^ (↑k : Int).toNat))).length = row.length ∧
      0 ≤ -(r.getD pos.toNat 0 - limb * piece - bo).fdiv (1 * 2 ^ (↑k : Int).toNat) ∧ -(r.getD pos.toNat 0 - limb * piece - bo).fdiv (1 * 2 ^ (↑k : Int).toNat) < 2 ^ k ∧
        TakP (2 ^ k) row (pre ++ [piece]) limb spot (pos + 1) (-(r.getD pos.toNat 0 - limb * piece - bo).fdiv (1 * 2 ^ (↑k : Int).toNat)) (r.set pos.toNat ((r.getD pos.toNat 0 - limb * piece - bo).fmod (1 * 2 ^ (↑k : Int).toNat))) := by
  rw [fmod_two, fdiv_one_two]
  have hd := db _ hm
  exact ⟨by simp; omega, by simpa using hr, tak_step (two_le_pow hk) hl0 hl1 hd.1 hd.2 hb0 hb1 hpos (by omega) h⟩
theorem tak_enter (hpos : pos = (spot : Int) + (b.length : Int)) (hr : r.length = row.length) (hb0 : 0 ≤ bo) (hb1 : bo < 2 ^ k) (h : TakP (2 ^ k) row b limb spot pos bo r) (hs : spot + b.length ≤ row.length) :
    0 ≤ pos ∧ pos ≤ ↑row.length ∧ r.length = row.length ∧ 0 ≤ bo ∧ bo < 2 ^ k ∧ TakP (2 ^ k) row b limb spot pos bo r := ⟨by omega, by omega, hr, hb0, hb1, h⟩
theorem tak_go (hk : 1 ≤ k) (hp : 0 ≤ pos) (hr : r.length = row.length) (hb0 : 0 ≤ bo) (hb1 : bo < 2 ^ k) (h : TakP (2 ^ k) row b limb spot pos bo r) (hlt : pos < row.length) :
    0 ≤ pos + 1 ∧ pos + 1 ≤ ↑row.length ∧ (r.set pos.toNat ((r.getD pos.toNat 0 - bo).fmod (1 * 2 ^ (↑k : Int).toNat))).length = row.length ∧
      0 ≤ -(r.getD pos.toNat 0 - bo).fdiv (1 * 2 ^ (↑k : Int).toNat) ∧ -(r.getD pos.toNat 0 - bo).fdiv (1 * 2 ^ (↑k : Int).toNat) < 2 ^ k ∧
        TakP (2 ^ k) row b limb spot (pos + 1) (-(r.getD pos.toNat 0 - bo).fdiv (1 * 2 ^ (↑k : Int).toNat)) (r.set pos.toNat ((r.getD pos.toNat 0 - bo).fmod (1 * 2 ^ (↑k : Int).toNat))) := by
  rw [fmod_two, fdiv_one_two]
  exact ⟨by omega, by omega, by simpa using hr, tak_turn (two_le_pow hk) hb0 hb1 hp (by omega) h⟩
end

set_option maxHeartbeats 4000000 in
theorem take_product_fn (w : World) (lr lb : Addr) (vr vb : List Value) (row b : List Int) (nr : Nat) (limb : Int) (spot k : Nat) (t u v : Tok) (hir : IntsAre vr row) (hib : IntsAre vb b) (hlr : row.length ≤ 500) (hs : spot + b.length ≤ row.length) (hk : 1 ≤ k) (hk2 : k ≤ 64) (dr : Dig (2 ^ k) row) (db : Dig (2 ^ k) b) (hl0 : 0 ≤ limb) (hl1 : limb < 2 ^ k) :
    FnC PySem.Challenge.rw_nn0006_01.row.prog w (Mine.hd.heap_39 w.params) 98 [.ref lr, .ref lb, .int limb t, .int spot u, .int k v] [(lr, listOf vr.toArray nr)] 3 (fun h => h.IsList lb vb.toArray ∧ lb ≠ lr)
      (fun _ r h' => ∃ bo t vr' nr' row', r = .int bo t ∧ h'.get? lr = some (listOf vr'.toArray nr') ∧ IntsAre vr' row' ∧ row'.length = row.length ∧ Dig (2 ^ k) row' ∧ 0 ≤ bo ∧ val (2 ^ k) row' = val (2 ^ k) row - limb * val (2 ^ k) b * (2 ^ k) ^ spot + bo * (2 ^ k) ^ row.length) := by
  w_top off
  k_with_none
  (k_with "ne" => (refine neN ?_; (try dsimp only); first | exact neOf (by with_reducible assumption) (by k_mem) | exact Ne.symm (neOf (by with_reducible assumption) (by k_mem)) | exact ltOf (by with_reducible assumption) (by k_mem) | exact Ne.symm (ltOf (by with_reducible assumption) (by k_mem)) | omega))
  (k_with "FnOut" => (k_here; exfalso; k_extra "absurd"))
  (k_with "FnOut" => (k_here; (with_reducible show FnOut _ _ _ (Value.ref _) _); (rename News _ _ _ _ => N9); (try simp only [List.push_toArray] at N9); (refine' fnOut ?zqf (newInts _ ?zqkp N9 ?zqm ?zqi ?zqh)); (case zqf => with_reducible assumption); (case zqkp => assumption); (case zqm => k_mem); (case zqi => k_intsEnd); (case zqh => k_extra "out")))
  (k_with "FnOut" => (k_here; (with_reducible show FnOut _ _ _ (Value.int _ _) _); (refine' fnOut ?zqf ⟨_, _, rfl, ?zqh⟩); (case zqf => with_reducible assumption); (case zqh => k_extra "out")))
  (k_with "binaryOp FloorDiv int int" => (k_here; (with_reducible refine floordiv_int ?zqkbn ?_ (.inl ?zqkbp)); (case zqkbn => k_extra "nonzero"); (case zqkbp => k_extra "pylong")))
  (k_with "FnOut" => (k_here; (rename News _ _ _ _ => N9); (refine' fnOut ?zqf ⟨_, _, _, _, _, rfl, ?zqm, ?zqi, ?zqh⟩); (case zqf => with_reducible assumption); (case zqm => (refine' newsGet N9 ?zqmm; (case zqmm => k_mem))); (case zqi => k_intsEnd); (case zqh => k_extra "out")))
  k_fill
  k_dflt (refine' fn_intro (binds := [(Str.ofString "row", .ref lr), (Str.ofString "b", .ref lb), (Str.ofString "limb", .int limb t), (Str.ofString "spot", .int spot u), (Str.ofString "w", .int k v)]) ?k6 ?k7 ?k9 ?kB ?c2 ?c3 ?c4 ?c5 ?_; (case k6 => k_is); (case k7 => k_is); (case k9 => exact fun _ => BindsTo.of_eq rfl); (case c5 => decide); (case kB => exact locs rfl); (case c2 => exact rfl); (case c3 => exact rfl); (case c4 => exact rfl); k_whole)
  intro dp un gd outer A₀ base p loose mean mg mb h₀ g L' s hdp hun hpre kp F' N' B' X' T' l1
  have hl : g.IsList lb vb.toArray := by
    obtain ⟨o, ho, r⟩ := hpre.1
    exact ⟨o, kp _ _ (by simpa using hpre.2) ho, r⟩
  (try dsimp only)
  (k_with "pyIter ref" => k_state (fun pre bo pos row2 => pos = spot + (pre.length : Int) ∧ row2.length = row.length ∧ 0 ≤ bo ∧ bo < 2 ^ k ∧ TakP (2 ^ k) row pre limb spot pos bo row2) "borrow" "at" "row")
  (k_with "exec While BoolOp cons nil" => k_while (fun (_ : List Int) bo pos row2 => 0 ≤ pos ∧ pos ≤ row.length ∧ row2.length = row.length ∧ 0 ≤ bo ∧ bo < 2 ^ k ∧ TakP (2 ^ k) row b limb spot pos bo row2) (fun (_ : List Int) bo pos row2 => row.length - pos.toNat) "borrow" "at" "row")
  (k_with "pylong" => exact pylong_pow _ hk2)
  (k_with "nonzero" => (rw [one_two]; exact Int.ne_of_gt (pow2_pos k)))
  (k_with "mul" => exact mulOk_left hl0 hl1 hk2)
  (k_with "state" => first | exact tak_first dr hk2 | exact tak_next hk hl0 hl1 db (by assumption) (by assumption) (by assumption) (by assumption) (by assumption) (by assumption) hs (by omega) | exact tak_enter (by assumption) (by assumption) (by assumption) (by assumption) (by assumption) hs | exact tak_go hk (by assumption) (by assumption) (by assumption) (by assumption) (by assumption) (by omega))
  (k_with "measure" => omega)
  (k_with "out" => (refine tak_end (by assumption) (by assumption) (by assumption) ?_ (by assumption); omega))
  k_steps
end Mine
end
section
open PySem PySem.Spec PySem.Calls PySem.W PyProof.Rows
set_option maxRecDepth 100000
namespace Mine


theorem sizeOk {vs : List Value} {ns : List Int} (hi : IntsAre vs ns) (h : ns.length ≤ 1000) : vs.toArray.size ≤ sizeLine := by
  rw [List.size_toArray, hi.length, sizeLine_eq]; omega
theorem take_product_at (w : World) (lr lb : Addr) (vr vb : List Value) (row b : List Int) (nr : Nat) (limb : Int) (spot : Int) (k : Nat) (t u v : Tok) (hsp : 0 ≤ spot) (hir : IntsAre vr row) (hib : IntsAre vb b) (hlr : row.length ≤ 500) (hs : spot + b.length ≤ row.length) (hk : 1 ≤ k) (hk2 : k ≤ 64) (dr : Dig (2 ^ k) row) (db : Dig (2 ^ k) b) (hl0 : 0 ≤ limb) (hl1 : limb < 2 ^ k) :
    FnC PySem.Challenge.rw_nn0006_01.row.prog w (Mine.hd.heap_39 w.params) 98 [.ref lr, .ref lb, .int limb t, .int spot u, .int k v] [(lr, listOf vr.toArray nr)] 3 (fun h => h.IsList lb vb.toArray ∧ lb ≠ lr)
      (fun _ r h' => ∃ bo t vr' nr' row', r = .int bo t ∧ h'.get? lr = some (listOf vr'.toArray nr') ∧ IntsAre vr' row' ∧ row'.length = row.length ∧ Dig (2 ^ k) row' ∧ 0 ≤ bo ∧ val (2 ^ k) row' = val (2 ^ k) row - limb * val (2 ^ k) b * (2 ^ k) ^ spot.toNat + bo * (2 ^ k) ^ row.length) := by
  obtain ⟨p, rfl⟩ := Int.eq_ofNat_of_zero_le hsp
  have := take_product_fn w lr lb vr vb row b nr limb p k t u v hir hib hlr (by omega) hk hk2 dr db hl0 hl1
  rwa [Int.toNat_natCast]
theorem complement_at (w : World) (l : Addr) (vs : List Value) (a : List Int) (n : Int) (k : Nat) (t u : Tok) (h0 : 0 ≤ n) (hi : IntsAre vs a) (hlen : (a.length : Int) ≤ n) (hn : n ≤ 100) (hk : 2 ≤ k) (hk2 : k ≤ 64) (da : Dig (2 ^ k) a) :
    FnC PySem.Challenge.rw_nn0006_01.row.prog w (Mine.hd.heap_39 w.params) 84 [.ref l, .int n t, .int k u] [] 6 (fun h => h.IsList l vs.toArray) (NewInts fun x => Dig (2 ^ k) x ∧ val (2 ^ k) x = (- val (2 ^ k) a) % (2 ^ k) ^ n.toNat ∧ Nrm x ∧ (x.length : Int) ≤ n) := by
  obtain ⟨p, rfl⟩ := Int.eq_ofNat_of_zero_le h0
  have := complement_fn w l vs a p k t u hi (by omega) (by omega) hk hk2 da
  have e : (fun x : List Int => Dig (2 ^ k) x ∧ val (2 ^ k) x = (- val (2 ^ k) a) % (2 ^ k) ^ (p : Int).toNat ∧ Nrm x ∧ (x.length : Int) ≤ (p : Int)) = fun x => Dig (2 ^ k) x ∧ val (2 ^ k) x = (- val (2 ^ k) a) % (2 ^ k) ^ p ∧ Nrm x ∧ x.length ≤ p := by
    funext x
    rw [Int.toNat_natCast, Int.ofNat_le]
  rw [e]; exact this
theorem divNew {g h h' : Heap} {L tp lq lr : Addr} {nt nq nr : Nat} {vq vr : List Value} {q rr : List Int} {flag : Bool} {news : List (Addr × Obj)} {φ : Bool → List Int → List Int → Prop} (kp : Kept h g []) (N : News g L h' news)
    (h1 : (tp, ({ cls := .type "tuple", data := .seq #[.ref lq, .bool flag, .ref lr] nt } : Obj)) ∈ news) (h2 : (lq, listOf vq.toArray nq) ∈ news) (h3 : (lr, listOf vr.toArray nr) ∈ news) (n1 : lq ≠ tp) (n2 : lr ≠ tp) (n3 : lq ≠ lr) (iq : IntsAre vq q) (ir : IntsAre vr rr) (ho : φ flag q rr) :
    ∃ tp' nt lq vq nq q flag lr vr nr rr, Value.ref tp = .ref tp' ∧ h.get? tp' = none ∧ h.get? lq = none ∧ h.get? lr = none ∧ h'.get? tp' = some { cls := .type "tuple", data := .seq #[.ref lq, .bool flag, .ref lr] nt } ∧ h'.get? lq = some (listOf vq.toArray nq) ∧ h'.get? lr = some (listOf vr.toArray nr) ∧ lq ≠ tp' ∧ lr ≠ tp' ∧ lq ≠ lr ∧ IntsAre vq q ∧ IntsAre vr rr ∧ φ flag q rr := by
  have fr : ∀ {a : Addr} {o : Obj}, (a, o) ∈ news → h.get? a = none := fun {a o} hm => by
    cases q : h.get? a with
    | none => rfl
    | some o' => have := kp _ _ (by simp) q; rw [(N _ hm).2.2] at this; cases this
  exact ⟨tp, nt, lq, vq, nq, q, flag, lr, vr, nr, rr, rfl, fr h1, fr h2, fr h3, (N _ h1).1, (N _ h2).1, (N _ h3).1, n1, n2, n3, iq, ir, ho⟩

section
variable {k n : Nat} {a b r r' f pre : List Int} {bo bo2 inv kN : Int}
theorem dv_len (h : Hid (n ≤ 6)) (hla : a.length ≤ 20) (hlb : b.length ≤ 10) (hr : r.length = max a.length (n + b.length)) {c : Nat} (hc : 30 ≤ c) : r.length ≤ c := by
  have := h.out
  omega
theorem dv_dlen (h : Hid (n ≤ 6)) (hla : a.length ≤ 20) (hlb : b.length ≤ 10) (hr : r.length = max a.length (n + b.length)) : (List.drop (n : Int).toNat r).length ≤ 1000 := by
  have := dv_len h hla hlb hr (c := 30) (by decide)
  rw [List.length_drop]; omega
theorem dv_flen (h : Hid (n ≤ 6)) (hf : f.length = (rangeKs 0 ((n : Int) - 0).toNat).length) : f.length ≤ 1000 := by
  have := h.out
  rw [rangeKs_length] at hf; omega
theorem dv_cn0 (a b : List Int) (n : Nat) : 0 ≤ (if (n : Int) + ↑b.length > ↑a.length then (n : Int) + ↑b.length else ↑a.length) - (n : Int) := by split <;> omega
theorem dv_size (a b : List Int) (n : Nat) : ((if (n : Int) + ↑b.length > ↑a.length then (n : Int) + ↑b.length else ↑a.length) - (n : Int)).toNat = max a.length (n + b.length) - n := by split <;> omega
theorem dv_clen (hr : r.length = max a.length (n + b.length)) : ((norm (List.drop (n : Int).toNat r)).length : Int) ≤ (if (n : Int) + ↑b.length > ↑a.length then (n : Int) + ↑b.length else ↑a.length) - (n : Int) := by
  have h := norm_length (List.drop (n : Int).toNat r)
  rw [List.length_drop] at h
  split <;> omega
theorem dv_clen2 (a b : List Int) (n : Nat) (hla : a.length ≤ 20) (hlb : b.length ≤ 10) : (if (n : Int) + ↑b.length > ↑a.length then (n : Int) + ↑b.length else ↑a.length) - (n : Int) ≤ 100 := by split <;> omega
theorem dv_limb (x : Int) (k : Nat) : 0 ≤ x.fmod (1 * 2 ^ (k : Int).toNat) ∧ x.fmod (1 * 2 ^ (k : Int).toNat) < 2 ^ k := by
  rw [fmod_two]; exact ⟨Int.emod_nonneg _ (Int.ne_of_gt (pow2_pos k)), Int.emod_lt_of_pos _ (pow2_pos k)⟩
theorem dv_start (da : Dig (2 ^ k) a) :
    0 ≤ (0 : Int) ∧ ([] : List Int).length = ([] : List Int).length ∧ (a ++ (List.replicate ((if (n : Int) + ↑b.length > ↑a.length then (n : Int) + ↑b.length else ↑a.length) - ↑a.length).toNat [(0 : Int)]).flatten).length = max a.length (n + b.length) ∧
      Dig (2 ^ k) (a ++ (List.replicate ((if (n : Int) + ↑b.length > ↑a.length then (n : Int) + ↑b.length else ↑a.length) - ↑a.length).toNat [(0 : Int)]).flatten) ∧
        DivP (2 ^ k) a b (max a.length (n + b.length)) ([] : List Int).length 0 (a ++ (List.replicate ((if (n : Int) + ↑b.length > ↑a.length then (n : Int) + ↑b.length else ↑a.length) - ↑a.length).toNat [(0 : Int)]).flatten) [] := by
  have h := div_start (B := 2 ^ k) (pow2_pos k) (a := a) (b := b) (m := ((if (n : Int) + ↑b.length > ↑a.length then (n : Int) + ↑b.length else ↑a.length) - ↑a.length).toNat) (size := max a.length (n + b.length)) da (by split <;> omega)
  exact ⟨Int.le_refl _, rfl, h.1, h.2.1, h.2.2⟩
theorem dv_step (hk : 2 ≤ k) (hb1 : 0 < b.length) (hN : kN = 0 + (pre.length : Int)) (hlt : pre.length < ((n : Int) - 0).toNat) (hinv : (2 : Int) ^ k ∣ inv * b.getD (Int.toNat 0) 0 - 1) (hb0 : 0 ≤ bo) (hf : f.length = pre.length) (hr : r.length = max a.length (n + b.length)) (dr : Dig (2 ^ k) r) (h : DivP (2 ^ k) a b (max a.length (n + b.length)) pre.length bo r f)
    (hr' : r'.length = r.length) (dr' : Dig (2 ^ k) r') (hb2 : 0 ≤ bo2) (hv : val (2 ^ k) r' = val (2 ^ k) r - (r.getD kN.toNat 0 * inv).fmod (1 * 2 ^ (↑k : Int).toNat) * val (2 ^ k) b * (2 ^ k) ^ kN.toNat + bo2 * (2 ^ k) ^ r.length) :
    0 ≤ bo + bo2 ∧ (f ++ [(r.getD kN.toNat 0 * inv).fmod (1 * 2 ^ (↑k : Int).toNat)]).length = (pre ++ [kN]).length ∧ r'.length = max a.length (n + b.length) ∧ Dig (2 ^ k) r' ∧
      DivP (2 ^ k) a b (max a.length (n + b.length)) (pre ++ [kN]).length (bo + bo2) r' (f ++ [(r.getD kN.toNat 0 * inv).fmod (1 * 2 ^ (↑k : Int).toNat)]) := by
  have e : kN.toNat = pre.length := by omega
  refine ⟨by omega, by simp [hf], by omega, dr', ?_⟩
  rw [e, fmod_two] at hv ⊢
  rw [List.length_append, List.length_singleton]
  exact div_step (two_le_pow (by omega)) dr hr (by omega) hb1 hinv rfl h hf (by rw [hv, hr])
theorem dv_out0 (h : DivP (2 ^ k) a b (max a.length (n + b.length)) (rangeKs 0 ((n : Int) - 0).toNat).length bo r f) (dr : Dig (2 ^ k) r) (hr : r.length = max a.length (n + b.length)) (hf : f.length = (rangeKs 0 ((n : Int) - 0).toNat).length) (hb0 : 0 ≤ bo) (hb : ¬ 0 < bo)  :
    DivOut (2 ^ k) a b n false (norm f) (norm (List.drop (n : Int).toNat r)) := by
  rw [rangeKs_length, show ((n : Int) - 0).toNat = n by omega] at hf h
  rw [Int.toNat_natCast]
  exact div_out0 (pow2_pos k) dr hr (by omega) hf hb0 hb h
theorem dv_out1 {x : List Int} (hk : 2 ≤ k) (da : Dig (2 ^ k) a) (db : Dig (2 ^ k) b) (h : DivP (2 ^ k) a b (max a.length (n + b.length)) (rangeKs 0 ((n : Int) - 0).toNat).length bo r f) (dr : Dig (2 ^ k) r) (hr : r.length = max a.length (n + b.length)) (hf : f.length = (rangeKs 0 ((n : Int) - 0).toNat).length) (hb : 0 < bo) 
    (hx : val (2 ^ k) x = (- val (2 ^ k) (norm (List.drop (n : Int).toNat r))) % (2 ^ k) ^ ((if (n : Int) + ↑b.length > ↑a.length then (n : Int) + ↑b.length else ↑a.length) - (n : Int)).toNat) (dx : Dig (2 ^ k) x) (nx : Nrm x) :
    DivOut (2 ^ k) a b n true (norm f) x := by
  rw [rangeKs_length, show ((n : Int) - 0).toNat = n by omega] at hf h
  rw [Int.toNat_natCast, dv_size] at hx
  exact div_out1 (two_le_pow (by omega)) da db dr hr (by omega) hf hb h dx nx hx
end

set_option maxHeartbeats 4000000 in
theorem divrem_low_fn (w : World) (la lb : Addr) (va vb : List Value) (a b : List Int) (n k : Nat) (t u : Tok) (ha : IntsAre va a) (hb : IntsAre vb b) (hla : a.length ≤ 20) (hlb : b.length ≤ 10) (hb1 : 0 < b.length) (hodd : (b.getD 0 0).fmod 2 = 1) (hn : n ≤ 1000) (hn6 : Hid (n ≤ 6)) (hk : 2 ≤ k) (hk2 : k ≤ 9) (da : Dig (2 ^ k) a) (db : Dig (2 ^ k) b) :
    FnC PySem.Challenge.rw_nn0006_01.row.prog w (Mine.hd.heap_39 w.params) 105 [.ref la, .ref lb, .int n t, .int k u] [] 9 (fun h => h.IsList la va.toArray ∧ h.IsList lb vb.toArray)
      (fun h r h' => ∃ tp nt lq vq nq q flag lr vr nr rr, r = .ref tp ∧ h.get? tp = none ∧ h.get? lq = none ∧ h.get? lr = none ∧ h'.get? tp = some { cls := .type "tuple", data := .seq #[.ref lq, .bool flag, .ref lr] nt } ∧ h'.get? lq = some (listOf vq.toArray nq) ∧ h'.get? lr = some (listOf vr.toArray nr) ∧ lq ≠ tp ∧ lr ≠ tp ∧ lq ≠ lr ∧ IntsAre vq q ∧ IntsAre vr rr ∧ DivOut (2 ^ k) a b n flag q rr) := by
  w_top off
  k_with_none
  (k_with "ne" => (refine neN ?_; (try dsimp only); first | exact neOf (by with_reducible assumption) (by k_mem) | exact Ne.symm (neOf (by with_reducible assumption) (by k_mem)) | exact ltOf (by with_reducible assumption) (by k_mem) | exact Ne.symm (ltOf (by with_reducible assumption) (by k_mem)) | omega))
  (k_with "FnOut" => (k_here; exfalso; k_extra "absurd"))
  (k_with "FnOut" => (k_here; (with_reducible show FnOut _ _ _ (Value.ref _) _); (rename News _ _ _ _ => N9); (try simp only [List.push_toArray] at N9); (refine' fnOut ?zqf (newInts _ ?zqkp N9 ?zqm ?zqi ?zqh)); (case zqf => with_reducible assumption); (case zqkp => assumption); (case zqm => k_mem); (case zqi => k_intsEnd); (case zqh => k_extra "out")))
  (k_with "FnOut" => (k_here; (with_reducible show FnOut _ _ _ (Value.int _ _) _); (refine' fnOut ?zqf ⟨_, _, rfl, ?zqh⟩); (case zqf => with_reducible assumption); (case zqh => k_extra "out")))
  (k_with "eval Call" => (k_here; k_dflt (refine Call_ ?_)))
  (k_with "subscriptTail Name Slice ref ref" => (k_here; (with_reducible show wpAny _ _ (subscriptTail _ (PySem.Expr.Slice (some _) none none _) (Value.ref _) (Value.ref _)) _ _ _); k_dflt (refine' kmk_slice_ints ?zqF ?zqN ?zql ?zqp ?zqq ?zqi ?zqm ?zqc ?_ ?zqs ?zqt ?zqz; (case zqF => k_asm); (case zqN => k_asm); (case zql => (refine' isListOf ?zqqN ?zqqm; (case zqqN => k_asm); (case zqqm => k_mem))); (case zqp => exact IsPart.int _ _); (case zqq => exact IsPart.none); (case zqi => with_reducible assumption); (case zqm => exact kmk_from (by with_reducible assumption) (by omega)); (case zqc => exact List.length_drop ..); (case zqs => with_unfolding_all rfl); (case zqt => (intro _; with_unfolding_all rfl)); (case zqz => exact sizeOk (by with_reducible assumption) (by k_extra "slen"))); intro D' ws' h' F' N' l1 hI' hC' hL'; (try k_lt l1); (try k_sweep)))
  (k_with "binaryOp LShift int int" => (k_here; (with_reducible refine lshift_int ?zqkbn ?zqkbs ?_); (case zqkbn => k_extra "shift0"); (case zqkbs => k_extra "shift")))
  (k_with "binaryOp Mod int int" => (k_here; (with_reducible refine mod_int' ?zqkbn ?_); (case zqkbn => k_extra "nonzero")))
  (k_with "FnOut" => (k_here; (with_reducible show FnOut _ _ _ (Value.ref _) _); (rename News _ _ _ _ => N9); (refine' fnOut ?zqf (divNew ?zqkp N9 ?zqm1 ?zqm2 ?zqm3 ?zqn1 ?zqn2 ?zqn3 ?zqiq ?zqir ?zqh)); (case zqf => with_reducible assumption); (case zqkp => assumption); (case zqm1 => k_mem); (case zqm2 => k_mem); (case zqm3 => k_mem); (case zqn1 => k_ne); (case zqn2 => k_ne); (case zqn3 => k_ne); (case zqiq => with_reducible assumption); (case zqir => with_reducible assumption); (case zqh => k_extra "out")))
  (k_with "call ref" => (k_here; (with_reducible show wpAny _ _ (call (Value.ref 98) _) _ _ _); k_dflt (refine' use_mut (take_product_at _ _ _ _ _ _ _ _ _ _ _ _ _ _ ?zqksp ?zqkir ?zqkib ?zqklr ?zqks ?zqkk ?zqkk2 ?zqkdr ?zqkdb ?zqkl0 ?zqkl1) ?zqk1 ?zqk2 ?zqk3 ?zqk4 ?zqk5 ?zqkK ?zqkd ?zqku ?zqkp ?zqkU ?_; (case zqk1 => k_asm); (case zqk2 => k_asm); (case zqk3 => k_asm); (case zqk4 => k_asm); (case zqk5 => k_asm); (case zqkK => first | exact rfl | assumption); (case zqkU => k_updF); (case zqkp => (refine' And.intro ?zqkpa ?zqkpb; (case zqkpa => is_list); (case zqkpb => (refine' ne_of_base ?zqqb ?zqqN ?zqqm; (case zqqb => assumption); (case zqqN => k_asm); (case zqqm => k_mem))))); (case zqksp => k_extra "spot0"); (case zqkir => l_ints); (case zqkib => l_ints); (case zqklr => k_extra "tlen"); (case zqks => k_extra "tspot"); (case zqkk => omega); (case zqkk2 => omega); (case zqkdr => k_extra "tdig"); (case zqkdb => assumption); (case zqkl0 => k_extra "tl0"); (case zqkl1 => k_extra "tl1"); (case zqkd => ktr_room); (case zqku => ktr_units)); intro x9 t9 vs9 n9 ns9 h9 tk9 F9 N9 I9 e9; (try dsimp only at N9); obtain ⟨m9, d9, b9, v9⟩ := e9; (try dsimp only); (try k_fold)))
  (k_with "call ref" => (k_here; (with_reducible show wpAny _ _ (call (Value.ref 72) _) _ _ _); k_dflt (refine' use_int (inverse_limb_fn _ _ _ _ _ ?zqko ?zqkd0 ?zqkd1 ?zqkk ?zqkk2) ?zqk1 ?zqk2 ?zqk3 ?zqk4 ?zqk5 ?zqkK ?zqkd ?zqku ?zqkp ?_; (case zqk1 => k_asm); (case zqk2 => k_asm); (case zqk3 => k_asm); (case zqk4 => k_asm); (case zqk5 => k_asm); (case zqkK => first | exact rfl | assumption); (case zqkp => exact trivial); (case zqko => k_extra "iodd"); (case zqkd0 => k_extra "i0"); (case zqkd1 => k_extra "i1"); (case zqkk => omega); (case zqkk2 => omega); (case zqkd => ktr_room); (case zqku => ktr_units)); intro x9 t9 h9 tk9 F9 N9 e9; obtain ⟨i9, j9, k9⟩ := e9; (try dsimp only); (try k_fold)))
  (k_with "call ref" => (k_here; (with_reducible show wpAny _ _ (call (Value.ref 58) _) _ _ _); k_dflt (refine' use_intsN (normal_fn _ _ _ _ ?zqki ?zqkn) ?zqk1 ?zqk2 ?zqk3 ?zqk4 ?zqk5 ?zqkK ?zqkd ?zqku ?zqkp ?_; (case zqk1 => k_asm); (case zqk2 => k_asm); (case zqk3 => k_asm); (case zqk4 => k_asm); (case zqk5 => k_asm); (case zqkK => first | exact rfl | assumption); (case zqkp => first | (refine' isListOf ?zqqN ?zqqm; (case zqqN => k_asm); (case zqqm => k_mem)) | is_list); (case zqki => l_ints); (case zqkn => k_extra "nlen"); (case zqkd => ktr_room); (case zqku => ktr_units)); intro l9 vs9 n9 ns9 h9 tk9 F9 N9 l9n I9 e9; subst e9; (try dsimp only); (try k_fold)))
  (k_with "call ref" => (k_here; (with_reducible show wpAny _ _ (call (Value.ref 84) _) _ _ _); k_dflt (refine' use_intsN (complement_at _ _ _ _ _ _ _ _ ?zqkz ?zqki ?zqkl ?zqkn ?zqkk ?zqkk2 ?zqkda) ?zqk1 ?zqk2 ?zqk3 ?zqk4 ?zqk5 ?zqkK ?zqkd ?zqku ?zqkp ?_; (case zqk1 => k_asm); (case zqk2 => k_asm); (case zqk3 => k_asm); (case zqk4 => k_asm); (case zqk5 => k_asm); (case zqkK => first | exact rfl | assumption); (case zqkp => first | (refine' isListOf ?zqqN ?zqqm; (case zqqN => k_asm); (case zqqm => k_mem)) | is_list); (case zqki => l_ints); (case zqkz => k_extra "cn0"); (case zqkl => k_extra "clen"); (case zqkn => k_extra "clen2"); (case zqkk => omega); (case zqkk2 => omega); (case zqkda => k_extra "cdig"); (case zqkd => ktr_room); (case zqku => ktr_units)); intro l9 vs9 n9 ns9 h9 tk9 F9 N9 l9n I9 e9; obtain ⟨d9, v9, n9, m9⟩ := e9; (try dsimp only); (try k_fold)))
  k_fill
  k_dflt (refine' fn_intro (binds := [(Str.ofString "a", .ref la), (Str.ofString "b", .ref lb), (Str.ofString "n", .int n t), (Str.ofString "w", .int k u)]) ?k6 ?k7 ?k9 ?kB ?c2 ?c3 ?c4 ?c5 ?_; (case k6 => k_is); (case k7 => k_is); (case k9 => exact fun _ => BindsTo.of_eq rfl); (case c5 => decide); (case kB => exact locs rfl); (case c2 => exact rfl); (case c3 => exact rfl); (case c4 => exact rfl); k_whole)
  intro dp un gd outer A₀ base p loose mean mg mb h₀ g L' s hdp hun hpre kp F' N' B' X' T' l1
  have hl := keptList kp hpre.1
  have hl2 := keptList kp hpre.2
  (try dsimp only)
  (k_with "pyIter ref" => k_state (fun pre bo f r => 0 ≤ bo ∧ f.length = pre.length ∧ r.length = max a.length (n + b.length) ∧ Dig (2 ^ k) r ∧ DivP (2 ^ k) a b (max a.length (n + b.length)) pre.length bo r f) "borrowed" "found" "row")
  (k_with "slen" => exact dv_len hn6 hla hlb (by assumption) (by decide))
  (k_with "mul" => exact mulOk_right (by assumption) (by assumption) (by omega))
  (k_with "shift0" => omega)
  (k_with "shift" => (refine kbm_shl (m := 1) ?_ ?_ ?_ <;> first | decide | omega))
  (k_with "nonzero" => first | decide | (rw [one_two]; exact Int.ne_of_gt (pow2_pos k)))
  (k_with "spot0" => omega)
  (k_with "cn0" => exact dv_cn0 a b n)
  (k_with "tlen" => exact dv_len hn6 hla hlb (by assumption) (by decide))
  (k_with "tspot" => omega)
  (k_with "tdig" => assumption)
  (k_with "tl0" => exact (dv_limb _ k).1)
  (k_with "tl1" => exact (dv_limb _ k).2)
  (k_with "iodd" => exact hodd)
  (k_with "i0" => exact (dig_getD db (pow2_pos k) 0).1)
  (k_with "i1" => exact (dig_getD db (pow2_pos k) 0).2)
  (k_with "nlen" => first | exact dv_dlen hn6 hla hlb (by assumption) | exact dv_flen hn6 (by assumption))
  (k_with "clen" => exact dv_clen (by assumption))
  (k_with "clen2" => exact dv_clen2 a b n hla hlb)
  (k_with "cdig" => exact dig_norm (dig_drop (by assumption) _))
  (k_with "state" => first | exact dv_start da | exact dv_step hk hb1 (by assumption) (by assumption) (by assumption) (by assumption) (by assumption) (by assumption) (by assumption) (by assumption) (by assumption) (by assumption) (by assumption) (by assumption))
  (k_with "out" => first | exact dv_out0 (by assumption) (by assumption) (by assumption) (by assumption) (by assumption) (by assumption) | exact dv_out1 hk da db (by assumption) (by assumption) (by assumption) (by assumption) (by assumption) (by assumption) (by assumption) (by assumption))
  k_steps
end Mine
end
section
open PySem PySem.Spec PySem.Calls PySem.W PyProof.Rows
set_option maxRecDepth 100000
namespace Mine



theorem mulOk_of {a b : Int} (ha : Builtin.Int.intBits a ≤ 3000000) (hb : Builtin.Int.intBits b ≤ 3000000) : IntMulOk a b := IntMulOk.of_le ha hb (by decide)
theorem val_len {k : Nat} {a : List Int} (hk : k ≤ 9) (hl : a.length ≤ 20) (da : Dig (2 ^ k) a) : 0 ≤ val (2 ^ k) a ∧ val (2 ^ k) a < 2 ^ 180 := by
  have hr := val_range (pow2_pos k) da
  rw [pow_pow] at hr
  have h1 : k * a.length ≤ 9 * 20 := Nat.mul_le_mul hk hl
  have h2 := pow2_le (m := k * a.length) (n := 180) (by omega)
  exact ⟨hr.1, by omega⟩
theorem mul_small {x y : Int} (hx0 : 0 ≤ x) (hx : x < 2 ^ 180) (hy0 : 0 ≤ y) (hy : y < 2 ^ 180) : 0 ≤ x * y ∧ Small (x * y) := by
  refine ⟨Int.mul_nonneg hx0 hy0, ⟨?_⟩⟩
  have h1 : x * y ≤ 2 ^ 180 * 2 ^ 180 := Int.mul_le_mul (by omega) (by omega) hy0 (by omega)
  rw [← Int.pow_add] at h1
  have h2 : (2 : Int) ^ (180 + 180) < 2 ^ 500 := by
    have h3 := pow2_le (m := 361) (n := 500) (by omega)
    have h4 : (2 : Int) ^ 361 = 2 ^ (180 + 180) * 2 := by rw [← Int.pow_succ]
    have h5 := pow2_pos (180 + 180)
    omega
  exact Int.lt_of_le_of_lt h1 h2
theorem wide_bits {x : Int} (h : Builtin.Int.intBits x ≤ 1048580) : (Builtin.Int.intBits x : Int) * 2 ≤ 2 ^ 27 := by
  have e : (2 : Int) ^ 27 = 134217728 := by decide
  omega
theorem wide_sq {x : Int} (h : Builtin.Int.intBits x ≤ 1048580) : Builtin.Int.intBits (x ^ Int.toNat 2) ≤ 3000000 := Nat.le_trans (intBits_pow_le h _) (by decide)
theorem nat_mul (k m : Nat) : (k : Int) * (m : Int) = ((k * m : Nat) : Int) := (Int.natCast_mul k m).symm
theorem wide_shift {k m : Nat} (hk : k ≤ 9) (hm : m ≤ 11) : (Builtin.Int.intBits 1 : Int) + (k : Int) * (m : Int) ≤ 2 ^ 27 := by
  refine kbm_shl (m := 1) (by decide) ?_ (by decide)
  have := Nat.mul_le_mul hk hm
  rw [nat_mul]; omega
theorem wide_mul {k m : Nat} (hk : k ≤ 9) : IntMulOk (k : Int) (m : Int) := IntMulOk.of_left (Nat.le_trans (intBits_le_iff (m := 10).mpr (by omega)) (by decide))
theorem wide_nz (k m : Nat) : (1 : Int) * 2 ^ ((k : Int) * (m : Int)).toNat ≠ 0 := by rw [nat_mul, one_two]; exact Int.ne_of_gt (pow2_pos _)
theorem wide_nz2 {k m : Nat} (hk : 1 ≤ k) (hm : 1 ≤ m) : (k : Int) * (m : Int) ≠ 0 := by
  have := Nat.mul_le_mul hk hm
  rw [nat_mul]; omega
theorem wide_s0 (k m : Nat) : 0 ≤ (k : Int) * (m : Int) := by rw [nat_mul]; omega
theorem wide_s1 (x : Int) {k m : Nat} (hk : 1 ≤ k) (hm : 1 ≤ m) : 0 ≤ x.fmod ((k : Int) * (m : Int)) := by
  have := wide_nz2 hk hm
  have := wide_s0 k m
  rw [Int.fmod_eq_emod_of_nonneg _ (by omega)]
  exact Int.emod_nonneg _ (by omega)
theorem wide_out (X : Int) (k m s : Nat) : 0 ≤ (X.fmod (1 * 2 ^ ((k : Int) * (m : Int)).toNat)).fdiv (2 ^ s) ∧ (X.fmod (1 * 2 ^ ((k : Int) * (m : Int)).toNat)).fdiv (2 ^ s) < 2 ^ (k * m) := by
  rw [nat_mul, fmod_two, Int.fdiv_eq_ediv_of_nonneg _ (Int.le_of_lt (pow2_pos s))]
  have h0 := Int.emod_nonneg X (Int.ne_of_gt (pow2_pos (k * m)))
  have h1 := Int.emod_lt_of_pos X (pow2_pos (k * m))
  exact ⟨Int.ediv_nonneg h0 (Int.le_of_lt (pow2_pos s)), Int.lt_of_le_of_lt (Int.ediv_le_self _ h0) h1⟩

set_option maxHeartbeats 4000000 in
theorem law_mul_fn (w : World) (la lb : Addr) (va vb : List Value) (a b : List Int) (k : Nat) (t : Tok) (ha : IntsAre va a) (hb : IntsAre vb b) (hla : a.length ≤ 20) (hlb : b.length ≤ 20) (hk : 1 ≤ k) (hk2 : k ≤ 9) (da : Dig (2 ^ k) a) (db : Dig (2 ^ k) b) (na : Nrm a) (nb : Nrm b) :
    FnC PySem.Challenge.rw_nn0006_01.row.prog w (Mine.hd.heap_39 w.params) 161 [.ref la, .ref lb, .int k t] [] 5 (fun h => h.IsList la va.toArray ∧ h.IsList lb vb.toArray) (NewInts fun x => Dig (2 ^ k) x ∧ val (2 ^ k) x = val (2 ^ k) a * val (2 ^ k) b ∧ Nrm x ∧ x.length ≤ 500) := by
  w_top off
  k_with_none
  (k_with "ne" => (refine neN ?_; (try dsimp only); first | exact neOf (by with_reducible assumption) (by k_mem) | exact Ne.symm (neOf (by with_reducible assumption) (by k_mem)) | exact ltOf (by with_reducible assumption) (by k_mem) | exact Ne.symm (ltOf (by with_reducible assumption) (by k_mem)) | omega))
  (k_with "FnOut" => (k_here; exfalso; k_extra "absurd"))
  (k_with "FnOut" => (k_here; (with_reducible show FnOut _ _ _ (Value.ref _) _); (rename News _ _ _ _ => N9); (try simp only [List.push_toArray] at N9); (refine' fnOut ?zqf (newInts _ ?zqkp N9 ?zqm ?zqi ?zqh)); (case zqf => with_reducible assumption); (case zqkp => assumption); (case zqm => k_mem); (case zqi => k_intsEnd); (case zqh => k_extra "out")))
  (k_with "FnOut" => (k_here; (with_reducible show FnOut _ _ _ (Value.int _ _) _); (refine' fnOut ?zqf ⟨_, _, rfl, ?zqh⟩); (case zqf => with_reducible assumption); (case zqh => k_extra "out")))
  (k_with "eval Call" => (k_here; k_dflt (refine Call_ ?_)))
  (k_with "binaryOp Mult int int" => (k_here; (with_reducible refine mul_int ?_ ?zqkbm); (case zqkbm => k_extra "mul")))
  (k_with "binaryOp LShift int int" => (k_here; (with_reducible refine lshift_int ?zqkbn ?zqkbs ?_); (case zqkbn => k_extra "shift0"); (case zqkbs => k_extra "shift")))
  (k_with "binaryOp Mod int int" => (k_here; (with_reducible refine mod_int' ?zqkbn ?_); (case zqkbn => k_extra "nonzero")))
  (k_with "binaryOp Pow int int" => (k_here; (with_reducible refine pow_int ?zqkbn ?zqkbs ?_); (case zqkbn => decide); (case zqkbs => k_extra "powsize")))
  (k_with "binaryOp RShift int int" => (k_here; (with_reducible refine rshift_int ?zqkbn ?_); (case zqkbn => k_extra "shift0")))
  (k_with "call ref" => (k_here; (with_reducible show wpAny _ _ (call (Value.ref 140) _) _ _ _); k_dflt (refine' use_int (law_cell_fn _ _ _ _ _ _ ?zqki ?zqkl ?zqkb ?zqkj ?zqkj2) ?zqk1 ?zqk2 ?zqk3 ?zqk4 ?zqk5 ?zqkK ?zqkd ?zqku ?zqkp ?_; (case zqk1 => k_asm); (case zqk2 => k_asm); (case zqk3 => k_asm); (case zqk4 => k_asm); (case zqk5 => k_asm); (case zqkK => first | exact rfl | assumption); (case zqkp => is_list); (case zqki => l_ints); (case zqkl => assumption); (case zqkb => assumption); (case zqkj => omega); (case zqkj2 => omega); (case zqkd => ktr_room); (case zqku => ktr_units)); intro x9 t9 h9 tk9 F9 N9 e9; obtain ⟨c9, b9⟩ := e9; (try dsimp only); (try k_fold)))
  (k_with "call ref" => (k_here; (with_reducible show wpAny _ _ (call (Value.ref 154) _) _ _ _); k_dflt (refine' use_int (law_number_fn _ _ _ _ _ _ ?zqki ?zqkl ?zqkk ?zqkk2 ?zqkdg ?zqknr) ?zqk1 ?zqk2 ?zqk3 ?zqk4 ?zqk5 ?zqkK ?zqkd ?zqku ?zqkp ?_; (case zqk1 => k_asm); (case zqk2 => k_asm); (case zqk3 => k_asm); (case zqk4 => k_asm); (case zqk5 => k_asm); (case zqkK => first | exact rfl | assumption); (case zqkp => first | (refine' isListOf ?zqqN ?zqqm; (case zqqN => k_asm); (case zqqm => k_mem)) | is_list); (case zqki => l_ints); (case zqkl => k_extra "len"); (case zqkk => omega); (case zqkk2 => omega); (case zqkdg => k_extra "dig"); (case zqknr => k_extra "nrm"); (case zqkd => ktr_room); (case zqku => ktr_units)); intro x9 t9 h9 tk9 F9 N9 e9; subst e9; (try dsimp only); (try k_fold)))
  (k_with "call ref" => (k_here; (with_reducible show wpAny _ _ (call (Value.ref 147) _) _ _ _); k_dflt (refine' use_intsN (law_limbs_fn _ _ _ _ _ ?zqkN ?zqkN2 ?zqkk ?zqkk2) ?zqk1 ?zqk2 ?zqk3 ?zqk4 ?zqk5 ?zqkK ?zqkd ?zqku ?zqkp ?_; (case zqk1 => k_asm); (case zqk2 => k_asm); (case zqk3 => k_asm); (case zqk4 => k_asm); (case zqk5 => k_asm); (case zqkK => first | exact rfl | assumption); (case zqkp => exact trivial); (case zqkN => k_extra "nonneg"); (case zqkN2 => k_extra "small"); (case zqkk => omega); (case zqkk2 => omega); (case zqkd => ktr_room); (case zqku => ktr_units)); intro l9 vs9 n9 ns9 h9 tk9 F9 N9 l9n I9 e9; obtain ⟨d9, v9, n9, m9⟩ := e9; (try dsimp only); (try k_fold)))
  k_fill
  k_dflt (refine' fn_intro (binds := [(Str.ofString "a", .ref la), (Str.ofString "b", .ref lb), (Str.ofString "w", .int k t)]) ?k6 ?k7 ?k9 ?kB ?c2 ?c3 ?c4 ?c5 ?_; (case k6 => k_is); (case k7 => k_is); (case k9 => exact fun _ => BindsTo.of_eq rfl); (case c5 => decide); (case kB => exact locs rfl); (case c2 => exact rfl); (case c3 => exact rfl); (case c4 => exact rfl); k_whole)
  intro dp un gd outer A₀ base p loose mean mg mb h₀ g L' s hdp hun hpre kp F' N' B' X' T' l1
  have hl := keptList kp hpre.1
  have hl2 := keptList kp hpre.2
  (try dsimp only)
  (k_with "len" => omega)
  (k_with "dig" => assumption)
  (k_with "nrm" => assumption)
  (k_with "mul" => exact mulOk_of (Nat.le_trans (bits_small (val_len hk2 hla da).1 (val_len hk2 hla da).2) (by decide)) (Nat.le_trans (bits_small (val_len hk2 hlb db).1 (val_len hk2 hlb db).2) (by decide)))
  (k_with "nonneg" => exact (mul_small (val_len hk2 hla da).1 (val_len hk2 hla da).2 (val_len hk2 hlb db).1 (val_len hk2 hlb db).2).1)
  (k_with "small" => exact (mul_small (val_len hk2 hla da).1 (val_len hk2 hla da).2 (val_len hk2 hlb db).1 (val_len hk2 hlb db).2).2)
  (k_with "out" => exact ⟨by assumption, by assumption, by assumption, by assumption⟩)
  k_steps

set_option maxHeartbeats 4000000 in
theorem law_wide_fn (w : World) (l : Addr) (vs : List Value) (ns : List Int) (j : Int) (k many : Nat) (t u v : Tok) (hi : IntsAre vs ns) (hlen : ns.length ≤ 63) (hb : ∀ x ∈ ns, Builtin.Int.intBits x ≤ 1048576) (hj : 0 ≤ j) (hj2 : j ≤ 10) (hk : 1 ≤ k) (hk2 : k ≤ 9) (hm : 1 ≤ many) (hm2 : many ≤ 11) :
    FnC PySem.Challenge.rw_nn0006_01.row.prog w (Mine.hd.heap_39 w.params) 168 [.ref l, .int j t, .int k u, .int many v] [] 5 (fun h => h.IsList l vs.toArray) (fun _ r _ => ∃ x t, r = .int x t ∧ 0 ≤ x ∧ x < 2 ^ (k * many)) := by
  w_top off
  k_with_none
  (k_with "ne" => (refine neN ?_; (try dsimp only); first | exact neOf (by with_reducible assumption) (by k_mem) | exact Ne.symm (neOf (by with_reducible assumption) (by k_mem)) | exact ltOf (by with_reducible assumption) (by k_mem) | exact Ne.symm (ltOf (by with_reducible assumption) (by k_mem)) | omega))
  (k_with "FnOut" => (k_here; exfalso; k_extra "absurd"))
  (k_with "FnOut" => (k_here; (with_reducible show FnOut _ _ _ (Value.ref _) _); (rename News _ _ _ _ => N9); (try simp only [List.push_toArray] at N9); (refine' fnOut ?zqf (newInts _ ?zqkp N9 ?zqm ?zqi ?zqh)); (case zqf => with_reducible assumption); (case zqkp => assumption); (case zqm => k_mem); (case zqi => k_intsEnd); (case zqh => k_extra "out")))
  (k_with "FnOut" => (k_here; (with_reducible show FnOut _ _ _ (Value.int _ _) _); (refine' fnOut ?zqf ⟨_, _, rfl, ?zqh⟩); (case zqf => with_reducible assumption); (case zqh => k_extra "out")))
  (k_with "eval Call" => (k_here; k_dflt (refine Call_ ?_)))
  (k_with "binaryOp Mult int int" => (k_here; (with_reducible refine mul_int ?_ ?zqkbm); (case zqkbm => k_extra "mul")))
  (k_with "binaryOp LShift int int" => (k_here; (with_reducible refine lshift_int ?zqkbn ?zqkbs ?_); (case zqkbn => k_extra "shift0"); (case zqkbs => k_extra "shift")))
  (k_with "binaryOp Mod int int" => (k_here; (with_reducible refine mod_int' ?zqkbn ?_); (case zqkbn => k_extra "nonzero")))
  (k_with "binaryOp Pow int int" => (k_here; (with_reducible refine pow_int ?zqkbn ?zqkbs ?_); (case zqkbn => decide); (case zqkbs => k_extra "powsize")))
  (k_with "binaryOp RShift int int" => (k_here; (with_reducible refine rshift_int ?zqkbn ?_); (case zqkbn => k_extra "shift0")))
  (k_with "call ref" => (k_here; (with_reducible show wpAny _ _ (call (Value.ref 140) _) _ _ _); k_dflt (refine' use_int (law_cell_fn _ _ _ _ _ _ ?zqki ?zqkl ?zqkb ?zqkj ?zqkj2) ?zqk1 ?zqk2 ?zqk3 ?zqk4 ?zqk5 ?zqkK ?zqkd ?zqku ?zqkp ?_; (case zqk1 => k_asm); (case zqk2 => k_asm); (case zqk3 => k_asm); (case zqk4 => k_asm); (case zqk5 => k_asm); (case zqkK => first | exact rfl | assumption); (case zqkp => is_list); (case zqki => l_ints); (case zqkl => assumption); (case zqkb => assumption); (case zqkj => omega); (case zqkj2 => omega); (case zqkd => ktr_room); (case zqku => ktr_units)); intro x9 t9 h9 tk9 F9 N9 e9; obtain ⟨c9, b9⟩ := e9; (try dsimp only); (try k_fold)))
  (k_with "call ref" => (k_here; (with_reducible show wpAny _ _ (call (Value.ref 154) _) _ _ _); k_dflt (refine' use_int (law_number_fn _ _ _ _ _ _ ?zqki ?zqkl ?zqkk ?zqkk2 ?zqkdg ?zqknr) ?zqk1 ?zqk2 ?zqk3 ?zqk4 ?zqk5 ?zqkK ?zqkd ?zqku ?zqkp ?_; (case zqk1 => k_asm); (case zqk2 => k_asm); (case zqk3 => k_asm); (case zqk4 => k_asm); (case zqk5 => k_asm); (case zqkK => first | exact rfl | assumption); (case zqkp => first | (refine' isListOf ?zqqN ?zqqm; (case zqqN => k_asm); (case zqqm => k_mem)) | is_list); (case zqki => l_ints); (case zqkl => k_extra "len"); (case zqkk => omega); (case zqkk2 => omega); (case zqkdg => k_extra "dig"); (case zqknr => k_extra "nrm"); (case zqkd => ktr_room); (case zqku => ktr_units)); intro x9 t9 h9 tk9 F9 N9 e9; subst e9; (try dsimp only); (try k_fold)))
  (k_with "call ref" => (k_here; (with_reducible show wpAny _ _ (call (Value.ref 147) _) _ _ _); k_dflt (refine' use_intsN (law_limbs_fn _ _ _ _ _ ?zqkN ?zqkN2 ?zqkk ?zqkk2) ?zqk1 ?zqk2 ?zqk3 ?zqk4 ?zqk5 ?zqkK ?zqkd ?zqku ?zqkp ?_; (case zqk1 => k_asm); (case zqk2 => k_asm); (case zqk3 => k_asm); (case zqk4 => k_asm); (case zqk5 => k_asm); (case zqkK => first | exact rfl | assumption); (case zqkp => exact trivial); (case zqkN => k_extra "nonneg"); (case zqkN2 => k_extra "small"); (case zqkk => omega); (case zqkk2 => omega); (case zqkd => ktr_room); (case zqku => ktr_units)); intro l9 vs9 n9 ns9 h9 tk9 F9 N9 l9n I9 e9; obtain ⟨d9, v9, n9, m9⟩ := e9; (try dsimp only); (try k_fold)))
  k_fill
  k_dflt (refine' fn_intro (binds := [(Str.ofString "script", .ref l), (Str.ofString "at", .int j t), (Str.ofString "w", .int k u), (Str.ofString "many", .int many v)]) ?k6 ?k7 ?k9 ?kB ?c2 ?c3 ?c4 ?c5 ?_; (case k6 => k_is); (case k7 => k_is); (case k9 => exact fun _ => BindsTo.of_eq rfl); (case c5 => decide); (case kB => exact locs rfl); (case c2 => exact rfl); (case c3 => exact rfl); (case c4 => exact rfl); k_whole)
  intro dp un gd outer A₀ base p loose mean mg mb h₀ g L' s hdp hun hpre kp F' N' B' X' T' l1
  have hl := keptList kp hpre
  (try dsimp only)
  (k_with "mul" => first | exact wide_mul hk2 | exact mulOk_of (Nat.le_trans (by assumption) (by decide)) (by decide +kernel) | exact mulOk_of (wide_sq (by assumption)) (by decide +kernel))
  (k_with "powsize" => first | decide +kernel | exact wide_bits (by assumption))
  (k_with "shift0" => first | exact wide_s0 _ _ | exact wide_s1 _ hk hm)
  (k_with "shift" => exact wide_shift hk2 hm2)
  (k_with "nonzero" => first | exact wide_nz _ _ | exact wide_nz2 hk hm)
  (k_with "out" => exact wide_out _ _ _ _)
  k_steps
end Mine
end
section
open PySem PySem.Spec PySem.Calls PySem.W PyProof.Rows
set_option maxRecDepth 100000
namespace Mine


theorem complement_at2 (w : World) (l : Addr) (vs : List Value) (a : List Int) (n : Int) (k : Nat) (t u : Tok) (h0 : 0 ≤ n) (hi : IntsAre vs a) (hlen : (a.length : Int) ≤ n) (hn : n ≤ 100) (hk : 2 ≤ k) (hk2 : k ≤ 64) (da : Dig (2 ^ k) a) :
    FnC PySem.Challenge.rw_nn0006_01.row.prog w (Mine.hd.heap_39 w.params) 84 [.ref l, .int n t, .int k u] [] 6 (fun h => h.IsList l vs.toArray) (NewInts fun x => Dig (2 ^ k) x ∧ val (2 ^ k) x = (- val (2 ^ k) a) % (2 ^ k) ^ n.toNat ∧ Nrm x ∧ (x.length : Int) ≤ n) := by
  obtain ⟨p, rfl⟩ := Int.eq_ofNat_of_zero_le h0
  have := complement_fn w l vs a p k t u hi (by omega) (by omega) hk hk2 da
  have e : (fun x : List Int => Dig (2 ^ k) x ∧ val (2 ^ k) x = (- val (2 ^ k) a) % (2 ^ k) ^ (p : Int).toNat ∧ Nrm x ∧ (x.length : Int) ≤ (p : Int)) = fun x => Dig (2 ^ k) x ∧ val (2 ^ k) x = (- val (2 ^ k) a) % (2 ^ k) ^ p ∧ Nrm x ∧ x.length ≤ p := by
    funext x
    rw [Int.toNat_natCast, Int.ofNat_le]
  rw [e]; exact this
theorem newsOne {h₀ h : Heap} {L l : Addr} {o : Obj} {news : List (Addr × Obj)} (N : News h₀ L h news) (hm : (l, o) ∈ news) : News h₀ L h [(l, o)] := fun p hp => by
  rw [List.mem_singleton.mp hp]; exact N _ hm
theorem memOne {α : Type} {x : α} {l : List α} (hm : x ∈ l) : ∀ p ∈ [x], p ∈ l := fun p hp => by rw [List.mem_singleton.mp hp]; exact hm

section
variable {n k : Nat} {b cF p1 c s3 p4 : List Int} {cS : Int}
theorem lo_T (hs : 1 ≤ cS) (hlt : cS < n) : 1 ≤ (if (n : Int) < 2 * cS then (n : Int) else 2 * cS) ∧ (if (n : Int) < 2 * cS then (n : Int) else 2 * cS) ≤ n ∧ (if (n : Int) < 2 * cS then (n : Int) else 2 * cS) ≤ 2 * cS ∧ cS < (if (n : Int) < 2 * cS then (n : Int) else 2 * cS) := by
  split <;> omega
theorem lo_state (hk : 2 ≤ k) (hs : 1 ≤ cS) (hlt : cS < n) (db : Dig (2 ^ k) b) (d4 : Dig (2 ^ k) p4) (v4 : val (2 ^ k) p4 = val (2 ^ k) cF * val (2 ^ k) (norm (List.take (if (n : Int) < 2 * cS then (n : Int) else 2 * cS).toNat s3)))
    (h : LowP (2 ^ k) b cF cS) (d3 : Dig (2 ^ k) s3) (v3 : val (2 ^ k) s3 = val (2 ^ k) c + val (2 ^ k) [2]) (v2 : val (2 ^ k) c = (- val (2 ^ k) (norm (List.take (if (n : Int) < 2 * cS then (n : Int) else 2 * cS).toNat p1))) % (2 ^ k) ^ (if (n : Int) < 2 * cS then (n : Int) else 2 * cS).toNat)
    (d1 : Dig (2 ^ k) p1) (v1 : val (2 ^ k) p1 = val (2 ^ k) (norm (List.take (if (n : Int) < 2 * cS then (n : Int) else 2 * cS).toNat b)) * val (2 ^ k) cF) :
    (1 ≤ if (n : Int) < 2 * cS then (n : Int) else 2 * cS) ∧ (if (n : Int) < 2 * cS then (n : Int) else 2 * cS) ≤ n ∧
      LowP (2 ^ k) b (norm (List.take (if (n : Int) < 2 * cS then (n : Int) else 2 * cS).toNat p4)) (if (n : Int) < 2 * cS then (n : Int) else 2 * cS) := by
  have hT := lo_T hs hlt
  generalize (if (n : Int) < 2 * cS then (n : Int) else 2 * cS) = T at *
  obtain ⟨T', rfl⟩ := Int.eq_ofNat_of_zero_le (show 0 ≤ T by omega)
  rw [Int.toNat_natCast] at *
  exact ⟨hT.1, hT.2.1, low_step (two_le_pow (by omega)) db (by omega) h d1 v1 v2 d3 v3 d4 v4⟩
theorem lo_falls (hs : 1 ≤ cS) (hlt : cS < n) : n - (if (n : Int) < 2 * cS then (n : Int) else 2 * cS).toNat < n - cS.toNat := by
  have := lo_T hs hlt
  omega
theorem lo_l0 (hs : 1 ≤ cS) (hlt : cS < n) : 0 ≤ (if (n : Int) < 2 * cS then (n : Int) else 2 * cS) := by have := lo_T hs hlt; omega
theorem lo_l1 (hs : 1 ≤ cS) (hlt : cS < n) (hn : n ≤ 6) : (if (n : Int) < 2 * cS then (n : Int) else 2 * cS) ≤ 1000 := by have := lo_T hs hlt; omega
theorem lo_l2 (hs : 1 ≤ cS) (hlt : cS < n) (hn : n ≤ 6) : (if (n : Int) < 2 * cS then (n : Int) else 2 * cS) ≤ 100 := by have := lo_T hs hlt; omega
theorem lo_take (x : List Int) (hs : 1 ≤ cS) (hlt : cS < n) (hn : n ≤ 6) : (norm (List.take (if (n : Int) < 2 * cS then (n : Int) else 2 * cS).toNat x)).length ≤ 20 := by
  have := lo_T hs hlt
  have h2 := norm_length (List.take (if (n : Int) < 2 * cS then (n : Int) else 2 * cS).toNat x)
  rw [List.length_take] at h2
  omega
theorem lo_clen (x : List Int) (hs : 1 ≤ cS) (hlt : cS < n) : ((norm (List.take (if (n : Int) < 2 * cS then (n : Int) else 2 * cS).toNat x)).length : Int) ≤ (if (n : Int) < 2 * cS then (n : Int) else 2 * cS) := by
  have := lo_T hs hlt
  have h2 := norm_length (List.take (if (n : Int) < 2 * cS then (n : Int) else 2 * cS).toNat x)
  rw [List.length_take] at h2
  omega
theorem lo_flen (h : LowP (2 ^ k) b cF cS) (q : cS ≤ n) (hn : n ≤ 6) : cF.length ≤ 20 := by
  have := h.out.2.2.1
  omega
theorem lo_slen (hs : 1 ≤ cS) (hlt : cS < n) (hn : n ≤ 6) (hc : (c.length : Int) ≤ (if (n : Int) < 2 * cS then (n : Int) else 2 * cS)) (h : s3.length ≤ max c.length [(2 : Int)].length + 1) : s3.length ≤ 1000 := by
  have := lo_T hs hlt
  simp only [List.length_cons, List.length_nil] at h
  omega
theorem lo_clen2 (hs : 1 ≤ cS) (hlt : cS < n) (hn : n ≤ 6) (hc : (c.length : Int) ≤ (if (n : Int) < 2 * cS then (n : Int) else 2 * cS)) : c.length ≤ 1000 := by
  have := lo_T hs hlt
  omega
theorem lo_two (hk : 2 ≤ k) : Dig (2 ^ k) [2] := by
  intro d hd
  rw [List.mem_singleton.mp hd]
  have := pow2_le hk
  omega
theorem lo_out (h : LowP (2 ^ k) b cF cS) (hs : cS ≤ n) (hlt : ¬ cS < n) : Dig (2 ^ k) cF ∧ Nrm cF ∧ cF.length ≤ n ∧ (2 ^ k) ^ n ∣ val (2 ^ k) cF * val (2 ^ k) b - 1 := by
  obtain ⟨h1, h2, h3, h4⟩ := h.out
  have e : cS.toNat = n := by omega
  rw [e] at h3 h4
  exact ⟨h1, h2, h3, h4⟩
theorem lo_zero (h : (n : Int) = 0) : Dig (2 ^ k) [] ∧ Nrm [] ∧ ([] : List Int).length ≤ n ∧ (2 ^ k) ^ n ∣ val (2 ^ k) [] * val (2 ^ k) b - 1 := by
  have e : n = 0 := by omega
  subst e
  exact ⟨(fun _ h => nomatch h), nrm_nil, Nat.le_refl _, by simp⟩
end

set_option maxHeartbeats 4000000 in
theorem inverse_low_fn (w : World) (lb : Addr) (vb : List Value) (b : List Int) (n k : Nat) (t u : Tok) (hb : IntsAre vb b) (hlb : b.length ≤ 10) (hb1 : 0 < b.length) (hodd : (b.getD 0 0).fmod 2 = 1) (hn : n ≤ 6) (hk : 2 ≤ k) (hk2 : k ≤ 9) (db : Dig (2 ^ k) b) :
    FnC PySem.Challenge.rw_nn0006_01.row.prog w (Mine.hd.heap_39 w.params) 91 [.ref lb, .int n t, .int k u, .ref 161] [] 9 (fun h => h.IsList lb vb.toArray) (NewInts fun x => Dig (2 ^ k) x ∧ Nrm x ∧ x.length ≤ n ∧ (2 ^ k) ^ n ∣ val (2 ^ k) x * val (2 ^ k) b - 1) := by
  w_top off
  k_with_none
  (k_with "ne" => (refine neN ?_; (try dsimp only); first | exact neOf (by with_reducible assumption) (by k_mem) | exact Ne.symm (neOf (by with_reducible assumption) (by k_mem)) | exact ltOf (by with_reducible assumption) (by k_mem) | exact Ne.symm (ltOf (by with_reducible assumption) (by k_mem)) | omega))
  (k_with "FnOut" => (k_here; exfalso; k_extra "absurd"))
  (k_with "FnOut" => (k_here; (with_reducible show FnOut _ _ _ (Value.ref _) _); (rename News _ _ _ _ => N9); (try simp only [List.push_toArray] at N9); (refine' fnOut ?zqf (newInts _ ?zqkp N9 ?zqm ?zqi ?zqh)); (case zqf => with_reducible assumption); (case zqkp => assumption); (case zqm => k_mem); (case zqi => k_intsEnd); (case zqh => k_extra "out")))
  (k_with "FnOut" => (k_here; (with_reducible show FnOut _ _ _ (Value.int _ _) _); (refine' fnOut ?zqf ⟨_, _, rfl, ?zqh⟩); (case zqf => with_reducible assumption); (case zqh => k_extra "out")))
  (k_with "eval Call" => (k_here; k_dflt (refine Call_ ?_)))
  (k_with "call ref" => (k_here; (with_reducible show wpAny _ _ (call (Value.ref 72) _) _ _ _); k_dflt (refine' use_int (inverse_limb_fn _ _ _ _ _ ?zqko ?zqkd0 ?zqkd1 ?zqkk ?zqkk2) ?zqk1 ?zqk2 ?zqk3 ?zqk4 ?zqk5 ?zqkK ?zqkd ?zqku ?zqkp ?_; (case zqk1 => k_asm); (case zqk2 => k_asm); (case zqk3 => k_asm); (case zqk4 => k_asm); (case zqk5 => k_asm); (case zqkK => first | exact rfl | assumption); (case zqkp => exact trivial); (case zqko => k_extra "iodd"); (case zqkd0 => k_extra "i0"); (case zqkd1 => k_extra "i1"); (case zqkk => omega); (case zqkk2 => omega); (case zqkd => ktr_room); (case zqku => ktr_units)); intro x9 t9 h9 tk9 F9 N9 e9; obtain ⟨i9, j9, k9⟩ := e9; (try dsimp only); (try k_fold)))
  (k_with "call ref" => (k_here; (with_reducible show wpAny _ _ (call (Value.ref 79) _) _ _ _); k_dflt (refine' use_intsN (low_limbs_fn _ _ _ _ _ _ ?zqki ?zqkn ?zqkz ?zqky) ?zqk1 ?zqk2 ?zqk3 ?zqk4 ?zqk5 ?zqkK ?zqkd ?zqku ?zqkp ?_; (case zqk1 => k_asm); (case zqk2 => k_asm); (case zqk3 => k_asm); (case zqk4 => k_asm); (case zqk5 => k_asm); (case zqkK => first | exact rfl | assumption); (case zqkp => first | (refine' isListOf ?zqqN ?zqqm; (case zqqN => k_asm); (case zqqm => k_mem)) | is_list); (case zqki => l_ints); (case zqkn => k_extra "llen"); (case zqkz => k_extra "l0"); (case zqky => k_extra "l1"); (case zqkd => ktr_room); (case zqku => ktr_units)); intro l9 vs9 n9 ns9 h9 tk9 F9 N9 l9n I9 e9; subst e9; (try dsimp only); (try k_fold)))
  (k_with "call ref" => (k_here; (with_reducible show wpAny _ _ (call (Value.ref 65) _) _ _ _); k_dflt (refine' use_intsN (add_fn _ _ _ _ _ _ _ _ _ ?zqka ?zqkb ?zqkla ?zqklb ?zqkk ?zqkk2 ?zqkda ?zqkdb) ?zqk1 ?zqk2 ?zqk3 ?zqk4 ?zqk5 ?zqkK ?zqkd ?zqku ?zqkp ?_; (case zqk1 => k_asm); (case zqk2 => k_asm); (case zqk3 => k_asm); (case zqk4 => k_asm); (case zqk5 => k_asm); (case zqkK => first | exact rfl | assumption); (case zqkp => (refine' And.intro ?zqkpa ?zqkpb; (case zqkpa => first | (refine' isListOf ?zqqN ?zqqm; (case zqqN => k_asm); (case zqqm => k_mem)) | is_list); (case zqkpb => first | (refine' isListOf ?zqqN ?zqqm; (case zqqN => k_asm); (case zqqm => k_mem)) | is_list))); (case zqka => l_ints); (case zqkb => first | exact IntsAre.cons _ _ .nil | l_ints); (case zqkla => k_extra "alen"); (case zqklb => k_extra "alen"); (case zqkk => omega); (case zqkk2 => omega); (case zqkda => k_extra "adig"); (case zqkdb => k_extra "adig"); (case zqkd => ktr_room); (case zqku => ktr_units)); intro l9 vs9 n9 ns9 h9 tk9 F9 N9 l9n I9 e9; obtain ⟨d9, v9, m9⟩ := e9; (try dsimp only); (try k_fold)))
  (k_with "call ref" => (k_here; (with_reducible show wpAny _ _ (call (Value.ref 84) _) _ _ _); k_dflt (refine' use_intsN (complement_at2 _ _ _ _ _ _ _ _ ?zqkz ?zqki ?zqkl ?zqkn ?zqkk ?zqkk2 ?zqkda) ?zqk1 ?zqk2 ?zqk3 ?zqk4 ?zqk5 ?zqkK ?zqkd ?zqku ?zqkp ?_; (case zqk1 => k_asm); (case zqk2 => k_asm); (case zqk3 => k_asm); (case zqk4 => k_asm); (case zqk5 => k_asm); (case zqkK => first | exact rfl | assumption); (case zqkp => first | (refine' isListOf ?zqqN ?zqqm; (case zqqN => k_asm); (case zqqm => k_mem)) | is_list); (case zqki => l_ints); (case zqkz => k_extra "l0"); (case zqkl => k_extra "clen"); (case zqkn => k_extra "clen2"); (case zqkk => omega); (case zqkk2 => omega); (case zqkda => k_extra "cdig"); (case zqkd => ktr_room); (case zqku => ktr_units)); intro l9 vs9 n9 ns9 h9 tk9 F9 N9 l9n I9 e9; obtain ⟨d9, v9, n9, m9⟩ := e9; (try dsimp only); (try k_fold)))
  (k_with "call ref" => (k_here; (with_reducible show wpAny _ _ (call (Value.ref 161) _) _ _ _); k_dflt (refine' use_intsN (law_mul_fn _ _ _ _ _ _ _ _ _ ?zqka ?zqkb ?zqkla ?zqklb ?zqkk ?zqkk2 ?zqkda ?zqkdb ?zqkna ?zqknb) ?zqk1 ?zqk2 ?zqk3 ?zqk4 ?zqk5 ?zqkK ?zqkd ?zqku ?zqkp ?_; (case zqk1 => k_asm); (case zqk2 => k_asm); (case zqk3 => k_asm); (case zqk4 => k_asm); (case zqk5 => k_asm); (case zqkK => first | exact rfl | assumption); (case zqkp => (refine' And.intro ?zqkpa ?zqkpb; (case zqkpa => first | (refine' isListOf ?zqqN ?zqqm; (case zqqN => k_asm); (case zqqm => k_mem)) | is_list); (case zqkpb => first | (refine' isListOf ?zqqN ?zqqm; (case zqqN => k_asm); (case zqqm => k_mem)) | is_list))); (case zqka => l_ints); (case zqkb => l_ints); (case zqkla => k_extra "mlen"); (case zqklb => k_extra "mlen"); (case zqkk => omega); (case zqkk2 => omega); (case zqkda => k_extra "mdig"); (case zqkdb => k_extra "mdig"); (case zqkna => k_extra "mnrm"); (case zqknb => k_extra "mnrm"); (case zqkd => ktr_room); (case zqku => ktr_units)); intro l9 vs9 n9 ns9 h9 tk9 F9 N9 l9n I9 e9; obtain ⟨d9, v9, n9, m9⟩ := e9; (try dsimp only); (try k_fold)))
  (k_with "KswEnd" => ((rename News _ _ _ _ => nE'); (refine' ksw_end (_, _, _, _, _, _) ?zqF nE' ?zqhn ?zqhf ?zqhk ?zqhr ?zqhp ?zqhm); (case zqF => with_reducible assumption); (case zqhk => kst_all); (case zqhn => (refine' memOne ?zqmm; (case zqmm => k_mem))); (case zqhf => with_reducible assumption); (case zqhr => ksw_same); (case zqhp => k_extra "state"); (case zqhm => k_extra "measure")))
  (k_with "FnOut" => (k_here; (with_reducible show FnOut _ _ _ (Value.ref _) _); (rename News _ _ _ _ => N9); (refine' fnOut ?zqf (newInts (vs' := []) [] ?zqkp N9 ?zqm ?zqi ?zqh)); (case zqf => with_reducible assumption); (case zqkp => assumption); (case zqm => exact List.Mem.head _); (case zqi => exact IntsAre.nil); (case zqh => k_extra "out")))
  k_fill
  k_dflt (refine' fn_intro (binds := [(Str.ofString "b", .ref lb), (Str.ofString "n", .int n t), (Str.ofString "w", .int k u), (Str.ofString "mul", .ref 161)]) ?k6 ?k7 ?k9 ?kB ?c2 ?c3 ?c4 ?c5 ?_; (case k6 => k_is); (case k7 => k_is); (case k9 => exact fun _ => BindsTo.of_eq rfl); (case c5 => decide); (case kB => exact locs rfl); (case c2 => exact rfl); (case c3 => exact rfl); (case c4 => exact rfl); k_whole)
  intro dp un gd outer A₀ base p loose mean mg mb h₀ g L' s hdp hun hpre kp F' N' B' X' T' l1
  have hl := keptList kp hpre
  (try dsimp only)
  (k_with "exec While Compare cons nil" => ((rename Fr _ _ _ _ => lF'); (rename News _ _ _ _ => lN'); (with_unfolding_all refine' ksw_while (σ := Addr × List Value × List Int × Nat × Int × Tok) (fun c => [(c.1, PySem.W.listOf c.2.1.toArray c.2.2.2.1)]) (fun c => [(Str.ofString "found", .ref c.1), (Str.ofString "size", .int c.2.2.2.2.1 c.2.2.2.2.2)]) (fun c => IntsAre c.2.1 c.2.2.1) [Str.ofString "rest", Str.ofString "wanted"] (fun c => 1 ≤ c.2.2.2.2.1 ∧ c.2.2.2.2.1 ≤ n ∧ LowP (2 ^ k) b c.2.2.1 c.2.2.2.2.1) (fun c => n - c.2.2.2.2.1.toNat) (_, _, _, _, _, _) lF' ?kn ?kf ?kk ?kp ?_); (case kk => kst_all); (case kn => (refine' newsOne lN' ?mm; (case mm => k_mem))); (case kf => first | exact IntsAre.cons _ _ .nil | with_reducible assumption); (case kp => k_extra "state"); (all_goals (try clear lF' lN')); (intro kC kU kH kTk kFacts kInv kFr kNews); (obtain ⟨cA, cV, cF, cN, cS, cT⟩ := kC); (dsimp only [kstB] at kFr); (dsimp only at kFacts kInv kNews); (obtain ⟨q1, q2, q3⟩ := kInv); (try k_fold)))
  (k_with "iodd" => exact hodd)
  (k_with "i0" => exact (dig_getD db (pow2_pos k) 0).1)
  (k_with "i1" => exact (dig_getD db (pow2_pos k) 0).2)
  (k_with "llen" => first | omega | exact lo_slen (by assumption) (by assumption) hn (by assumption) (by assumption))
  (k_with "l0" => exact lo_l0 (by assumption) (by assumption))
  (k_with "l1" => exact lo_l1 (by assumption) (by assumption) hn)
  (k_with "alen" => first | decide | exact lo_clen2 (by assumption) (by assumption) hn (by assumption))
  (k_with "adig" => first | exact lo_two hk | assumption)
  (k_with "clen" => exact lo_clen _ (by assumption) (by assumption))
  (k_with "clen2" => exact lo_l2 (by assumption) (by assumption) hn)
  (k_with "cdig" => exact dig_norm (dig_take (by assumption) _))
  (k_with "mlen" => first | exact lo_take _ (by assumption) (by assumption) hn | exact lo_flen (by assumption) (by assumption) hn)
  (k_with "mdig" => first | exact dig_norm (dig_take (by assumption) _) | exact LowP.dig (by assumption))
  (k_with "mnrm" => first | exact nrm_norm _ | exact LowP.nrm (by assumption))
  (k_with "state" => first | exact ⟨Int.le_refl _, by dsimp only; omega, low_start (two_le_pow (by omega)) hb1 (by assumption) (by assumption) (by assumption)⟩ | exact lo_state hk (by assumption) (by assumption) db (by assumption) (by assumption) (by assumption) (by assumption) (by assumption) (by assumption) (by assumption) (by assumption))
  (k_with "measure" => exact lo_falls (by assumption) (by assumption))
  (k_with "out" => first | exact lo_zero (by assumption) | exact lo_out (by assumption) (by assumption) (by assumption))
  k_steps
end Mine
end
section
open PySem PySem.Spec PySem.Calls PySem.W PyProof.Rows
set_option maxRecDepth 100000
namespace Mine


theorem law_limbs_at (w : World) (N : Int) (k : Nat) (t u : Tok) (hN : 0 ≤ N) (hN2 : Small N) (hk : 1 ≤ k) (hk2 : k ≤ 64) :
    FnC PySem.Challenge.rw_nn0006_01.row.prog w (Mine.hd.heap_39 w.params) 147 [.int N t, .int k u] [] 3 (fun _ => True) (NewInts fun x => x = limbsOf k N ∧ Dig (2 ^ k) x ∧ val (2 ^ k) x = N ∧ Nrm x) := by
  have h := law_limbs_fn w N k t u hN hN2 hk hk2
  intro p loose mean mg mb dp un gd cn cs a ccd cl outer A₀ base h₀ L m s Q E B F X Nn T hkk hd hu hpre ret
  refine h p loose mean mg mb dp un gd cn cs a ccd cl outer A₀ base h₀ L m s Q E B F X Nn T hkk hd hu hpre fun r h' tk' kp q => ret r h' tk' kp ?_
  obtain ⟨l', vs', n', ns', e, h1, h2, h3, h4⟩ := q
  exact ⟨l', vs', n', ns', e, h1, h2, h3, limbsOf_eq h4.1 h4.2.1 h4.2.2.1, h4.1, h4.2.1, h4.2.2.1⟩
section
variable {prog : Program} {w : World} {K : Frag} {f : Addr} {vs : List Value} {lv : Nat} {pre : Heap → Prop}
  {p : Program} {loose : List Str} {mean : ExcName → Option Value} {mg mb : Str → Option Value} {dp un : Nat} {gd : Option (List Code)} {cn : Str} {cs : Scope} {a : Addr} {ccd : Value} {cl : List (Str × Addr)} {outer : List Env} {A₀ : Around} {base h₀ : Heap} {L : Addr} {m : Str → Option Value} {s : Shared}
  {Q E : Value → Shared → Prop} {news : List (Addr × Obj)}
theorem use_div {φ : Bool → List Int → List Int → Prop} (C : FnC prog w K f vs [] lv pre (fun h r h' => ∃ tp nt lq vq nq q flag lr vr nr rr, r = .ref tp ∧ h.get? tp = none ∧ h.get? lq = none ∧ h.get? lr = none ∧ h'.get? tp = some { cls := .type "tuple", data := .seq #[.ref lq, .bool flag, .ref lr] nt } ∧ h'.get? lq = some (listOf vq.toArray nq) ∧ h'.get? lr = some (listOf vr.toArray nr) ∧ lq ≠ tp ∧ lr ≠ tp ∧ lq ≠ lr ∧ IntsAre vq q ∧ IntsAre vr rr ∧ φ flag q rr)) (B : Below A₀ base outer h₀) (F : Fr h₀ L s.heap m) (X : K.In h₀) (N : News h₀ L s.heap news) (T : Top p loose mean mg mb h₀) (hk : cs.kind = .function) (hd : dp + lv < recursionLimit) (hu : un + 10 * lv < cLine) (hp : pre s.heap)
    (ret : ∀ tp nt lq vq nq q flag lr vr nr rr h' tk', Fr h₀ L h' m → News h₀ L h' ((tp, { cls := .type "tuple", data := .seq #[.ref lq, .bool flag, .ref lr] nt }) :: (lq, listOf vq.toArray nq) :: (lr, listOf vr.toArray nr) :: news) → (∀ p ∈ news, @Ne Nat p.1 tp) → (∀ p ∈ news, @Ne Nat p.1 lq) → (∀ p ∈ news, @Ne Nat p.1 lr) → @Ne Nat lq tp → @Ne Nat lr tp → @Ne Nat lq lr → IntsAre vq q → IntsAre vr rr → φ flag q rr → Q (.ref tp) { s with heap := h', toks := tk' }) :
    wpAny (model prog w) (ktrTop dp un gd cn cs L a ccd cl outer) (call (.ref f) vs) Q E s := by
  refine C p loose mean mg mb dp un gd cn cs a ccd cl outer A₀ base h₀ L m s Q E B F X (fun _ h => nomatch h) T hk hd hu hp ?_
  rintro r h' tk' k ⟨tp, nt, lq, vq, nq, q, flag, lr, vr, nr, rr, rfl, h1, h2, h3, h4, h5, h6, n1, n2, n3, i1, i2, i3⟩
  have N1 := keptCons k F N h3 h6
  have N2 := keptCons k F N h2 h5
  have N3 := keptCons k F N h1 h4
  refine ret tp nt lq vq nq q flag lr vr nr rr h' tk' (keptFr k F) (fun x hx => ?_) (ne_of_fresh N h1) (ne_of_fresh N h2) (ne_of_fresh N h3) n1 n2 n3 i1 i2 i3
  rcases List.mem_cons.mp hx with rfl | hx
  · exact N3 _ (.head _)
  · rcases List.mem_cons.mp hx with rfl | hx
    · exact N2 _ (.head _)
    · exact N1 _ hx
end
theorem boolTrue {x : Bool} (h : x = true) : Value.bool x = Value.bool true := by rw [h]

section
variable {k n : Nat} {a b : Int} {q rr : List Int} {flag : Bool}
theorem lr_unit (k n : Nat) : (1 : Int) * 2 ^ ((k : Int) * (n : Int)).toNat = (2 ^ k) ^ n := by rw [← Int.natCast_mul, one_two, pow_pow]
theorem lr_small {m : Nat} (hk2 : k ≤ 9) (hm : m ≤ 20) (h : a < (2 ^ k) ^ m) : Small a := by
  refine ⟨?_⟩
  rw [pow_pow] at h
  have h1 : k * m ≤ 9 * 20 := Nat.mul_le_mul hk2 hm
  have h2 := pow2_le (m := k * m) (n := 500) (by omega)
  exact Int.lt_of_lt_of_le h h2
theorem lr_len {m : Nat} (hk : 2 ≤ k) (h : a < (2 ^ k) ^ m) (v : val (2 ^ k) (limbsOf k a) = a) (d : Dig (2 ^ k) (limbsOf k a)) (nn : Nrm (limbsOf k a)) : (limbsOf k a).length ≤ m :=
  len_of_val (two_le_pow (by omega)) d nn (by rw [v]; exact h)
theorem lr_odd (hk : 2 ≤ k) (ho : b % 2 = 1) (v : val (2 ^ k) (limbsOf k b) = b) : 0 < (limbsOf k b).length ∧ ((limbsOf k b).getD 0 0).fmod 2 = 1 := by
  have := odd_first (k := k) (by omega) (x := limbsOf k b) (by rw [v]; exact ho)
  rw [Int.fmod_eq_emod_of_nonneg _ (by omega)]
  exact this
theorem lr_kn (hk2 : k ≤ 9) (hn : n ≤ 6) : k * n ≤ 54 := Nat.mul_le_mul hk2 hn
theorem lr_shift (hk2 : k ≤ 9) (hn : n ≤ 6) : (Builtin.Int.intBits 1 : Int) + (k : Int) * (n : Int) ≤ 2 ^ 27 := by
  refine kbm_shl (m := 1) (by decide) ?_ (by decide)
  have := lr_kn hk2 hn
  rw [← Int.natCast_mul]; omega
theorem lr_s0 (k n : Nat) : 0 ≤ (k : Int) * (n : Int) := by rw [← Int.natCast_mul]; omega
theorem lr_nz (k n : Nat) : (1 : Int) * 2 ^ ((k : Int) * (n : Int)).toNat ≠ 0 := by rw [lr_unit, pow_pow]; exact Int.ne_of_gt (pow2_pos _)
theorem lr_pylong (x : Int) (hk2 : k ≤ 9) (hn : n ≤ 6) : Builtin.divisionGoesByPylong x (1 * 2 ^ ((k : Int) * (n : Int)).toNat) = false := by
  refine PyProof.noPylong_of_log2 ?_
  rw [lr_unit, pow_pow, pow2_cast, Int.natAbs_natCast, Nat.log2_two_pow]
  have := lr_kn hk2 hn
  omega
theorem lr_mulk (m : Int) (hk2 : k ≤ 9) : IntMulOk (k : Int) m := IntMulOk.of_left (Nat.le_trans (intBits_le_iff (m := 10).mpr (by omega)) (by decide))
theorem lr_mulu (x : Int) (hk2 : k ≤ 9) (hn : n ≤ 6) : IntMulOk x (1 * 2 ^ ((k : Int) * (n : Int)).toNat) := by
  have h := lr_kn hk2 hn
  rw [lr_unit, pow_pow]
  refine IntMulOk.of_right (intBits_le_iff.mpr ?_)
  have := pow2_le (m := k * n) (n := 63) (by omega)
  have hp := pow2_pos (k * n)
  omega
variable (v1 : val (2 ^ k) (limbsOf k a) = a) (v2 : val (2 ^ k) (limbsOf k b) = b) (d1 : Dig (2 ^ k) (limbsOf k a)) (hk : 2 ≤ k) (hb : 0 < b) (h : DivOut (2 ^ k) (limbsOf k a) (limbsOf k b) n flag q rr)
include v1 v2 d1 hk hb h
theorem lr_bound : 0 ≤ val (2 ^ k) q ∧ val (2 ^ k) q < (2 ^ k) ^ n ∧ 0 ≤ val (2 ^ k) rr ∧ (val (2 ^ k) rr ≤ b ∨ val (2 ^ k) rr ≤ a / (2 ^ k) ^ n) := by
  have := div_bound (two_le_pow (by omega)) d1 (by rw [v2]; exact hb) h
  rwa [v1, v2] at this
theorem lr_absurd1 (hq : 1 * 2 ^ ((k : Int) * (n : Int)).toNat ≤ val (2 ^ k) q) : False := by
  have := lr_bound v1 v2 d1 hk hb h
  rw [lr_unit] at hq
  omega
theorem lr_absurd3 (hq : (if a.fdiv (1 * 2 ^ ((k : Int) * (n : Int)).toNat) > b then a.fdiv (1 * 2 ^ ((k : Int) * (n : Int)).toNat) else b) < val (2 ^ k) rr) : False := by
  have hx := lr_bound v1 v2 d1 hk hb h
  rw [lr_unit, Int.fdiv_eq_ediv_of_nonneg _ (by rw [pow_pow]; exact Int.le_of_lt (pow2_pos _))] at hq
  split at hq <;> omega
theorem lr_mulq (hk2 : k ≤ 9) (hn : n ≤ 6) : IntMulOk (val (2 ^ k) q) b := by
  have hx := lr_bound v1 v2 d1 hk hb h
  have h2 := lr_kn hk2 hn
  rw [pow_pow] at hx
  refine IntMulOk.of_left (intBits_le_iff.mpr ?_)
  have := pow2_le (m := k * n) (n := 64) (by omega)
  omega
theorem lr_rlen (ha : a < (2 ^ k) ^ 20) (hb2 : b < (2 ^ k) ^ 10) (ha0 : 0 ≤ a) : rr.length ≤ 500 := by
  have hx := lr_bound v1 v2 d1 hk hb h
  obtain ⟨_, _, _, d, nn, _, _⟩ := h.out
  have hB := two_le_pow (k := k) (by omega)
  have h10 := pow_mono (B := 2 ^ k) (by omega) (show 10 ≤ 20 by decide)
  have hd : a / (2 ^ k) ^ n ≤ a := Int.ediv_le_self _ ha0
  exact Nat.le_trans (len_of_val hB d nn (m := 20) (by omega)) (by decide)
end
section
variable {k n : Nat} {a b : Int} {q rr : List Int}
theorem lr_absurd2 (h : DivOut (2 ^ k) (limbsOf k a) (limbsOf k b) n true q rr) (hz : val (2 ^ k) rr = 0) : False := by
  have := h.out.2.2.2.2.2.1 rfl
  omega
theorem lr_eq0 (v1 : val (2 ^ k) (limbsOf k a) = a) (v2 : val (2 ^ k) (limbsOf k b) = b) (h : DivOut (2 ^ k) (limbsOf k a) (limbsOf k b) n false q rr) :
    (a == val (2 ^ k) q * b + val (2 ^ k) rr * (1 * 2 ^ ((k : Int) * (n : Int)).toNat)) = true := by
  have := h.out.2.2.2.2.2.2
  rw [v1, v2] at this
  rw [lr_unit]
  simpa using this
theorem lr_eq1 (v1 : val (2 ^ k) (limbsOf k a) = a) (v2 : val (2 ^ k) (limbsOf k b) = b) (h : DivOut (2 ^ k) (limbsOf k a) (limbsOf k b) n true q rr) :
    (a == val (2 ^ k) q * b + -val (2 ^ k) rr * (1 * 2 ^ ((k : Int) * (n : Int)).toNat)) = true := by
  have := h.out.2.2.2.2.2.2
  rw [v1, v2] at this
  rw [lr_unit]
  simpa using this
theorem lr_qdig {flag : Bool} (h : DivOut (2 ^ k) (limbsOf k a) (limbsOf k b) n flag q rr) : Dig (2 ^ k) q ∧ Nrm q ∧ q.length ≤ n ∧ Dig (2 ^ k) rr ∧ Nrm rr := by
  obtain ⟨h1, h2, h3, h4, h5, _⟩ := h.out
  exact ⟨h1, h2, h3, h4, h5⟩
end

set_option maxHeartbeats 4000000 in
theorem low_right_fn (w : World) (a b : Int) (n k : Nat) (t u v x : Tok) (ha : 0 ≤ a) (ha2 : Hid (a < (2 ^ k) ^ 20)) (hb : 0 < b) (hb2 : Hid (b < (2 ^ k) ^ 10)) (hodd : b % 2 = 1) (hn : n ≤ 6) (hk : 2 ≤ k) (hk2 : k ≤ 9) :
    FnC PySem.Challenge.rw_nn0006_01.row.prog w (Mine.hd.heap_39 w.params) 182 [.int a t, .int b u, .int n v, .int k x] [] 12 (fun _ => True) (fun _ r _ => r = .bool true) := by
  w_top off
  k_with_none
  (k_with "ne" => (refine neN ?_; (try dsimp only); first | exact neOf (by with_reducible assumption) (by k_mem) | exact Ne.symm (neOf (by with_reducible assumption) (by k_mem)) | exact ltOf (by with_reducible assumption) (by k_mem) | exact Ne.symm (ltOf (by with_reducible assumption) (by k_mem)) | omega))
  (k_with "FnOut" => (k_here; exfalso; k_extra "absurd"))
  (k_with "FnOut" => (k_here; (with_reducible show FnOut _ _ _ (Value.ref _) _); (rename News _ _ _ _ => N9); (try simp only [List.push_toArray] at N9); (refine' fnOut ?zqf (newInts _ ?zqkp N9 ?zqm ?zqi ?zqh)); (case zqf => with_reducible assumption); (case zqkp => assumption); (case zqm => k_mem); (case zqi => k_intsEnd); (case zqh => k_extra "out")))
  (k_with "FnOut" => (k_here; (with_reducible show FnOut _ _ _ (Value.int _ _) _); (refine' fnOut ?zqf ⟨_, _, rfl, ?zqh⟩); (case zqf => with_reducible assumption); (case zqh => k_extra "out")))
  (k_with "eval Call" => (k_here; k_dflt (refine Call_ ?_)))
  (k_with "binaryOp Mult int int" => (k_here; (with_reducible refine mul_int ?_ ?zqkbm); (case zqkbm => k_extra "mul")))
  (k_with "binaryOp LShift int int" => (k_here; (with_reducible refine lshift_int ?zqkbn ?zqkbs ?_); (case zqkbn => k_extra "shift0"); (case zqkbs => k_extra "shift")))
  (k_with "binaryOp Mod int int" => (k_here; (with_reducible refine mod_int' ?zqkbn ?_); (case zqkbn => k_extra "nonzero")))
  (k_with "binaryOp FloorDiv int int" => (k_here; (with_reducible refine floordiv_int ?zqkbn ?_ (.inl ?zqkbp)); (case zqkbn => k_extra "nonzero"); (case zqkbp => k_extra "pylong")))
  (k_with "FnOut" => (k_here; (with_reducible show FnOut _ _ _ (Value.bool _) _); (refine' fnOut ?zqf (boolTrue ?zqh)); (case zqf => with_reducible assumption); (case zqh => first | rfl | k_extra "out")))
  (k_with "call ref" => (k_here; (with_reducible show wpAny _ _ (call (Value.ref 147) _) _ _ _); k_dflt (refine' use_intsN (law_limbs_at _ _ _ _ _ ?zqkN ?zqkN2 ?zqkk ?zqkk2) ?zqk1 ?zqk2 ?zqk3 ?zqk4 ?zqk5 ?zqkK ?zqkd ?zqku ?zqkp ?_; (case zqk1 => k_asm); (case zqk2 => k_asm); (case zqk3 => k_asm); (case zqk4 => k_asm); (case zqk5 => k_asm); (case zqkK => first | exact rfl | assumption); (case zqkp => exact trivial); (case zqkN => k_extra "nonneg"); (case zqkN2 => k_extra "small"); (case zqkk => omega); (case zqkk2 => omega); (case zqkd => ktr_room); (case zqku => ktr_units)); intro l9 vs9 n9 ns9 h9 tk9 F9 N9 l9n I9 e9; obtain ⟨e9, d9, v9, n9⟩ := e9; subst e9; (try dsimp only); (try k_fold)))
  (k_with "call ref" => (k_here; (with_reducible show wpAny _ _ (call (Value.ref 154) _) _ _ _); k_dflt (refine' use_int (law_number_fn _ _ _ _ _ _ ?zqki ?zqkl ?zqkk ?zqkk2 ?zqkdg ?zqknr) ?zqk1 ?zqk2 ?zqk3 ?zqk4 ?zqk5 ?zqkK ?zqkd ?zqku ?zqkp ?_; (case zqk1 => k_asm); (case zqk2 => k_asm); (case zqk3 => k_asm); (case zqk4 => k_asm); (case zqk5 => k_asm); (case zqkK => first | exact rfl | assumption); (case zqkp => first | (refine' isListOf ?zqqN ?zqqm; (case zqqN => k_asm); (case zqqm => k_mem)) | is_list); (case zqki => l_ints); (case zqkl => k_extra "len"); (case zqkk => omega); (case zqkk2 => omega); (case zqkdg => k_extra "dig"); (case zqknr => k_extra "nrm"); (case zqkd => ktr_room); (case zqku => ktr_units)); intro x9 t9 h9 tk9 F9 N9 e9; subst e9; (try dsimp only); (try k_fold)))
  (k_with "call ref" => (k_here; (with_reducible show wpAny _ _ (call (Value.ref 105) _) _ _ _); k_dflt (refine' use_div (divrem_low_fn _ _ _ _ _ _ _ _ _ _ _ ?zqka ?zqkb ?zqkla ?zqklb ?zqkb1 ?zqko ?zqkn ?zqkn6 ?zqkk ?zqkk2 ?zqkda ?zqkdb) ?zqk1 ?zqk2 ?zqk3 ?zqk4 ?zqk5 ?zqkK ?zqkd ?zqku ?zqkp ?_; (case zqk1 => k_asm); (case zqk2 => k_asm); (case zqk3 => k_asm); (case zqk4 => k_asm); (case zqk5 => k_asm); (case zqkK => first | exact rfl | assumption); (case zqkp => (refine' And.intro ?zqkpa ?zqkpb; (case zqkpa => first | (refine' isListOf ?zqqN ?zqqm; (case zqqN => k_asm); (case zqqm => k_mem)) | is_list); (case zqkpb => first | (refine' isListOf ?zqqN ?zqqm; (case zqqN => k_asm); (case zqqm => k_mem)) | is_list))); (case zqka => l_ints); (case zqkb => l_ints); (case zqkla => k_extra "dla"); (case zqklb => k_extra "dlb"); (case zqkb1 => k_extra "db1"); (case zqko => k_extra "dodd"); (case zqkn => omega); (case zqkn6 => exact ⟨by omega⟩); (case zqkk => omega); (case zqkk2 => omega); (case zqkda => assumption); (case zqkdb => assumption); (case zqkd => ktr_room); (case zqku => ktr_units)); intro tp9 nt9 lq9 vq9 nq9 q9 flag9 lr9 vr9 nr9 rr9 h9 tk9 F9 N9 a9 b9 c9 m9 o9 p9 i9 j9 e9; (try simp only [List.forall_mem_cons, List.not_mem_nil, false_implies, implies_true, and_true] at a9 b9 c9); (cases flag9 <;> (try dsimp only) <;> (try k_fold))))
  k_fill
  k_dflt (refine' fn_intro (binds := [(Str.ofString "a", .int a t), (Str.ofString "b", .int b u), (Str.ofString "n", .int n v), (Str.ofString "w", .int k x)]) ?k6 ?k7 ?k9 ?kB ?c2 ?c3 ?c4 ?c5 ?_; (case k6 => k_is); (case k7 => k_is); (case k9 => exact fun _ => BindsTo.of_eq rfl); (case c5 => decide); (case kB => exact locs rfl); (case c2 => exact rfl); (case c3 => exact rfl); (case c4 => exact rfl); k_whole)
  intro dp un gd outer A₀ base p loose mean mg mb h₀ g L' s hdp hun hpre kp F' N' B' X' T' l1
  (try dsimp only)
  (k_with "nonneg" => omega)
  (k_with "small" => first | exact lr_small hk2 (by decide) ha2.out | exact lr_small hk2 (by decide) hb2.out)
  (k_with "dla" => exact lr_len hk ha2.out (by assumption) (by assumption) (by assumption))
  (k_with "dlb" => exact lr_len hk hb2.out (by assumption) (by assumption) (by assumption))
  (k_with "db1" => exact (lr_odd hk hodd (by assumption)).1)
  (k_with "dodd" => exact (lr_odd hk hodd (by assumption)).2)
  (k_with "len" => first | exact lr_rlen (a := a) (b := b) (n := n) (by assumption) (by assumption) (by assumption) hk hb (by assumption) ha2.out hb2.out ha | exact Nat.le_trans (lr_qdig (by assumption)).2.2.1 (by omega))
  (k_with "dig" => first | exact (lr_qdig (by assumption)).1 | exact (lr_qdig (by assumption)).2.2.2.1)
  (k_with "nrm" => first | exact (lr_qdig (by assumption)).2.1 | exact (lr_qdig (by assumption)).2.2.2.2)
  (k_with "mul" => first | exact lr_mulk _ hk2 | exact lr_mulu _ hk2 hn | exact lr_mulq (a := a) (b := b) (n := n) (by assumption) (by assumption) (by assumption) hk hb (by assumption) hk2 hn)
  (k_with "shift0" => exact lr_s0 _ _)
  (k_with "shift" => exact lr_shift hk2 hn)
  (k_with "nonzero" => exact lr_nz _ _)
  (k_with "pylong" => exact lr_pylong _ hk2 hn)
  (k_with "out" => first | exact lr_eq0 (by assumption) (by assumption) (by assumption) | exact lr_eq1 (by assumption) (by assumption) (by assumption) | (exfalso; first | exact lr_absurd1 (a := a) (b := b) (n := n) (by assumption) (by assumption) (by assumption) hk hb (by assumption) (by assumption) | exact lr_absurd2 (by assumption) (by assumption) | exact lr_absurd3 (a := a) (b := b) (n := n) (by assumption) (by assumption) (by assumption) hk hb (by assumption) (by assumption)))
  k_steps
end Mine
end
section
open PySem PySem.Spec PySem.Calls PySem.W PyProof.Rows
set_option maxRecDepth 100000
namespace Mine


theorem mod_small_power_at (w : World) (l : Addr) (vs : List Value) (a : List Int) (n : Int) (k : Nat) (t u : Tok) (h0 : 0 ≤ n) (hi : IntsAre vs a) (hlen : a.length ≤ 500) (hn : n ≤ k) (hk2 : k ≤ 64) :
    FnC PySem.Challenge.rw_nn0006_01.row.prog w (Mine.hd.heap_39 w.params) 112 [.ref l, .int n t, .int k u] [] 3 (fun h => h.IsList l vs.toArray) (fun _ r _ => ∃ x t, r = .int x t ∧ x = a.getD 0 0 % 2 ^ n.toNat) := by
  obtain ⟨p, rfl⟩ := Int.eq_ofNat_of_zero_le h0
  have := mod_small_power_fn w l vs a p k t u hi hlen (by omega) hk2
  rwa [Int.toNat_natCast]
theorem mod_ones_at (w : World) (l : Addr) (vs : List Value) (a : List Int) (n : Int) (k : Nat) (t u : Tok) (h0 : 1 ≤ n) (hi : IntsAre vs a) (hlen : a.length ≤ 500) (hn2 : n ≤ k) (hk2 : k ≤ 9) :
    FnC PySem.Challenge.rw_nn0006_01.row.prog w (Mine.hd.heap_39 w.params) 126 [.ref l, .int n t, .int k u] [] 5 (fun h => h.IsList l vs.toArray) (fun _ r _ => ∃ x t, r = .int x t ∧ x = val (2 ^ k) a % (2 ^ n.toNat - 1)) := by
  obtain ⟨p, rfl⟩ := Int.eq_ofNat_of_zero_le (show 0 ≤ n by omega)
  have := mod_ones_fn w l vs a p k t u hi hlen (by omega) (by omega) hk2
  rwa [Int.toNat_natCast]
theorem mod_ones_above_at (w : World) (l : Addr) (vs : List Value) (a : List Int) (n : Int) (k : Nat) (t u : Tok) (h0 : 1 ≤ n) (hi : IntsAre vs a) (hlen : a.length ≤ 500) (hn2 : n < k) (hk2 : k ≤ 9) :
    FnC PySem.Challenge.rw_nn0006_01.row.prog w (Mine.hd.heap_39 w.params) 133 [.ref l, .int n t, .int k u] [] 5 (fun h => h.IsList l vs.toArray) (fun _ r _ => ∃ x t, r = .int x t ∧ x = val (2 ^ k) a % (2 ^ n.toNat + 1)) := by
  obtain ⟨p, rfl⟩ := Int.eq_ofNat_of_zero_le (show 0 ≤ n by omega)
  have := mod_ones_above_fn w l vs a p k t u hi hlen (by omega) (by omega) hk2
  rwa [Int.toNat_natCast]

section
variable {k n : Nat} {a : Int}
theorem rr_few (n : Nat) (hk : 2 ≤ k) : (1 : Int) + (n : Int).fmod ((k : Int) - 1) = ((1 + n % (k - 1) : Nat) : Int) := by
  have e : ((k : Int) - 1) = ((k - 1 : Nat) : Int) := by omega
  rw [e, fmod_nat]; omega
theorem rr_lt (n : Nat) (hk : 2 ≤ k) : 1 + n % (k - 1) < k := by
  have := Nat.mod_lt n (show 0 < k - 1 by omega)
  omega
theorem rr_pow (n : Nat) (hk : 2 ≤ k) : (1 : Int) * 2 ^ ((1 : Int) + (n : Int).fmod ((k : Int) - 1)).toNat = 2 ^ (1 + n % (k - 1)) := by rw [rr_few n hk, one_two]
theorem rr_first {k m : Nat} (hm : m ≤ k) (x : List Int) : x.getD 0 0 % 2 ^ m = val (2 ^ k) x % 2 ^ m := by
  cases x with
  | nil => simp [val]
  | cons d r =>
    refine mod_of_dvd ?_
    have e : (d :: r).getD 0 0 - val (2 ^ k) (d :: r) = 2 ^ k * (- val (2 ^ k) r) := by simp only [List.getD, List.getElem?_cons_zero, Option.getD_some, val]; grind
    rw [e]
    exact Int.dvd_trans (pow2_dvd hm) (Int.dvd_mul_right _ _)
theorem rr_few1 (n : Nat) (hk : 2 ≤ k) : 1 ≤ (1 : Int) + (n : Int).fmod ((k : Int) - 1) := by rw [rr_few n hk]; omega
theorem rr_few2 (n : Nat) (hk : 2 ≤ k) : (1 : Int) + (n : Int).fmod ((k : Int) - 1) < k := by
  have := rr_lt n hk
  rw [rr_few n hk]; omega
theorem rr_shift {m : Int} (h : m ≤ 9) : (Builtin.Int.intBits 1 : Int) + m ≤ 2 ^ 27 := kbm_shl (m := 1) (by decide) (by omega) (by decide)
theorem rr_nz0 (m : Int) : (1 : Int) * 2 ^ m.toNat ≠ 0 := by rw [Int.one_mul]; exact Int.ne_of_gt (pow2_pos _)
theorem rr_nz1 {m : Int} (h : 1 ≤ m) : (1 : Int) * 2 ^ m.toNat - 1 ≠ 0 := by
  have := two_le_pow (k := m.toNat) (by omega)
  rw [Int.one_mul]; omega
theorem rr_nz2 (m : Int) : (1 : Int) * 2 ^ m.toNat + 1 ≠ 0 := by
  have := pow2_pos m.toNat
  rw [Int.one_mul]; omega
theorem rr_p {m : Int} (h1 : m ≤ k) (v : val (2 ^ k) (limbsOf k a) = a) (h : (limbsOf k a).getD 0 0 % 2 ^ m.toNat ≠ a.fmod (1 * 2 ^ m.toNat)) : False := by
  refine h ?_
  rw [rr_first (k := k) (by omega), v, Int.one_mul, Int.fmod_eq_emod_of_nonneg _ (Int.le_of_lt (pow2_pos _))]
theorem rr_o {m : Int} (h1 : 1 ≤ m) (v : val (2 ^ k) (limbsOf k a) = a) (h : val (2 ^ k) (limbsOf k a) % (2 ^ m.toNat - 1) ≠ a.fmod (1 * 2 ^ m.toNat - 1)) : False := by
  refine h ?_
  have := two_le_pow (k := m.toNat) (by omega)
  rw [v, Int.one_mul, Int.fmod_eq_emod_of_nonneg _ (by omega)]
theorem rr_a (m : Int) (v : val (2 ^ k) (limbsOf k a) = a) : (val (2 ^ k) (limbsOf k a) % (2 ^ m.toNat + 1) == a.fmod (1 * 2 ^ m.toNat + 1)) = true := by
  have := pow2_pos m.toNat
  rw [v, Int.one_mul, Int.fmod_eq_emod_of_nonneg _ (by omega)]
  exact beq_self_eq_true _
theorem rr_fmod (x : Int) {m : Int} (hm : 0 < m) : x.fmod m = x % m := Int.fmod_eq_emod_of_nonneg _ (by omega)
end

set_option maxHeartbeats 4000000 in
theorem rests_right_fn (w : World) (a : Int) (n k : Nat) (t u v : Tok) (ha : 0 ≤ a) (ha2 : Hid (a < (2 ^ k) ^ 20)) (hn : n ≤ 6) (hk : 2 ≤ k) (hk2 : k ≤ 9) :
    FnC PySem.Challenge.rw_nn0006_01.row.prog w (Mine.hd.heap_39 w.params) 189 [.int a t, .int n u, .int k v] [] 9 (fun _ => True) (fun _ r _ => r = .bool true) := by
  w_top off
  k_with_none
  (k_with "ne" => (refine neN ?_; (try dsimp only); first | exact neOf (by with_reducible assumption) (by k_mem) | exact Ne.symm (neOf (by with_reducible assumption) (by k_mem)) | exact ltOf (by with_reducible assumption) (by k_mem) | exact Ne.symm (ltOf (by with_reducible assumption) (by k_mem)) | omega))
  (k_with "FnOut" => (k_here; exfalso; k_extra "absurd"))
  (k_with "FnOut" => (k_here; (with_reducible show FnOut _ _ _ (Value.ref _) _); (rename News _ _ _ _ => N9); (try simp only [List.push_toArray] at N9); (refine' fnOut ?zqf (newInts _ ?zqkp N9 ?zqm ?zqi ?zqh)); (case zqf => with_reducible assumption); (case zqkp => assumption); (case zqm => k_mem); (case zqi => k_intsEnd); (case zqh => k_extra "out")))
  (k_with "FnOut" => (k_here; (with_reducible show FnOut _ _ _ (Value.int _ _) _); (refine' fnOut ?zqf ⟨_, _, rfl, ?zqh⟩); (case zqf => with_reducible assumption); (case zqh => k_extra "out")))
  (k_with "eval Call" => (k_here; k_dflt (refine Call_ ?_)))
  (k_with "binaryOp LShift int int" => (k_here; (with_reducible refine lshift_int ?zqkbn ?zqkbs ?_); (case zqkbn => k_extra "shift0"); (case zqkbs => k_extra "shift")))
  (k_with "binaryOp Mod int int" => (k_here; (with_reducible refine mod_int' ?zqkbn ?_); (case zqkbn => k_extra "nonzero")))
  (k_with "FnOut" => (k_here; (with_reducible show FnOut _ _ _ (Value.bool _) _); (refine' fnOut ?zqf (boolTrue ?zqh)); (case zqf => with_reducible assumption); (case zqh => first | rfl | k_extra "out")))
  (k_with "call ref" => (k_here; (with_reducible show wpAny _ _ (call (Value.ref 147) _) _ _ _); k_dflt (refine' use_intsN (law_limbs_at _ _ _ _ _ ?zqkN ?zqkN2 ?zqkk ?zqkk2) ?zqk1 ?zqk2 ?zqk3 ?zqk4 ?zqk5 ?zqkK ?zqkd ?zqku ?zqkp ?_; (case zqk1 => k_asm); (case zqk2 => k_asm); (case zqk3 => k_asm); (case zqk4 => k_asm); (case zqk5 => k_asm); (case zqkK => first | exact rfl | assumption); (case zqkp => exact trivial); (case zqkN => k_extra "nonneg"); (case zqkN2 => k_extra "small"); (case zqkk => omega); (case zqkk2 => omega); (case zqkd => ktr_room); (case zqku => ktr_units)); intro l9 vs9 n9 ns9 h9 tk9 F9 N9 l9n I9 e9; obtain ⟨e9, d9, v9, n9⟩ := e9; subst e9; (try dsimp only); (try k_fold)))
  (k_with "call ref" => (k_here; (with_reducible show wpAny _ _ (call (Value.ref 112) _) _ _ _); k_dflt (refine' use_int (mod_small_power_at _ _ _ _ _ _ _ _ ?zqk0 ?zqki ?zqkl ?zqkn ?zqkk2) ?zqk1 ?zqk2 ?zqk3 ?zqk4 ?zqk5 ?zqkK ?zqkd ?zqku ?zqkp ?_; (case zqk1 => k_asm); (case zqk2 => k_asm); (case zqk3 => k_asm); (case zqk4 => k_asm); (case zqk5 => k_asm); (case zqkK => first | exact rfl | assumption); (case zqkp => first | (refine' isListOf ?zqqN ?zqqm; (case zqqN => k_asm); (case zqqm => k_mem)) | is_list); (case zqki => l_ints); (case zqkl => k_extra "len"); (case zqk0 => k_extra "f0"); (case zqkn => k_extra "fk"); (case zqkk2 => omega); (case zqkd => ktr_room); (case zqku => ktr_units)); intro x9 t9 h9 tk9 F9 N9 e9; subst e9; (try dsimp only); (try k_fold)))
  (k_with "call ref" => (k_here; (with_reducible show wpAny _ _ (call (Value.ref 126) _) _ _ _); k_dflt (refine' use_int (mod_ones_at _ _ _ _ _ _ _ _ ?zqk0 ?zqki ?zqkl ?zqkn ?zqkk2) ?zqk1 ?zqk2 ?zqk3 ?zqk4 ?zqk5 ?zqkK ?zqkd ?zqku ?zqkp ?_; (case zqk1 => k_asm); (case zqk2 => k_asm); (case zqk3 => k_asm); (case zqk4 => k_asm); (case zqk5 => k_asm); (case zqkK => first | exact rfl | assumption); (case zqkp => first | (refine' isListOf ?zqqN ?zqqm; (case zqqN => k_asm); (case zqqm => k_mem)) | is_list); (case zqki => l_ints); (case zqkl => k_extra "len"); (case zqk0 => k_extra "f1"); (case zqkn => k_extra "fk"); (case zqkk2 => omega); (case zqkd => ktr_room); (case zqku => ktr_units)); intro x9 t9 h9 tk9 F9 N9 e9; subst e9; (try dsimp only); (try k_fold)))
  (k_with "call ref" => (k_here; (with_reducible show wpAny _ _ (call (Value.ref 133) _) _ _ _); k_dflt (refine' use_int (mod_ones_above_at _ _ _ _ _ _ _ _ ?zqk0 ?zqki ?zqkl ?zqkn ?zqkk2) ?zqk1 ?zqk2 ?zqk3 ?zqk4 ?zqk5 ?zqkK ?zqkd ?zqku ?zqkp ?_; (case zqk1 => k_asm); (case zqk2 => k_asm); (case zqk3 => k_asm); (case zqk4 => k_asm); (case zqk5 => k_asm); (case zqkK => first | exact rfl | assumption); (case zqkp => first | (refine' isListOf ?zqqN ?zqqm; (case zqqN => k_asm); (case zqqm => k_mem)) | is_list); (case zqki => l_ints); (case zqkl => k_extra "len"); (case zqk0 => k_extra "f1"); (case zqkn => k_extra "fl"); (case zqkk2 => omega); (case zqkd => ktr_room); (case zqku => ktr_units)); intro x9 t9 h9 tk9 F9 N9 e9; subst e9; (try dsimp only); (try k_fold)))
  k_fill
  k_dflt (refine' fn_intro (binds := [(Str.ofString "a", .int a t), (Str.ofString "n", .int n u), (Str.ofString "w", .int k v)]) ?k6 ?k7 ?k9 ?kB ?c2 ?c3 ?c4 ?c5 ?_; (case k6 => k_is); (case k7 => k_is); (case k9 => exact fun _ => BindsTo.of_eq rfl); (case c5 => decide); (case kB => exact locs rfl); (case c2 => exact rfl); (case c3 => exact rfl); (case c4 => exact rfl); k_whole)
  intro dp un gd outer A₀ base p loose mean mg mb h₀ g L' s hdp hun hpre kp F' N' B' X' T' l1
  (try dsimp only)
  (k_with "nonneg" => omega)
  (k_with "small" => exact lr_small hk2 (by decide) ha2.out)
  (k_with "len" => exact Nat.le_trans (lr_len hk ha2.out (by assumption) (by assumption) (by assumption)) (by decide))
  (k_with "f0" => first | omega | exact Int.le_trans (by decide) (rr_few1 n hk))
  (k_with "f1" => first | omega | exact rr_few1 n hk)
  (k_with "fk" => first | omega | exact Int.le_of_lt (rr_few2 n hk))
  (k_with "fl" => exact rr_few2 n hk)
  (k_with "shift0" => first | omega | exact Int.le_trans (by decide) (rr_few1 n hk))
  (k_with "shift" => first | exact rr_shift (by omega) | exact rr_shift (Int.le_trans (Int.le_of_lt (rr_few2 n hk)) (by omega)))
  (k_with "nonzero" => first | omega | exact rr_nz0 _ | exact rr_nz2 _ | exact rr_nz1 (rr_few1 n hk) | exact rr_nz1 (by omega))
  (k_with "out" => first | exact rr_a _ (by assumption) | (exfalso; first | exact rr_p (Int.le_of_lt (rr_few2 n hk)) (by assumption) (by assumption) | exact rr_p (m := (k : Int)) (Int.le_refl _) (by assumption) (by assumption) | exact rr_o (rr_few1 n hk) (by assumption) (by assumption) | exact rr_o (m := (k : Int)) (by omega) (by assumption) (by assumption)))
  k_steps
end Mine
end
section
open PySem PySem.Spec PySem.Calls PySem.W PyProof.Rows
set_option maxRecDepth 100000
namespace Mine

section
variable (w : World) (kz : Int) (hk : 2 ≤ kz) (hk2 : kz ≤ 9)
include hk hk2
theorem z_wide (l : Addr) (vs : List Value) (ns : List Int) (j many : Int) (t u v : Tok) (hi : IntsAre vs ns) (hlen : ns.length ≤ 63) (hb : ∀ x ∈ ns, Builtin.Int.intBits x ≤ 1048576) (hj : 0 ≤ j) (hj2 : j ≤ 10) (hm : 1 ≤ many) (hm2 : many ≤ 11) :
    FnC PySem.Challenge.rw_nn0006_01.row.prog w (Mine.hd.heap_39 w.params) 168 [.ref l, .int j t, .int kz u, .int many v] [] 5 (fun h => h.IsList l vs.toArray) (fun _ r _ => ∃ x t, r = .int x t ∧ 0 ≤ x ∧ x < 2 ^ (kz.toNat * many.toNat)) := by
  obtain ⟨k, rfl⟩ := Int.eq_ofNat_of_zero_le (show 0 ≤ kz by omega)
  obtain ⟨m, rfl⟩ := Int.eq_ofNat_of_zero_le (show 0 ≤ many by omega)
  exact law_wide_fn w l vs ns j k m t u v hi hlen hb hj hj2 (by omega) (by omega) (by omega) (by omega)
theorem z_inv (d : Int) (t u : Tok) (hod : d.fmod 2 = 1) (hd0 : 0 ≤ d) (hd1 : d < 2 ^ kz.toNat) :
    FnC PySem.Challenge.rw_nn0006_01.row.prog w (Mine.hd.heap_39 w.params) 72 [.int d t, .int kz u] [] 3 (fun _ => True) (fun _ r _ => ∃ x t, r = .int x t ∧ 0 < x ∧ x < 1 * 2 ^ kz.toNat ∧ (x * d).fmod (1 * 2 ^ kz.toNat) = 1) := by
  obtain ⟨k, rfl⟩ := Int.eq_ofNat_of_zero_le (show 0 ≤ kz by omega)
  have h := inverse_limb_fn w d k t u hod hd0 hd1 (by omega) (by omega)
  intro p loose mean mg mb dp un gd cn cs a ccd cl outer A₀ base h₀ L m s Q E B F X Nn T hkk hd hu hpre ret
  refine h p loose mean mg mb dp un gd cn cs a ccd cl outer A₀ base h₀ L m s Q E B F X Nn T hkk hd hu hpre fun r h' tk' kp q => ret r h' tk' kp ?_
  obtain ⟨x, t, e, h0, h1, h2⟩ := q
  have hB := two_le_pow (k := k) (by omega)
  have h4 : (4 : Int) ≤ 2 ^ k := by have := pow2_le (m := 2) (n := k) (by omega); omega
  refine ⟨x, t, e, ?_, ?_, ?_⟩
  · rcases Int.lt_or_eq_of_le h0 with q | q
    · exact q
    · subst q
      have : (2 : Int) ^ k ∣ 1 := by
        have e : (0 : Int) * d - 1 = -1 := by omega
        rw [e] at h2
        exact Int.dvd_neg.mp h2
      have := Int.le_of_dvd (by omega) this
      omega
  · rw [Int.one_mul]; exact h1
  · rw [Int.one_mul, Int.fmod_eq_emod_of_nonneg _ (by omega)]
    have := mod_of_dvd h2
    rw [Int.toNat_natCast, this, Int.emod_eq_of_lt (by omega) (by omega)]
theorem z_limbs (N : Int) (t u : Tok) (hN : 0 ≤ N) (hN2 : Small N) :
    FnC PySem.Challenge.rw_nn0006_01.row.prog w (Mine.hd.heap_39 w.params) 147 [.int N t, .int kz u] [] 3 (fun _ => True) (NewInts fun x => x = limbsOf kz.toNat N ∧ Dig (2 ^ kz.toNat) x ∧ val (2 ^ kz.toNat) x = N ∧ Nrm x ∧ x.length ≤ 500) := by
  obtain ⟨k, rfl⟩ := Int.eq_ofNat_of_zero_le (show 0 ≤ kz by omega)
  have h := law_limbs_at w N k t u hN hN2 (by omega) (by omega)
  intro p loose mean mg mb dp un gd cn cs a ccd cl outer A₀ base h₀ L m s Q E B F X Nn T hkk hd hu hpre ret
  refine h p loose mean mg mb dp un gd cn cs a ccd cl outer A₀ base h₀ L m s Q E B F X Nn T hkk hd hu hpre fun r h' tk' kp q => ret r h' tk' kp ?_
  obtain ⟨l', vs', n', ns', e, h1, h2, h3, h4, h5, h6, h7⟩ := q
  refine ⟨l', vs', n', ns', e, h1, h2, h3, h4, h5, h6, h7, ?_⟩
  refine len_of_val (two_le_pow (by omega)) h5 h7 ?_
  rw [h6, pow_pow]
  exact Int.lt_of_lt_of_le hN2.out (pow2_le (by omega))
theorem z_low (lb : Addr) (vb : List Value) (N : Int) (n : Int) (t u : Tok) (hb : IntsAre vb (limbsOf kz.toNat N)) (hlb : (limbsOf kz.toNat N).length ≤ 10) (hb1 : 0 < (limbsOf kz.toNat N).length) (hodd : ((limbsOf kz.toNat N).getD 0 0).fmod 2 = 1) (hn0 : 0 ≤ n) (hn : n ≤ 6) (db : Dig (2 ^ kz.toNat) (limbsOf kz.toNat N)) (vN : val (2 ^ kz.toNat) (limbsOf kz.toNat N) = N) :
    FnC PySem.Challenge.rw_nn0006_01.row.prog w (Mine.hd.heap_39 w.params) 91 [.ref lb, .int n t, .int kz u, .ref 161] [] 9 (fun h => h.IsList lb vb.toArray) (NewInts fun x => Dig (2 ^ kz.toNat) x ∧ Nrm x ∧ x.length ≤ 500 ∧ val (2 ^ kz.toNat) x < 1 * 2 ^ (kz * n).toNat ∧ (val (2 ^ kz.toNat) x * N - 1).fmod (1 * 2 ^ (kz * n).toNat) = 0) := by
  obtain ⟨k, rfl⟩ := Int.eq_ofNat_of_zero_le (show 0 ≤ kz by omega)
  obtain ⟨m, rfl⟩ := Int.eq_ofNat_of_zero_le hn0
  rw [Int.toNat_natCast] at *
  have h := inverse_low_fn w lb vb _ m k t u hb hlb hb1 hodd (by omega) (by omega) (by omega) db
  intro p loose mean mg mb dp un gd cn cs a ccd cl outer A₀ base h₀ L mm s Q E B F X Nn T hkk hd hu hpre ret
  refine h p loose mean mg mb dp un gd cn cs a ccd cl outer A₀ base h₀ L mm s Q E B F X Nn T hkk hd hu hpre fun r h' tk' kp q => ret r h' tk' kp ?_
  obtain ⟨l', vs', n', x, e, h1, h2, h3, h4, h5, h6, h7⟩ := q
  have hB := two_le_pow (k := k) (by omega)
  have hv := val_range (by omega) h4
  have hlt : val (2 ^ k) x < (2 ^ k) ^ m := Int.lt_of_lt_of_le hv.2 (pow_mono (by omega) h6)
  have hp : (0 : Int) < (2 ^ k) ^ m := Int.pow_pos (by omega)
  refine ⟨l', vs', n', x, e, h1, h2, h3, h4, h5, by omega, ?_, ?_⟩
  · rw [lr_unit]; exact hlt
  · rw [lr_unit, Int.fmod_eq_emod_of_nonneg _ (by omega)]
    rw [vN] at h7
    exact Int.emod_eq_zero_of_dvd h7
theorem z_number (l : Addr) (vs : List Value) (ns : List Int) (t : Tok) (hi : IntsAre vs ns) (hlen : ns.length ≤ 500) (dn : Dig (2 ^ kz.toNat) ns) (nn : Nrm ns) :
    FnC PySem.Challenge.rw_nn0006_01.row.prog w (Mine.hd.heap_39 w.params) 154 [.ref l, .int kz t] [] 3 (fun h => h.IsList l vs.toArray) (fun _ r _ => ∃ x t, r = .int x t ∧ x = val (2 ^ kz.toNat) ns) := by
  obtain ⟨k, rfl⟩ := Int.eq_ofNat_of_zero_le (show 0 ≤ kz by omega)
  exact law_number_fn w l vs ns k t hi hlen (by omega) (by omega) dn nn
theorem z_right (a b n : Int) (t u v x : Tok) (ha : 0 ≤ a) (ha2 : Hid (a < (2 ^ kz.toNat) ^ 20)) (hb : 0 < b) (hb2 : Hid (b < (2 ^ kz.toNat) ^ 10)) (hodd : b % 2 = 1) (hn0 : 0 ≤ n) (hn : n ≤ 6) :
    FnC PySem.Challenge.rw_nn0006_01.row.prog w (Mine.hd.heap_39 w.params) 182 [.int a t, .int b u, .int n v, .int kz x] [] 12 (fun _ => True) (fun _ r _ => r = .bool true) := by
  obtain ⟨k, rfl⟩ := Int.eq_ofNat_of_zero_le (show 0 ≤ kz by omega)
  obtain ⟨m, rfl⟩ := Int.eq_ofNat_of_zero_le hn0
  exact low_right_fn w a b m k t u v x ha ha2 hb hb2 hodd (by omega) (by omega) (by omega)
theorem z_rests (a n : Int) (t u v : Tok) (ha : 0 ≤ a) (ha2 : Hid (a < (2 ^ kz.toNat) ^ 20)) (hn0 : 0 ≤ n) (hn : n ≤ 6) :
    FnC PySem.Challenge.rw_nn0006_01.row.prog w (Mine.hd.heap_39 w.params) 189 [.int a t, .int n u, .int kz v] [] 9 (fun _ => True) (fun _ r _ => r = .bool true) := by
  obtain ⟨k, rfl⟩ := Int.eq_ofNat_of_zero_le (show 0 ≤ kz by omega)
  obtain ⟨m, rfl⟩ := Int.eq_ofNat_of_zero_le hn0
  exact rests_right_fn w a m k t u v ha ha2 (by omega) (by omega) (by omega)
end
section
variable {prog : Program} {w : World} {K : Frag} {f : Addr} {vs : List Value} {lv : Nat} {pre : Heap → Prop}
  {p : Program} {loose : List Str} {mean : ExcName → Option Value} {mg mb : Str → Option Value} {dp un : Nat} {gd : Option (List Code)} {cn : Str} {cs : Scope} {a : Addr} {ccd : Value} {cl : List (Str × Addr)} {outer : List Env} {A₀ : Around} {base h₀ : Heap} {L : Addr} {m : Str → Option Value} {s : Shared}
  {Q E : Value → Shared → Prop} {news : List (Addr × Obj)}
theorem use_true (C : FnC prog w K f vs [] lv pre (fun _ r _ => r = .bool true)) (B : Below A₀ base outer h₀) (F : Fr h₀ L s.heap m) (X : K.In h₀) (N : News h₀ L s.heap news) (T : Top p loose mean mg mb h₀) (hk : cs.kind = .function) (hd : dp + lv < recursionLimit) (hu : un + 10 * lv < cLine) (hp : pre s.heap)
    (ret : ∀ h' tk', Fr h₀ L h' m → News h₀ L h' news → Q (.bool true) { s with heap := h', toks := tk' }) :
    wpAny (model prog w) (ktrTop dp un gd cn cs L a ccd cl outer) (call (.ref f) vs) Q E s := by
  refine C p loose mean mg mb dp un gd cn cs a ccd cl outer A₀ base h₀ L m s Q E B F X (fun _ h => nomatch h) T hk hd hu hp ?_
  rintro r h' tk' k rfl
  exact ret h' tk' (keptFr k F) (keptNews k N)
end
section
theorem zw (y : Int) : 2 ≤ 2 + y.fmod 8 ∧ 2 + y.fmod 8 ≤ 9 := by
  rw [Int.fmod_eq_emod_of_nonneg _ (by omega)]; omega
theorem zn (y : Int) : 0 ≤ y.fmod 7 ∧ y.fmod 7 ≤ 6 := by
  rw [Int.fmod_eq_emod_of_nonneg _ (by omega)]; omega
variable {K x a n : Int}
theorem zb (hK : 2 ≤ K) (hx0 : 0 ≤ x) (hx : x < 2 ^ (K.toNat * Int.toNat 7)) : 0 < Builtin.bitOr x 1 ∧ Builtin.bitOr x 1 % 2 = 1 ∧ Builtin.bitOr x 1 < 2 ^ (K.toNat * 7) := by
  have e : Builtin.bitOr x 1 = x + 1 - x % 2 := by rw [bitOr_and, bitAnd_m1]
  obtain ⟨j, hj⟩ : ∃ j, K.toNat * 7 = j + 1 := ⟨K.toNat * 7 - 1, by omega⟩
  have hx' : x < 2 ^ (K.toNat * 7) := hx
  rw [hj, Int.pow_succ] at hx' ⊢
  rw [e]
  generalize (2 : Int) ^ j = P at *
  omega
theorem z2b (hK : 2 ≤ K) (hx0 : 0 ≤ x) (hx : x < 2 ^ (K.toNat * Int.toNat 7)) : 0 ≤ 2 * Builtin.bitOr x 1 := by
  have := (zb hK hx0 hx).1
  omega
theorem zb63 (hK : 2 ≤ K) (hK2 : K ≤ 9) (hx0 : 0 ≤ x) (hx : x < 2 ^ (K.toNat * Int.toNat 7)) : Builtin.bitOr x 1 < 2 ^ 63 := by
  have h := zb hK hx0 hx
  have := pow2_le (m := K.toNat * 7) (n := 63) (by omega)
  omega
theorem zmulb (z : Int) (hK : 2 ≤ K) (hK2 : K ≤ 9) (hx0 : 0 ≤ x) (hx : x < 2 ^ (K.toNat * Int.toNat 7)) : IntMulOk z (Builtin.bitOr x 1) := by
  have h := zb hK hx0 hx
  have h2 := zb63 hK hK2 hx0 hx
  exact mulOk_right (k := 63) (by omega) h2 (by decide)
theorem zmulw (z : Int) (hK : 2 ≤ K) (hK2 : K ≤ 9) : IntMulOk K z := IntMulOk.of_left (Nat.le_trans (intBits_le_iff (m := 10).mpr (by omega)) (by decide))
theorem zfm (z : Int) (K : Int) : 0 ≤ z.fmod (1 * 2 ^ K.toNat) ∧ z.fmod (1 * 2 ^ K.toNat) < 2 ^ K.toNat := by
  have := pow2_pos K.toNat
  rw [Int.one_mul, Int.fmod_eq_emod_of_nonneg _ (by omega)]
  exact ⟨Int.emod_nonneg _ (by omega), Int.emod_lt_of_pos _ this⟩
theorem zmulf (z y : Int) (hK2 : K ≤ 9) : IntMulOk z (y.fmod (1 * 2 ^ K.toNat)) := mulOk_right (zfm y K).1 (zfm y K).2 (by omega)
theorem zs1 (hK : 2 ≤ K) (hn : 0 ≤ n) : 0 ≤ K * n := Int.mul_nonneg (by omega) hn
theorem zs2 (hK : 2 ≤ K) (hK2 : K ≤ 9) (hn0 : 0 ≤ n) (hn : n ≤ 6) : (Builtin.Int.intBits 1 : Int) + K * n ≤ 2 ^ 27 := by
  have : K * n ≤ 9 * 6 := Int.mul_le_mul hK2 hn hn0 (by omega)
  exact kbm_shl (m := 1) (by decide) (by omega) (by decide)
theorem zodd (hK : 2 ≤ K) (hx0 : 0 ≤ x) (hx : x < 2 ^ (K.toNat * Int.toNat 7)) : ((Builtin.bitOr x 1).fmod (1 * 2 ^ K.toNat)).fmod 2 = 1 := by
  have h := (zb hK hx0 hx).2.1
  have hp := pow2_pos K.toNat
  rw [Int.one_mul, Int.fmod_eq_emod_of_nonneg _ (by omega), Int.fmod_eq_emod_of_nonneg _ (by omega)]
  rw [Int.emod_emod_of_dvd]
  · exact h
  · obtain ⟨j, hj⟩ : ∃ j, K.toNat = j + 1 := ⟨K.toNat - 1, by omega⟩
    rw [hj, Int.pow_succ]; exact Int.dvd_mul_left _ _
theorem zb_lt {m : Nat} (hm : 8 ≤ m) (hK : 2 ≤ K) (hx0 : 0 ≤ x) (hx : x < 2 ^ (K.toNat * Int.toNat 7)) : Builtin.bitOr x 1 < (2 ^ K.toNat) ^ m ∧ 2 * Builtin.bitOr x 1 < (2 ^ K.toNat) ^ m := by
  have h := zb hK hx0 hx
  rw [pow_pow]
  have h1 : K.toNat * 7 + 1 ≤ K.toNat * m := by
    have := Nat.mul_le_mul_left K.toNat hm
    omega
  have h2 := pow2_le h1
  rw [Int.pow_succ] at h2
  omega
theorem zsmall (hK : 2 ≤ K) (hK2 : K ≤ 9) (hx0 : 0 ≤ x) (hx : x < 2 ^ (K.toNat * Int.toNat 7)) : Small (Builtin.bitOr x 1) ∧ Small (2 * Builtin.bitOr x 1) := by
  have h := zb_lt (m := 10) (by decide) hK hx0 hx
  exact ⟨lr_small (k := K.toNat) (by omega) (by decide) h.1, lr_small (k := K.toNat) (by omega) (by decide) h.2⟩
theorem zlen (hK : 2 ≤ K) (hx0 : 0 ≤ x) (hx : x < 2 ^ (K.toNat * Int.toNat 7)) (v : val (2 ^ K.toNat) (limbsOf K.toNat (Builtin.bitOr x 1)) = Builtin.bitOr x 1) (d : Dig (2 ^ K.toNat) (limbsOf K.toNat (Builtin.bitOr x 1))) (nn : Nrm (limbsOf K.toNat (Builtin.bitOr x 1))) :
    (limbsOf K.toNat (Builtin.bitOr x 1)).length ≤ 10 := lr_len (by omega) (zb_lt (by decide) hK hx0 hx).1 v d nn
theorem zodd2 (hK : 2 ≤ K) (hx0 : 0 ≤ x) (hx : x < 2 ^ (K.toNat * Int.toNat 7)) (v : val (2 ^ K.toNat) (limbsOf K.toNat (Builtin.bitOr x 1)) = Builtin.bitOr x 1) :
    0 < (limbsOf K.toNat (Builtin.bitOr x 1)).length ∧ ((limbsOf K.toNat (Builtin.bitOr x 1)).getD 0 0).fmod 2 = 1 := lr_odd (by omega) (zb hK hx0 hx).2.1 v
theorem za (ha : a < 2 ^ (K.toNat * Int.toNat 11)) : Hid (a < (2 ^ K.toNat) ^ 20) := by
  refine ⟨?_⟩
  rw [pow_pow]
  exact Int.lt_of_lt_of_le ha (pow2_le (Nat.mul_le_mul_left _ (by decide)))
theorem zab (hK : 2 ≤ K) (ha0 : 0 ≤ a) (ha : a < 2 ^ (K.toNat * Int.toNat 11)) (hx0 : 0 ≤ x) (hx : x < 2 ^ (K.toNat * Int.toNat 7)) : 0 ≤ a * Builtin.bitOr x 1 ∧ Hid (a * Builtin.bitOr x 1 < (2 ^ K.toNat) ^ 20) := by
  have h := zb hK hx0 hx
  refine ⟨Int.mul_nonneg ha0 (by omega), ⟨?_⟩⟩
  have ha' : a < 2 ^ (K.toNat * 11) := ha
  have h1 : a * Builtin.bitOr x 1 ≤ (2 ^ (K.toNat * 11) - 1) * 2 ^ (K.toNat * 7) := Int.mul_le_mul (by omega) (by omega) (by omega) (by have := pow2_pos (K.toNat * 11); omega)
  have h2 : ((2 : Int) ^ (K.toNat * 11) - 1) * 2 ^ (K.toNat * 7) = 2 ^ (K.toNat * 18) - 2 ^ (K.toNat * 7) := by
    have e : (2 : Int) ^ (K.toNat * 18) = 2 ^ (K.toNat * 11) * 2 ^ (K.toNat * 7) := by rw [← Int.pow_add]; congr 1; omega
    rw [e]; grind
  have h3 := pow2_pos (K.toNat * 7)
  rw [pow_pow]
  have := pow2_le (m := K.toNat * 18) (n := K.toNat * 20) (Nat.mul_le_mul_left _ (by decide))
  omega
end
section
variable {K x : Int}
theorem zeven {y : Int} (hK : 2 ≤ K) (v : val (2 ^ K.toNat) (limbsOf K.toNat (2 * y)) = 2 * y) : ((limbsOf K.toNat (2 * y)).getD (Int.toNat 0) 0).fmod 2 = 0 := by
  rw [Int.fmod_eq_emod_of_nonneg _ (by omega)]
  obtain ⟨j, hj⟩ : ∃ j, K.toNat = j + 1 := ⟨K.toNat - 1, by omega⟩
  generalize limbsOf K.toNat (2 * y) = x at *
  cases x with
  | nil => rfl
  | cons a r =>
    simp only [val] at v
    rw [hj] at v
    have e : (2 : Int) ^ (j + 1) * val (2 ^ (j + 1)) r = 2 * (2 ^ j * val (2 ^ (j + 1)) r) := by rw [Int.pow_succ]; grind
    have e2 : (a :: r).getD (Int.toNat 0) 0 = a := rfl
    rw [e2]
    omega
theorem zne0 (hK : 2 ≤ K) (hx0 : 0 ≤ x) (hx : x < 2 ^ (K.toNat * Int.toNat 7)) (v : val (2 ^ K.toNat) (limbsOf K.toNat (2 * Builtin.bitOr x 1)) = 2 * Builtin.bitOr x 1) : ((limbsOf K.toNat (2 * Builtin.bitOr x 1)).length : Int) ≠ 0 := by
  have h := (zb hK hx0 hx).1
  intro e
  have e' : limbsOf K.toNat (2 * Builtin.bitOr x 1) = [] := List.length_eq_zero_iff.mp (by omega)
  rw [e'] at v
  simp only [val] at v
  omega
end
theorem iteE {x c : Int} (h : x = c) : (x == c) = true := by simp [h]
theorem iteF {x c : Int} (h : x ≠ c) : ¬ ((x == c) = true) := by simp [h]
theorem ite_negF {x c : Int} {a b : Prop} (h : x ≠ c) (k : x ≠ c → b) : if (x == c) = true then a else b := by rw [if_neg (iteF h)]; exact k h
theorem iteA {p : Prop} [Decidable p] (h : p) : decide p = true := decide_eq_true h
theorem iteB {x c : Int} (h : x = c) : ¬ ((x != c) = true) := by simp [h]
theorem iteC {a b : Int} (h : b < a) : ¬ (decide (a ≤ b) = true) := by simp; omega
theorem iteD {p : Prop} [Decidable p] (h : p) : ¬ ((!decide p) = true) := by simp [h]
section
variable {M : Model} {A : Around} {base g g₂ h : Heap} {outer : List Env} {L a e t : Addr} {m : Str → Option Value} {name : Str} {scope : Scope} {cd : Value} {cl : List (Str × Addr)} {Q : Unit → Shared → Prop} {E : Value → Shared → Prop} {s' : Shared} {news : List (Addr × Obj)}
theorem leave_onX {cls : Value} {vs : List Value} (K : Below A base outer g) (F : Fr g L g₂ m) (R : RaisedK base (envX name scope L a cd cl :: outer) e cls t vs news s'.heap) (hsm : g₂.UpToSlots s'.heap)
    (hQ : ∀ h', RaisedK base outer e cls t vs news h' → g.UpToSlots h' → Q () { s' with heap := h' }) :
    wpAny M (A.deeper (envX name scope L a cd cl)) (leaving (envX name scope L a cd cl) (.ref e)) Q E s' := by
  obtain ⟨⟨B, hB, hl, hfl, hnew⟩, htup⟩ := R
  exact wpAny_leaves_onW (Around.frames_deeper K.stack) rfl hfl fun h' x1 x2 => hQ h' ⟨⟨B, hB, hl, x1, hnew⟩, htup.of_slots x2⟩ ((Heap.UpToSlots.of_keeps F.keep).trans (hsm.trans x2))
end
end Mine
end
section
open PySem PySem.Spec PySem.Calls PySem.W PyProof.Rows
set_option maxRecDepth 100000
namespace Mine

section
variable {prog : Program} {w : World} {A₀ : Around} {E : Value → Shared → Prop} {s' : Shared} {base gr G : Heap} {outer : List Env} {L a e t C : Addr} {m : Str → Option Value} {name : Str} {scope : Scope} {cd : Value}
  {vs : List Value} {b₀ : Stmt} {suite : List Stmt} {pos np : Pos} {rest : List ExceptHandler} {Q : Flow → Shared → Prop} {news : List (Addr × Obj)} {KF : Frag} {x : Str}
/-- an own exception is caught by a class that a local name holds -/
theorem caught_own (K : Below A₀ base outer gr) (R : RaisedK base (envOf name scope L a cd :: outer) e (.ref C) t vs news s'.heap) (hsm : G.UpToSlots s'.heap) (ns : Heap.Ns G L m) (hv : m x = some (.ref C)) (XB : KF.In base) (q : ktsIn KF C "BaseException" = true)
    (k : ∀ h', base.StaysIn h' → G.UpToSlots h' → (∀ q ∈ news, h'.get? q.1 = some q.2) → ∀ E', wpAny (model prog w) ((A₀.deeper (envOf name scope L a cd)).mark (some (.ref e))) (execs (b₀ :: suite) (envOf name scope L a cd)) Q E' { s' with heap := h' })
    (hk : scope.kind = .function) (hx : (envOf name scope L a cd).kindOf x = some .local) (hd : (x == ("__debug__" : Str)) = false) :
    wpAny (model prog w) (A₀.deeper (envOf name scope L a cd)) (noteFrame (.ref e) (envOf name scope L a cd))
      (fun _ s₂ => wpAny (model prog w) (A₀.deeper (envOf name scope L a cd)) (setFlight (.ref e) none) (fun _ s₃ =>
        wpAny (model prog w) (A₀.deeper (envOf name scope L a cd)) (handleBy (.ref e) (envOf name scope L a cd) (.ExceptHandler (some (.Name x np)) none (b₀ :: suite) pos :: rest)) Q E s₃) E s₂) E s' := by
  obtain ⟨⟨B, hB, hl, hfl, -⟩, -⟩ := R
  refine wpAny_looks_onW (Around.frames_deeper K.stack) rfl hfl fun h₄ hheld₄ hsm₄ => ?_
  refine wpAny_landsW hheld₄ fun h₅ hheld hsm₅ => ?_
  have S5 : base.StaysIn h₅ := fun b o e => hheld.1 b o (hB b o e)
  have up := (hsm.trans hsm₄).trans hsm₅
  obtain ⟨ob, hob, hobc⟩ := hheld.there
  obtain ⟨_, _, _, _, bm, _, _, _, _, _, _, _, _, _, _, _, _, hC, hbase, -⟩ := kts_cls (XB.keeps S5) q
  refine wpAny_handleBy_cons (codeAny_handlers_test (wpAny_Name (wpAny_loadName_local hk hx (up.ns ns) hv ?_) hd)) (by intro q; cases q)
  refine wpAny_excMatches_sub_self hC hob hobc hbase (codeAny_handlers_suite ?_)
  refine lands_againW hheld fun h₆ hfl₆ hsm₆ => ?_
  exact k h₆ (fun b o e => hfl₆.1 b o (hB b o e)) (up.trans hsm₆) (fun q hq => hfl₆.1 _ _ (hl q hq).1) _
end

/-- a lambda's body has raised an exception of the class C -/
def LamRaised (base gl : Heap) (L₂ : Addr) (C : Addr) (envs : List Env) (news : List (Addr × Obj)) (s : Shared) (e : Value) (s' : Shared) : Prop :=
  ∃ ea g₂ m₂ t vs news' h' tk, e = .ref ea ∧ s' = { s with heap := h', toks := tk } ∧ Fr gl L₂ g₂ m₂ ∧ RaisedK base envs ea (.ref C) t vs news' h' ∧ g₂.UpToSlots h' ∧ ∀ q ∈ news, q ∈ news'
theorem lamRaised {base gl g₂ : Heap} {L₂ C ea t : Addr} {envs : List Env} {news news' : List (Addr × Obj)} {s : Shared} {m₂ : Str → Option Value} {vs : List Value} {h' : Heap} {tk : Nat} (F : Fr gl L₂ g₂ m₂) (R : RaisedK base envs ea (.ref C) t vs news' h') (U : g₂.UpToSlots h') (sub : ∀ q ∈ news, q ∈ news') :
    LamRaised base gl L₂ C envs news s (.ref ea) { s with heap := h', toks := tk } := ⟨ea, g₂, m₂, t, vs, news', h', tk, rfl, rfl, F, R, U, sub⟩

set_option maxHeartbeats 4000000 in
theorem refuses_fn (w : World) {p : Program} {loose : List Str} {mean : ExcName → Option Value} {mg mb : Str → Option Value} {gd : Option (List Code)} {cn : Str} {cs : Scope} {a : Addr} {ccd : Value} {cl : List (Str × Addr)} {A₀ : Around} {h₀ : Heap} {L : Addr} {m : Str → Option Value} {s : Shared}
    {Q E : Value → Shared → Prop} {news : List (Addr × Obj)} {f c' C : Addr} {ln lq : Str} {lp : Arguments} {lb : Expr} {ls : Scope} {lc : List (Str × Addr)} {lpm ctv : Value} {oc' : Obj} {lvs : Array Value} {lt : Tok}
    (B : Below A₀ h₀ [] h₀) (F : Fr h₀ L s.heap m) (X : (Mine.hd.heap_39 w.params).In h₀) (N : News h₀ L s.heap news) (T : Top p loose mean mg mb h₀) (hkk : cs.kind = .function)
    (ho : (f, kla_obj ln lq lp lb ls lc lpm c' ctv) ∈ news) (hoc : (c', oc') ∈ news) (hd1 : oc'.data = .fields lvs) (hd2 : lvs[1]? = some (.str lq lt)) (hbind : bindArgs (kla_fn ln lq lp lb ls lc lpm (.ref c') ctv) ⟨[], []⟩ = pure [])
    (hco : ls.isCoroutine = false) (hgen : ls.isGenerator = false) (hlk : ls.kind = .function) (hcell : ∀ x ∈ ls.names, x.2 ≠ .cell) (hC : ktsIn (Mine.hd.heap_39 w.params) C "BaseException" = true)
    (work : ∀ (re : Env) (gl : Heap) (L₂ : Addr) (h₁ : Heap) (tk : Nat), Fr gl L₂ h₁ (fun y => ([] : List (Str × Value)).reverse.lookup y) → News gl L₂ h₁ news → Below ((ktrTop 302 7 gd cn cs L a ccd cl []).deeper re) h₀ (re :: envX cn cs L a ccd cl :: []) gl → (Mine.hd.heap_39 w.params).In gl → Top p loose mean mg mb gl →
      wpAny (model Challenge.rw_nn0006_01.row.prog w) (Around.deeper ((ktrTop 302 7 gd cn cs L a ccd cl []).deeper re) (envX lq ls L₂ f (.ref c') lc)) (eval lb (envX lq ls L₂ f (.ref c') lc))
        (fun _ _ => False) (LamRaised h₀ gl L₂ C (envX lq ls L₂ f (.ref c') lc :: re :: envX cn cs L a ccd cl :: []) news s) { s with heap := h₁, toks := tk })
    (ret : ∀ h' tk', Fr h₀ L h' m → News h₀ L h' news → Q (.bool true) { s with heap := h', toks := tk' }) :
    wpAny (model Challenge.rw_nn0006_01.row.prog w) (ktrTop 302 7 gd cn cs L a ccd cl []) (call (.ref 175) [.ref f, .ref C]) Q E s := by
  w_top off
  k_with_none
  (k_with "ne" => (refine neN ?_; (try dsimp only); first | exact neOf (by with_reducible assumption) (by k_mem) | exact Ne.symm (neOf (by with_reducible assumption) (by k_mem)) | exact ltOf (by with_reducible assumption) (by k_mem) | exact Ne.symm (ltOf (by with_reducible assumption) (by k_mem)) | omega))
  revert X
  k_fill
  intro X
  refine wpAny_call ?_
  k_dflt (refine' enterY (binds := [(Str.ofString "work", .ref f), (Str.ofString "kind", .ref C)]) B F X N T rfl rfl hkk ?k6 ?k7 ?k8 ?k9 ?kB ?_ ?c2 ?c3 ?c4 ?c5; (case k6 => k_is); (case k7 => k_is); (case k8 => show (302 : Nat) < recursionLimit; decide); (case k9 => exact BindsTo.of_eq rfl); (case c5 => decide); (case kB => exact locs rfl); (case c2 => exact rfl); (case c3 => exact rfl); (case c4 => exact rfl); k_whole)
  intro gr Lr h₁ kp F' N' B' X' T' l1
  (try dsimp only)
  refine wpAny_execs_cons ?_
  refine wpAny_Try_except ?_
  refine wpAny_execs_cons ?_
  refine wpAny_Expr ?_
  refine Call_ ?_
  refine nameX_L F' rfl ?_ rfl rfl
  refine callWith_F0 (FnAt.of N' ho) ?_
  refine wpAny_call ?_
  refine kla_code B' F' X' N' T' rfl rfl rfl ho (codeRec_news N' hoc hd1 hd2) ?room hbind ?hloc (fun gl L₂ h₂ FG F2 N2 B2 X2 T2 => ?_) hco hgen hlk hcell
  case room => show (303 : Nat) < recursionLimit; decide
  case hloc => exact fun y h => nomatch h
  refine wpAny_mono (work _ gl L₂ h₂ _ F2 N2 B2 X2 T2) (fun _ _ q => q.elim) (fun e s' q => ?_)
  obtain ⟨ea, g₂, m₂, t, vs, news', h', tk, rfl, rfl, F3, R, U, sub⟩ := q
  refine leave_onX B2 F3 R U (fun h'' R2 U2 => ?_)
  refine caught_own B' R2 U2 FG.ns rfl X hC (fun h₆ st up ks E' => ?_) rfl rfl (by decide)
  refine wpAny_execs_cons ?_
  refine wpAny_Return_some ?_
  walk1
  refine ret h₆ _ ⟨up.ns ?_, st, F.above⟩ (fun q hq => ⟨ks q (sub q hq), (N q hq).2⟩)
  obtain ⟨oL, es, ep, hL, r⟩ := F.ns
  exact ⟨oL, es, ep, FG.keep _ _ (kp _ _ (fun hm => by
    obtain ⟨q, hq, e⟩ := List.mem_map.mp hm
    exact (N q hq).2.1 e) hL), r⟩
end Mine
end
section
open PySem PySem.Spec PySem.Calls PySem.W PyProof.Rows
set_option maxRecDepth 100000
namespace Mine


/-- the end of the law's body -/
def LawOut (g : Heap) (s : Shared) (v : Value) (s' : Shared) : Prop :=
  v = .bool true ∧ ∃ L' m' h' tk ps, s' = { s with heap := h', toks := tk } ∧ Fr g L' h' m' ∧ News g L' h' [(191, tabObj ps)]
theorem lawOut {g h' : Heap} {s : Shared} {L' : Addr} {m' : Str → Option Value} {tk : Nat} {ps : Array Value} {news : List (Addr × Obj)} (F : Fr g L' h' m') (N : News g L' h' news) (hm : (191, tabObj ps) ∈ news) : LawOut g s (.bool true) { s with heap := h', toks := tk } :=
  ⟨rfl, L', m', h', tk, ps, rfl, F, fun p hp => by rw [List.mem_singleton.mp hp]; exact N _ hm⟩
/-- the law's body, from its frame on -/
def LawC (prog : Program) (w : World) (K : Frag) (vs : List Value) : Prop :=
  ∀ {oc : Value} {od : Option Addr} {osl : Array (Option Value)} {name qual : Str} {params : Arguments} {body : List Stmt} {scope : Scope} {dV kV doc pm : Value} {an : Option Addr} {cdv ct : Value},
    K.lookup 196 = some ⟨oc, od, .func (fnOf name qual params body scope dV kV doc pm an cdv ct), osl⟩ →
    ∀ (f : Addr) (p : Program) (loose : List Str) (mean : ExcName → Option Value) (mg mb : Str → Option Value) (g : Heap) (L sl : Addr) (s : Shared) (cells : List (Addr × Obj)),
      g.IsList sl vs.toArray → CodeHd g 195 191 →
      Fr g L s.heap (bindL (envOfC qual scope L f cdv).kindOf [(Str.ofString "script", .ref sl)] fun _ => none) → News g L s.heap (cells ++ [(191, tabObj #[])]) →
      CellsAre (bindC (envOfC qual scope L f cdv).kindOf [(Str.ofString "script", .ref sl)] fun _ => none) (cellsFrom (L + 1) scope.names []) cells → Below callerA g [] g → K.In g → Top p loose mean mg mb g → @LT.lt Nat _ 191 L →
      wpAny (model prog w) (callerA.deeper (envOfC qual scope L f cdv)) (execs body (envOfC qual scope L f cdv))
        (fun fl s' => LawOut g s (match fl with | .ret v => v | _ => .none) s') (fun _ _ => False) s
theorem law_intro {prog : Program} {w : World} {K : Frag} {vs : List Value}
    {oc : Value} {od : Option Addr} {osl : Array (Option Value)} {name qual : Str} {params : Arguments} {body : List Stmt} {scope : Scope} {dV kV doc pm : Value} {an : Option Addr} {cdv ct : Value}
    (ho : K.lookup 196 = some ⟨oc, od, .func (fnOf name qual params body scope dV kV doc pm an cdv ct), osl⟩)
    (h : ∀ (f : Addr) (p : Program) (loose : List Str) (mean : ExcName → Option Value) (mg mb : Str → Option Value) (g : Heap) (L sl : Addr) (s : Shared) (cells : List (Addr × Obj)),
      g.IsList sl vs.toArray → CodeHd g 195 191 →
      Fr g L s.heap (bindL (envOfC qual scope L f cdv).kindOf [(Str.ofString "script", .ref sl)] fun _ => none) → News g L s.heap (cells ++ [(191, tabObj #[])]) →
      CellsAre (bindC (envOfC qual scope L f cdv).kindOf [(Str.ofString "script", .ref sl)] fun _ => none) (cellsFrom (L + 1) scope.names []) cells → Below callerA g [] g → K.In g → Top p loose mean mg mb g → @LT.lt Nat _ 191 L →
      wpAny (model prog w) (callerA.deeper (envOfC qual scope L f cdv)) (execs body (envOfC qual scope L f cdv))
        (fun fl s' => LawOut g s (match fl with | .ret v => v | _ => .none) s') (fun _ _ => False) s) : LawC prog w K vs := by
  intro oc' od' osl' name' qual' params' body' scope' dV' kV' doc' pm' an' cdv' ct' h2
  have e := ho.symm.trans h2
  cases e
  exact h


set_option maxHeartbeats 40000000 in
theorem law_fn (w : World) (vs : List Value) (ns : List Int) (hI : IntsAre vs ns) (hlen : ns.length ≤ 63) (hbits : ∀ x ∈ ns, Builtin.Int.intBits x ≤ 1048576) :
    LawC PySem.Challenge.rw_nn0006_01.row.prog w (Mine.hd.heap_39 w.params) vs := by
  w_top off
  k_with_none
  (k_with "ne" => (refine neN ?_; (try dsimp only); first | exact neOf (by with_reducible assumption) (by k_mem) | exact Ne.symm (neOf (by with_reducible assumption) (by k_mem)) | exact ltOf (by with_reducible assumption) (by k_mem) | exact Ne.symm (ltOf (by with_reducible assumption) (by k_mem)) | omega))
  (k_with "FnOut" => (k_here; exfalso; k_extra "absurd"))
  (k_with "FnOut" => (k_here; (with_reducible show FnOut _ _ _ (Value.ref _) _); (rename News _ _ _ _ => N9); (try simp only [List.push_toArray] at N9); (refine' fnOut ?zqf (newInts _ ?zqkp N9 ?zqm ?zqi ?zqh)); (case zqf => with_reducible assumption); (case zqkp => assumption); (case zqm => k_mem); (case zqi => k_intsEnd); (case zqh => k_extra "out")))
  (k_with "FnOut" => (k_here; (with_reducible show FnOut _ _ _ (Value.int _ _) _); (refine' fnOut ?zqf ⟨_, _, rfl, ?zqh⟩); (case zqf => with_reducible assumption); (case zqh => k_extra "out")))
  (k_with "pyIter ref" => ((with_reducible show wpAny _ _ (pyIter (Value.ref _)) (fun it s₂ => LoopAtV _ _ _ _ _ _ _ _ _ it s₂) _ _); (rename News _ _ _ _ => N9); (simp only [List.nil_append] at N9); l_hasStore; (try dsimp only); k_rangeUnr; (try dsimp only)))
  (k_with "execs nil" => (k_here; (refine wpAny_execs_nil ?_); (try dsimp only)))
  (k_with "execs cons" => (k_here; (refine wpAny_execs_cons ?_); (try dsimp only)))
  (k_with "callWith ref" => (k_here; k_dflt (refine' callWith_K ?zqk1 ?zqk2 ?_; (case zqk1 => k_asm); (case zqk2 => k_is); k_whole)))
  (k_with "ite" => (k_here; first | (refine ite_pos (iteA (by with_reducible assumption)) ?_) | (refine ite_neg (iteB (by with_reducible assumption)) ?_) | (refine ite_neg (iteC (by with_reducible assumption)) ?_) | (refine ite_neg (iteD (by with_reducible assumption)) ?_)))
  (k_with "ite" => (k_here; with_reducible refine ite_negF (zne0 (zw _).1 (by with_reducible assumption) (by with_reducible assumption) (by with_reducible assumption)) (fun hz9 => ?_)))
  (k_with "ite" => (k_here; with_reducible refine ite_pos (iteE (zeven (zw _).1 (by with_reducible assumption))) ?_))
  (k_with "call ref" => (k_here; (with_reducible show wpAny _ (Around.deeper callerA _) (call (Value.ref 175) _) _ _ _); k_dflt (refine' refuses_fn _ ?zqB ?zqF ?zqX ?zqN ?zqT ?zqhk ?zqho ?zqhoc ?zqhd1 ?zqhd2 ?zqhbind ?zqhco ?zqhgen ?zqhlk ?zqhcell ?zqhC _ _; (case zqB => k_asm); (case zqF => k_asm); (case zqX => k_asm); (case zqN => k_asm); (case zqT => k_asm); (case zqhk => exact rfl); (case zqho => k_mem); (case zqhoc => k_mem); (case zqhd1 => assumption); (case zqhd2 => assumption); (case zqhbind => exact rfl); (case zqhco => exact rfl); (case zqhgen => exact rfl); (case zqhlk => exact rfl); (case zqhcell => decide); (case zqhC => kts_isx)); (all_goals ((first | intro re9 gl9 L9 h9 tk9 F9 N9 B9 X9 T9 | intro h9 tk9 F9 N9); (try dsimp only); (try k_fold)))))
  (k_with "LawOut" => (k_here; k_dflt (refine' lawOut ?zqF ?zqN ?zqhm; (case zqF => k_asm); (case zqN => k_asm); (case zqhm => k_mem))))
  (k_with "LamRaised" => (k_here; k_dflt (refine' lamRaised ?zqF ?zqR ?zqU ?zqsub; (case zqR => assumption); (case zqU => assumption); (case zqF => assumption); (case zqsub => (intro q9 hq9; first | exact hq9 | exact List.mem_cons_of_mem _ hq9 | exact List.mem_cons_of_mem _ (List.mem_cons_of_mem _ hq9) | exact List.mem_cons_of_mem _ (List.mem_cons_of_mem _ (List.mem_cons_of_mem _ hq9)))))))
  (k_with "eval Call" => (k_here; k_dflt (refine Call_ ?_)))
  (k_with "binaryOp Mult int int" => (k_here; (with_reducible refine mul_int ?_ ?zqkbm); (case zqkbm => k_extra "mul")))
  (k_with "binaryOp LShift int int" => (k_here; (with_reducible refine lshift_int ?zqkbn ?zqkbs ?_); (case zqkbn => k_extra "shift0"); (case zqkbs => k_extra "shift")))
  (k_with "binaryOp Mod int int" => (k_here; (with_reducible refine mod_int' ?zqkbn ?_); (case zqkbn => k_extra "nonzero")))
  (k_with "call ref" => (k_here; (with_reducible show wpAny _ (Around.deeper callerA _) (call (Value.ref 140) _) _ _ _); k_dflt (refine' use_int (law_cell_fn _ _ _ _ _ _ ?zqki ?zqkl ?zqkb ?zqkj ?zqkj2) ?zqk1 ?zqk2 ?zqk3 ?zqk4 ?zqk5 ?zqkK ?zqkd ?zqku ?zqkp ?_; (case zqk1 => k_asm); (case zqk2 => k_asm); (case zqk3 => k_asm); (case zqk4 => k_asm); (case zqk5 => k_asm); (case zqkK => first | exact rfl | assumption); (case zqkp => is_list); (case zqki => l_ints); (case zqkl => omega); (case zqkb => k_extra "bits"); (case zqkj => omega); (case zqkj2 => omega); (case zqkd => ktr_room); (case zqku => ktr_units)); intro x9 t9 h9 tk9 F9 N9 e9; obtain ⟨c9, b9⟩ := e9; (try dsimp only); (try k_fold)))
  (k_with "call ref" => (k_here; (with_reducible show wpAny _ (Around.deeper callerA _) (call (Value.ref 168) _) _ _ _); k_dflt (refine' use_int (z_wide _ _ ?zqkw ?zqkw2 _ _ _ _ _ _ _ _ ?zqki ?zqkl ?zqkb ?zqkj ?zqkj2 ?zqkm ?zqkm2) ?zqk1 ?zqk2 ?zqk3 ?zqk4 ?zqk5 ?zqkK ?zqkd ?zqku ?zqkp ?_; (case zqk1 => k_asm); (case zqk2 => k_asm); (case zqk3 => k_asm); (case zqk4 => k_asm); (case zqk5 => k_asm); (case zqkK => first | exact rfl | assumption); (case zqkp => is_list); (case zqkw => k_extra "w2"); (case zqkw2 => k_extra "w9"); (case zqki => l_ints); (case zqkl => omega); (case zqkb => k_extra "bits"); (case zqkj => omega); (case zqkj2 => omega); (case zqkm => omega); (case zqkm2 => omega); (case zqkd => ktr_room); (case zqku => ktr_units)); intro x9 t9 h9 tk9 F9 N9 e9; obtain ⟨c9, b9⟩ := e9; (try dsimp only); (try k_fold)))
  (k_with "call ref" => (k_here; (with_reducible show wpAny _ (Around.deeper callerA _) (call (Value.ref 72) _) _ _ _); k_dflt (refine' use_int (z_inv _ _ ?zqkw ?zqkw2 _ _ _ ?zqko ?zqkd0 ?zqkd1) ?zqk1 ?zqk2 ?zqk3 ?zqk4 ?zqk5 ?zqkK ?zqkd ?zqku ?zqkp ?_; (case zqk1 => k_asm); (case zqk2 => k_asm); (case zqk3 => k_asm); (case zqk4 => k_asm); (case zqk5 => k_asm); (case zqkK => first | exact rfl | assumption); (case zqkp => exact trivial); (case zqkw => k_extra "w2"); (case zqkw2 => k_extra "w9"); (case zqko => k_extra "iodd"); (case zqkd0 => k_extra "i0"); (case zqkd1 => k_extra "i1"); (case zqkd => ktr_room); (case zqku => ktr_units)); intro x9 t9 h9 tk9 F9 N9 e9; obtain ⟨i9, j9, k9⟩ := e9; (try dsimp only); (try k_fold)))
  (k_with "call ref" => (k_here; (with_reducible show wpAny _ _ (call (Value.ref 147) _) _ _ _); k_dflt (refine' use_intsN (z_limbs _ _ ?zqkw ?zqkw2 _ _ _ ?zqkN ?zqkN2) ?zqk1 ?zqk2 ?zqk3 ?zqk4 ?zqk5 ?zqkK ?zqkd ?zqku ?zqkp ?_; (case zqk1 => k_asm); (case zqk2 => k_asm); (case zqk3 => k_asm); (case zqk4 => k_asm); (case zqk5 => k_asm); (case zqkK => first | exact rfl | assumption); (case zqkp => exact trivial); (case zqkw => k_extra "w2"); (case zqkw2 => k_extra "w9"); (case zqkN => k_extra "nonneg"); (case zqkN2 => k_extra "small"); (case zqkd => ktr_room); (case zqku => ktr_units)); intro l9 vs9 n9 ns9 h9 tk9 F9 N9 l9n I9 e9; obtain ⟨e9, d9, v9, n9, m9⟩ := e9; subst e9; (try dsimp only); (try k_fold)))
  (k_with "call ref" => (k_here; (with_reducible show wpAny _ (Around.deeper callerA _) (call (Value.ref 91) _) _ _ _); k_dflt (refine' use_intsN (z_low _ _ ?zqkw ?zqkw2 _ _ _ _ _ _ ?zqki ?zqkl ?zqkl1 ?zqko ?zqkn0 ?zqkn6 ?zqkdb ?zqkvN) ?zqk1 ?zqk2 ?zqk3 ?zqk4 ?zqk5 ?zqkK ?zqkd ?zqku ?zqkp ?_; (case zqk1 => k_asm); (case zqk2 => k_asm); (case zqk3 => k_asm); (case zqk4 => k_asm); (case zqk5 => k_asm); (case zqkK => first | exact rfl | assumption); (case zqkp => first | (refine' isListOf ?zqqN ?zqqm; (case zqqN => k_asm); (case zqqm => k_mem)) | is_list); (case zqkw => k_extra "w2"); (case zqkw2 => k_extra "w9"); (case zqki => l_ints); (case zqkl => k_extra "blen"); (case zqkl1 => k_extra "blen0"); (case zqko => k_extra "bodd"); (case zqkn0 => k_extra "n0"); (case zqkn6 => k_extra "n6"); (case zqkdb => assumption); (case zqkvN => assumption); (case zqkd => ktr_room); (case zqku => ktr_units)); intro l9 vs9 n9 ns9 h9 tk9 F9 N9 l9n I9 e9; obtain ⟨d9, n9, m9, v9, w9⟩ := e9; (try dsimp only); (try k_fold)))
  (k_with "call ref" => (k_here; (with_reducible show wpAny _ (Around.deeper callerA _) (call (Value.ref 154) _) _ _ _); k_dflt (refine' use_int (z_number _ _ ?zqkw ?zqkw2 _ _ _ _ ?zqki ?zqkl ?zqkdg ?zqknr) ?zqk1 ?zqk2 ?zqk3 ?zqk4 ?zqk5 ?zqkK ?zqkd ?zqku ?zqkp ?_; (case zqk1 => k_asm); (case zqk2 => k_asm); (case zqk3 => k_asm); (case zqk4 => k_asm); (case zqk5 => k_asm); (case zqkK => first | exact rfl | assumption); (case zqkp => first | (refine' isListOf ?zqqN ?zqqm; (case zqqN => k_asm); (case zqqm => k_mem)) | is_list); (case zqkw => k_extra "w2"); (case zqkw2 => k_extra "w9"); (case zqki => l_ints); (case zqkl => k_extra "xlen"); (case zqkdg => assumption); (case zqknr => assumption); (case zqkd => ktr_room); (case zqku => ktr_units)); intro x9 t9 h9 tk9 F9 N9 e9; subst e9; (try dsimp only); (try k_fold)))
  (k_with "call ref" => (k_here; (with_reducible show wpAny _ (Around.deeper callerA _) (call (Value.ref 182) _) _ _ _); k_dflt (refine' use_true (z_right _ _ ?zqkw ?zqkw2 _ _ _ _ _ _ _ ?zqka ?zqka2 ?zqkb ?zqkb2 ?zqko ?zqkn0 ?zqkn6) ?zqk1 ?zqk2 ?zqk3 ?zqk4 ?zqk5 ?zqkK ?zqkd ?zqku ?zqkp ?_; (case zqk1 => k_asm); (case zqk2 => k_asm); (case zqk3 => k_asm); (case zqk4 => k_asm); (case zqk5 => k_asm); (case zqkK => first | exact rfl | assumption); (case zqkp => exact trivial); (case zqkw => k_extra "w2"); (case zqkw2 => k_extra "w9"); (case zqka => k_extra "a0"); (case zqka2 => k_extra "a20"); (case zqkb => k_extra "b0"); (case zqkb2 => k_extra "b10"); (case zqko => k_extra "bo"); (case zqkn0 => k_extra "n0"); (case zqkn6 => k_extra "n6"); (case zqkd => ktr_room); (case zqku => ktr_units)); intro h9 tk9 F9 N9; (try dsimp only); (try k_fold)))
  (k_with "call ref" => (k_here; (with_reducible show wpAny _ (Around.deeper callerA _) (call (Value.ref 189) _) _ _ _); k_dflt (refine' use_true (z_rests _ _ ?zqkw ?zqkw2 _ _ _ _ _ ?zqka ?zqka2 ?zqkn0 ?zqkn6) ?zqk1 ?zqk2 ?zqk3 ?zqk4 ?zqk5 ?zqkK ?zqkd ?zqku ?zqkp ?_; (case zqk1 => k_asm); (case zqk2 => k_asm); (case zqk3 => k_asm); (case zqk4 => k_asm); (case zqk5 => k_asm); (case zqkK => first | exact rfl | assumption); (case zqkp => exact trivial); (case zqkw => k_extra "w2"); (case zqkw2 => k_extra "w9"); (case zqka => k_extra "a0"); (case zqka2 => k_extra "a20"); (case zqkn0 => k_extra "n0"); (case zqkn6 => k_extra "n6"); (case zqkd => ktr_room); (case zqku => ktr_units)); intro h9 tk9 F9 N9; (try dsimp only); (try k_fold)))
  k_fill
  k_dflt (refine' law_intro ?k6 ?_; (case k6 => k_is); k_whole)
  intro f p loose mean mg mb g L sl s cells hls C' F' N' Y' B' X' T' l1
  k_cells Y'
  (try simp only [List.cons_append, List.nil_append] at N')
  (try dsimp only)
  (k_with "bits" => exact hbits)
  (k_with "w2" => exact (zw _).1)
  (k_with "w9" => exact (zw _).2)
  (k_with "mul" => first | exact zmulw _ (zw _).1 (zw _).2 | exact zmulf _ _ (zw _).2 | exact zmulb _ (zw _).1 (zw _).2 (by with_reducible assumption) (by with_reducible assumption) | exact IntMulOk.of_left (by decide))
  (k_with "shift0" => first | exact Int.le_trans (by decide) (zw _).1 | exact zs1 (zw _).1 (zn _).1)
  (k_with "shift" => first | exact rr_shift (zw _).2 | exact zs2 (zw _).1 (zw _).2 (zn _).1 (zn _).2)
  (k_with "nonzero" => first | decide | exact rr_nz0 _)
  (k_with "iodd" => exact zodd (zw _).1 (by with_reducible assumption) (by with_reducible assumption))
  (k_with "i0" => exact (zfm _ _).1)
  (k_with "i1" => exact (zfm _ _).2)
  (k_with "nonneg" => first | exact Int.le_of_lt (zb (zw _).1 (by with_reducible assumption) (by with_reducible assumption)).1 | exact z2b (zw _).1 (by with_reducible assumption) (by with_reducible assumption))
  (k_with "small" => first | exact (zsmall (zw _).1 (zw _).2 (by with_reducible assumption) (by with_reducible assumption)).1 | exact (zsmall (zw _).1 (zw _).2 (by with_reducible assumption) (by with_reducible assumption)).2)
  (k_with "blen" => exact zlen (zw _).1 (by with_reducible assumption) (by with_reducible assumption) (by with_reducible assumption) (by with_reducible assumption) (by with_reducible assumption))
  (k_with "blen0" => exact (zodd2 (zw _).1 (by with_reducible assumption) (by with_reducible assumption) (by with_reducible assumption)).1)
  (k_with "bodd" => exact (zodd2 (zw _).1 (by with_reducible assumption) (by with_reducible assumption) (by with_reducible assumption)).2)
  (k_with "n0" => exact (zn _).1)
  (k_with "n6" => exact (zn _).2)
  (k_with "xlen" => assumption)
  (k_with "a0" => first | assumption | exact (zab (zw _).1 (by with_reducible assumption) (by with_reducible assumption) (by with_reducible assumption) (by with_reducible assumption)).1)
  (k_with "a20" => first | exact za (by with_reducible assumption) | exact (zab (zw _).1 (by with_reducible assumption) (by with_reducible assumption) (by with_reducible assumption) (by with_reducible assumption)).2)
  (k_with "b0" => first | exact (zb (zw _).1 (by with_reducible assumption) (by with_reducible assumption)).1)
  (k_with "b10" => first | exact ⟨(zb_lt (by decide) (zw _).1 (by with_reducible assumption) (by with_reducible assumption)).1⟩)
  (k_with "bo" => first | exact (zb (zw _).1 (by with_reducible assumption) (by with_reducible assumption)).2.1)
  k_steps
end Mine
end
open PySem PySem.Spec PySem.Calls PySem.W PyProof.Rows
set_option maxRecDepth 100000
open Mine
set_option maxHeartbeats 8000000 in
theorem PySem.Challenge.cw_nn0006_01_holds : PySem.Challenge.rw_nn0006_01.Holds :=
  Mine.hd ⟨Mine.left, by
  w_strict (k_go0
            refine' wpAny_mono (law_fn _ _ _ ?I ?len ?bits ?lk _ _ _ _ _ _ _ _ _ _ _ ?ls ?C ?F ?N ?Y ?B ?X ?T ?lt) ?_ (fun _ _ y => y.elim)
            case F => assumption
            case ls => assumption
            case I => assumption
            case len => omega
            case bits => exact fun x hx => intBits_le_of_item hx (by assumption)
            case C => assumption
            case Y => assumption
            case N => assumption
            case B => assumption
            case X => assumption
            case T => assumption
            case lt => assumption
            case lk => k_is
            intro fl s' q
            obtain ⟨hv, L', m', h', tk, ps, rfl, F9, N9⟩ := q
            cases fl <;> cases hv
            dsimp only
            k_steps)⟩
