import PyProof.Rows.All
import Wide.All
import OpenK.AllK
import Wide.FinOn
import Lean
import PySem.Challenge.RW_pp0007_01
open PySem PySem.W PyProof.Rows PySem.Calls PySem.Spec
set_option Elab.async false
set_option maxRecDepth 100000
set_option maxHeartbeats 8000000
local macro_rules | `(tactic| walk_at $s:str) => `(tactic| k_extra $s)
local macro_rules | `(tactic| k_enter) => `(tactic| k_extra "my enter")
local macro_rules | `(tactic| k_all) => `(tactic| k_extra "my all")
local macro_rules | `(tactic| k_get) => `(tactic| k_extra "my get")
local macro_rules | `(tactic| kts_caught) => `(tactic| k_extra "my caught")
local macro_rules | `(tactic| k_qdec) => `(tactic| kernel_rfl)
namespace Mine
abbrev ax0 : Pos := ⟨0, 0, 0, 0⟩
noncomputable def nth : List Stmt → Nat → Stmt
  | [], _ => .Pass ax0
  | x :: _, 0 => x
  | _ :: r, n + 1 => nth r n
noncomputable def fArgs : Stmt → Arguments
  | .FunctionDef _ a .. => a
  | _ => { posonlyargs := [], args := [], vararg := none, kwonlyargs := [], kw_defaults := [], kwarg := none, defaults := [] }
noncomputable def fBody : Stmt → List Stmt
  | .FunctionDef _ _ b .. => b
  | .ClassDef _ _ _ b .. => b
  | _ => []
noncomputable def fScope : Stmt → Scope
  | .FunctionDef _ _ _ _ _ _ s .. => s
  | _ => PySem.Challenge.pw_pp0007_01.main.scope
noncomputable def top (i : Nat) : Stmt := nth PySem.Challenge.pw_pp0007_01.main.body i
noncomputable def sub (i j : Nat) : Stmt := nth (fBody (top i)) j
noncomputable def vw : Program := by
  refine' (?f : ∀ (t1 : Stmt) (_ : top 1 = t1) (t2 : Stmt) (_ : top 2 = t2) (t3 : Stmt) (_ : top 3 = t3) (t5 : Stmt) (_ : top 5 = t5) (t6 : Stmt) (_ : top 6 = t6) (t7 : Stmt) (_ : top 7 = t7) (t8 : Stmt) (_ : top 8 = t8) (t9 : Stmt) (_ : top 9 = t9) (t10 : Stmt) (_ : top 10 = t10) (t11 : Stmt) (_ : top 11 = t11) (t12 : Stmt) (_ : top 12 = t12) (t14 : Stmt) (_ : top 14 = t14) (t15 : Stmt) (_ : top 15 = t15) (t16 : Stmt) (_ : top 16 = t16) (t17 : Stmt) (_ : top 17 = t17) (t18 : Stmt) (_ : top 18 = t18) (t19 : Stmt) (_ : top 19 = t19) (t20 : Stmt) (_ : top 20 = t20) (t22 : Stmt) (_ : top 22 = t22) (t24 : Stmt) (_ : top 24 = t24) (t26 : Stmt) (_ : top 26 = t26) (t27 : Stmt) (_ : top 27 = t27) (t28 : Stmt) (_ : top 28 = t28) (t29 : Stmt) (_ : top 29 = t29) (t30 : Stmt) (_ : top 30 = t30) (t31 : Stmt) (_ : top 31 = t31) (t33 : Stmt) (_ : top 33 = t33) (t34 : Stmt) (_ : top 34 = t34) (t35 : Stmt) (_ : top 35 = t35) (t37 : Stmt) (_ : top 37 = t37) (t38 : Stmt) (_ : top 38 = t38) (t40 : Stmt) (_ : top 40 = t40) (t41 : Stmt) (_ : top 41 = t41) (t42 : Stmt) (_ : top 42 = t42) (t43 : Stmt) (_ : top 43 = t43) (t44 : Stmt) (_ : top 44 = t44) (t45 : Stmt) (_ : top 45 = t45) (t46 : Stmt) (_ : top 46 = t46) (t47 : Stmt) (_ : top 47 = t47) (t48 : Stmt) (_ : top 48 = t48) (t49 : Stmt) (_ : top 49 = t49), Program) _ ?_ _ ?_ _ ?_ _ ?_ _ ?_ _ ?_ _ ?_ _ ?_ _ ?_ _ ?_ _ ?_ _ ?_ _ ?_ _ ?_ _ ?_ _ ?_ _ ?_ _ ?_ _ ?_ _ ?_ _ ?_ _ ?_ _ ?_ _ ?_ _ ?_ _ ?_ _ ?_ _ ?_ _ ?_ _ ?_ _ ?_ _ ?_ _ ?_ _ ?_ _ ?_ _ ?_ _ ?_ _ ?_ _ ?_ _ ?_ _ ?_
  case f => exact fun t1 _ t2 _ t3 _ t5 _ t6 _ t7 _ t8 _ t9 _ t10 _ t11 _ t12 _ t14 _ t15 _ t16 _ t17 _ t18 _ t19 _ t20 _ t22 _ t24 _ t26 _ t27 _ t28 _ t29 _ t30 _ t31 _ t33 _ t34 _ t35 _ t37 _ t38 _ t40 _ t41 _ t42 _ t43 _ t44 _ t45 _ t46 _ t47 _ t48 _ t49 _ => { PySem.Challenge.pw_pp0007_01 with main := { PySem.Challenge.pw_pp0007_01.main with body := [t1, t2, t3, t5, t6, t7, t8, t9, t10, t11, t12, t14, t15, t16, t17, t18, t19, t20, t22, t24, t26, t27, t28, t29, t30, t31, t33, t34, t35, t37, t38, t40, t41, t42, t43, t44, t45, t46, t47, t48, t49] } }
  all_goals (first | (conv => lhs; whnf) | skip)
noncomputable def KK : Params → Frag := by
  refine' (?f : ∀ (a28 : Arguments) (_ : fArgs (sub 1 0) = a28) (b28 : List Stmt) (_ : fBody (sub 1 0) = b28) (s28 : Scope) (_ : fScope (sub 1 0) = s28) (a48 : Arguments) (_ : fArgs (sub 2 0) = a48) (b48 : List Stmt) (_ : fBody (sub 2 0) = b48) (s48 : Scope) (_ : fScope (sub 2 0) = s48) (a67 : Arguments) (_ : fArgs (sub 3 0) = a67) (b67 : List Stmt) (_ : fBody (sub 3 0) = b67) (s67 : Scope) (_ : fScope (sub 3 0) = s67) (a86 : Arguments) (_ : fArgs (sub 5 0) = a86) (b86 : List Stmt) (_ : fBody (sub 5 0) = b86) (s86 : Scope) (_ : fScope (sub 5 0) = s86) (a110 : Arguments) (_ : fArgs (sub 7 0) = a110) (b110 : List Stmt) (_ : fBody (sub 7 0) = b110) (s110 : Scope) (_ : fScope (sub 7 0) = s110) (a131 : Arguments) (_ : fArgs (sub 8 0) = a131) (b131 : List Stmt) (_ : fBody (sub 8 0) = b131) (s131 : Scope) (_ : fScope (sub 8 0) = s131) (a138 : Arguments) (_ : fArgs (sub 8 1) = a138) (b138 : List Stmt) (_ : fBody (sub 8 1) = b138) (s138 : Scope) (_ : fScope (sub 8 1) = s138) (a159 : Arguments) (_ : fArgs (sub 9 0) = a159) (b159 : List Stmt) (_ : fBody (sub 9 0) = b159) (s159 : Scope) (_ : fScope (sub 9 0) = s159) (a180 : Arguments) (_ : fArgs (sub 10 0) = a180) (b180 : List Stmt) (_ : fBody (sub 10 0) = b180) (s180 : Scope) (_ : fScope (sub 10 0) = s180) (a194 : Arguments) (_ : fArgs (top 11) = a194) (b194 : List Stmt) (_ : fBody (top 11) = b194) (s194 : Scope) (_ : fScope (top 11) = s194) (a199 : Arguments) (_ : fArgs (top 12) = a199) (b199 : List Stmt) (_ : fBody (top 12) = b199) (s199 : Scope) (_ : fScope (top 12) = s199) (a213 : Arguments) (_ : fArgs (sub 14 0) = a213) (b213 : List Stmt) (_ : fBody (sub 14 0) = b213) (s213 : Scope) (_ : fScope (sub 14 0) = s213) (a225 : Arguments) (_ : fArgs (top 15) = a225) (b225 : List Stmt) (_ : fBody (top 15) = b225) (s225 : Scope) (_ : fScope (top 15) = s225) (a232 : Arguments) (_ : fArgs (top 16) = a232) (b232 : List Stmt) (_ : fBody (top 16) = b232) (s232 : Scope) (_ : fScope (top 16) = s232) (a239 : Arguments) (_ : fArgs (top 17) = a239) (b239 : List Stmt) (_ : fBody (top 17) = b239) (s239 : Scope) (_ : fScope (top 17) = s239) (a246 : Arguments) (_ : fArgs (top 18) = a246) (b246 : List Stmt) (_ : fBody (top 18) = b246) (s246 : Scope) (_ : fScope (top 18) = s246) (a253 : Arguments) (_ : fArgs (top 19) = a253) (b253 : List Stmt) (_ : fBody (top 19) = b253) (s253 : Scope) (_ : fScope (top 19) = s253) (a260 : Arguments) (_ : fArgs (top 20) = a260) (b260 : List Stmt) (_ : fBody (top 20) = b260) (s260 : Scope) (_ : fScope (top 20) = s260) (a274 : Arguments) (_ : fArgs (sub 22 0) = a274) (b274 : List Stmt) (_ : fBody (sub 22 0) = b274) (s274 : Scope) (_ : fScope (sub 22 0) = s274) (a296 : Arguments) (_ : fArgs (sub 24 0) = a296) (b296 : List Stmt) (_ : fBody (sub 24 0) = b296) (s296 : Scope) (_ : fScope (sub 24 0) = s296) (a317 : Arguments) (_ : fArgs (sub 26 0) = a317) (b317 : List Stmt) (_ : fBody (sub 26 0) = b317) (s317 : Scope) (_ : fScope (sub 26 0) = s317) (a338 : Arguments) (_ : fArgs (sub 27 0) = a338) (b338 : List Stmt) (_ : fBody (sub 27 0) = b338) (s338 : Scope) (_ : fScope (sub 27 0) = s338) (a352 : Arguments) (_ : fArgs (top 28) = a352) (b352 : List Stmt) (_ : fBody (top 28) = b352) (s352 : Scope) (_ : fScope (top 28) = s352) (a359 : Arguments) (_ : fArgs (top 29) = a359) (b359 : List Stmt) (_ : fBody (top 29) = b359) (s359 : Scope) (_ : fScope (top 29) = s359) (a366 : Arguments) (_ : fArgs (top 30) = a366) (b366 : List Stmt) (_ : fBody (top 30) = b366) (s366 : Scope) (_ : fScope (top 30) = s366) (a373 : Arguments) (_ : fArgs (top 31) = a373) (b373 : List Stmt) (_ : fBody (top 31) = b373) (s373 : Scope) (_ : fScope (top 31) = s373) (a380 : Arguments) (_ : fArgs (top 34) = a380) (b380 : List Stmt) (_ : fBody (top 34) = b380) (s380 : Scope) (_ : fScope (top 34) = s380) (a387 : Arguments) (_ : fArgs (top 35) = a387) (b387 : List Stmt) (_ : fBody (top 35) = b387) (s387 : Scope) (_ : fScope (top 35) = s387) (a392 : Arguments) (_ : fArgs (top 37) = a392) (b392 : List Stmt) (_ : fBody (top 37) = b392) (s392 : Scope) (_ : fScope (top 37) = s392) (a399 : Arguments) (_ : fArgs (top 38) = a399) (b399 : List Stmt) (_ : fBody (top 38) = b399) (s399 : Scope) (_ : fScope (top 38) = s399) (a406 : Arguments) (_ : fArgs (top 40) = a406) (b406 : List Stmt) (_ : fBody (top 40) = b406) (s406 : Scope) (_ : fScope (top 40) = s406) (a411 : Arguments) (_ : fArgs (top 41) = a411) (b411 : List Stmt) (_ : fBody (top 41) = b411) (s411 : Scope) (_ : fScope (top 41) = s411) (a416 : Arguments) (_ : fArgs (top 42) = a416) (b416 : List Stmt) (_ : fBody (top 42) = b416) (s416 : Scope) (_ : fScope (top 42) = s416) (a423 : Arguments) (_ : fArgs (top 43) = a423) (b423 : List Stmt) (_ : fBody (top 43) = b423) (s423 : Scope) (_ : fScope (top 43) = s423) (a430 : Arguments) (_ : fArgs (top 44) = a430) (b430 : List Stmt) (_ : fBody (top 44) = b430) (s430 : Scope) (_ : fScope (top 44) = s430) (a437 : Arguments) (_ : fArgs (top 45) = a437) (b437 : List Stmt) (_ : fBody (top 45) = b437) (s437 : Scope) (_ : fScope (top 45) = s437) (a444 : Arguments) (_ : fArgs (top 46) = a444) (b444 : List Stmt) (_ : fBody (top 46) = b444) (s444 : Scope) (_ : fScope (top 46) = s444) (a451 : Arguments) (_ : fArgs (top 47) = a451) (b451 : List Stmt) (_ : fBody (top 47) = b451) (s451 : Scope) (_ : fScope (top 47) = s451) (a456 : Arguments) (_ : fArgs (top 48) = a456) (b456 : List Stmt) (_ : fBody (top 48) = b456) (s456 : Scope) (_ : fScope (top 48) = s456) (a463 : Arguments) (_ : fArgs (top 49) = a463) (b463 : List Stmt) (_ : fBody (top 49) = b463) (s463 : Scope) (_ : fScope (top 49) = s463), Params → List (Nat × Obj)) _ ?_ _ ?_ _ ?_ _ ?_ _ ?_ _ ?_ _ ?_ _ ?_ _ ?_ _ ?_ _ ?_ _ ?_ _ ?_ _ ?_ _ ?_ _ ?_ _ ?_ _ ?_ _ ?_ _ ?_ _ ?_ _ ?_ _ ?_ _ ?_ _ ?_ _ ?_ _ ?_ _ ?_ _ ?_ _ ?_ _ ?_ _ ?_ _ ?_ _ ?_ _ ?_ _ ?_ _ ?_ _ ?_ _ ?_ _ ?_ _ ?_ _ ?_ _ ?_ _ ?_ _ ?_ _ ?_ _ ?_ _ ?_ _ ?_ _ ?_ _ ?_ _ ?_ _ ?_ _ ?_ _ ?_ _ ?_ _ ?_ _ ?_ _ ?_ _ ?_ _ ?_ _ ?_ _ ?_ _ ?_ _ ?_ _ ?_ _ ?_ _ ?_ _ ?_ _ ?_ _ ?_ _ ?_ _ ?_ _ ?_ _ ?_ _ ?_ _ ?_ _ ?_ _ ?_ _ ?_ _ ?_ _ ?_ _ ?_ _ ?_ _ ?_ _ ?_ _ ?_ _ ?_ _ ?_ _ ?_ _ ?_ _ ?_ _ ?_ _ ?_ _ ?_ _ ?_ _ ?_ _ ?_ _ ?_ _ ?_ _ ?_ _ ?_ _ ?_ _ ?_ _ ?_ _ ?_ _ ?_ _ ?_ _ ?_ _ ?_ _ ?_ _ ?_ _ ?_ _ ?_ _ ?_ _ ?_ _ ?_ _ ?_ _ ?_ _ ?_
  case f => exact fun a28 _ b28 _ s28 _ a48 _ b48 _ s48 _ a67 _ b67 _ s67 _ a86 _ b86 _ s86 _ a110 _ b110 _ s110 _ a131 _ b131 _ s131 _ a138 _ b138 _ s138 _ a159 _ b159 _ s159 _ a180 _ b180 _ s180 _ a194 _ b194 _ s194 _ a199 _ b199 _ s199 _ a213 _ b213 _ s213 _ a225 _ b225 _ s225 _ a232 _ b232 _ s232 _ a239 _ b239 _ s239 _ a246 _ b246 _ s246 _ a253 _ b253 _ s253 _ a260 _ b260 _ s260 _ a274 _ b274 _ s274 _ a296 _ b296 _ s296 _ a317 _ b317 _ s317 _ a338 _ b338 _ s338 _ a352 _ b352 _ s352 _ a359 _ b359 _ s359 _ a366 _ b366 _ s366 _ a373 _ b373 _ s373 _ a380 _ b380 _ s380 _ a387 _ b387 _ s387 _ a392 _ b392 _ s392 _ a399 _ b399 _ s399 _ a406 _ b406 _ s406 _ a411 _ b411 _ s411 _ a416 _ b416 _ s416 _ a423 _ b423 _ s423 _ a430 _ b430 _ s430 _ a437 _ b437 _ s437 _ a444 _ b444 _ s444 _ a451 _ b451 _ s451 _ a456 _ b456 _ s456 _ a463 _ b463 _ s463 _ P =>
    (nat_lit 2, (Obj.mk Value.none (@none Nat) (Data.dict #[(DictEntry.mk (PyData.keyHash P (Str.ofString "type.__subclasses__.Exception.0")) (Value.str (Str.ofString "type.__subclasses__.Exception.0") (214 : Nat)) (Value.int 31 (0 : Nat))), (DictEntry.mk (PyData.keyHash P (Str.ofString "type.__subclasses__.Exception.n")) (Value.str (Str.ofString "type.__subclasses__.Exception.n") (215 : Nat)) (Value.int 1 (0 : Nat)))] (2 : Nat)) #[])) ::
    (nat_lit 3, (Obj.mk (Value.type "dict") (@none Nat) (Data.dict #[(DictEntry.mk (PyData.keyHash P (Str.ofString "__name__")) (Value.str (Str.ofString "__name__") (165 : Nat)) (Value.str (Str.ofString "law_pp0007_01") (807 : Nat))), (DictEntry.mk (PyData.keyHash P (Str.ofString "__doc__")) (Value.str (Str.ofString "__doc__") (166 : Nat)) Value.none), (DictEntry.mk (PyData.keyHash P (Str.ofString "__package__")) (Value.str (Str.ofString "__package__") (167 : Nat)) Value.none), (DictEntry.mk (PyData.keyHash P (Str.ofString "__loader__")) (Value.str (Str.ofString "__loader__") (168 : Nat)) (Value.builtin "__main__.__loader__#opaque")), (DictEntry.mk (PyData.keyHash P (Str.ofString "__spec__")) (Value.str (Str.ofString "__spec__") (169 : Nat)) Value.none), (DictEntry.mk (PyData.keyHash P (Str.ofString "__annotations__")) (Value.str (Str.ofString "__annotations__") (170 : Nat)) (Value.ref (6 : Nat))), (DictEntry.mk (PyData.keyHash P (Str.ofString "__builtins__")) (Value.str (Str.ofString "__builtins__") (171 : Nat)) (Value.ref (4 : Nat))), (DictEntry.mk (PyData.keyHash P (Str.ofString "__file__")) (Value.str (Str.ofString "__file__") (173 : Nat)) (Value.str (Str.ofString "/claim/cut.py") (172 : Nat))), (DictEntry.mk (PyData.keyHash P (Str.ofString "__cached__")) (Value.str (Str.ofString "__cached__") (174 : Nat)) Value.none), (DictEntry.mk (PyData.keyHash P (Str.ofString "AdaError")) (Value.str (Str.ofString "AdaError") (217 : Nat)) (Value.ref (31 : Nat))), (DictEntry.mk (PyData.keyHash P (Str.ofString "CheckFault")) (Value.str (Str.ofString "CheckFault") (243 : Nat)) (Value.ref (51 : Nat))), (DictEntry.mk (PyData.keyHash P (Str.ofString "AdaRaise")) (Value.str (Str.ofString "AdaRaise") (272 : Nat)) (Value.ref (70 : Nat))), (DictEntry.mk (PyData.keyHash P (Str.ofString "Unset")) (Value.str (Str.ofString "Unset") (302 : Nat)) (Value.ref (89 : Nat))), (DictEntry.mk (PyData.keyHash P (Str.ofString "UNSET")) (Value.str (Str.ofString "UNSET") (307 : Nat)) (Value.ref (95 : Nat))), (DictEntry.mk (PyData.keyHash P (Str.ofString "Cell")) (Value.str (Str.ofString "Cell") (339 : Nat)) (Value.ref (113 : Nat))), (DictEntry.mk (PyData.keyHash P (Str.ofString "CellMaker")) (Value.str (Str.ofString "CellMaker") (375 : Nat)) (Value.ref (141 : Nat))), (DictEntry.mk (PyData.keyHash P (Str.ofString "ArrayValue")) (Value.str (Str.ofString "ArrayValue") (406 : Nat)) (Value.ref (162 : Nat))), (DictEntry.mk (PyData.keyHash P (Str.ofString "RecordValue")) (Value.str (Str.ofString "RecordValue") (437 : Nat)) (Value.ref (183 : Nat))), (DictEntry.mk (PyData.keyHash P (Str.ofString "need_set")) (Value.str (Str.ofString "need_set") (444 : Nat)) (Value.ref (194 : Nat))), (DictEntry.mk (PyData.keyHash P (Str.ofString "weight_of")) (Value.str (Str.ofString "weight_of") (450 : Nat)) (Value.ref (199 : Nat))), (DictEntry.mk (PyData.keyHash P (Str.ofString "World")) (Value.str (Str.ofString "World") (481 : Nat)) (Value.ref (216 : Nat))), (DictEntry.mk (PyData.keyHash P (Str.ofString "text_of")) (Value.str (Str.ofString "text_of") (487 : Nat)) (Value.ref (225 : Nat))), (DictEntry.mk (PyData.keyHash P (Str.ofString "add_text")) (Value.str (Str.ofString "add_text") (495 : Nat)) (Value.ref (232 : Nat))), (DictEntry.mk (PyData.keyHash P (Str.ofString "put_text")) (Value.str (Str.ofString "put_text") (503 : Nat)) (Value.ref (239 : Nat))), (DictEntry.mk (PyData.keyHash P (Str.ofString "put_sign")) (Value.str (Str.ofString "put_sign") (511 : Nat)) (Value.ref (246 : Nat))), (DictEntry.mk (PyData.keyHash P (Str.ofString "end_row")) (Value.str (Str.ofString "end_row") (519 : Nat)) (Value.ref (253 : Nat))), (DictEntry.mk (PyData.keyHash P (Str.ofString "put_row")) (Value.str (Str.ofString "put_row") (527 : Nat)) (Value.ref (260 : Nat))), (DictEntry.mk (PyData.keyHash P (Str.ofString "Run")) (Value.str (Str.ofString "Run") (589 : Nat)) (Value.ref (277 : Nat))), (DictEntry.mk (PyData.keyHash P (Str.ofString "Limits")) (Value.str (Str.ofString "Limits") (647 : Nat)) (Value.ref (299 : Nat))), (DictEntry.mk (PyData.keyHash P (Str.ofString "Type")) (Value.str (Str.ofString "Type") (702 : Nat)) (Value.ref (320 : Nat))), (DictEntry.mk (PyData.keyHash P (Str.ofString "Subtype")) (Value.str (Str.ofString "Subtype") (733 : Nat)) (Value.ref (341 : Nat))), (DictEntry.mk (PyData.keyHash P (Str.ofString "base_bounds")) (Value.str (Str.ofString "base_bounds") (740 : Nat)) (Value.ref (352 : Nat))), (DictEntry.mk (PyData.keyHash P (Str.ofString "int_type")) (Value.str (Str.ofString "int_type") (750 : Nat)) (Value.ref (359 : Nat))), (DictEntry.mk (PyData.keyHash P (Str.ofString "numbered")) (Value.str (Str.ofString "numbered") (758 : Nat)) (Value.ref (366 : Nat))), (DictEntry.mk (PyData.keyHash P (Str.ofString "integer_type")) (Value.str (Str.ofString "integer_type") (767 : Nat)) (Value.ref (373 : Nat))), (DictEntry.mk (PyData.keyHash P (Str.ofString "MOST_PRIVATE")) (Value.str (Str.ofString "MOST_PRIVATE") (771 : Nat)) (Value.int 40 (770 : Nat))), (DictEntry.mk (PyData.keyHash P (Str.ofString "full_subtype")) (Value.str (Str.ofString "full_subtype") (780 : Nat)) (Value.ref (380 : Nat))), (DictEntry.mk (PyData.keyHash P (Str.ofString "full_type")) (Value.str (Str.ofString "full_type") (787 : Nat)) (Value.ref (387 : Nat))), (DictEntry.mk (PyData.keyHash P (Str.ofString "kept_subtype")) (Value.str (Str.ofString "kept_subtype") (795 : Nat)) (Value.ref (392 : Nat))), (DictEntry.mk (PyData.keyHash P (Str.ofString "heap_cell")) (Value.str (Str.ofString "heap_cell") (806 : Nat)) (Value.ref (399 : Nat))), (DictEntry.mk (PyData.keyHash P (Str.ofString "_law_cast")) (Value.str (Str.ofString "_law_cast") (816 : Nat)) (Value.ref (406 : Nat))), (DictEntry.mk (PyData.keyHash P (Str.ofString "_law_thing")) (Value.str (Str.ofString "_law_thing") (822 : Nat)) (Value.ref (411 : Nat))), (DictEntry.mk (PyData.keyHash P (Str.ofString "_law_text")) (Value.str (Str.ofString "_law_text") (828 : Nat)) (Value.ref (416 : Nat))), (DictEntry.mk (PyData.keyHash P (Str.ofString "_law_said")) (Value.str (Str.ofString "_law_said") (836 : Nat)) (Value.ref (423 : Nat))), (DictEntry.mk (PyData.keyHash P (Str.ofString "_law_ended")) (Value.str (Str.ofString "_law_ended") (843 : Nat)) (Value.ref (430 : Nat))), (DictEntry.mk (PyData.keyHash P (Str.ofString "_law_word")) (Value.str (Str.ofString "_law_word") (853 : Nat)) (Value.ref (437 : Nat))), (DictEntry.mk (PyData.keyHash P (Str.ofString "_law_line")) (Value.str (Str.ofString "_law_line") (861 : Nat)) (Value.ref (444 : Nat))), (DictEntry.mk (PyData.keyHash P (Str.ofString "_law_object")) (Value.str (Str.ofString "_law_object") (875 : Nat)) (Value.ref (451 : Nat))), (DictEntry.mk (PyData.keyHash P (Str.ofString "_law_deed")) (Value.str (Str.ofString "_law_deed") (881 : Nat)) (Value.ref (456 : Nat))), (DictEntry.mk (PyData.keyHash P (Str.ofString "law")) (Value.str (Str.ofString "law") (895 : Nat)) (Value.ref (463 : Nat)))] (50 : Nat)) #[])) ::
    (nat_lit 15, (Obj.mk (Value.type "tuple") (@none Nat) (Data.seq #[(Value.type "Exception")] (0 : Nat)) #[])) ::
    (nat_lit 22, (Obj.mk (Value.type "tuple") (@none Nat) (Data.seq #[] (0 : Nat)) #[])) ::
    (nat_lit 24, (Obj.mk (Value.type "tuple") (@none Nat) (Data.seq #[(Value.str (Str.ofString "self") (204 : Nat)), (Value.str (Str.ofString "text") (205 : Nat))] (0 : Nat)) #[])) ::
    (nat_lit 25, (Obj.mk (Value.type "tuple") (@none Nat) (Data.seq #[] (0 : Nat)) #[])) ::
    (nat_lit 27, (Obj.mk (Value.type "code") (@none Nat) (Data.fields #[(Value.str (Str.ofString "__init__") (201 : Nat)), (Value.str (Str.ofString "AdaError.__init__") (202 : Nat)), (Value.str (Str.ofString "/claim/cut.py") (203 : Nat)), (Value.int 4 (0 : Nat)), (Value.int 2 (0 : Nat)), (Value.int 0 (0 : Nat)), (Value.int 0 (0 : Nat)), (Value.int 3 (0 : Nat)), (Value.ref (22 : Nat)), (Value.bool Bool.true), (Value.int 181 (0 : Nat)), (Value.ref (23 : Nat)), Value.none, (Value.ref (24 : Nat)), (Value.ref (25 : Nat)), (Value.ref (26 : Nat)), (Value.int 206 (0 : Nat)), (Value.int 4 (0 : Nat)), (Value.str (Str.ofString "/claim/cut.py") (207 : Nat))]) #[])) ::
    (nat_lit 28, (Obj.mk (Value.type "function") (@none Nat) (Data.func (FuncData.mk (Str.ofString "__init__") (Str.ofString "AdaError.__init__") a28 (FuncBody.stmts b28) s28 (3 : Nat) [] Value.none Value.none Value.none (Value.str (Str.ofString "adacore.errors") (187 : Nat)) (@none Nat) (Value.ref (27 : Nat)) Value.none (0 : Nat))) #[])) ::
    (nat_lit 29, (Obj.mk (Value.type "tuple") (@none Nat) (Data.seq #[(Value.str (Str.ofString "text") (209 : Nat))] (0 : Nat)) #[])) ::
    (nat_lit 30, (Obj.mk (Value.type "dict") (@none Nat) (Data.dict #[(DictEntry.mk (PyData.keyHash P (Str.ofString "__module__")) (Value.str (Str.ofString "__module__") (196 : Nat)) (Value.str (Str.ofString "adacore.errors") (187 : Nat))), (DictEntry.mk (PyData.keyHash P (Str.ofString "__firstlineno__")) (Value.str (Str.ofString "__firstlineno__") (200 : Nat)) (Value.int 2 (199 : Nat))), (DictEntry.mk (PyData.keyHash P (Str.ofString "__init__")) (Value.str (Str.ofString "__init__") (208 : Nat)) (Value.ref (28 : Nat))), (DictEntry.mk (PyData.keyHash P (Str.ofString "__static_attributes__")) (Value.str (Str.ofString "__static_attributes__") (210 : Nat)) (Value.ref (29 : Nat))), (DictEntry.mk (PyData.keyHash P (Str.ofString "__weakref__")) (Value.str (Str.ofString "__weakref__") (212 : Nat)) (Value.ref (32 : Nat))), (DictEntry.mk (PyData.keyHash P (Str.ofString "__doc__")) (Value.str (Str.ofString "__doc__") (213 : Nat)) Value.none)] (3 : Nat)) #[])) ::
    (nat_lit 31, (Obj.mk (Value.type "type") (@none Nat) (Data.cls (ClassData.mk (Str.ofString "AdaError") [(Value.type "Exception")] [(Value.ref (31 : Nat)), (Value.type "Exception"), (Value.type "BaseException"), (Value.type "object")] (30 : Nat) (Str.ofString "AdaError") Bool.true [] [(Value.ref (51 : Nat)), (Value.ref (70 : Nat))] Bool.false Option.none Bool.false)) #[(Option.some (Value.ref (15 : Nat))), Option.none, (Option.some (Value.str (Str.ofString "AdaError") (189 : Nat))), (Option.some (Value.str (Str.ofString "AdaError") (197 : Nat))), (Option.some (Value.builtin "Exception.__new__")), (Option.some (Value.bool Bool.true))])) ::
    (nat_lit 32, (Obj.mk (Value.type "getset_descriptor") (@none Nat) (Data.fields #[(Value.str (Str.ofString "__weakref__") (211 : Nat)), (Value.ref (31 : Nat)), (Value.builtin "ExceptionGroup.__weakref__"), Value.none]) #[])) ::
    (nat_lit 35, (Obj.mk (Value.type "tuple") (@none Nat) (Data.seq #[(Value.ref (31 : Nat))] (0 : Nat)) #[])) ::
    (nat_lit 42, (Obj.mk (Value.type "tuple") (@none Nat) (Data.seq #[] (0 : Nat)) #[])) ::
    (nat_lit 44, (Obj.mk (Value.type "tuple") (@none Nat) (Data.seq #[(Value.str (Str.ofString "self") (233 : Nat)), (Value.str (Str.ofString "line") (234 : Nat)), (Value.str (Str.ofString "text") (235 : Nat))] (0 : Nat)) #[])) ::
    (nat_lit 45, (Obj.mk (Value.type "tuple") (@none Nat) (Data.seq #[] (0 : Nat)) #[])) ::
    (nat_lit 47, (Obj.mk (Value.type "code") (@none Nat) (Data.fields #[(Value.str (Str.ofString "__init__") (230 : Nat)), (Value.str (Str.ofString "CheckFault.__init__") (231 : Nat)), (Value.str (Str.ofString "/claim/cut.py") (232 : Nat)), (Value.int 9 (0 : Nat)), (Value.int 3 (0 : Nat)), (Value.int 0 (0 : Nat)), (Value.int 0 (0 : Nat)), (Value.int 3 (0 : Nat)), (Value.ref (42 : Nat)), (Value.bool Bool.true), (Value.int 181 (0 : Nat)), (Value.ref (43 : Nat)), Value.none, (Value.ref (44 : Nat)), (Value.ref (45 : Nat)), (Value.ref (46 : Nat)), (Value.int 236 (0 : Nat)), (Value.int 9 (0 : Nat)), (Value.str (Str.ofString "/claim/cut.py") (237 : Nat))]) #[])) ::
    (nat_lit 48, (Obj.mk (Value.type "function") (@none Nat) (Data.func (FuncData.mk (Str.ofString "__init__") (Str.ofString "CheckFault.__init__") a48 (FuncBody.stmts b48) s48 (3 : Nat) [] Value.none Value.none Value.none (Value.str (Str.ofString "adacore.errors") (187 : Nat)) (@none Nat) (Value.ref (47 : Nat)) Value.none (0 : Nat))) #[])) ::
    (nat_lit 49, (Obj.mk (Value.type "tuple") (@none Nat) (Data.seq #[(Value.str (Str.ofString "line") (239 : Nat))] (0 : Nat)) #[])) ::
    (nat_lit 50, (Obj.mk (Value.type "dict") (@none Nat) (Data.dict #[(DictEntry.mk (PyData.keyHash P (Str.ofString "__module__")) (Value.str (Str.ofString "__module__") (225 : Nat)) (Value.str (Str.ofString "adacore.errors") (187 : Nat))), (DictEntry.mk (PyData.keyHash P (Str.ofString "__firstlineno__")) (Value.str (Str.ofString "__firstlineno__") (229 : Nat)) (Value.int 7 (228 : Nat))), (DictEntry.mk (PyData.keyHash P (Str.ofString "__init__")) (Value.str (Str.ofString "__init__") (238 : Nat)) (Value.ref (48 : Nat))), (DictEntry.mk (PyData.keyHash P (Str.ofString "__static_attributes__")) (Value.str (Str.ofString "__static_attributes__") (240 : Nat)) (Value.ref (49 : Nat))), (DictEntry.mk (PyData.keyHash P (Str.ofString "__doc__")) (Value.str (Str.ofString "__doc__") (241 : Nat)) Value.none)] (2 : Nat)) #[])) ::
    (nat_lit 51, (Obj.mk (Value.type "type") (@none Nat) (Data.cls (ClassData.mk (Str.ofString "CheckFault") [(Value.ref (31 : Nat))] [(Value.ref (51 : Nat)), (Value.ref (31 : Nat)), (Value.type "Exception"), (Value.type "BaseException"), (Value.type "object")] (50 : Nat) (Str.ofString "CheckFault") Bool.true [] [] Bool.false Option.none Bool.false)) #[(Option.some (Value.ref (35 : Nat))), Option.none, (Option.some (Value.str (Str.ofString "CheckFault") (218 : Nat))), (Option.some (Value.str (Str.ofString "CheckFault") (226 : Nat))), (Option.some (Value.builtin "Exception.__new__")), (Option.some (Value.bool Bool.true))])) ::
    (nat_lit 54, (Obj.mk (Value.type "tuple") (@none Nat) (Data.seq #[(Value.ref (31 : Nat))] (0 : Nat)) #[])) ::
    (nat_lit 61, (Obj.mk (Value.type "tuple") (@none Nat) (Data.seq #[] (0 : Nat)) #[])) ::
    (nat_lit 63, (Obj.mk (Value.type "tuple") (@none Nat) (Data.seq #[(Value.str (Str.ofString "self") (259 : Nat)), (Value.str (Str.ofString "name") (260 : Nat)), (Value.str (Str.ofString "line") (261 : Nat)), (Value.str (Str.ofString "text") (262 : Nat))] (0 : Nat)) #[])) ::
    (nat_lit 64, (Obj.mk (Value.type "tuple") (@none Nat) (Data.seq #[] (0 : Nat)) #[])) ::
    (nat_lit 66, (Obj.mk (Value.type "code") (@none Nat) (Data.fields #[(Value.str (Str.ofString "__init__") (256 : Nat)), (Value.str (Str.ofString "AdaRaise.__init__") (257 : Nat)), (Value.str (Str.ofString "/claim/cut.py") (258 : Nat)), (Value.int 14 (0 : Nat)), (Value.int 4 (0 : Nat)), (Value.int 0 (0 : Nat)), (Value.int 0 (0 : Nat)), (Value.int 3 (0 : Nat)), (Value.ref (61 : Nat)), (Value.bool Bool.true), (Value.int 181 (0 : Nat)), (Value.ref (62 : Nat)), Value.none, (Value.ref (63 : Nat)), (Value.ref (64 : Nat)), (Value.ref (65 : Nat)), (Value.int 263 (0 : Nat)), (Value.int 14 (0 : Nat)), (Value.str (Str.ofString "/claim/cut.py") (264 : Nat))]) #[])) ::
    (nat_lit 67, (Obj.mk (Value.type "function") (@none Nat) (Data.func (FuncData.mk (Str.ofString "__init__") (Str.ofString "AdaRaise.__init__") a67 (FuncBody.stmts b67) s67 (3 : Nat) [] Value.none Value.none Value.none (Value.str (Str.ofString "adacore.errors") (187 : Nat)) (@none Nat) (Value.ref (66 : Nat)) Value.none (0 : Nat))) #[])) ::
    (nat_lit 68, (Obj.mk (Value.type "tuple") (@none Nat) (Data.seq #[(Value.str (Str.ofString "line") (266 : Nat)), (Value.str (Str.ofString "name") (267 : Nat)), (Value.str (Str.ofString "word") (268 : Nat))] (0 : Nat)) #[])) ::
    (nat_lit 69, (Obj.mk (Value.type "dict") (@none Nat) (Data.dict #[(DictEntry.mk (PyData.keyHash P (Str.ofString "__module__")) (Value.str (Str.ofString "__module__") (251 : Nat)) (Value.str (Str.ofString "adacore.errors") (187 : Nat))), (DictEntry.mk (PyData.keyHash P (Str.ofString "__firstlineno__")) (Value.str (Str.ofString "__firstlineno__") (255 : Nat)) (Value.int 12 (254 : Nat))), (DictEntry.mk (PyData.keyHash P (Str.ofString "__init__")) (Value.str (Str.ofString "__init__") (265 : Nat)) (Value.ref (67 : Nat))), (DictEntry.mk (PyData.keyHash P (Str.ofString "__static_attributes__")) (Value.str (Str.ofString "__static_attributes__") (269 : Nat)) (Value.ref (68 : Nat))), (DictEntry.mk (PyData.keyHash P (Str.ofString "__doc__")) (Value.str (Str.ofString "__doc__") (270 : Nat)) Value.none)] (2 : Nat)) #[])) ::
    (nat_lit 70, (Obj.mk (Value.type "type") (@none Nat) (Data.cls (ClassData.mk (Str.ofString "AdaRaise") [(Value.ref (31 : Nat))] [(Value.ref (70 : Nat)), (Value.ref (31 : Nat)), (Value.type "Exception"), (Value.type "BaseException"), (Value.type "object")] (69 : Nat) (Str.ofString "AdaRaise") Bool.true [] [] Bool.false Option.none Bool.false)) #[(Option.some (Value.ref (54 : Nat))), Option.none, (Option.some (Value.str (Str.ofString "AdaRaise") (244 : Nat))), (Option.some (Value.str (Str.ofString "AdaRaise") (252 : Nat))), (Option.some (Value.builtin "Exception.__new__")), (Option.some (Value.bool Bool.true))])) ::
    (nat_lit 80, (Obj.mk (Value.type "tuple") (@none Nat) (Data.seq #[] (0 : Nat)) #[])) ::
    (nat_lit 82, (Obj.mk (Value.type "tuple") (@none Nat) (Data.seq #[(Value.str (Str.ofString "self") (290 : Nat))] (0 : Nat)) #[])) ::
    (nat_lit 83, (Obj.mk (Value.type "tuple") (@none Nat) (Data.seq #[] (0 : Nat)) #[])) ::
    (nat_lit 85, (Obj.mk (Value.type "code") (@none Nat) (Data.fields #[(Value.str (Str.ofString "__init__") (287 : Nat)), (Value.str (Str.ofString "Unset.__init__") (288 : Nat)), (Value.str (Str.ofString "/claim/cut.py") (289 : Nat)), (Value.int 22 (0 : Nat)), (Value.int 1 (0 : Nat)), (Value.int 0 (0 : Nat)), (Value.int 0 (0 : Nat)), (Value.int 3 (0 : Nat)), (Value.ref (80 : Nat)), (Value.bool Bool.true), (Value.int 181 (0 : Nat)), (Value.ref (81 : Nat)), Value.none, (Value.ref (82 : Nat)), (Value.ref (83 : Nat)), (Value.ref (84 : Nat)), (Value.int 291 (0 : Nat)), (Value.int 22 (0 : Nat)), (Value.str (Str.ofString "/claim/cut.py") (292 : Nat))]) #[])) ::
    (nat_lit 86, (Obj.mk (Value.type "function") (@none Nat) (Data.func (FuncData.mk (Str.ofString "__init__") (Str.ofString "Unset.__init__") a86 (FuncBody.stmts b86) s86 (3 : Nat) [] Value.none Value.none Value.none (Value.str (Str.ofString "adacore.values") (273 : Nat)) (@none Nat) (Value.ref (85 : Nat)) Value.none (0 : Nat))) #[])) ::
    (nat_lit 87, (Obj.mk (Value.type "tuple") (@none Nat) (Data.seq #[(Value.str (Str.ofString "text") (294 : Nat))] (0 : Nat)) #[])) ::
    (nat_lit 88, (Obj.mk (Value.type "dict") (@none Nat) (Data.dict #[(DictEntry.mk (PyData.keyHash P (Str.ofString "__module__")) (Value.str (Str.ofString "__module__") (282 : Nat)) (Value.str (Str.ofString "adacore.values") (273 : Nat))), (DictEntry.mk (PyData.keyHash P (Str.ofString "__firstlineno__")) (Value.str (Str.ofString "__firstlineno__") (286 : Nat)) (Value.int 20 (285 : Nat))), (DictEntry.mk (PyData.keyHash P (Str.ofString "__init__")) (Value.str (Str.ofString "__init__") (293 : Nat)) (Value.ref (86 : Nat))), (DictEntry.mk (PyData.keyHash P (Str.ofString "__static_attributes__")) (Value.str (Str.ofString "__static_attributes__") (295 : Nat)) (Value.ref (87 : Nat))), (DictEntry.mk (PyData.keyHash P (Str.ofString "__dict__")) (Value.str (Str.ofString "__dict__") (297 : Nat)) (Value.ref (90 : Nat))), (DictEntry.mk (PyData.keyHash P (Str.ofString "__weakref__")) (Value.str (Str.ofString "__weakref__") (299 : Nat)) (Value.ref (91 : Nat))), (DictEntry.mk (PyData.keyHash P (Str.ofString "__doc__")) (Value.str (Str.ofString "__doc__") (300 : Nat)) Value.none)] (4 : Nat)) #[])) ::
    (nat_lit 89, (Obj.mk (Value.type "type") (@none Nat) (Data.cls (ClassData.mk (Str.ofString "Unset") [(Value.type "object")] [(Value.ref (89 : Nat)), (Value.type "object")] (88 : Nat) (Str.ofString "Unset") Bool.true [] [] Bool.false Option.none Bool.false)) #[Option.none, Option.none, (Option.some (Value.str (Str.ofString "Unset") (275 : Nat))), (Option.some (Value.str (Str.ofString "Unset") (283 : Nat))), (Option.some (Value.builtin "object.__new__")), (Option.some (Value.bool Bool.true))])) ::
    (nat_lit 90, (Obj.mk (Value.type "getset_descriptor") (@none Nat) (Data.fields #[(Value.str (Str.ofString "__dict__") (296 : Nat)), (Value.ref (89 : Nat)), (Value.builtin "function.__dict__"), (Value.builtin "function.__dict__#set")]) #[])) ::
    (nat_lit 91, (Obj.mk (Value.type "getset_descriptor") (@none Nat) (Data.fields #[(Value.str (Str.ofString "__weakref__") (298 : Nat)), (Value.ref (89 : Nat)), (Value.builtin "ExceptionGroup.__weakref__"), Value.none]) #[])) ::
    (nat_lit 94, (Obj.mk (Value.type "dict") (@none Nat) (Data.dict #[(DictEntry.mk (PyData.keyHash P (Str.ofString "text")) (Value.str (Str.ofString "text") (306 : Nat)) (Value.str (Str.ofString "unset") (304 : Nat)))] (1 : Nat)) #[])) ::
    (nat_lit 95, (Obj.mk (Value.ref (89 : Nat)) (@some Nat (94 : Nat)) Data.plain #[])) ::
    (nat_lit 104, (Obj.mk (Value.type "tuple") (@none Nat) (Data.seq #[] (0 : Nat)) #[])) ::
    (nat_lit 106, (Obj.mk (Value.type "tuple") (@none Nat) (Data.seq #[(Value.str (Str.ofString "self") (323 : Nat)), (Value.str (Str.ofString "value") (324 : Nat)), (Value.str (Str.ofString "number") (325 : Nat))] (0 : Nat)) #[])) ::
    (nat_lit 107, (Obj.mk (Value.type "tuple") (@none Nat) (Data.seq #[] (0 : Nat)) #[])) ::
    (nat_lit 109, (Obj.mk (Value.type "code") (@none Nat) (Data.fields #[(Value.str (Str.ofString "__init__") (320 : Nat)), (Value.str (Str.ofString "Cell.__init__") (321 : Nat)), (Value.str (Str.ofString "/claim/cut.py") (322 : Nat)), (Value.int 27 (0 : Nat)), (Value.int 3 (0 : Nat)), (Value.int 0 (0 : Nat)), (Value.int 0 (0 : Nat)), (Value.int 3 (0 : Nat)), (Value.ref (104 : Nat)), (Value.bool Bool.true), (Value.int 181 (0 : Nat)), (Value.ref (105 : Nat)), Value.none, (Value.ref (106 : Nat)), (Value.ref (107 : Nat)), (Value.ref (108 : Nat)), (Value.int 326 (0 : Nat)), (Value.int 27 (0 : Nat)), (Value.str (Str.ofString "/claim/cut.py") (327 : Nat))]) #[])) ::
    (nat_lit 110, (Obj.mk (Value.type "function") (@none Nat) (Data.func (FuncData.mk (Str.ofString "__init__") (Str.ofString "Cell.__init__") a110 (FuncBody.stmts b110) s110 (3 : Nat) [] Value.none Value.none Value.none (Value.str (Str.ofString "adacore.values") (273 : Nat)) (@none Nat) (Value.ref (109 : Nat)) Value.none (0 : Nat))) #[])) ::
    (nat_lit 111, (Obj.mk (Value.type "tuple") (@none Nat) (Data.seq #[(Value.str (Str.ofString "number") (329 : Nat)), (Value.str (Str.ofString "subtype") (330 : Nat)), (Value.str (Str.ofString "value") (331 : Nat))] (0 : Nat)) #[])) ::
    (nat_lit 112, (Obj.mk (Value.type "dict") (@none Nat) (Data.dict #[(DictEntry.mk (PyData.keyHash P (Str.ofString "__module__")) (Value.str (Str.ofString "__module__") (315 : Nat)) (Value.str (Str.ofString "adacore.values") (273 : Nat))), (DictEntry.mk (PyData.keyHash P (Str.ofString "__firstlineno__")) (Value.str (Str.ofString "__firstlineno__") (319 : Nat)) (Value.int 25 (318 : Nat))), (DictEntry.mk (PyData.keyHash P (Str.ofString "__init__")) (Value.str (Str.ofString "__init__") (328 : Nat)) (Value.ref (110 : Nat))), (DictEntry.mk (PyData.keyHash P (Str.ofString "__static_attributes__")) (Value.str (Str.ofString "__static_attributes__") (332 : Nat)) (Value.ref (111 : Nat))), (DictEntry.mk (PyData.keyHash P (Str.ofString "__dict__")) (Value.str (Str.ofString "__dict__") (334 : Nat)) (Value.ref (114 : Nat))), (DictEntry.mk (PyData.keyHash P (Str.ofString "__weakref__")) (Value.str (Str.ofString "__weakref__") (336 : Nat)) (Value.ref (115 : Nat))), (DictEntry.mk (PyData.keyHash P (Str.ofString "__doc__")) (Value.str (Str.ofString "__doc__") (337 : Nat)) Value.none)] (4 : Nat)) #[])) ::
    (nat_lit 113, (Obj.mk (Value.type "type") (@none Nat) (Data.cls (ClassData.mk (Str.ofString "Cell") [(Value.type "object")] [(Value.ref (113 : Nat)), (Value.type "object")] (112 : Nat) (Str.ofString "Cell") Bool.true [] [] Bool.false Option.none Bool.false)) #[Option.none, Option.none, (Option.some (Value.str (Str.ofString "Cell") (308 : Nat))), (Option.some (Value.str (Str.ofString "Cell") (316 : Nat))), (Option.some (Value.builtin "object.__new__")), (Option.some (Value.bool Bool.true))])) ::
    (nat_lit 114, (Obj.mk (Value.type "getset_descriptor") (@none Nat) (Data.fields #[(Value.str (Str.ofString "__dict__") (333 : Nat)), (Value.ref (113 : Nat)), (Value.builtin "function.__dict__"), (Value.builtin "function.__dict__#set")]) #[])) ::
    (nat_lit 115, (Obj.mk (Value.type "getset_descriptor") (@none Nat) (Data.fields #[(Value.str (Str.ofString "__weakref__") (335 : Nat)), (Value.ref (113 : Nat)), (Value.builtin "ExceptionGroup.__weakref__"), Value.none]) #[])) ::
    (nat_lit 125, (Obj.mk (Value.type "tuple") (@none Nat) (Data.seq #[] (0 : Nat)) #[])) ::
    (nat_lit 127, (Obj.mk (Value.type "tuple") (@none Nat) (Data.seq #[(Value.str (Str.ofString "self") (355 : Nat))] (0 : Nat)) #[])) ::
    (nat_lit 128, (Obj.mk (Value.type "tuple") (@none Nat) (Data.seq #[] (0 : Nat)) #[])) ::
    (nat_lit 130, (Obj.mk (Value.type "code") (@none Nat) (Data.fields #[(Value.str (Str.ofString "__init__") (352 : Nat)), (Value.str (Str.ofString "CellMaker.__init__") (353 : Nat)), (Value.str (Str.ofString "/claim/cut.py") (354 : Nat)), (Value.int 33 (0 : Nat)), (Value.int 1 (0 : Nat)), (Value.int 0 (0 : Nat)), (Value.int 0 (0 : Nat)), (Value.int 3 (0 : Nat)), (Value.ref (125 : Nat)), (Value.bool Bool.true), (Value.int 181 (0 : Nat)), (Value.ref (126 : Nat)), Value.none, (Value.ref (127 : Nat)), (Value.ref (128 : Nat)), (Value.ref (129 : Nat)), (Value.int 356 (0 : Nat)), (Value.int 33 (0 : Nat)), (Value.str (Str.ofString "/claim/cut.py") (357 : Nat))]) #[])) ::
    (nat_lit 131, (Obj.mk (Value.type "function") (@none Nat) (Data.func (FuncData.mk (Str.ofString "__init__") (Str.ofString "CellMaker.__init__") a131 (FuncBody.stmts b131) s131 (3 : Nat) [] Value.none Value.none Value.none (Value.str (Str.ofString "adacore.values") (273 : Nat)) (@none Nat) (Value.ref (130 : Nat)) Value.none (0 : Nat))) #[])) ::
    (nat_lit 132, (Obj.mk (Value.type "tuple") (@none Nat) (Data.seq #[] (0 : Nat)) #[])) ::
    (nat_lit 134, (Obj.mk (Value.type "tuple") (@none Nat) (Data.seq #[(Value.str (Str.ofString "self") (362 : Nat)), (Value.str (Str.ofString "value") (363 : Nat))] (0 : Nat)) #[])) ::
    (nat_lit 135, (Obj.mk (Value.type "tuple") (@none Nat) (Data.seq #[] (0 : Nat)) #[])) ::
    (nat_lit 137, (Obj.mk (Value.type "code") (@none Nat) (Data.fields #[(Value.str (Str.ofString "make_cell") (359 : Nat)), (Value.str (Str.ofString "CellMaker.make_cell") (360 : Nat)), (Value.str (Str.ofString "/claim/cut.py") (361 : Nat)), (Value.int 36 (0 : Nat)), (Value.int 2 (0 : Nat)), (Value.int 0 (0 : Nat)), (Value.int 0 (0 : Nat)), (Value.int 3 (0 : Nat)), (Value.ref (132 : Nat)), (Value.bool Bool.true), (Value.int 181 (0 : Nat)), (Value.ref (133 : Nat)), Value.none, (Value.ref (134 : Nat)), (Value.ref (135 : Nat)), (Value.ref (136 : Nat)), (Value.int 364 (0 : Nat)), (Value.int 36 (0 : Nat)), (Value.str (Str.ofString "/claim/cut.py") (365 : Nat))]) #[])) ::
    (nat_lit 138, (Obj.mk (Value.type "function") (@none Nat) (Data.func (FuncData.mk (Str.ofString "make_cell") (Str.ofString "CellMaker.make_cell") a138 (FuncBody.stmts b138) s138 (3 : Nat) [] Value.none Value.none Value.none (Value.str (Str.ofString "adacore.values") (273 : Nat)) (@none Nat) (Value.ref (137 : Nat)) Value.none (0 : Nat))) #[])) ::
    (nat_lit 139, (Obj.mk (Value.type "tuple") (@none Nat) (Data.seq #[(Value.str (Str.ofString "last") (367 : Nat))] (0 : Nat)) #[])) ::
    (nat_lit 140, (Obj.mk (Value.type "dict") (@none Nat) (Data.dict #[(DictEntry.mk (PyData.keyHash P (Str.ofString "__module__")) (Value.str (Str.ofString "__module__") (347 : Nat)) (Value.str (Str.ofString "adacore.values") (273 : Nat))), (DictEntry.mk (PyData.keyHash P (Str.ofString "__firstlineno__")) (Value.str (Str.ofString "__firstlineno__") (351 : Nat)) (Value.int 31 (350 : Nat))), (DictEntry.mk (PyData.keyHash P (Str.ofString "__init__")) (Value.str (Str.ofString "__init__") (358 : Nat)) (Value.ref (131 : Nat))), (DictEntry.mk (PyData.keyHash P (Str.ofString "make_cell")) (Value.str (Str.ofString "make_cell") (366 : Nat)) (Value.ref (138 : Nat))), (DictEntry.mk (PyData.keyHash P (Str.ofString "__static_attributes__")) (Value.str (Str.ofString "__static_attributes__") (368 : Nat)) (Value.ref (139 : Nat))), (DictEntry.mk (PyData.keyHash P (Str.ofString "__dict__")) (Value.str (Str.ofString "__dict__") (370 : Nat)) (Value.ref (142 : Nat))), (DictEntry.mk (PyData.keyHash P (Str.ofString "__weakref__")) (Value.str (Str.ofString "__weakref__") (372 : Nat)) (Value.ref (143 : Nat))), (DictEntry.mk (PyData.keyHash P (Str.ofString "__doc__")) (Value.str (Str.ofString "__doc__") (373 : Nat)) Value.none)] (4 : Nat)) #[])) ::
    (nat_lit 141, (Obj.mk (Value.type "type") (@none Nat) (Data.cls (ClassData.mk (Str.ofString "CellMaker") [(Value.type "object")] [(Value.ref (141 : Nat)), (Value.type "object")] (140 : Nat) (Str.ofString "CellMaker") Bool.true [] [] Bool.false Option.none Bool.false)) #[Option.none, Option.none, (Option.some (Value.str (Str.ofString "CellMaker") (340 : Nat))), (Option.some (Value.str (Str.ofString "CellMaker") (348 : Nat))), (Option.some (Value.builtin "object.__new__")), (Option.some (Value.bool Bool.true))])) ::
    (nat_lit 142, (Obj.mk (Value.type "getset_descriptor") (@none Nat) (Data.fields #[(Value.str (Str.ofString "__dict__") (369 : Nat)), (Value.ref (141 : Nat)), (Value.builtin "function.__dict__"), (Value.builtin "function.__dict__#set")]) #[])) ::
    (nat_lit 143, (Obj.mk (Value.type "getset_descriptor") (@none Nat) (Data.fields #[(Value.str (Str.ofString "__weakref__") (371 : Nat)), (Value.ref (141 : Nat)), (Value.builtin "ExceptionGroup.__weakref__"), Value.none]) #[])) ::
    (nat_lit 153, (Obj.mk (Value.type "tuple") (@none Nat) (Data.seq #[] (0 : Nat)) #[])) ::
    (nat_lit 155, (Obj.mk (Value.type "tuple") (@none Nat) (Data.seq #[(Value.str (Str.ofString "self") (391 : Nat)), (Value.str (Str.ofString "bounds") (392 : Nat)), (Value.str (Str.ofString "items") (393 : Nat))] (0 : Nat)) #[])) ::
    (nat_lit 156, (Obj.mk (Value.type "tuple") (@none Nat) (Data.seq #[] (0 : Nat)) #[])) ::
    (nat_lit 158, (Obj.mk (Value.type "code") (@none Nat) (Data.fields #[(Value.str (Str.ofString "__init__") (388 : Nat)), (Value.str (Str.ofString "ArrayValue.__init__") (389 : Nat)), (Value.str (Str.ofString "/claim/cut.py") (390 : Nat)), (Value.int 41 (0 : Nat)), (Value.int 3 (0 : Nat)), (Value.int 0 (0 : Nat)), (Value.int 0 (0 : Nat)), (Value.int 3 (0 : Nat)), (Value.ref (153 : Nat)), (Value.bool Bool.true), (Value.int 181 (0 : Nat)), (Value.ref (154 : Nat)), Value.none, (Value.ref (155 : Nat)), (Value.ref (156 : Nat)), (Value.ref (157 : Nat)), (Value.int 394 (0 : Nat)), (Value.int 41 (0 : Nat)), (Value.str (Str.ofString "/claim/cut.py") (395 : Nat))]) #[])) ::
    (nat_lit 159, (Obj.mk (Value.type "function") (@none Nat) (Data.func (FuncData.mk (Str.ofString "__init__") (Str.ofString "ArrayValue.__init__") a159 (FuncBody.stmts b159) s159 (3 : Nat) [] Value.none Value.none Value.none (Value.str (Str.ofString "adacore.values") (273 : Nat)) (@none Nat) (Value.ref (158 : Nat)) Value.none (0 : Nat))) #[])) ::
    (nat_lit 160, (Obj.mk (Value.type "tuple") (@none Nat) (Data.seq #[(Value.str (Str.ofString "bounds") (397 : Nat)), (Value.str (Str.ofString "items") (398 : Nat))] (0 : Nat)) #[])) ::
    (nat_lit 161, (Obj.mk (Value.type "dict") (@none Nat) (Data.dict #[(DictEntry.mk (PyData.keyHash P (Str.ofString "__module__")) (Value.str (Str.ofString "__module__") (383 : Nat)) (Value.str (Str.ofString "adacore.values") (273 : Nat))), (DictEntry.mk (PyData.keyHash P (Str.ofString "__firstlineno__")) (Value.str (Str.ofString "__firstlineno__") (387 : Nat)) (Value.int 39 (386 : Nat))), (DictEntry.mk (PyData.keyHash P (Str.ofString "__init__")) (Value.str (Str.ofString "__init__") (396 : Nat)) (Value.ref (159 : Nat))), (DictEntry.mk (PyData.keyHash P (Str.ofString "__static_attributes__")) (Value.str (Str.ofString "__static_attributes__") (399 : Nat)) (Value.ref (160 : Nat))), (DictEntry.mk (PyData.keyHash P (Str.ofString "__dict__")) (Value.str (Str.ofString "__dict__") (401 : Nat)) (Value.ref (163 : Nat))), (DictEntry.mk (PyData.keyHash P (Str.ofString "__weakref__")) (Value.str (Str.ofString "__weakref__") (403 : Nat)) (Value.ref (164 : Nat))), (DictEntry.mk (PyData.keyHash P (Str.ofString "__doc__")) (Value.str (Str.ofString "__doc__") (404 : Nat)) Value.none)] (4 : Nat)) #[])) ::
    (nat_lit 162, (Obj.mk (Value.type "type") (@none Nat) (Data.cls (ClassData.mk (Str.ofString "ArrayValue") [(Value.type "object")] [(Value.ref (162 : Nat)), (Value.type "object")] (161 : Nat) (Str.ofString "ArrayValue") Bool.true [] [] Bool.false Option.none Bool.false)) #[Option.none, Option.none, (Option.some (Value.str (Str.ofString "ArrayValue") (376 : Nat))), (Option.some (Value.str (Str.ofString "ArrayValue") (384 : Nat))), (Option.some (Value.builtin "object.__new__")), (Option.some (Value.bool Bool.true))])) ::
    (nat_lit 163, (Obj.mk (Value.type "getset_descriptor") (@none Nat) (Data.fields #[(Value.str (Str.ofString "__dict__") (400 : Nat)), (Value.ref (162 : Nat)), (Value.builtin "function.__dict__"), (Value.builtin "function.__dict__#set")]) #[])) ::
    (nat_lit 164, (Obj.mk (Value.type "getset_descriptor") (@none Nat) (Data.fields #[(Value.str (Str.ofString "__weakref__") (402 : Nat)), (Value.ref (162 : Nat)), (Value.builtin "ExceptionGroup.__weakref__"), Value.none]) #[])) ::
    (nat_lit 174, (Obj.mk (Value.type "tuple") (@none Nat) (Data.seq #[] (0 : Nat)) #[])) ::
    (nat_lit 176, (Obj.mk (Value.type "tuple") (@none Nat) (Data.seq #[(Value.str (Str.ofString "self") (422 : Nat)), (Value.str (Str.ofString "t") (423 : Nat)), (Value.str (Str.ofString "fields") (424 : Nat))] (0 : Nat)) #[])) ::
    (nat_lit 177, (Obj.mk (Value.type "tuple") (@none Nat) (Data.seq #[] (0 : Nat)) #[])) ::
    (nat_lit 179, (Obj.mk (Value.type "code") (@none Nat) (Data.fields #[(Value.str (Str.ofString "__init__") (419 : Nat)), (Value.str (Str.ofString "RecordValue.__init__") (420 : Nat)), (Value.str (Str.ofString "/claim/cut.py") (421 : Nat)), (Value.int 46 (0 : Nat)), (Value.int 3 (0 : Nat)), (Value.int 0 (0 : Nat)), (Value.int 0 (0 : Nat)), (Value.int 3 (0 : Nat)), (Value.ref (174 : Nat)), (Value.bool Bool.true), (Value.int 181 (0 : Nat)), (Value.ref (175 : Nat)), Value.none, (Value.ref (176 : Nat)), (Value.ref (177 : Nat)), (Value.ref (178 : Nat)), (Value.int 425 (0 : Nat)), (Value.int 46 (0 : Nat)), (Value.str (Str.ofString "/claim/cut.py") (426 : Nat))]) #[])) ::
    (nat_lit 180, (Obj.mk (Value.type "function") (@none Nat) (Data.func (FuncData.mk (Str.ofString "__init__") (Str.ofString "RecordValue.__init__") a180 (FuncBody.stmts b180) s180 (3 : Nat) [] Value.none Value.none Value.none (Value.str (Str.ofString "adacore.values") (273 : Nat)) (@none Nat) (Value.ref (179 : Nat)) Value.none (0 : Nat))) #[])) ::
    (nat_lit 181, (Obj.mk (Value.type "tuple") (@none Nat) (Data.seq #[(Value.str (Str.ofString "fields") (428 : Nat)), (Value.str (Str.ofString "type") (429 : Nat))] (0 : Nat)) #[])) ::
    (nat_lit 182, (Obj.mk (Value.type "dict") (@none Nat) (Data.dict #[(DictEntry.mk (PyData.keyHash P (Str.ofString "__module__")) (Value.str (Str.ofString "__module__") (414 : Nat)) (Value.str (Str.ofString "adacore.values") (273 : Nat))), (DictEntry.mk (PyData.keyHash P (Str.ofString "__firstlineno__")) (Value.str (Str.ofString "__firstlineno__") (418 : Nat)) (Value.int 44 (417 : Nat))), (DictEntry.mk (PyData.keyHash P (Str.ofString "__init__")) (Value.str (Str.ofString "__init__") (427 : Nat)) (Value.ref (180 : Nat))), (DictEntry.mk (PyData.keyHash P (Str.ofString "__static_attributes__")) (Value.str (Str.ofString "__static_attributes__") (430 : Nat)) (Value.ref (181 : Nat))), (DictEntry.mk (PyData.keyHash P (Str.ofString "__dict__")) (Value.str (Str.ofString "__dict__") (432 : Nat)) (Value.ref (184 : Nat))), (DictEntry.mk (PyData.keyHash P (Str.ofString "__weakref__")) (Value.str (Str.ofString "__weakref__") (434 : Nat)) (Value.ref (185 : Nat))), (DictEntry.mk (PyData.keyHash P (Str.ofString "__doc__")) (Value.str (Str.ofString "__doc__") (435 : Nat)) Value.none)] (4 : Nat)) #[])) ::
    (nat_lit 183, (Obj.mk (Value.type "type") (@none Nat) (Data.cls (ClassData.mk (Str.ofString "RecordValue") [(Value.type "object")] [(Value.ref (183 : Nat)), (Value.type "object")] (182 : Nat) (Str.ofString "RecordValue") Bool.true [] [] Bool.false Option.none Bool.false)) #[Option.none, Option.none, (Option.some (Value.str (Str.ofString "RecordValue") (407 : Nat))), (Option.some (Value.str (Str.ofString "RecordValue") (415 : Nat))), (Option.some (Value.builtin "object.__new__")), (Option.some (Value.bool Bool.true))])) ::
    (nat_lit 184, (Obj.mk (Value.type "getset_descriptor") (@none Nat) (Data.fields #[(Value.str (Str.ofString "__dict__") (431 : Nat)), (Value.ref (183 : Nat)), (Value.builtin "function.__dict__"), (Value.builtin "function.__dict__#set")]) #[])) ::
    (nat_lit 185, (Obj.mk (Value.type "getset_descriptor") (@none Nat) (Data.fields #[(Value.str (Str.ofString "__weakref__") (433 : Nat)), (Value.ref (183 : Nat)), (Value.builtin "ExceptionGroup.__weakref__"), Value.none]) #[])) ::
    (nat_lit 188, (Obj.mk (Value.type "tuple") (@none Nat) (Data.seq #[] (0 : Nat)) #[])) ::
    (nat_lit 190, (Obj.mk (Value.type "tuple") (@none Nat) (Data.seq #[(Value.str (Str.ofString "value") (441 : Nat))] (0 : Nat)) #[])) ::
    (nat_lit 191, (Obj.mk (Value.type "tuple") (@none Nat) (Data.seq #[] (0 : Nat)) #[])) ::
    (nat_lit 193, (Obj.mk (Value.type "code") (@none Nat) (Data.fields #[(Value.str (Str.ofString "need_set") (438 : Nat)), (Value.str (Str.ofString "need_set") (439 : Nat)), (Value.str (Str.ofString "/claim/cut.py") (440 : Nat)), (Value.int 49 (0 : Nat)), (Value.int 1 (0 : Nat)), (Value.int 0 (0 : Nat)), (Value.int 0 (0 : Nat)), (Value.int 3 (0 : Nat)), (Value.ref (188 : Nat)), (Value.bool Bool.true), (Value.int 181 (0 : Nat)), (Value.ref (189 : Nat)), Value.none, (Value.ref (190 : Nat)), (Value.ref (191 : Nat)), (Value.ref (192 : Nat)), (Value.int 442 (0 : Nat)), (Value.int 49 (0 : Nat)), (Value.str (Str.ofString "/claim/cut.py") (443 : Nat))]) #[])) ::
    (nat_lit 194, (Obj.mk (Value.type "function") (@none Nat) (Data.func (FuncData.mk (Str.ofString "need_set") (Str.ofString "need_set") a194 (FuncBody.stmts b194) s194 (3 : Nat) [] Value.none Value.none Value.none (Value.str (Str.ofString "adacore.values") (273 : Nat)) (@none Nat) (Value.ref (193 : Nat)) Value.none (0 : Nat))) #[])) ::
    (nat_lit 195, (Obj.mk (Value.type "tuple") (@none Nat) (Data.seq #[] (0 : Nat)) #[])) ::
    (nat_lit 198, (Obj.mk (Value.type "code") (@none Nat) (Data.fields #[(Value.str (Str.ofString "weight_of") (445 : Nat)), (Value.str (Str.ofString "weight_of") (446 : Nat)), (Value.str (Str.ofString "/claim/cut.py") (447 : Nat)), (Value.int 53 (0 : Nat)), (Value.int 1 (0 : Nat)), (Value.int 0 (0 : Nat)), (Value.int 0 (0 : Nat)), (Value.int 3 (0 : Nat)), (Value.ref (195 : Nat)), (Value.bool Bool.true), (Value.int 181 (0 : Nat)), (Value.ref (196 : Nat)), Value.none, Value.none, Value.none, (Value.ref (197 : Nat)), (Value.int 448 (0 : Nat)), (Value.int 53 (0 : Nat)), (Value.str (Str.ofString "/claim/cut.py") (449 : Nat))]) #[])) ::
    (nat_lit 199, (Obj.mk (Value.type "function") (@none Nat) (Data.func (FuncData.mk (Str.ofString "weight_of") (Str.ofString "weight_of") a199 (FuncBody.stmts b199) s199 (3 : Nat) [] Value.none Value.none Value.none (Value.str (Str.ofString "adacore.values") (273 : Nat)) (@none Nat) (Value.ref (198 : Nat)) Value.none (0 : Nat))) #[])) ::
    (nat_lit 207, (Obj.mk (Value.type "tuple") (@none Nat) (Data.seq #[] (0 : Nat)) #[])) ::
    (nat_lit 209, (Obj.mk (Value.type "tuple") (@none Nat) (Data.seq #[(Value.str (Str.ofString "self") (468 : Nat))] (0 : Nat)) #[])) ::
    (nat_lit 210, (Obj.mk (Value.type "tuple") (@none Nat) (Data.seq #[] (0 : Nat)) #[])) ::
    (nat_lit 212, (Obj.mk (Value.type "code") (@none Nat) (Data.fields #[(Value.str (Str.ofString "__init__") (465 : Nat)), (Value.str (Str.ofString "World.__init__") (466 : Nat)), (Value.str (Str.ofString "/claim/cut.py") (467 : Nat)), (Value.int 64 (0 : Nat)), (Value.int 1 (0 : Nat)), (Value.int 0 (0 : Nat)), (Value.int 0 (0 : Nat)), (Value.int 3 (0 : Nat)), (Value.ref (207 : Nat)), (Value.bool Bool.true), (Value.int 181 (0 : Nat)), (Value.ref (208 : Nat)), Value.none, (Value.ref (209 : Nat)), (Value.ref (210 : Nat)), (Value.ref (211 : Nat)), (Value.int 469 (0 : Nat)), (Value.int 64 (0 : Nat)), (Value.str (Str.ofString "/claim/cut.py") (470 : Nat))]) #[])) ::
    (nat_lit 213, (Obj.mk (Value.type "function") (@none Nat) (Data.func (FuncData.mk (Str.ofString "__init__") (Str.ofString "World.__init__") a213 (FuncBody.stmts b213) s213 (3 : Nat) [] Value.none Value.none Value.none (Value.str (Str.ofString "adacore.whole") (451 : Nat)) (@none Nat) (Value.ref (212 : Nat)) Value.none (0 : Nat))) #[])) ::
    (nat_lit 214, (Obj.mk (Value.type "tuple") (@none Nat) (Data.seq #[(Value.str (Str.ofString "out") (472 : Nat)), (Value.str (Str.ofString "row") (473 : Nat))] (0 : Nat)) #[])) ::
    (nat_lit 215, (Obj.mk (Value.type "dict") (@none Nat) (Data.dict #[(DictEntry.mk (PyData.keyHash P (Str.ofString "__module__")) (Value.str (Str.ofString "__module__") (460 : Nat)) (Value.str (Str.ofString "adacore.whole") (451 : Nat))), (DictEntry.mk (PyData.keyHash P (Str.ofString "__firstlineno__")) (Value.str (Str.ofString "__firstlineno__") (464 : Nat)) (Value.int 62 (463 : Nat))), (DictEntry.mk (PyData.keyHash P (Str.ofString "__init__")) (Value.str (Str.ofString "__init__") (471 : Nat)) (Value.ref (213 : Nat))), (DictEntry.mk (PyData.keyHash P (Str.ofString "__static_attributes__")) (Value.str (Str.ofString "__static_attributes__") (474 : Nat)) (Value.ref (214 : Nat))), (DictEntry.mk (PyData.keyHash P (Str.ofString "__dict__")) (Value.str (Str.ofString "__dict__") (476 : Nat)) (Value.ref (217 : Nat))), (DictEntry.mk (PyData.keyHash P (Str.ofString "__weakref__")) (Value.str (Str.ofString "__weakref__") (478 : Nat)) (Value.ref (218 : Nat))), (DictEntry.mk (PyData.keyHash P (Str.ofString "__doc__")) (Value.str (Str.ofString "__doc__") (479 : Nat)) Value.none)] (4 : Nat)) #[])) ::
    (nat_lit 216, (Obj.mk (Value.type "type") (@none Nat) (Data.cls (ClassData.mk (Str.ofString "World") [(Value.type "object")] [(Value.ref (216 : Nat)), (Value.type "object")] (215 : Nat) (Str.ofString "World") Bool.true [] [] Bool.false Option.none Bool.false)) #[Option.none, Option.none, (Option.some (Value.str (Str.ofString "World") (453 : Nat))), (Option.some (Value.str (Str.ofString "World") (461 : Nat))), (Option.some (Value.builtin "object.__new__")), (Option.some (Value.bool Bool.true))])) ::
    (nat_lit 217, (Obj.mk (Value.type "getset_descriptor") (@none Nat) (Data.fields #[(Value.str (Str.ofString "__dict__") (475 : Nat)), (Value.ref (216 : Nat)), (Value.builtin "function.__dict__"), (Value.builtin "function.__dict__#set")]) #[])) ::
    (nat_lit 218, (Obj.mk (Value.type "getset_descriptor") (@none Nat) (Data.fields #[(Value.str (Str.ofString "__weakref__") (477 : Nat)), (Value.ref (216 : Nat)), (Value.builtin "ExceptionGroup.__weakref__"), Value.none]) #[])) ::
    (nat_lit 221, (Obj.mk (Value.type "tuple") (@none Nat) (Data.seq #[] (0 : Nat)) #[])) ::
    (nat_lit 224, (Obj.mk (Value.type "code") (@none Nat) (Data.fields #[(Value.str (Str.ofString "text_of") (482 : Nat)), (Value.str (Str.ofString "text_of") (483 : Nat)), (Value.str (Str.ofString "/claim/cut.py") (484 : Nat)), (Value.int 67 (0 : Nat)), (Value.int 1 (0 : Nat)), (Value.int 0 (0 : Nat)), (Value.int 0 (0 : Nat)), (Value.int 3 (0 : Nat)), (Value.ref (221 : Nat)), (Value.bool Bool.true), (Value.int 181 (0 : Nat)), (Value.ref (222 : Nat)), Value.none, Value.none, Value.none, (Value.ref (223 : Nat)), (Value.int 485 (0 : Nat)), (Value.int 67 (0 : Nat)), (Value.str (Str.ofString "/claim/cut.py") (486 : Nat))]) #[])) ::
    (nat_lit 225, (Obj.mk (Value.type "function") (@none Nat) (Data.func (FuncData.mk (Str.ofString "text_of") (Str.ofString "text_of") a225 (FuncBody.stmts b225) s225 (3 : Nat) [] Value.none Value.none Value.none (Value.str (Str.ofString "adacore.whole") (451 : Nat)) (@none Nat) (Value.ref (224 : Nat)) Value.none (0 : Nat))) #[])) ::
    (nat_lit 226, (Obj.mk (Value.type "tuple") (@none Nat) (Data.seq #[] (0 : Nat)) #[])) ::
    (nat_lit 228, (Obj.mk (Value.type "tuple") (@none Nat) (Data.seq #[(Value.str (Str.ofString "run") (491 : Nat)), (Value.str (Str.ofString "text") (492 : Nat))] (0 : Nat)) #[])) ::
    (nat_lit 229, (Obj.mk (Value.type "tuple") (@none Nat) (Data.seq #[] (0 : Nat)) #[])) ::
    (nat_lit 231, (Obj.mk (Value.type "code") (@none Nat) (Data.fields #[(Value.str (Str.ofString "add_text") (488 : Nat)), (Value.str (Str.ofString "add_text") (489 : Nat)), (Value.str (Str.ofString "/claim/cut.py") (490 : Nat)), (Value.int 69 (0 : Nat)), (Value.int 2 (0 : Nat)), (Value.int 0 (0 : Nat)), (Value.int 0 (0 : Nat)), (Value.int 3 (0 : Nat)), (Value.ref (226 : Nat)), (Value.bool Bool.true), (Value.int 181 (0 : Nat)), (Value.ref (227 : Nat)), Value.none, (Value.ref (228 : Nat)), (Value.ref (229 : Nat)), (Value.ref (230 : Nat)), (Value.int 493 (0 : Nat)), (Value.int 69 (0 : Nat)), (Value.str (Str.ofString "/claim/cut.py") (494 : Nat))]) #[])) ::
    (nat_lit 232, (Obj.mk (Value.type "function") (@none Nat) (Data.func (FuncData.mk (Str.ofString "add_text") (Str.ofString "add_text") a232 (FuncBody.stmts b232) s232 (3 : Nat) [] Value.none Value.none Value.none (Value.str (Str.ofString "adacore.whole") (451 : Nat)) (@none Nat) (Value.ref (231 : Nat)) Value.none (0 : Nat))) #[])) ::
    (nat_lit 233, (Obj.mk (Value.type "tuple") (@none Nat) (Data.seq #[] (0 : Nat)) #[])) ::
    (nat_lit 235, (Obj.mk (Value.type "tuple") (@none Nat) (Data.seq #[(Value.str (Str.ofString "run") (499 : Nat)), (Value.str (Str.ofString "values") (500 : Nat))] (0 : Nat)) #[])) ::
    (nat_lit 236, (Obj.mk (Value.type "tuple") (@none Nat) (Data.seq #[] (0 : Nat)) #[])) ::
    (nat_lit 238, (Obj.mk (Value.type "code") (@none Nat) (Data.fields #[(Value.str (Str.ofString "put_text") (496 : Nat)), (Value.str (Str.ofString "put_text") (497 : Nat)), (Value.str (Str.ofString "/claim/cut.py") (498 : Nat)), (Value.int 73 (0 : Nat)), (Value.int 2 (0 : Nat)), (Value.int 0 (0 : Nat)), (Value.int 0 (0 : Nat)), (Value.int 3 (0 : Nat)), (Value.ref (233 : Nat)), (Value.bool Bool.true), (Value.int 181 (0 : Nat)), (Value.ref (234 : Nat)), Value.none, (Value.ref (235 : Nat)), (Value.ref (236 : Nat)), (Value.ref (237 : Nat)), (Value.int 501 (0 : Nat)), (Value.int 73 (0 : Nat)), (Value.str (Str.ofString "/claim/cut.py") (502 : Nat))]) #[])) ::
    (nat_lit 239, (Obj.mk (Value.type "function") (@none Nat) (Data.func (FuncData.mk (Str.ofString "put_text") (Str.ofString "put_text") a239 (FuncBody.stmts b239) s239 (3 : Nat) [] Value.none Value.none Value.none (Value.str (Str.ofString "adacore.whole") (451 : Nat)) (@none Nat) (Value.ref (238 : Nat)) Value.none (0 : Nat))) #[])) ::
    (nat_lit 240, (Obj.mk (Value.type "tuple") (@none Nat) (Data.seq #[] (0 : Nat)) #[])) ::
    (nat_lit 242, (Obj.mk (Value.type "tuple") (@none Nat) (Data.seq #[(Value.str (Str.ofString "run") (507 : Nat)), (Value.str (Str.ofString "values") (508 : Nat))] (0 : Nat)) #[])) ::
    (nat_lit 243, (Obj.mk (Value.type "tuple") (@none Nat) (Data.seq #[] (0 : Nat)) #[])) ::
    (nat_lit 245, (Obj.mk (Value.type "code") (@none Nat) (Data.fields #[(Value.str (Str.ofString "put_sign") (504 : Nat)), (Value.str (Str.ofString "put_sign") (505 : Nat)), (Value.str (Str.ofString "/claim/cut.py") (506 : Nat)), (Value.int 75 (0 : Nat)), (Value.int 2 (0 : Nat)), (Value.int 0 (0 : Nat)), (Value.int 0 (0 : Nat)), (Value.int 3 (0 : Nat)), (Value.ref (240 : Nat)), (Value.bool Bool.true), (Value.int 181 (0 : Nat)), (Value.ref (241 : Nat)), Value.none, (Value.ref (242 : Nat)), (Value.ref (243 : Nat)), (Value.ref (244 : Nat)), (Value.int 509 (0 : Nat)), (Value.int 75 (0 : Nat)), (Value.str (Str.ofString "/claim/cut.py") (510 : Nat))]) #[])) ::
    (nat_lit 246, (Obj.mk (Value.type "function") (@none Nat) (Data.func (FuncData.mk (Str.ofString "put_sign") (Str.ofString "put_sign") a246 (FuncBody.stmts b246) s246 (3 : Nat) [] Value.none Value.none Value.none (Value.str (Str.ofString "adacore.whole") (451 : Nat)) (@none Nat) (Value.ref (245 : Nat)) Value.none (0 : Nat))) #[])) ::
    (nat_lit 247, (Obj.mk (Value.type "tuple") (@none Nat) (Data.seq #[] (0 : Nat)) #[])) ::
    (nat_lit 249, (Obj.mk (Value.type "tuple") (@none Nat) (Data.seq #[(Value.str (Str.ofString "run") (515 : Nat)), (Value.str (Str.ofString "values") (516 : Nat))] (0 : Nat)) #[])) ::
    (nat_lit 250, (Obj.mk (Value.type "tuple") (@none Nat) (Data.seq #[] (0 : Nat)) #[])) ::
    (nat_lit 252, (Obj.mk (Value.type "code") (@none Nat) (Data.fields #[(Value.str (Str.ofString "end_row") (512 : Nat)), (Value.str (Str.ofString "end_row") (513 : Nat)), (Value.str (Str.ofString "/claim/cut.py") (514 : Nat)), (Value.int 77 (0 : Nat)), (Value.int 2 (0 : Nat)), (Value.int 0 (0 : Nat)), (Value.int 0 (0 : Nat)), (Value.int 3 (0 : Nat)), (Value.ref (247 : Nat)), (Value.bool Bool.true), (Value.int 181 (0 : Nat)), (Value.ref (248 : Nat)), Value.none, (Value.ref (249 : Nat)), (Value.ref (250 : Nat)), (Value.ref (251 : Nat)), (Value.int 517 (0 : Nat)), (Value.int 77 (0 : Nat)), (Value.str (Str.ofString "/claim/cut.py") (518 : Nat))]) #[])) ::
    (nat_lit 253, (Obj.mk (Value.type "function") (@none Nat) (Data.func (FuncData.mk (Str.ofString "end_row") (Str.ofString "end_row") a253 (FuncBody.stmts b253) s253 (3 : Nat) [] Value.none Value.none Value.none (Value.str (Str.ofString "adacore.whole") (451 : Nat)) (@none Nat) (Value.ref (252 : Nat)) Value.none (0 : Nat))) #[])) ::
    (nat_lit 254, (Obj.mk (Value.type "tuple") (@none Nat) (Data.seq #[] (0 : Nat)) #[])) ::
    (nat_lit 256, (Obj.mk (Value.type "tuple") (@none Nat) (Data.seq #[(Value.str (Str.ofString "run") (523 : Nat)), (Value.str (Str.ofString "values") (524 : Nat))] (0 : Nat)) #[])) ::
    (nat_lit 257, (Obj.mk (Value.type "tuple") (@none Nat) (Data.seq #[] (0 : Nat)) #[])) ::
    (nat_lit 259, (Obj.mk (Value.type "code") (@none Nat) (Data.fields #[(Value.str (Str.ofString "put_row") (520 : Nat)), (Value.str (Str.ofString "put_row") (521 : Nat)), (Value.str (Str.ofString "/claim/cut.py") (522 : Nat)), (Value.int 82 (0 : Nat)), (Value.int 2 (0 : Nat)), (Value.int 0 (0 : Nat)), (Value.int 0 (0 : Nat)), (Value.int 3 (0 : Nat)), (Value.ref (254 : Nat)), (Value.bool Bool.true), (Value.int 181 (0 : Nat)), (Value.ref (255 : Nat)), Value.none, (Value.ref (256 : Nat)), (Value.ref (257 : Nat)), (Value.ref (258 : Nat)), (Value.int 525 (0 : Nat)), (Value.int 82 (0 : Nat)), (Value.str (Str.ofString "/claim/cut.py") (526 : Nat))]) #[])) ::
    (nat_lit 260, (Obj.mk (Value.type "function") (@none Nat) (Data.func (FuncData.mk (Str.ofString "put_row") (Str.ofString "put_row") a260 (FuncBody.stmts b260) s260 (3 : Nat) [] Value.none Value.none Value.none (Value.str (Str.ofString "adacore.whole") (451 : Nat)) (@none Nat) (Value.ref (259 : Nat)) Value.none (0 : Nat))) #[])) ::
    (nat_lit 268, (Obj.mk (Value.type "tuple") (@none Nat) (Data.seq #[] (0 : Nat)) #[])) ::
    (nat_lit 270, (Obj.mk (Value.type "tuple") (@none Nat) (Data.seq #[(Value.str (Str.ofString "self") (545 : Nat)), (Value.str (Str.ofString "world") (546 : Nat)), (Value.str (Str.ofString "limits") (547 : Nat))] (0 : Nat)) #[])) ::
    (nat_lit 271, (Obj.mk (Value.type "tuple") (@none Nat) (Data.seq #[] (0 : Nat)) #[])) ::
    (nat_lit 273, (Obj.mk (Value.type "code") (@none Nat) (Data.fields #[(Value.str (Str.ofString "__init__") (542 : Nat)), (Value.str (Str.ofString "Run.__init__") (543 : Nat)), (Value.str (Str.ofString "/claim/cut.py") (544 : Nat)), (Value.int 88 (0 : Nat)), (Value.int 3 (0 : Nat)), (Value.int 0 (0 : Nat)), (Value.int 0 (0 : Nat)), (Value.int 3 (0 : Nat)), (Value.ref (268 : Nat)), (Value.bool Bool.true), (Value.int 181 (0 : Nat)), (Value.ref (269 : Nat)), Value.none, (Value.ref (270 : Nat)), (Value.ref (271 : Nat)), (Value.ref (272 : Nat)), (Value.int 548 (0 : Nat)), (Value.int 88 (0 : Nat)), (Value.str (Str.ofString "/claim/cut.py") (549 : Nat))]) #[])) ::
    (nat_lit 274, (Obj.mk (Value.type "function") (@none Nat) (Data.func (FuncData.mk (Str.ofString "__init__") (Str.ofString "Run.__init__") a274 (FuncBody.stmts b274) s274 (3 : Nat) [] Value.none Value.none Value.none (Value.str (Str.ofString "adacore.frames") (528 : Nat)) (@none Nat) (Value.ref (273 : Nat)) Value.none (0 : Nat))) #[])) ::
    (nat_lit 275, (Obj.mk (Value.type "tuple") (@none Nat) (Data.seq #[(Value.str (Str.ofString "about") (551 : Nat)), (Value.str (Str.ofString "activate") (552 : Nat)), (Value.str (Str.ofString "call_function") (553 : Nat)), (Value.str (Str.ofString "cells") (554 : Nat)), (Value.str (Str.ofString "declarations") (555 : Nat)), (Value.str (Str.ofString "discs") (556 : Nat)), (Value.str (Str.ofString "dispatch_function") (557 : Nat)), (Value.str (Str.ofString "drops") (558 : Nat)), (Value.str (Str.ofString "ends") (559 : Nat)), (Value.str (Str.ofString "fault") (560 : Nat)), (Value.str (Str.ofString "find_sub") (561 : Nat)), (Value.str (Str.ofString "function_result") (562 : Nat)), (Value.str (Str.ofString "heaped") (563 : Nat)), (Value.str (Str.ofString "is_free") (564 : Nat)), (Value.str (Str.ofString "lay_operation") (565 : Nat)), (Value.str (Str.ofString "limits") (566 : Nat)), (Value.str (Str.ofString "line") (567 : Nat)), (Value.str (Str.ofString "make_active") (568 : Nat)), (Value.str (Str.ofString "nodes") (569 : Nat)), (Value.str (Str.ofString "passed") (570 : Nat)), (Value.str (Str.ofString "piled") (571 : Nat)), (Value.str (Str.ofString "prot") (572 : Nat)), (Value.str (Str.ofString "resumes") (573 : Nat)), (Value.str (Str.ofString "run_entry") (574 : Nat)), (Value.str (Str.ofString "run_procedure") (575 : Nat)), (Value.str (Str.ofString "statements") (576 : Nat)), (Value.str (Str.ofString "steps") (577 : Nat)), (Value.str (Str.ofString "task") (578 : Nat)), (Value.str (Str.ofString "task_attr") (579 : Nat)), (Value.str (Str.ofString "tasking") (580 : Nat)), (Value.str (Str.ofString "world") (581 : Nat))] (0 : Nat)) #[])) ::
    (nat_lit 276, (Obj.mk (Value.type "dict") (@none Nat) (Data.dict #[(DictEntry.mk (PyData.keyHash P (Str.ofString "__module__")) (Value.str (Str.ofString "__module__") (537 : Nat)) (Value.str (Str.ofString "adacore.frames") (528 : Nat))), (DictEntry.mk (PyData.keyHash P (Str.ofString "__firstlineno__")) (Value.str (Str.ofString "__firstlineno__") (541 : Nat)) (Value.int 86 (540 : Nat))), (DictEntry.mk (PyData.keyHash P (Str.ofString "__init__")) (Value.str (Str.ofString "__init__") (550 : Nat)) (Value.ref (274 : Nat))), (DictEntry.mk (PyData.keyHash P (Str.ofString "__static_attributes__")) (Value.str (Str.ofString "__static_attributes__") (582 : Nat)) (Value.ref (275 : Nat))), (DictEntry.mk (PyData.keyHash P (Str.ofString "__dict__")) (Value.str (Str.ofString "__dict__") (584 : Nat)) (Value.ref (278 : Nat))), (DictEntry.mk (PyData.keyHash P (Str.ofString "__weakref__")) (Value.str (Str.ofString "__weakref__") (586 : Nat)) (Value.ref (279 : Nat))), (DictEntry.mk (PyData.keyHash P (Str.ofString "__doc__")) (Value.str (Str.ofString "__doc__") (587 : Nat)) Value.none)] (4 : Nat)) #[])) ::
    (nat_lit 277, (Obj.mk (Value.type "type") (@none Nat) (Data.cls (ClassData.mk (Str.ofString "Run") [(Value.type "object")] [(Value.ref (277 : Nat)), (Value.type "object")] (276 : Nat) (Str.ofString "Run") Bool.true [] [] Bool.false Option.none Bool.false)) #[Option.none, Option.none, (Option.some (Value.str (Str.ofString "Run") (530 : Nat))), (Option.some (Value.str (Str.ofString "Run") (538 : Nat))), (Option.some (Value.builtin "object.__new__")), (Option.some (Value.bool Bool.true))])) ::
    (nat_lit 278, (Obj.mk (Value.type "getset_descriptor") (@none Nat) (Data.fields #[(Value.str (Str.ofString "__dict__") (583 : Nat)), (Value.ref (277 : Nat)), (Value.builtin "function.__dict__"), (Value.builtin "function.__dict__#set")]) #[])) ::
    (nat_lit 279, (Obj.mk (Value.type "getset_descriptor") (@none Nat) (Data.fields #[(Value.str (Str.ofString "__weakref__") (585 : Nat)), (Value.ref (277 : Nat)), (Value.builtin "ExceptionGroup.__weakref__"), Value.none]) #[])) ::
    (nat_lit 289, (Obj.mk (Value.type "tuple") (@none Nat) (Data.seq #[(Value.int 32 (604 : Nat)), (Value.int 1000000 (607 : Nat)), (Value.int 50 (608 : Nat)), (Value.int 10000 (611 : Nat)), (Value.int 100000 (614 : Nat)), (Value.int 50 (615 : Nat)), (Value.int 1000000 (618 : Nat))] (0 : Nat)) #[])) ::
    (nat_lit 290, (Obj.mk (Value.type "tuple") (@none Nat) (Data.seq #[] (0 : Nat)) #[])) ::
    (nat_lit 292, (Obj.mk (Value.type "tuple") (@none Nat) (Data.seq #[(Value.str (Str.ofString "self") (622 : Nat)), (Value.str (Str.ofString "width") (623 : Nat)), (Value.str (Str.ofString "steps") (624 : Nat)), (Value.str (Str.ofString "depth") (625 : Nat)), (Value.str (Str.ofString "members") (626 : Nat)), (Value.str (Str.ofString "text") (627 : Nat)), (Value.str (Str.ofString "tasks") (628 : Nat)), (Value.str (Str.ofString "heap") (629 : Nat))] (0 : Nat)) #[])) ::
    (nat_lit 293, (Obj.mk (Value.type "tuple") (@none Nat) (Data.seq #[] (0 : Nat)) #[])) ::
    (nat_lit 295, (Obj.mk (Value.type "code") (@none Nat) (Data.fields #[(Value.str (Str.ofString "__init__") (619 : Nat)), (Value.str (Str.ofString "Limits.__init__") (620 : Nat)), (Value.str (Str.ofString "/claim/cut.py") (621 : Nat)), (Value.int 123 (0 : Nat)), (Value.int 8 (0 : Nat)), (Value.int 0 (0 : Nat)), (Value.int 0 (0 : Nat)), (Value.int 3 (0 : Nat)), (Value.ref (290 : Nat)), (Value.bool Bool.true), (Value.int 181 (0 : Nat)), (Value.ref (291 : Nat)), Value.none, (Value.ref (292 : Nat)), (Value.ref (293 : Nat)), (Value.ref (294 : Nat)), (Value.int 630 (0 : Nat)), (Value.int 123 (0 : Nat)), (Value.str (Str.ofString "/claim/cut.py") (631 : Nat))]) #[])) ::
    (nat_lit 296, (Obj.mk (Value.type "function") (@none Nat) (Data.func (FuncData.mk (Str.ofString "__init__") (Str.ofString "Limits.__init__") a296 (FuncBody.stmts b296) s296 (3 : Nat) [] (Value.ref (289 : Nat)) Value.none Value.none (Value.str (Str.ofString "adacore.limits") (590 : Nat)) (@none Nat) (Value.ref (295 : Nat)) Value.none (0 : Nat))) #[])) ::
    (nat_lit 297, (Obj.mk (Value.type "tuple") (@none Nat) (Data.seq #[(Value.str (Str.ofString "depth") (633 : Nat)), (Value.str (Str.ofString "heap") (634 : Nat)), (Value.str (Str.ofString "members") (635 : Nat)), (Value.str (Str.ofString "steps") (636 : Nat)), (Value.str (Str.ofString "tasks") (637 : Nat)), (Value.str (Str.ofString "text") (638 : Nat)), (Value.str (Str.ofString "width") (639 : Nat))] (0 : Nat)) #[])) ::
    (nat_lit 298, (Obj.mk (Value.type "dict") (@none Nat) (Data.dict #[(DictEntry.mk (PyData.keyHash P (Str.ofString "__module__")) (Value.str (Str.ofString "__module__") (599 : Nat)) (Value.str (Str.ofString "adacore.limits") (590 : Nat))), (DictEntry.mk (PyData.keyHash P (Str.ofString "__firstlineno__")) (Value.str (Str.ofString "__firstlineno__") (603 : Nat)) (Value.int 121 (602 : Nat))), (DictEntry.mk (PyData.keyHash P (Str.ofString "__init__")) (Value.str (Str.ofString "__init__") (632 : Nat)) (Value.ref (296 : Nat))), (DictEntry.mk (PyData.keyHash P (Str.ofString "__static_attributes__")) (Value.str (Str.ofString "__static_attributes__") (640 : Nat)) (Value.ref (297 : Nat))), (DictEntry.mk (PyData.keyHash P (Str.ofString "__dict__")) (Value.str (Str.ofString "__dict__") (642 : Nat)) (Value.ref (300 : Nat))), (DictEntry.mk (PyData.keyHash P (Str.ofString "__weakref__")) (Value.str (Str.ofString "__weakref__") (644 : Nat)) (Value.ref (301 : Nat))), (DictEntry.mk (PyData.keyHash P (Str.ofString "__doc__")) (Value.str (Str.ofString "__doc__") (645 : Nat)) Value.none)] (4 : Nat)) #[])) ::
    (nat_lit 299, (Obj.mk (Value.type "type") (@none Nat) (Data.cls (ClassData.mk (Str.ofString "Limits") [(Value.type "object")] [(Value.ref (299 : Nat)), (Value.type "object")] (298 : Nat) (Str.ofString "Limits") Bool.true [] [] Bool.false Option.none Bool.false)) #[Option.none, Option.none, (Option.some (Value.str (Str.ofString "Limits") (592 : Nat))), (Option.some (Value.str (Str.ofString "Limits") (600 : Nat))), (Option.some (Value.builtin "object.__new__")), (Option.some (Value.bool Bool.true))])) ::
    (nat_lit 300, (Obj.mk (Value.type "getset_descriptor") (@none Nat) (Data.fields #[(Value.str (Str.ofString "__dict__") (641 : Nat)), (Value.ref (299 : Nat)), (Value.builtin "function.__dict__"), (Value.builtin "function.__dict__#set")]) #[])) ::
    (nat_lit 301, (Obj.mk (Value.type "getset_descriptor") (@none Nat) (Data.fields #[(Value.str (Str.ofString "__weakref__") (643 : Nat)), (Value.ref (299 : Nat)), (Value.builtin "ExceptionGroup.__weakref__"), Value.none]) #[])) ::
    (nat_lit 311, (Obj.mk (Value.type "tuple") (@none Nat) (Data.seq #[] (0 : Nat)) #[])) ::
    (nat_lit 313, (Obj.mk (Value.type "tuple") (@none Nat) (Data.seq #[(Value.str (Str.ofString "self") (665 : Nat)), (Value.str (Str.ofString "kind") (666 : Nat)), (Value.str (Str.ofString "name") (667 : Nat))] (0 : Nat)) #[])) ::
    (nat_lit 314, (Obj.mk (Value.type "tuple") (@none Nat) (Data.seq #[] (0 : Nat)) #[])) ::
    (nat_lit 316, (Obj.mk (Value.type "code") (@none Nat) (Data.fields #[(Value.str (Str.ofString "__init__") (662 : Nat)), (Value.str (Str.ofString "Type.__init__") (663 : Nat)), (Value.str (Str.ofString "/claim/cut.py") (664 : Nat)), (Value.int 134 (0 : Nat)), (Value.int 3 (0 : Nat)), (Value.int 0 (0 : Nat)), (Value.int 0 (0 : Nat)), (Value.int 3 (0 : Nat)), (Value.ref (311 : Nat)), (Value.bool Bool.true), (Value.int 181 (0 : Nat)), (Value.ref (312 : Nat)), Value.none, (Value.ref (313 : Nat)), (Value.ref (314 : Nat)), (Value.ref (315 : Nat)), (Value.int 668 (0 : Nat)), (Value.int 134 (0 : Nat)), (Value.str (Str.ofString "/claim/cut.py") (669 : Nat))]) #[])) ::
    (nat_lit 317, (Obj.mk (Value.type "function") (@none Nat) (Data.func (FuncData.mk (Str.ofString "__init__") (Str.ofString "Type.__init__") a317 (FuncBody.stmts b317) s317 (3 : Nat) [] Value.none Value.none Value.none (Value.str (Str.ofString "adacore.types") (648 : Nat)) (@none Nat) (Value.ref (316 : Nat)) Value.none (0 : Nat))) #[])) ::
    (nat_lit 318, (Obj.mk (Value.type "tuple") (@none Nat) (Data.seq #[(Value.str (Str.ofString "component") (671 : Nat)), (Value.str (Str.ofString "components") (672 : Nat)), (Value.str (Str.ofString "designated") (673 : Nat)), (Value.str (Str.ofString "discriminants") (674 : Nat)), (Value.str (Str.ofString "high") (675 : Nat)), (Value.str (Str.ofString "index") (676 : Nat)), (Value.str (Str.ofString "is_abstract") (677 : Nat)), (Value.str (Str.ofString "is_constant") (678 : Nat)), (Value.str (Str.ofString "is_constrained") (679 : Nat)), (Value.str (Str.ofString "is_late") (680 : Nat)), (Value.str (Str.ofString "is_limited") (681 : Nat)), (Value.str (Str.ofString "is_private") (682 : Nat)), (Value.str (Str.ofString "is_tagged") (683 : Nat)), (Value.str (Str.ofString "kind") (684 : Nat)), (Value.str (Str.ofString "literals") (685 : Nat)), (Value.str (Str.ofString "low") (686 : Nat)), (Value.str (Str.ofString "modulus") (687 : Nat)), (Value.str (Str.ofString "name") (688 : Nat)), (Value.str (Str.ofString "number") (689 : Nat)), (Value.str (Str.ofString "operations") (690 : Nat)), (Value.str (Str.ofString "parent") (691 : Nat)), (Value.str (Str.ofString "small") (692 : Nat)), (Value.str (Str.ofString "variant") (693 : Nat)), (Value.str (Str.ofString "wide") (694 : Nat))] (0 : Nat)) #[])) ::
    (nat_lit 319, (Obj.mk (Value.type "dict") (@none Nat) (Data.dict #[(DictEntry.mk (PyData.keyHash P (Str.ofString "__module__")) (Value.str (Str.ofString "__module__") (657 : Nat)) (Value.str (Str.ofString "adacore.types") (648 : Nat))), (DictEntry.mk (PyData.keyHash P (Str.ofString "__firstlineno__")) (Value.str (Str.ofString "__firstlineno__") (661 : Nat)) (Value.int 132 (660 : Nat))), (DictEntry.mk (PyData.keyHash P (Str.ofString "__init__")) (Value.str (Str.ofString "__init__") (670 : Nat)) (Value.ref (317 : Nat))), (DictEntry.mk (PyData.keyHash P (Str.ofString "__static_attributes__")) (Value.str (Str.ofString "__static_attributes__") (695 : Nat)) (Value.ref (318 : Nat))), (DictEntry.mk (PyData.keyHash P (Str.ofString "__dict__")) (Value.str (Str.ofString "__dict__") (697 : Nat)) (Value.ref (321 : Nat))), (DictEntry.mk (PyData.keyHash P (Str.ofString "__weakref__")) (Value.str (Str.ofString "__weakref__") (699 : Nat)) (Value.ref (322 : Nat))), (DictEntry.mk (PyData.keyHash P (Str.ofString "__doc__")) (Value.str (Str.ofString "__doc__") (700 : Nat)) Value.none)] (4 : Nat)) #[])) ::
    (nat_lit 320, (Obj.mk (Value.type "type") (@none Nat) (Data.cls (ClassData.mk (Str.ofString "Type") [(Value.type "object")] [(Value.ref (320 : Nat)), (Value.type "object")] (319 : Nat) (Str.ofString "Type") Bool.true [] [] Bool.false Option.none Bool.false)) #[Option.none, Option.none, (Option.some (Value.str (Str.ofString "Type") (650 : Nat))), (Option.some (Value.str (Str.ofString "Type") (658 : Nat))), (Option.some (Value.builtin "object.__new__")), (Option.some (Value.bool Bool.true))])) ::
    (nat_lit 321, (Obj.mk (Value.type "getset_descriptor") (@none Nat) (Data.fields #[(Value.str (Str.ofString "__dict__") (696 : Nat)), (Value.ref (320 : Nat)), (Value.builtin "function.__dict__"), (Value.builtin "function.__dict__#set")]) #[])) ::
    (nat_lit 322, (Obj.mk (Value.type "getset_descriptor") (@none Nat) (Data.fields #[(Value.str (Str.ofString "__weakref__") (698 : Nat)), (Value.ref (320 : Nat)), (Value.builtin "ExceptionGroup.__weakref__"), Value.none]) #[])) ::
    (nat_lit 332, (Obj.mk (Value.type "tuple") (@none Nat) (Data.seq #[] (0 : Nat)) #[])) ::
    (nat_lit 334, (Obj.mk (Value.type "tuple") (@none Nat) (Data.seq #[(Value.str (Str.ofString "self") (718 : Nat)), (Value.str (Str.ofString "t") (719 : Nat)), (Value.str (Str.ofString "constraint") (720 : Nat))] (0 : Nat)) #[])) ::
    (nat_lit 335, (Obj.mk (Value.type "tuple") (@none Nat) (Data.seq #[] (0 : Nat)) #[])) ::
    (nat_lit 337, (Obj.mk (Value.type "code") (@none Nat) (Data.fields #[(Value.str (Str.ofString "__init__") (715 : Nat)), (Value.str (Str.ofString "Subtype.__init__") (716 : Nat)), (Value.str (Str.ofString "/claim/cut.py") (717 : Nat)), (Value.int 161 (0 : Nat)), (Value.int 3 (0 : Nat)), (Value.int 0 (0 : Nat)), (Value.int 0 (0 : Nat)), (Value.int 3 (0 : Nat)), (Value.ref (332 : Nat)), (Value.bool Bool.true), (Value.int 181 (0 : Nat)), (Value.ref (333 : Nat)), Value.none, (Value.ref (334 : Nat)), (Value.ref (335 : Nat)), (Value.ref (336 : Nat)), (Value.int 721 (0 : Nat)), (Value.int 161 (0 : Nat)), (Value.str (Str.ofString "/claim/cut.py") (722 : Nat))]) #[])) ::
    (nat_lit 338, (Obj.mk (Value.type "function") (@none Nat) (Data.func (FuncData.mk (Str.ofString "__init__") (Str.ofString "Subtype.__init__") a338 (FuncBody.stmts b338) s338 (3 : Nat) [] Value.none Value.none Value.none (Value.str (Str.ofString "adacore.types") (648 : Nat)) (@none Nat) (Value.ref (337 : Nat)) Value.none (0 : Nat))) #[])) ::
    (nat_lit 339, (Obj.mk (Value.type "tuple") (@none Nat) (Data.seq #[(Value.str (Str.ofString "constraint") (724 : Nat)), (Value.str (Str.ofString "type") (725 : Nat))] (0 : Nat)) #[])) ::
    (nat_lit 340, (Obj.mk (Value.type "dict") (@none Nat) (Data.dict #[(DictEntry.mk (PyData.keyHash P (Str.ofString "__module__")) (Value.str (Str.ofString "__module__") (710 : Nat)) (Value.str (Str.ofString "adacore.types") (648 : Nat))), (DictEntry.mk (PyData.keyHash P (Str.ofString "__firstlineno__")) (Value.str (Str.ofString "__firstlineno__") (714 : Nat)) (Value.int 159 (713 : Nat))), (DictEntry.mk (PyData.keyHash P (Str.ofString "__init__")) (Value.str (Str.ofString "__init__") (723 : Nat)) (Value.ref (338 : Nat))), (DictEntry.mk (PyData.keyHash P (Str.ofString "__static_attributes__")) (Value.str (Str.ofString "__static_attributes__") (726 : Nat)) (Value.ref (339 : Nat))), (DictEntry.mk (PyData.keyHash P (Str.ofString "__dict__")) (Value.str (Str.ofString "__dict__") (728 : Nat)) (Value.ref (342 : Nat))), (DictEntry.mk (PyData.keyHash P (Str.ofString "__weakref__")) (Value.str (Str.ofString "__weakref__") (730 : Nat)) (Value.ref (343 : Nat))), (DictEntry.mk (PyData.keyHash P (Str.ofString "__doc__")) (Value.str (Str.ofString "__doc__") (731 : Nat)) Value.none)] (4 : Nat)) #[])) ::
    (nat_lit 341, (Obj.mk (Value.type "type") (@none Nat) (Data.cls (ClassData.mk (Str.ofString "Subtype") [(Value.type "object")] [(Value.ref (341 : Nat)), (Value.type "object")] (340 : Nat) (Str.ofString "Subtype") Bool.true [] [] Bool.false Option.none Bool.false)) #[Option.none, Option.none, (Option.some (Value.str (Str.ofString "Subtype") (703 : Nat))), (Option.some (Value.str (Str.ofString "Subtype") (711 : Nat))), (Option.some (Value.builtin "object.__new__")), (Option.some (Value.bool Bool.true))])) ::
    (nat_lit 342, (Obj.mk (Value.type "getset_descriptor") (@none Nat) (Data.fields #[(Value.str (Str.ofString "__dict__") (727 : Nat)), (Value.ref (341 : Nat)), (Value.builtin "function.__dict__"), (Value.builtin "function.__dict__#set")]) #[])) ::
    (nat_lit 343, (Obj.mk (Value.type "getset_descriptor") (@none Nat) (Data.fields #[(Value.str (Str.ofString "__weakref__") (729 : Nat)), (Value.ref (341 : Nat)), (Value.builtin "ExceptionGroup.__weakref__"), Value.none]) #[])) ::
    (nat_lit 346, (Obj.mk (Value.type "tuple") (@none Nat) (Data.seq #[] (0 : Nat)) #[])) ::
    (nat_lit 348, (Obj.mk (Value.type "tuple") (@none Nat) (Data.seq #[(Value.str (Str.ofString "width") (737 : Nat))] (0 : Nat)) #[])) ::
    (nat_lit 349, (Obj.mk (Value.type "tuple") (@none Nat) (Data.seq #[] (0 : Nat)) #[])) ::
    (nat_lit 351, (Obj.mk (Value.type "code") (@none Nat) (Data.fields #[(Value.str (Str.ofString "base_bounds") (734 : Nat)), (Value.str (Str.ofString "base_bounds") (735 : Nat)), (Value.str (Str.ofString "/claim/cut.py") (736 : Nat)), (Value.int 164 (0 : Nat)), (Value.int 1 (0 : Nat)), (Value.int 0 (0 : Nat)), (Value.int 0 (0 : Nat)), (Value.int 3 (0 : Nat)), (Value.ref (346 : Nat)), (Value.bool Bool.true), (Value.int 181 (0 : Nat)), (Value.ref (347 : Nat)), Value.none, (Value.ref (348 : Nat)), (Value.ref (349 : Nat)), (Value.ref (350 : Nat)), (Value.int 738 (0 : Nat)), (Value.int 164 (0 : Nat)), (Value.str (Str.ofString "/claim/cut.py") (739 : Nat))]) #[])) ::
    (nat_lit 352, (Obj.mk (Value.type "function") (@none Nat) (Data.func (FuncData.mk (Str.ofString "base_bounds") (Str.ofString "base_bounds") a352 (FuncBody.stmts b352) s352 (3 : Nat) [] Value.none Value.none Value.none (Value.str (Str.ofString "adacore.types") (648 : Nat)) (@none Nat) (Value.ref (351 : Nat)) Value.none (0 : Nat))) #[])) ::
    (nat_lit 353, (Obj.mk (Value.type "tuple") (@none Nat) (Data.seq #[] (0 : Nat)) #[])) ::
    (nat_lit 355, (Obj.mk (Value.type "tuple") (@none Nat) (Data.seq #[(Value.str (Str.ofString "name") (744 : Nat)), (Value.str (Str.ofString "low") (745 : Nat)), (Value.str (Str.ofString "high") (746 : Nat)), (Value.str (Str.ofString "made") (747 : Nat))] (0 : Nat)) #[])) ::
    (nat_lit 356, (Obj.mk (Value.type "tuple") (@none Nat) (Data.seq #[] (0 : Nat)) #[])) ::
    (nat_lit 358, (Obj.mk (Value.type "code") (@none Nat) (Data.fields #[(Value.str (Str.ofString "int_type") (741 : Nat)), (Value.str (Str.ofString "int_type") (742 : Nat)), (Value.str (Str.ofString "/claim/cut.py") (743 : Nat)), (Value.int 166 (0 : Nat)), (Value.int 3 (0 : Nat)), (Value.int 0 (0 : Nat)), (Value.int 0 (0 : Nat)), (Value.int 3 (0 : Nat)), (Value.ref (353 : Nat)), (Value.bool Bool.true), (Value.int 181 (0 : Nat)), (Value.ref (354 : Nat)), Value.none, (Value.ref (355 : Nat)), (Value.ref (356 : Nat)), (Value.ref (357 : Nat)), (Value.int 748 (0 : Nat)), (Value.int 166 (0 : Nat)), (Value.str (Str.ofString "/claim/cut.py") (749 : Nat))]) #[])) ::
    (nat_lit 359, (Obj.mk (Value.type "function") (@none Nat) (Data.func (FuncData.mk (Str.ofString "int_type") (Str.ofString "int_type") a359 (FuncBody.stmts b359) s359 (3 : Nat) [] Value.none Value.none Value.none (Value.str (Str.ofString "adacore.types") (648 : Nat)) (@none Nat) (Value.ref (358 : Nat)) Value.none (0 : Nat))) #[])) ::
    (nat_lit 360, (Obj.mk (Value.type "tuple") (@none Nat) (Data.seq #[] (0 : Nat)) #[])) ::
    (nat_lit 362, (Obj.mk (Value.type "tuple") (@none Nat) (Data.seq #[(Value.str (Str.ofString "t") (754 : Nat)), (Value.str (Str.ofString "number") (755 : Nat))] (0 : Nat)) #[])) ::
    (nat_lit 363, (Obj.mk (Value.type "tuple") (@none Nat) (Data.seq #[] (0 : Nat)) #[])) ::
    (nat_lit 365, (Obj.mk (Value.type "code") (@none Nat) (Data.fields #[(Value.str (Str.ofString "numbered") (751 : Nat)), (Value.str (Str.ofString "numbered") (752 : Nat)), (Value.str (Str.ofString "/claim/cut.py") (753 : Nat)), (Value.int 171 (0 : Nat)), (Value.int 2 (0 : Nat)), (Value.int 0 (0 : Nat)), (Value.int 0 (0 : Nat)), (Value.int 3 (0 : Nat)), (Value.ref (360 : Nat)), (Value.bool Bool.true), (Value.int 181 (0 : Nat)), (Value.ref (361 : Nat)), Value.none, (Value.ref (362 : Nat)), (Value.ref (363 : Nat)), (Value.ref (364 : Nat)), (Value.int 756 (0 : Nat)), (Value.int 171 (0 : Nat)), (Value.str (Str.ofString "/claim/cut.py") (757 : Nat))]) #[])) ::
    (nat_lit 366, (Obj.mk (Value.type "function") (@none Nat) (Data.func (FuncData.mk (Str.ofString "numbered") (Str.ofString "numbered") a366 (FuncBody.stmts b366) s366 (3 : Nat) [] Value.none Value.none Value.none (Value.str (Str.ofString "adacore.types") (648 : Nat)) (@none Nat) (Value.ref (365 : Nat)) Value.none (0 : Nat))) #[])) ::
    (nat_lit 367, (Obj.mk (Value.type "tuple") (@none Nat) (Data.seq #[] (0 : Nat)) #[])) ::
    (nat_lit 369, (Obj.mk (Value.type "tuple") (@none Nat) (Data.seq #[(Value.str (Str.ofString "width") (762 : Nat)), (Value.str (Str.ofString "low") (763 : Nat)), (Value.str (Str.ofString "high") (764 : Nat))] (0 : Nat)) #[])) ::
    (nat_lit 370, (Obj.mk (Value.type "tuple") (@none Nat) (Data.seq #[] (0 : Nat)) #[])) ::
    (nat_lit 372, (Obj.mk (Value.type "code") (@none Nat) (Data.fields #[(Value.str (Str.ofString "integer_type") (759 : Nat)), (Value.str (Str.ofString "integer_type") (760 : Nat)), (Value.str (Str.ofString "/claim/cut.py") (761 : Nat)), (Value.int 174 (0 : Nat)), (Value.int 1 (0 : Nat)), (Value.int 0 (0 : Nat)), (Value.int 0 (0 : Nat)), (Value.int 3 (0 : Nat)), (Value.ref (367 : Nat)), (Value.bool Bool.true), (Value.int 181 (0 : Nat)), (Value.ref (368 : Nat)), Value.none, (Value.ref (369 : Nat)), (Value.ref (370 : Nat)), (Value.ref (371 : Nat)), (Value.int 765 (0 : Nat)), (Value.int 174 (0 : Nat)), (Value.str (Str.ofString "/claim/cut.py") (766 : Nat))]) #[])) ::
    (nat_lit 373, (Obj.mk (Value.type "function") (@none Nat) (Data.func (FuncData.mk (Str.ofString "integer_type") (Str.ofString "integer_type") a373 (FuncBody.stmts b373) s373 (3 : Nat) [] Value.none Value.none Value.none (Value.str (Str.ofString "adacore.types") (648 : Nat)) (@none Nat) (Value.ref (372 : Nat)) Value.none (0 : Nat))) #[])) ::
    (nat_lit 374, (Obj.mk (Value.type "tuple") (@none Nat) (Data.seq #[] (0 : Nat)) #[])) ::
    (nat_lit 376, (Obj.mk (Value.type "tuple") (@none Nat) (Data.seq #[(Value.str (Str.ofString "subtype") (775 : Nat)), (Value.str (Str.ofString "turns") (776 : Nat)), (Value.str (Str.ofString "behind") (777 : Nat))] (0 : Nat)) #[])) ::
    (nat_lit 377, (Obj.mk (Value.type "tuple") (@none Nat) (Data.seq #[] (0 : Nat)) #[])) ::
    (nat_lit 379, (Obj.mk (Value.type "code") (@none Nat) (Data.fields #[(Value.str (Str.ofString "full_subtype") (772 : Nat)), (Value.str (Str.ofString "full_subtype") (773 : Nat)), (Value.str (Str.ofString "/claim/cut.py") (774 : Nat)), (Value.int 179 (0 : Nat)), (Value.int 1 (0 : Nat)), (Value.int 0 (0 : Nat)), (Value.int 0 (0 : Nat)), (Value.int 3 (0 : Nat)), (Value.ref (374 : Nat)), (Value.bool Bool.true), (Value.int 181 (0 : Nat)), (Value.ref (375 : Nat)), Value.none, (Value.ref (376 : Nat)), (Value.ref (377 : Nat)), (Value.ref (378 : Nat)), (Value.int 778 (0 : Nat)), (Value.int 179 (0 : Nat)), (Value.str (Str.ofString "/claim/cut.py") (779 : Nat))]) #[])) ::
    (nat_lit 380, (Obj.mk (Value.type "function") (@none Nat) (Data.func (FuncData.mk (Str.ofString "full_subtype") (Str.ofString "full_subtype") a380 (FuncBody.stmts b380) s380 (3 : Nat) [] Value.none Value.none Value.none (Value.str (Str.ofString "adacore.fulltypes") (768 : Nat)) (@none Nat) (Value.ref (379 : Nat)) Value.none (0 : Nat))) #[])) ::
    (nat_lit 381, (Obj.mk (Value.type "tuple") (@none Nat) (Data.seq #[] (0 : Nat)) #[])) ::
    (nat_lit 383, (Obj.mk (Value.type "tuple") (@none Nat) (Data.seq #[(Value.str (Str.ofString "t") (784 : Nat))] (0 : Nat)) #[])) ::
    (nat_lit 384, (Obj.mk (Value.type "tuple") (@none Nat) (Data.seq #[] (0 : Nat)) #[])) ::
    (nat_lit 386, (Obj.mk (Value.type "code") (@none Nat) (Data.fields #[(Value.str (Str.ofString "full_type") (781 : Nat)), (Value.str (Str.ofString "full_type") (782 : Nat)), (Value.str (Str.ofString "/claim/cut.py") (783 : Nat)), (Value.int 188 (0 : Nat)), (Value.int 1 (0 : Nat)), (Value.int 0 (0 : Nat)), (Value.int 0 (0 : Nat)), (Value.int 3 (0 : Nat)), (Value.ref (381 : Nat)), (Value.bool Bool.true), (Value.int 181 (0 : Nat)), (Value.ref (382 : Nat)), Value.none, (Value.ref (383 : Nat)), (Value.ref (384 : Nat)), (Value.ref (385 : Nat)), (Value.int 785 (0 : Nat)), (Value.int 188 (0 : Nat)), (Value.str (Str.ofString "/claim/cut.py") (786 : Nat))]) #[])) ::
    (nat_lit 387, (Obj.mk (Value.type "function") (@none Nat) (Data.func (FuncData.mk (Str.ofString "full_type") (Str.ofString "full_type") a387 (FuncBody.stmts b387) s387 (3 : Nat) [] Value.none Value.none Value.none (Value.str (Str.ofString "adacore.fulltypes") (768 : Nat)) (@none Nat) (Value.ref (386 : Nat)) Value.none (0 : Nat))) #[])) ::
    (nat_lit 388, (Obj.mk (Value.type "tuple") (@none Nat) (Data.seq #[] (0 : Nat)) #[])) ::
    (nat_lit 391, (Obj.mk (Value.type "code") (@none Nat) (Data.fields #[(Value.str (Str.ofString "kept_subtype") (790 : Nat)), (Value.str (Str.ofString "kept_subtype") (791 : Nat)), (Value.str (Str.ofString "/claim/cut.py") (792 : Nat)), (Value.int 193 (0 : Nat)), (Value.int 2 (0 : Nat)), (Value.int 0 (0 : Nat)), (Value.int 0 (0 : Nat)), (Value.int 3 (0 : Nat)), (Value.ref (388 : Nat)), (Value.bool Bool.true), (Value.int 181 (0 : Nat)), (Value.ref (389 : Nat)), Value.none, Value.none, Value.none, (Value.ref (390 : Nat)), (Value.int 793 (0 : Nat)), (Value.int 193 (0 : Nat)), (Value.str (Str.ofString "/claim/cut.py") (794 : Nat))]) #[])) ::
    (nat_lit 392, (Obj.mk (Value.type "function") (@none Nat) (Data.func (FuncData.mk (Str.ofString "kept_subtype") (Str.ofString "kept_subtype") a392 (FuncBody.stmts b392) s392 (3 : Nat) [] Value.none Value.none Value.none (Value.str (Str.ofString "adacore.runaggr") (788 : Nat)) (@none Nat) (Value.ref (391 : Nat)) Value.none (0 : Nat))) #[])) ::
    (nat_lit 393, (Obj.mk (Value.type "tuple") (@none Nat) (Data.seq #[] (0 : Nat)) #[])) ::
    (nat_lit 395, (Obj.mk (Value.type "tuple") (@none Nat) (Data.seq #[(Value.str (Str.ofString "run") (799 : Nat)), (Value.str (Str.ofString "subtype") (800 : Nat)), (Value.str (Str.ofString "value") (801 : Nat)), (Value.str (Str.ofString "weight") (802 : Nat)), (Value.str (Str.ofString "cell") (803 : Nat))] (0 : Nat)) #[])) ::
    (nat_lit 396, (Obj.mk (Value.type "tuple") (@none Nat) (Data.seq #[] (0 : Nat)) #[])) ::
    (nat_lit 398, (Obj.mk (Value.type "code") (@none Nat) (Data.fields #[(Value.str (Str.ofString "heap_cell") (796 : Nat)), (Value.str (Str.ofString "heap_cell") (797 : Nat)), (Value.str (Str.ofString "/claim/cut.py") (798 : Nat)), (Value.int 198 (0 : Nat)), (Value.int 3 (0 : Nat)), (Value.int 0 (0 : Nat)), (Value.int 0 (0 : Nat)), (Value.int 3 (0 : Nat)), (Value.ref (393 : Nat)), (Value.bool Bool.true), (Value.int 181 (0 : Nat)), (Value.ref (394 : Nat)), Value.none, (Value.ref (395 : Nat)), (Value.ref (396 : Nat)), (Value.ref (397 : Nat)), (Value.int 804 (0 : Nat)), (Value.int 198 (0 : Nat)), (Value.str (Str.ofString "/claim/cut.py") (805 : Nat))]) #[])) ::
    (nat_lit 399, (Obj.mk (Value.type "function") (@none Nat) (Data.func (FuncData.mk (Str.ofString "heap_cell") (Str.ofString "heap_cell") a399 (FuncBody.stmts b399) s399 (3 : Nat) [] Value.none Value.none Value.none (Value.str (Str.ofString "adacore.runaggr") (788 : Nat)) (@none Nat) (Value.ref (398 : Nat)) Value.none (0 : Nat))) #[])) ::
    (nat_lit 400, (Obj.mk (Value.type "tuple") (@none Nat) (Data.seq #[] (0 : Nat)) #[])) ::
    (nat_lit 402, (Obj.mk (Value.type "tuple") (@none Nat) (Data.seq #[(Value.str (Str.ofString "dice") (812 : Nat)), (Value.str (Str.ofString "sides") (813 : Nat))] (0 : Nat)) #[])) ::
    (nat_lit 403, (Obj.mk (Value.type "tuple") (@none Nat) (Data.seq #[] (0 : Nat)) #[])) ::
    (nat_lit 405, (Obj.mk (Value.type "code") (@none Nat) (Data.fields #[(Value.str (Str.ofString "_law_cast") (809 : Nat)), (Value.str (Str.ofString "_law_cast") (810 : Nat)), (Value.str (Str.ofString "/claim/cut.py") (811 : Nat)), (Value.int 207 (0 : Nat)), (Value.int 2 (0 : Nat)), (Value.int 0 (0 : Nat)), (Value.int 0 (0 : Nat)), (Value.int 3 (0 : Nat)), (Value.ref (400 : Nat)), (Value.bool Bool.true), (Value.int 181 (0 : Nat)), (Value.ref (401 : Nat)), Value.none, (Value.ref (402 : Nat)), (Value.ref (403 : Nat)), (Value.ref (404 : Nat)), (Value.int 814 (0 : Nat)), (Value.int 207 (0 : Nat)), (Value.str (Str.ofString "/claim/cut.py") (815 : Nat))]) #[])) ::
    (nat_lit 406, (Obj.mk (Value.type "function") (@none Nat) (Data.func (FuncData.mk (Str.ofString "_law_cast") (Str.ofString "_law_cast") a406 (FuncBody.stmts b406) s406 (3 : Nat) [] Value.none Value.none Value.none (Value.str (Str.ofString "law_pp0007_01") (807 : Nat)) (@none Nat) (Value.ref (405 : Nat)) Value.none (0 : Nat))) #[])) ::
    (nat_lit 407, (Obj.mk (Value.type "tuple") (@none Nat) (Data.seq #[] (0 : Nat)) #[])) ::
    (nat_lit 410, (Obj.mk (Value.type "code") (@none Nat) (Data.fields #[(Value.str (Str.ofString "_law_thing") (817 : Nat)), (Value.str (Str.ofString "_law_thing") (818 : Nat)), (Value.str (Str.ofString "/claim/cut.py") (819 : Nat)), (Value.int 210 (0 : Nat)), (Value.int 2 (0 : Nat)), (Value.int 0 (0 : Nat)), (Value.int 0 (0 : Nat)), (Value.int 3 (0 : Nat)), (Value.ref (407 : Nat)), (Value.bool Bool.true), (Value.int 181 (0 : Nat)), (Value.ref (408 : Nat)), Value.none, Value.none, Value.none, (Value.ref (409 : Nat)), (Value.int 820 (0 : Nat)), (Value.int 210 (0 : Nat)), (Value.str (Str.ofString "/claim/cut.py") (821 : Nat))]) #[])) ::
    (nat_lit 411, (Obj.mk (Value.type "function") (@none Nat) (Data.func (FuncData.mk (Str.ofString "_law_thing") (Str.ofString "_law_thing") a411 (FuncBody.stmts b411) s411 (3 : Nat) [] Value.none Value.none Value.none (Value.str (Str.ofString "law_pp0007_01") (807 : Nat)) (@none Nat) (Value.ref (410 : Nat)) Value.none (0 : Nat))) #[])) ::
    (nat_lit 412, (Obj.mk (Value.type "tuple") (@none Nat) (Data.seq #[] (0 : Nat)) #[])) ::
    (nat_lit 415, (Obj.mk (Value.type "code") (@none Nat) (Data.fields #[(Value.str (Str.ofString "_law_text") (823 : Nat)), (Value.str (Str.ofString "_law_text") (824 : Nat)), (Value.str (Str.ofString "/claim/cut.py") (825 : Nat)), (Value.int 226 (0 : Nat)), (Value.int 1 (0 : Nat)), (Value.int 0 (0 : Nat)), (Value.int 0 (0 : Nat)), (Value.int 3 (0 : Nat)), (Value.ref (412 : Nat)), (Value.bool Bool.true), (Value.int 181 (0 : Nat)), (Value.ref (413 : Nat)), Value.none, Value.none, Value.none, (Value.ref (414 : Nat)), (Value.int 826 (0 : Nat)), (Value.int 226 (0 : Nat)), (Value.str (Str.ofString "/claim/cut.py") (827 : Nat))]) #[])) ::
    (nat_lit 416, (Obj.mk (Value.type "function") (@none Nat) (Data.func (FuncData.mk (Str.ofString "_law_text") (Str.ofString "_law_text") a416 (FuncBody.stmts b416) s416 (3 : Nat) [] Value.none Value.none Value.none (Value.str (Str.ofString "law_pp0007_01") (807 : Nat)) (@none Nat) (Value.ref (415 : Nat)) Value.none (0 : Nat))) #[])) ::
    (nat_lit 417, (Obj.mk (Value.type "tuple") (@none Nat) (Data.seq #[] (0 : Nat)) #[])) ::
    (nat_lit 419, (Obj.mk (Value.type "tuple") (@none Nat) (Data.seq #[(Value.str (Str.ofString "own") (832 : Nat)), (Value.str (Str.ofString "text") (833 : Nat))] (0 : Nat)) #[])) ::
    (nat_lit 420, (Obj.mk (Value.type "tuple") (@none Nat) (Data.seq #[] (0 : Nat)) #[])) ::
    (nat_lit 422, (Obj.mk (Value.type "code") (@none Nat) (Data.fields #[(Value.str (Str.ofString "_law_said") (829 : Nat)), (Value.str (Str.ofString "_law_said") (830 : Nat)), (Value.str (Str.ofString "/claim/cut.py") (831 : Nat)), (Value.int 228 (0 : Nat)), (Value.int 2 (0 : Nat)), (Value.int 0 (0 : Nat)), (Value.int 0 (0 : Nat)), (Value.int 3 (0 : Nat)), (Value.ref (417 : Nat)), (Value.bool Bool.true), (Value.int 181 (0 : Nat)), (Value.ref (418 : Nat)), Value.none, (Value.ref (419 : Nat)), (Value.ref (420 : Nat)), (Value.ref (421 : Nat)), (Value.int 834 (0 : Nat)), (Value.int 228 (0 : Nat)), (Value.str (Str.ofString "/claim/cut.py") (835 : Nat))]) #[])) ::
    (nat_lit 423, (Obj.mk (Value.type "function") (@none Nat) (Data.func (FuncData.mk (Str.ofString "_law_said") (Str.ofString "_law_said") a423 (FuncBody.stmts b423) s423 (3 : Nat) [] Value.none Value.none Value.none (Value.str (Str.ofString "law_pp0007_01") (807 : Nat)) (@none Nat) (Value.ref (422 : Nat)) Value.none (0 : Nat))) #[])) ::
    (nat_lit 424, (Obj.mk (Value.type "tuple") (@none Nat) (Data.seq #[] (0 : Nat)) #[])) ::
    (nat_lit 426, (Obj.mk (Value.type "tuple") (@none Nat) (Data.seq #[(Value.str (Str.ofString "own") (840 : Nat))] (0 : Nat)) #[])) ::
    (nat_lit 427, (Obj.mk (Value.type "tuple") (@none Nat) (Data.seq #[] (0 : Nat)) #[])) ::
    (nat_lit 429, (Obj.mk (Value.type "code") (@none Nat) (Data.fields #[(Value.str (Str.ofString "_law_ended") (837 : Nat)), (Value.str (Str.ofString "_law_ended") (838 : Nat)), (Value.str (Str.ofString "/claim/cut.py") (839 : Nat)), (Value.int 233 (0 : Nat)), (Value.int 1 (0 : Nat)), (Value.int 0 (0 : Nat)), (Value.int 0 (0 : Nat)), (Value.int 3 (0 : Nat)), (Value.ref (424 : Nat)), (Value.bool Bool.true), (Value.int 181 (0 : Nat)), (Value.ref (425 : Nat)), Value.none, (Value.ref (426 : Nat)), (Value.ref (427 : Nat)), (Value.ref (428 : Nat)), (Value.int 841 (0 : Nat)), (Value.int 233 (0 : Nat)), (Value.str (Str.ofString "/claim/cut.py") (842 : Nat))]) #[])) ::
    (nat_lit 430, (Obj.mk (Value.type "function") (@none Nat) (Data.func (FuncData.mk (Str.ofString "_law_ended") (Str.ofString "_law_ended") a430 (FuncBody.stmts b430) s430 (3 : Nat) [] Value.none Value.none Value.none (Value.str (Str.ofString "law_pp0007_01") (807 : Nat)) (@none Nat) (Value.ref (429 : Nat)) Value.none (0 : Nat))) #[])) ::
    (nat_lit 431, (Obj.mk (Value.type "tuple") (@none Nat) (Data.seq #[] (0 : Nat)) #[])) ::
    (nat_lit 433, (Obj.mk (Value.type "tuple") (@none Nat) (Data.seq #[(Value.str (Str.ofString "work") (847 : Nat)), (Value.str (Str.ofString "run") (848 : Nat)), (Value.str (Str.ofString "values") (849 : Nat)), (Value.str (Str.ofString "fault") (850 : Nat))] (0 : Nat)) #[])) ::
    (nat_lit 434, (Obj.mk (Value.type "tuple") (@none Nat) (Data.seq #[] (0 : Nat)) #[])) ::
    (nat_lit 436, (Obj.mk (Value.type "code") (@none Nat) (Data.fields #[(Value.str (Str.ofString "_law_word") (844 : Nat)), (Value.str (Str.ofString "_law_word") (845 : Nat)), (Value.str (Str.ofString "/claim/cut.py") (846 : Nat)), (Value.int 239 (0 : Nat)), (Value.int 3 (0 : Nat)), (Value.int 0 (0 : Nat)), (Value.int 0 (0 : Nat)), (Value.int 3 (0 : Nat)), (Value.ref (431 : Nat)), (Value.bool Bool.true), (Value.int 181 (0 : Nat)), (Value.ref (432 : Nat)), Value.none, (Value.ref (433 : Nat)), (Value.ref (434 : Nat)), (Value.ref (435 : Nat)), (Value.int 851 (0 : Nat)), (Value.int 239 (0 : Nat)), (Value.str (Str.ofString "/claim/cut.py") (852 : Nat))]) #[])) ::
    (nat_lit 437, (Obj.mk (Value.type "function") (@none Nat) (Data.func (FuncData.mk (Str.ofString "_law_word") (Str.ofString "_law_word") a437 (FuncBody.stmts b437) s437 (3 : Nat) [] Value.none Value.none Value.none (Value.str (Str.ofString "law_pp0007_01") (807 : Nat)) (@none Nat) (Value.ref (436 : Nat)) Value.none (0 : Nat))) #[])) ::
    (nat_lit 438, (Obj.mk (Value.type "tuple") (@none Nat) (Data.seq #[] (0 : Nat)) #[])) ::
    (nat_lit 440, (Obj.mk (Value.type "tuple") (@none Nat) (Data.seq #[(Value.str (Str.ofString "run") (857 : Nat)), (Value.str (Str.ofString "values") (858 : Nat))] (0 : Nat)) #[])) ::
    (nat_lit 441, (Obj.mk (Value.type "tuple") (@none Nat) (Data.seq #[] (0 : Nat)) #[])) ::
    (nat_lit 443, (Obj.mk (Value.type "code") (@none Nat) (Data.fields #[(Value.str (Str.ofString "_law_line") (854 : Nat)), (Value.str (Str.ofString "_law_line") (855 : Nat)), (Value.str (Str.ofString "/claim/cut.py") (856 : Nat)), (Value.int 245 (0 : Nat)), (Value.int 2 (0 : Nat)), (Value.int 0 (0 : Nat)), (Value.int 0 (0 : Nat)), (Value.int 3 (0 : Nat)), (Value.ref (438 : Nat)), (Value.bool Bool.true), (Value.int 181 (0 : Nat)), (Value.ref (439 : Nat)), Value.none, (Value.ref (440 : Nat)), (Value.ref (441 : Nat)), (Value.ref (442 : Nat)), (Value.int 859 (0 : Nat)), (Value.int 245 (0 : Nat)), (Value.str (Str.ofString "/claim/cut.py") (860 : Nat))]) #[])) ::
    (nat_lit 444, (Obj.mk (Value.type "function") (@none Nat) (Data.func (FuncData.mk (Str.ofString "_law_line") (Str.ofString "_law_line") a444 (FuncBody.stmts b444) s444 (3 : Nat) [] Value.none Value.none Value.none (Value.str (Str.ofString "law_pp0007_01") (807 : Nat)) (@none Nat) (Value.ref (443 : Nat)) Value.none (0 : Nat))) #[])) ::
    (nat_lit 445, (Obj.mk (Value.type "tuple") (@none Nat) (Data.seq #[] (0 : Nat)) #[])) ::
    (nat_lit 447, (Obj.mk (Value.type "tuple") (@none Nat) (Data.seq #[(Value.str (Str.ofString "run") (865 : Nat)), (Value.str (Str.ofString "own") (866 : Nat)), (Value.str (Str.ofString "dice") (867 : Nat)), (Value.str (Str.ofString "value") (868 : Nat)), (Value.str (Str.ofString "many") (869 : Nat)), (Value.str (Str.ofString "subtype") (870 : Nat)), (Value.str (Str.ofString "cell") (871 : Nat)), (Value.str (Str.ofString "fault") (872 : Nat))] (0 : Nat)) #[])) ::
    (nat_lit 448, (Obj.mk (Value.type "tuple") (@none Nat) (Data.seq #[] (0 : Nat)) #[])) ::
    (nat_lit 450, (Obj.mk (Value.type "code") (@none Nat) (Data.fields #[(Value.str (Str.ofString "_law_object") (862 : Nat)), (Value.str (Str.ofString "_law_object") (863 : Nat)), (Value.str (Str.ofString "/claim/cut.py") (864 : Nat)), (Value.int 247 (0 : Nat)), (Value.int 3 (0 : Nat)), (Value.int 0 (0 : Nat)), (Value.int 0 (0 : Nat)), (Value.int 3 (0 : Nat)), (Value.ref (445 : Nat)), (Value.bool Bool.true), (Value.int 181 (0 : Nat)), (Value.ref (446 : Nat)), Value.none, (Value.ref (447 : Nat)), (Value.ref (448 : Nat)), (Value.ref (449 : Nat)), (Value.int 873 (0 : Nat)), (Value.int 247 (0 : Nat)), (Value.str (Str.ofString "/claim/cut.py") (874 : Nat))]) #[])) ::
    (nat_lit 451, (Obj.mk (Value.type "function") (@none Nat) (Data.func (FuncData.mk (Str.ofString "_law_object") (Str.ofString "_law_object") a451 (FuncBody.stmts b451) s451 (3 : Nat) [] Value.none Value.none Value.none (Value.str (Str.ofString "law_pp0007_01") (807 : Nat)) (@none Nat) (Value.ref (450 : Nat)) Value.none (0 : Nat))) #[])) ::
    (nat_lit 452, (Obj.mk (Value.type "tuple") (@none Nat) (Data.seq #[] (0 : Nat)) #[])) ::
    (nat_lit 455, (Obj.mk (Value.type "code") (@none Nat) (Data.fields #[(Value.str (Str.ofString "_law_deed") (876 : Nat)), (Value.str (Str.ofString "_law_deed") (877 : Nat)), (Value.str (Str.ofString "/claim/cut.py") (878 : Nat)), (Value.int 257 (0 : Nat)), (Value.int 4 (0 : Nat)), (Value.int 0 (0 : Nat)), (Value.int 0 (0 : Nat)), (Value.int 3 (0 : Nat)), (Value.ref (452 : Nat)), (Value.bool Bool.true), (Value.int 181 (0 : Nat)), (Value.ref (453 : Nat)), Value.none, Value.none, Value.none, (Value.ref (454 : Nat)), (Value.int 879 (0 : Nat)), (Value.int 257 (0 : Nat)), (Value.str (Str.ofString "/claim/cut.py") (880 : Nat))]) #[])) ::
    (nat_lit 456, (Obj.mk (Value.type "function") (@none Nat) (Data.func (FuncData.mk (Str.ofString "_law_deed") (Str.ofString "_law_deed") a456 (FuncBody.stmts b456) s456 (3 : Nat) [] Value.none Value.none Value.none (Value.str (Str.ofString "law_pp0007_01") (807 : Nat)) (@none Nat) (Value.ref (455 : Nat)) Value.none (0 : Nat))) #[])) ::
    (nat_lit 457, (Obj.mk (Value.type "tuple") (@none Nat) (Data.seq #[] (0 : Nat)) #[])) ::
    (nat_lit 459, (Obj.mk (Value.type "tuple") (@none Nat) (Data.seq #[(Value.str (Str.ofString "script") (885 : Nat)), (Value.str (Str.ofString "dice") (886 : Nat)), (Value.str (Str.ofString "signs") (887 : Nat)), (Value.str (Str.ofString "many") (888 : Nat)), (Value.str (Str.ofString "room") (889 : Nat)), (Value.str (Str.ofString "run") (890 : Nat)), (Value.str (Str.ofString "own") (891 : Nat)), (Value.str (Str.ofString "turn") (892 : Nat))] (0 : Nat)) #[])) ::
    (nat_lit 460, (Obj.mk (Value.type "tuple") (@none Nat) (Data.seq #[] (0 : Nat)) #[])) ::
    (nat_lit 462, (Obj.mk (Value.type "code") (@none Nat) (Data.fields #[(Value.str (Str.ofString "law") (882 : Nat)), (Value.str (Str.ofString "law") (883 : Nat)), (Value.str (Str.ofString "/claim/cut.py") (884 : Nat)), (Value.int 273 (0 : Nat)), (Value.int 1 (0 : Nat)), (Value.int 0 (0 : Nat)), (Value.int 0 (0 : Nat)), (Value.int 3 (0 : Nat)), (Value.ref (457 : Nat)), (Value.bool Bool.true), (Value.int 181 (0 : Nat)), (Value.ref (458 : Nat)), Value.none, (Value.ref (459 : Nat)), (Value.ref (460 : Nat)), (Value.ref (461 : Nat)), (Value.int 893 (0 : Nat)), (Value.int 273 (0 : Nat)), (Value.str (Str.ofString "/claim/cut.py") (894 : Nat))]) #[])) ::
    (nat_lit 463, (Obj.mk (Value.type "function") (@none Nat) (Data.func (FuncData.mk (Str.ofString "law") (Str.ofString "law") a463 (FuncBody.stmts b463) s463 (3 : Nat) [] Value.none Value.none Value.none (Value.str (Str.ofString "law_pp0007_01") (807 : Nat)) (@none Nat) (Value.ref (462 : Nat)) Value.none (0 : Nat))) #[])) :: []
  all_goals (first | (conv => lhs; whnf) | skip)
end Mine
namespace Mine
theorem fin_top {tb : String → Option Builtin} {p : Program} {w : World} {n₀ : Nat} {ann : Option Value} {s : Shared} {c : Code} {pos q : Pos} (k : Nat) : topRun tb p w n₀ ann (2 + k) s ⟨doneF .next, c, pos, [topFrame q]⟩ = some s := topRun_mono k _ _ _ _ rfl
theorem left_of {p q : Program} {loose : List Str} {Xt : Shared → Bool} {α : Type} {Yf : Shared → α} {Ya : World → α} {N : Nat} {g0 : Bool} {m₀ : Nat} {ann : Option Value} {b : List Stmt} {env : Env} {pos0 q0 : Pos} {Sb Se : Params → OsState → SharedT} {n0 n1 : Nat}
    (open_ : ∀ w : World, (fencedOpening treeTable p w N).map (fun s => (s.heap, s.gens, s.drawn, s.toks)) = some (boot_heap w.params, Array.mk [], boot_drawn, boot_toks))
    (size : ∀ w : World, ((boot_heap w.params).isNs mainGlobals && (Array.mk [] : Array GenState).size == 0, (boot_heap w.params).objs.size, (boot_heap w.params).nsMap mainGlobals "__annotations__") = (true, m₀, ann))
    (pre : ∀ (w : World) (os : OsState), topGo treeTable p w m₀ ann n0 ⟨boot_heap w.params, Array.mk [], boot_drawn, boot_toks, os⟩ (topStub p) = some ((Sb w.params os).abs, ⟨denote treeTable (.body b env), .body b env, pos0, [topFrame q0]⟩))
    (block : ∀ (w : World) (os : OsState), segRun treeTable p w m₀ ann 1 1 (Sb w.params os).abs (blockOf b env (.body b env) pos0 [topFrame q0]) = some (.next, (Sb w.params os).abs, .body b env, pos0))
    (run : ∀ (w : World) (os : OsState), topRun treeTable p w m₀ ann n1 (Sb w.params os).abs (restOf b env (.body b env) pos0 [topFrame q0]) = some (Se w.params os).abs)
    (la : ∀ (w : World) (os : OsState), (fun s : Shared => staticsOk (importedModules p.main.body) (boot_heap w.params) s.heap && namesBound p s.heap && gensDone s && laidKept (boot_heap w.params) s.heap) (Se w.params os).abs = true)
    (lb : ∀ (w : World) (os : OsState), openSeen q loose (importedModules p.main.body) Xt g0 (Se w.params os).abs = openGood q loose)
    (lc : ∀ (w : World) (os : OsState), Yf (Se w.params os).abs = Ya w)
    (le : n0 + (1 + n1) ≤ N) : LeftO p q loose Xt Yf Ya N g0 := fun w => by
  obtain ⟨⟨h, gs, d, k, os⟩, e, e'⟩ := Option.map_eq_some_iff.mp (open_ w)
  obtain ⟨rfl, rfl, rfl, rfl⟩ : h = boot_heap w.params ∧ gs = Array.mk [] ∧ d = boot_drawn ∧ k = boot_toks := by simpa using e'
  obtain ⟨z1, z2, z3⟩ : _ ∧ _ ∧ _ := by simpa only [Prod.mk.injEq] using size w
  have l1 := la w os
  dsimp only at l1
  have r := topRun_mono (N - (n0 + (1 + n1))) _ _ _ _ (go_top (pre w os) (piece_block (block w os) (run w os)))
  rw [show n0 + (1 + n1) + (N - (n0 + (1 + n1))) = N by omega] at r
  have t : topFrom treeTable p w N ⟨boot_heap w.params, Array.mk [], boot_drawn, boot_toks, os⟩ = some (Se w.params os).abs := by
    unfold topFrom
    dsimp only
    rw [z1, z2, z3, r]
    show (match staticsOk (importedModules p.main.body) (boot_heap w.params) (Se w.params os).abs.heap && namesBound p (Se w.params os).abs.heap && gensDone (Se w.params os).abs && laidKept (boot_heap w.params) (Se w.params os).abs.heap with | true => _ | false => _) = _
    rw [l1]
  unfold openEnds
  rw [e]
  show (topFrom treeTable p w N _).map _ = _
  rw [t]
  exact congrArg some (Prod.ext (lb w os) (lc w os))

noncomputable abbrev hk : Hook := kHook KK [2, 3, 15, 22, 24, 25, 27, 28, 29, 30, 31, 32, 35, 42, 44, 45, 47, 48, 49, 50, 51, 54, 61, 63, 64, 66, 67, 68, 69, 70, 80, 82, 83, 85, 86, 87, 88, 89, 90, 91, 94, 95, 104, 106, 107, 109, 110, 111, 112, 113, 114, 115, 125, 127, 128, 130, 131, 132, 134, 135, 137, 138, 139, 140, 141, 142, 143, 153, 155, 156, 158, 159, 160, 161, 162, 163, 164, 174, 176, 177, 179, 180, 181, 182, 183, 184, 185, 188, 190, 191, 193, 194, 195, 198, 199, 207, 209, 210, 212, 213, 214, 215, 216, 217, 218, 221, 224, 225, 226, 228, 229, 231, 232, 233, 235, 236, 238, 239, 240, 242, 243, 245, 246, 247, 249, 250, 252, 253, 254, 256, 257, 259, 260, 268, 270, 271, 273, 274, 275, 276, 277, 278, 279, 289, 290, 292, 293, 295, 296, 297, 298, 299, 300, 301, 311, 313, 314, 316, 317, 318, 319, 320, 321, 322, 332, 334, 335, 337, 338, 339, 340, 341, 342, 343, 346, 348, 349, 351, 352, 353, 355, 356, 358, 359, 360, 362, 363, 365, 366, 367, 369, 370, 372, 373, 374, 376, 377, 379, 380, 381, 383, 384, 386, 387, 388, 391, 392, 393, 395, 396, 398, 399, 400, 402, 403, 405, 406, 407, 410, 411, 412, 415, 416, 417, 419, 420, 422, 423, 424, 426, 427, 429, 430, 431, 433, 434, 436, 437, 438, 440, 441, 443, 444, 445, 447, 448, 450, 451, 452, 455, 456, 457, 459, 460, 462, 463] (fun _ => by kernel_rfl)
noncomputable abbrev ls : List Str := [Str.ofString "UNSET", Str.ofString "Limits"]
noncomputable abbrev env0 : Env := { scope := PySem.Challenge.pw_pp0007_01.main.scope, locals := mainNs, globals := mainNs, cells := [], code := .ref 13, frame := some 14 }
abbrev o11 : Obj := { cls := .type "tuple", data := .seq #[] }
abbrev o12 : Obj := { cls := .none, data := .fields #[] }
abbrev o13 : Obj := { cls := .type "code", data := .fields #[.str (Str.ofString "<module>") 182, .str (Str.ofString "<module>") 183, .str (Str.ofString "/claim/cut.py") 184, .int 1 0, .int 0 0, .int 0 0, .int 0 0,
          .int 0 0, .ref 11, .bool false, .int 181 0, .ref 12, .none, .none, .none, .none, .int 185 0, .int 1 0, .str (Str.ofString "/claim/cut.py") 186] }
abbrev o14 : Obj := { cls := .type "frame", slots := #[some (.ref 13), some (.ref 3), some (.ref 3), none, some (.str (Str.ofString "__main__") 164), none, some (.ref 0)] }
noncomputable def tr0 (P : Params) : BT := (.node (boot_o_0 P) (.node (boot_o_1 P) (.node (boot_o_3 P) (.node (boot_o_7 P) .nil .nil) (.node (o11) .nil .nil)) (.node (boot_o_5 P) (.node (boot_o_9 P) .nil .nil) (.node (o13) .nil .nil))) (.node (boot_o_2 P) (.node (boot_o_4 P) (.node (boot_o_8 P) .nil .nil) (.node (o12) .nil .nil)) (.node (boot_o_6 P) (.node (boot_o_10 P) .nil .nil) (.node (o14) .nil .nil))))
noncomputable def S0 (P : Params) (os : OsState) : SharedT := { tree := tr0 P, n := 15, life := {}, gens := Array.mk [], drawn := {}, toks := 187, os }
abbrev p0 : Pos := ⟨0, 0, 0, 0⟩
abbrev pg : Program := PySem.Challenge.pw_pp0007_01
theorem open0 : ∀ w : World, (fencedOpening treeTable pg w 8198).map (fun s => (s.heap, s.gens, s.drawn, s.toks)) = some (boot_heap w.params, Array.mk [], boot_drawn, boot_toks) := boot_open (by kernel_rfl) (by kernel_rfl) (fun s => by kernel_rfl)
theorem size0 : ∀ w : World, ((boot_heap w.params).isNs mainGlobals && (Array.mk [] : Array GenState).size == 0, (boot_heap w.params).objs.size, (boot_heap w.params).nsMap mainGlobals "__annotations__") = (true, 11, some (Value.ref 6)) := fun w => by kernel_rfl
theorem pre0 : ∀ (w : World) (os : OsState), topGo treeTable pg w 11 (some (Value.ref 6)) 12 ⟨boot_heap w.params, Array.mk [], boot_drawn, boot_toks, os⟩ (topStub pg) = some ((S0 w.params os).abs, ⟨denote treeTable (.body (behindTheImports pg) env0), .body (behindTheImports pg) env0, p0, [topFrame p0]⟩) := fun w os => by kernel_rfl
theorem block0 : ∀ (w : World) (os : OsState), segRun treeTable pg w 11 (some (Value.ref 6)) 1 1 (S0 w.params os).abs (blockOf (behindTheImports pg) env0 (.body (behindTheImports pg) env0) p0 [topFrame p0]) = some (.next, (S0 w.params os).abs, .body (behindTheImports pg) env0, p0) := fun w os => by kernel_rfl
noncomputable abbrev xt (s : Shared) : Bool := xlAt vw [] s && recOk (RowW.records PySem.Challenge.rw_pp0007_01.row.toRowW) s
abbrev ss (x : String) : Str := Str.ofString x
noncomputable def kk (P : Params) (i : Nat) : Obj := ((KK P).lookup i).getD default
noncomputable def q0x3 (P : Params) : Obj := (Obj.mk (Value.type "dict") Option.none (Data.dict #[(DictEntry.mk (PyData.keyHash P (ss "__name__")) (Value.str (ss "__name__") 165) (Value.str (ss "adacore.values") 273)), (DictEntry.mk (PyData.keyHash P (ss "__doc__")) (Value.str (ss "__doc__") 166) Value.none), (DictEntry.mk (PyData.keyHash P (ss "__package__")) (Value.str (ss "__package__") 167) Value.none), (DictEntry.mk (PyData.keyHash P (ss "__loader__")) (Value.str (ss "__loader__") 168) (Value.builtin "__main__.__loader__#opaque")), (DictEntry.mk (PyData.keyHash P (ss "__spec__")) (Value.str (ss "__spec__") 169) Value.none), (DictEntry.mk (PyData.keyHash P (ss "__annotations__")) (Value.str (ss "__annotations__") 170) (Value.ref 6)), (DictEntry.mk (PyData.keyHash P (ss "__builtins__")) (Value.str (ss "__builtins__") 171) (Value.ref 4)), (DictEntry.mk (PyData.keyHash P (ss "__file__")) (Value.str (ss "__file__") 173) (Value.str (ss "/claim/cut.py") 172)), (DictEntry.mk (PyData.keyHash P (ss "__cached__")) (Value.str (ss "__cached__") 174) Value.none), (DictEntry.mk (PyData.keyHash P (ss "AdaError")) (Value.str (ss "AdaError") 217) (Value.ref 31)), (DictEntry.mk (PyData.keyHash P (ss "CheckFault")) (Value.str (ss "CheckFault") 243) (Value.ref 51)), (DictEntry.mk (PyData.keyHash P (ss "AdaRaise")) (Value.str (ss "AdaRaise") 272) (Value.ref 70)), (DictEntry.mk (PyData.keyHash P (ss "Unset")) (Value.str (ss "Unset") 302) (Value.ref 89)), (DictEntry.mk (PyData.keyHash P (ss "UNSET")) (Value.str (ss "UNSET") 307) (Value.ref 95))] 14) #[])
noncomputable def q0x11 (P : Params) : Obj := (Obj.mk (Value.type "tuple") Option.none (Data.seq #[] 0) #[])
noncomputable def q0x12 (P : Params) : Obj := (Obj.mk Value.none Option.none (Data.fields #[(Value.int 2 0), (Value.int 0 0), (Value.ref 20), (Value.int 7 0), (Value.int 0 0), (Value.ref 40), (Value.int 12 0), (Value.int 0 0), (Value.ref 59), (Value.int 20 0), (Value.int 0 0), (Value.ref 78)]) #[])
noncomputable def q0x13 (P : Params) : Obj := (Obj.mk (Value.type "code") Option.none (Data.fields #[(Value.str (ss "<module>") 182), (Value.str (ss "<module>") 183), (Value.str (ss "/claim/cut.py") 184), (Value.int 1 0), (Value.int 0 0), (Value.int 0 0), (Value.int 0 0), (Value.int 0 0), (Value.ref 11), (Value.bool Bool.false), (Value.int 181 0), (Value.ref 12), Value.none, Value.none, Value.none, Value.none, (Value.int 185 0), (Value.int 1 0), (Value.str (ss "/claim/cut.py") 186)]) #[])
noncomputable def q0x14 (P : Params) : Obj := (Obj.mk (Value.type "frame") Option.none Data.plain #[(Option.some (Value.ref 13)), (Option.some (Value.ref 3)), (Option.some (Value.ref 3)), Option.none, (Option.some (Value.str (ss "__main__") 164)), Option.none, (Option.some (Value.ref 0))])
noncomputable def q0x16 (P : Params) : Obj := (Obj.mk (Value.type "builtin_function_or_method") Option.none (Data.fields #[(Value.builtin "type.__prepare__"), (Value.type "type")]) #[])
noncomputable def q0x17 (P : Params) : Obj := (Obj.mk (Value.type "dict") Option.none (Data.dict #[(DictEntry.mk (PyData.keyHash P (ss "__module__")) (Value.str (ss "__module__") 196) (Value.str (ss "adacore.errors") 187)), (DictEntry.mk (PyData.keyHash P (ss "__qualname__")) (Value.str (ss "__qualname__") 198) (Value.str (ss "AdaError") 197)), (DictEntry.mk (PyData.keyHash P (ss "__firstlineno__")) (Value.str (ss "__firstlineno__") 200) (Value.int 2 199)), (DictEntry.mk (PyData.keyHash P (ss "__init__")) (Value.str (ss "__init__") 208) (Value.ref 28)), (DictEntry.mk (PyData.keyHash P (ss "__static_attributes__")) (Value.str (ss "__static_attributes__") 210) (Value.ref 29))] 5) #[])
noncomputable def q0x18 (P : Params) : Obj := (Obj.mk (Value.type "tuple") Option.none (Data.seq #[] 0) #[])
noncomputable def q0x19 (P : Params) : Obj := (Obj.mk Value.none Option.none (Data.fields #[(Value.int 4 0), (Value.int 4 0), (Value.ref 27)]) #[])
noncomputable def q0x20 (P : Params) : Obj := (Obj.mk (Value.type "code") Option.none (Data.fields #[(Value.str (ss "AdaError") 191), (Value.str (ss "AdaError") 192), (Value.str (ss "/claim/cut.py") 193), (Value.int 2 0), (Value.int 0 0), (Value.int 0 0), (Value.int 0 0), (Value.int 0 0), (Value.ref 18), (Value.bool Bool.false), (Value.int 181 0), (Value.ref 19), Value.none, Value.none, Value.none, Value.none, (Value.int 194 0), (Value.int 2 0), (Value.str (ss "/claim/cut.py") 195)]) #[])
noncomputable def q0x21 (P : Params) : Obj := (Obj.mk (Value.type "frame") Option.none Data.plain #[(Option.some (Value.ref 20)), (Option.some (Value.ref 3)), (Option.some (Value.ref 17)), Option.none, (Option.some (Value.str (ss "adacore.errors") 187)), Option.none, (Option.some (Value.ref 0))])
noncomputable def q0x23 (P : Params) : Obj := (Obj.mk Value.none Option.none (Data.fields #[]) #[])
noncomputable def q0x26 (P : Params) : Obj := (Obj.mk Value.none Option.none (Data.func (FuncData.mk (ss "__init__") (ss "AdaError.__init__") (fArgs (sub 1 0)) (FuncBody.stmts (fBody (sub 1 0))) (fScope (sub 1 0)) 0 [] Value.none Value.none Value.none Value.none Option.none Value.none Value.none 0)) #[])
noncomputable def q0x33 (P : Params) : Obj := (Obj.mk (Value.type "super") Option.none (Data.fields #[(Value.ref 31), (Value.ref 31), (Value.ref 31)]) #[])
noncomputable def q0x34 (P : Params) : Obj := (Obj.mk (Value.type "builtin_function_or_method") Option.none (Data.fields #[(Value.builtin "object.__init_subclass__"), (Value.ref 31)]) #[])
noncomputable def q0x36 (P : Params) : Obj := (Obj.mk (Value.type "builtin_function_or_method") Option.none (Data.fields #[(Value.builtin "type.__prepare__"), (Value.type "type")]) #[])
noncomputable def q0x37 (P : Params) : Obj := (Obj.mk (Value.type "dict") Option.none (Data.dict #[(DictEntry.mk (PyData.keyHash P (ss "__module__")) (Value.str (ss "__module__") 225) (Value.str (ss "adacore.errors") 187)), (DictEntry.mk (PyData.keyHash P (ss "__qualname__")) (Value.str (ss "__qualname__") 227) (Value.str (ss "CheckFault") 226)), (DictEntry.mk (PyData.keyHash P (ss "__firstlineno__")) (Value.str (ss "__firstlineno__") 229) (Value.int 7 228)), (DictEntry.mk (PyData.keyHash P (ss "__init__")) (Value.str (ss "__init__") 238) (Value.ref 48)), (DictEntry.mk (PyData.keyHash P (ss "__static_attributes__")) (Value.str (ss "__static_attributes__") 240) (Value.ref 49))] 5) #[])
noncomputable def q0x38 (P : Params) : Obj := (Obj.mk (Value.type "tuple") Option.none (Data.seq #[] 0) #[])
noncomputable def q0x39 (P : Params) : Obj := (Obj.mk Value.none Option.none (Data.fields #[(Value.int 9 0), (Value.int 4 0), (Value.ref 47)]) #[])
noncomputable def q0x40 (P : Params) : Obj := (Obj.mk (Value.type "code") Option.none (Data.fields #[(Value.str (ss "CheckFault") 220), (Value.str (ss "CheckFault") 221), (Value.str (ss "/claim/cut.py") 222), (Value.int 7 0), (Value.int 0 0), (Value.int 0 0), (Value.int 0 0), (Value.int 0 0), (Value.ref 38), (Value.bool Bool.false), (Value.int 181 0), (Value.ref 39), Value.none, Value.none, Value.none, Value.none, (Value.int 223 0), (Value.int 7 0), (Value.str (ss "/claim/cut.py") 224)]) #[])
noncomputable def q0x41 (P : Params) : Obj := (Obj.mk (Value.type "frame") Option.none Data.plain #[(Option.some (Value.ref 40)), (Option.some (Value.ref 3)), (Option.some (Value.ref 37)), Option.none, (Option.some (Value.str (ss "adacore.errors") 187)), Option.none, (Option.some (Value.ref 0))])
noncomputable def q0x43 (P : Params) : Obj := (Obj.mk Value.none Option.none (Data.fields #[]) #[])
noncomputable def q0x46 (P : Params) : Obj := (Obj.mk Value.none Option.none (Data.func (FuncData.mk (ss "__init__") (ss "CheckFault.__init__") (fArgs (sub 2 0)) (FuncBody.stmts (fBody (sub 2 0))) (fScope (sub 2 0)) 0 [] Value.none Value.none Value.none Value.none Option.none Value.none Value.none 0)) #[])
noncomputable def q0x52 (P : Params) : Obj := (Obj.mk (Value.type "super") Option.none (Data.fields #[(Value.ref 51), (Value.ref 51), (Value.ref 51)]) #[])
noncomputable def q0x53 (P : Params) : Obj := (Obj.mk (Value.type "builtin_function_or_method") Option.none (Data.fields #[(Value.builtin "object.__init_subclass__"), (Value.ref 51)]) #[])
noncomputable def q0x55 (P : Params) : Obj := (Obj.mk (Value.type "builtin_function_or_method") Option.none (Data.fields #[(Value.builtin "type.__prepare__"), (Value.type "type")]) #[])
noncomputable def q0x56 (P : Params) : Obj := (Obj.mk (Value.type "dict") Option.none (Data.dict #[(DictEntry.mk (PyData.keyHash P (ss "__module__")) (Value.str (ss "__module__") 251) (Value.str (ss "adacore.errors") 187)), (DictEntry.mk (PyData.keyHash P (ss "__qualname__")) (Value.str (ss "__qualname__") 253) (Value.str (ss "AdaRaise") 252)), (DictEntry.mk (PyData.keyHash P (ss "__firstlineno__")) (Value.str (ss "__firstlineno__") 255) (Value.int 12 254)), (DictEntry.mk (PyData.keyHash P (ss "__init__")) (Value.str (ss "__init__") 265) (Value.ref 67)), (DictEntry.mk (PyData.keyHash P (ss "__static_attributes__")) (Value.str (ss "__static_attributes__") 269) (Value.ref 68))] 5) #[])
noncomputable def q0x57 (P : Params) : Obj := (Obj.mk (Value.type "tuple") Option.none (Data.seq #[] 0) #[])
noncomputable def q0x58 (P : Params) : Obj := (Obj.mk Value.none Option.none (Data.fields #[(Value.int 14 0), (Value.int 4 0), (Value.ref 66)]) #[])
noncomputable def q0x59 (P : Params) : Obj := (Obj.mk (Value.type "code") Option.none (Data.fields #[(Value.str (ss "AdaRaise") 246), (Value.str (ss "AdaRaise") 247), (Value.str (ss "/claim/cut.py") 248), (Value.int 12 0), (Value.int 0 0), (Value.int 0 0), (Value.int 0 0), (Value.int 0 0), (Value.ref 57), (Value.bool Bool.false), (Value.int 181 0), (Value.ref 58), Value.none, Value.none, Value.none, Value.none, (Value.int 249 0), (Value.int 12 0), (Value.str (ss "/claim/cut.py") 250)]) #[])
noncomputable def q0x60 (P : Params) : Obj := (Obj.mk (Value.type "frame") Option.none Data.plain #[(Option.some (Value.ref 59)), (Option.some (Value.ref 3)), (Option.some (Value.ref 56)), Option.none, (Option.some (Value.str (ss "adacore.errors") 187)), Option.none, (Option.some (Value.ref 0))])
noncomputable def q0x62 (P : Params) : Obj := (Obj.mk Value.none Option.none (Data.fields #[]) #[])
noncomputable def q0x65 (P : Params) : Obj := (Obj.mk Value.none Option.none (Data.func (FuncData.mk (ss "__init__") (ss "AdaRaise.__init__") (fArgs (sub 3 0)) (FuncBody.stmts (fBody (sub 3 0))) (fScope (sub 3 0)) 0 [] Value.none Value.none Value.none Value.none Option.none Value.none Value.none 0)) #[])
noncomputable def q0x71 (P : Params) : Obj := (Obj.mk (Value.type "super") Option.none (Data.fields #[(Value.ref 70), (Value.ref 70), (Value.ref 70)]) #[])
noncomputable def q0x72 (P : Params) : Obj := (Obj.mk (Value.type "builtin_function_or_method") Option.none (Data.fields #[(Value.builtin "object.__init_subclass__"), (Value.ref 70)]) #[])
noncomputable def q0x73 (P : Params) : Obj := (Obj.mk (Value.type "tuple") Option.none (Data.seq #[] 0) #[])
noncomputable def q0x74 (P : Params) : Obj := (Obj.mk (Value.type "builtin_function_or_method") Option.none (Data.fields #[(Value.builtin "type.__prepare__"), (Value.type "type")]) #[])
noncomputable def q0x75 (P : Params) : Obj := (Obj.mk (Value.type "dict") Option.none (Data.dict #[(DictEntry.mk (PyData.keyHash P (ss "__module__")) (Value.str (ss "__module__") 282) (Value.str (ss "adacore.values") 273)), (DictEntry.mk (PyData.keyHash P (ss "__qualname__")) (Value.str (ss "__qualname__") 284) (Value.str (ss "Unset") 283)), (DictEntry.mk (PyData.keyHash P (ss "__firstlineno__")) (Value.str (ss "__firstlineno__") 286) (Value.int 20 285)), (DictEntry.mk (PyData.keyHash P (ss "__init__")) (Value.str (ss "__init__") 293) (Value.ref 86)), (DictEntry.mk (PyData.keyHash P (ss "__static_attributes__")) (Value.str (ss "__static_attributes__") 295) (Value.ref 87))] 5) #[])
noncomputable def q0x76 (P : Params) : Obj := (Obj.mk (Value.type "tuple") Option.none (Data.seq #[] 0) #[])
noncomputable def q0x77 (P : Params) : Obj := (Obj.mk Value.none Option.none (Data.fields #[(Value.int 22 0), (Value.int 4 0), (Value.ref 85)]) #[])
noncomputable def q0x78 (P : Params) : Obj := (Obj.mk (Value.type "code") Option.none (Data.fields #[(Value.str (ss "Unset") 277), (Value.str (ss "Unset") 278), (Value.str (ss "/claim/cut.py") 279), (Value.int 20 0), (Value.int 0 0), (Value.int 0 0), (Value.int 0 0), (Value.int 0 0), (Value.ref 76), (Value.bool Bool.false), (Value.int 181 0), (Value.ref 77), Value.none, Value.none, Value.none, Value.none, (Value.int 280 0), (Value.int 20 0), (Value.str (ss "/claim/cut.py") 281)]) #[])
noncomputable def q0x79 (P : Params) : Obj := (Obj.mk (Value.type "frame") Option.none Data.plain #[(Option.some (Value.ref 78)), (Option.some (Value.ref 3)), (Option.some (Value.ref 75)), Option.none, (Option.some (Value.str (ss "adacore.values") 273)), Option.none, (Option.some (Value.ref 0))])
noncomputable def q0x81 (P : Params) : Obj := (Obj.mk Value.none Option.none (Data.fields #[]) #[])
noncomputable def q0x84 (P : Params) : Obj := (Obj.mk Value.none Option.none (Data.func (FuncData.mk (ss "__init__") (ss "Unset.__init__") (fArgs (sub 5 0)) (FuncBody.stmts (fBody (sub 5 0))) (fScope (sub 5 0)) 0 [] Value.none Value.none Value.none Value.none Option.none Value.none Value.none 0)) #[])
noncomputable def q0x92 (P : Params) : Obj := (Obj.mk (Value.type "super") Option.none (Data.fields #[(Value.ref 89), (Value.ref 89), (Value.ref 89)]) #[])
noncomputable def q0x93 (P : Params) : Obj := (Obj.mk (Value.type "builtin_function_or_method") Option.none (Data.fields #[(Value.builtin "object.__init_subclass__"), (Value.ref 89)]) #[])
noncomputable def q0x96 (P : Params) : Obj := (Obj.mk (Value.type "frame") Option.none (Data.dict #[(DictEntry.mk (PyData.keyHash P (ss "self")) (Value.str (ss "self") 303) (Value.ref 95))] 1) #[])
noncomputable def tr1 (P : Params) : BT := (.node (boot_o_0 P) (.node (boot_o_1 P) (.node (q0x3 P) (.node (boot_o_7 P) (.node (kk P 15) (.node (kk P 31) (.node (kk P 63) .nil .nil) (.node (kk P 95) .nil .nil)) (.node (kk P 47) (.node (q0x79 P) .nil .nil) .nil)) (.node (q0x23 P) (.node (q0x39 P) (.node (q0x71 P) .nil .nil) .nil) (.node (q0x55 P) (.node (kk P 87) .nil .nil) .nil))) (.node (q0x11 P) (.node (q0x19 P) (.node (kk P 35) (.node (kk P 67) .nil .nil) .nil) (.node (kk P 51) (.node (kk P 83) .nil .nil) .nil)) (.node (kk P 27) (.node (q0x43 P) (.node (q0x75 P) .nil .nil) .nil) (.node (q0x59 P) (.node (kk P 91) .nil .nil) .nil)))) (.node (boot_o_5 P) (.node (boot_o_9 P) (.node (q0x17 P) (.node (q0x33 P) (.node (q0x65 P) .nil .nil) .nil) (.node (kk P 49) (.node (q0x81 P) .nil .nil) .nil)) (.node (kk P 25) (.node (q0x41 P) (.node (q0x73 P) .nil .nil) .nil) (.node (q0x57 P) (.node (kk P 89) .nil .nil) .nil))) (.node (q0x13 P) (.node (q0x21 P) (.node (q0x37 P) (.node (kk P 69) .nil .nil) .nil) (.node (q0x53 P) (.node (kk P 85) .nil .nil) .nil)) (.node (kk P 29) (.node (kk P 45) (.node (q0x77 P) .nil .nil) .nil) (.node (kk P 61) (.node (q0x93 P) .nil .nil) .nil))))) (.node (kk P 2) (.node (boot_o_4 P) (.node (boot_o_8 P) (.node (q0x16 P) (.node (kk P 32) (.node (kk P 64) .nil .nil) (.node (q0x96 P) .nil .nil)) (.node (kk P 48) (.node (kk P 80) .nil .nil) .nil)) (.node (kk P 24) (.node (q0x40 P) (.node (q0x72 P) .nil .nil) .nil) (.node (q0x56 P) (.node (kk P 88) .nil .nil) .nil))) (.node (q0x12 P) (.node (q0x20 P) (.node (q0x36 P) (.node (kk P 68) .nil .nil) .nil) (.node (q0x52 P) (.node (q0x84 P) .nil .nil) .nil)) (.node (kk P 28) (.node (kk P 44) (.node (q0x76 P) .nil .nil) .nil) (.node (q0x60 P) (.node (q0x92 P) .nil .nil) .nil)))) (.node (boot_o_6 P) (.node (boot_o_10 P) (.node (q0x18 P) (.node (q0x34 P) (.node (kk P 66) .nil .nil) .nil) (.node (kk P 50) (.node (kk P 82) .nil .nil) .nil)) (.node (q0x26 P) (.node (kk P 42) (.node (q0x74 P) .nil .nil) .nil) (.node (q0x58 P) (.node (kk P 90) .nil .nil) .nil))) (.node (q0x14 P) (.node (kk P 22) (.node (q0x38 P) (.node (kk P 70) .nil .nil) .nil) (.node (kk P 54) (.node (kk P 86) .nil .nil) .nil)) (.node (kk P 30) (.node (q0x46 P) (.node (q0x78 P) .nil .nil) .nil) (.node (q0x62 P) (.node (kk P 94) .nil .nil) .nil))))))
noncomputable def S1 (P : Params) (os : OsState) : SharedT := { tree := tr1 P, n := 97, life := {}, gens := Array.mk [], drawn := {}, toks := 308, os }
abbrev p1 : Pos := ⟨24, 0, 24, 5⟩
noncomputable def q1x3 (P : Params) : Obj := (Obj.mk (Value.type "dict") Option.none (Data.dict #[(DictEntry.mk (PyData.keyHash P (ss "__name__")) (Value.str (ss "__name__") 165) (Value.str (ss "adacore.values") 273)), (DictEntry.mk (PyData.keyHash P (ss "__doc__")) (Value.str (ss "__doc__") 166) Value.none), (DictEntry.mk (PyData.keyHash P (ss "__package__")) (Value.str (ss "__package__") 167) Value.none), (DictEntry.mk (PyData.keyHash P (ss "__loader__")) (Value.str (ss "__loader__") 168) (Value.builtin "__main__.__loader__#opaque")), (DictEntry.mk (PyData.keyHash P (ss "__spec__")) (Value.str (ss "__spec__") 169) Value.none), (DictEntry.mk (PyData.keyHash P (ss "__annotations__")) (Value.str (ss "__annotations__") 170) (Value.ref 6)), (DictEntry.mk (PyData.keyHash P (ss "__builtins__")) (Value.str (ss "__builtins__") 171) (Value.ref 4)), (DictEntry.mk (PyData.keyHash P (ss "__file__")) (Value.str (ss "__file__") 173) (Value.str (ss "/claim/cut.py") 172)), (DictEntry.mk (PyData.keyHash P (ss "__cached__")) (Value.str (ss "__cached__") 174) Value.none), (DictEntry.mk (PyData.keyHash P (ss "AdaError")) (Value.str (ss "AdaError") 217) (Value.ref 31)), (DictEntry.mk (PyData.keyHash P (ss "CheckFault")) (Value.str (ss "CheckFault") 243) (Value.ref 51)), (DictEntry.mk (PyData.keyHash P (ss "AdaRaise")) (Value.str (ss "AdaRaise") 272) (Value.ref 70)), (DictEntry.mk (PyData.keyHash P (ss "Unset")) (Value.str (ss "Unset") 302) (Value.ref 89)), (DictEntry.mk (PyData.keyHash P (ss "UNSET")) (Value.str (ss "UNSET") 307) (Value.ref 95)), (DictEntry.mk (PyData.keyHash P (ss "Cell")) (Value.str (ss "Cell") 339) (Value.ref 113)), (DictEntry.mk (PyData.keyHash P (ss "CellMaker")) (Value.str (ss "CellMaker") 375) (Value.ref 141)), (DictEntry.mk (PyData.keyHash P (ss "ArrayValue")) (Value.str (ss "ArrayValue") 406) (Value.ref 162))] 17) #[])
noncomputable def q1x12 (P : Params) : Obj := (Obj.mk Value.none Option.none (Data.fields #[(Value.int 2 0), (Value.int 0 0), (Value.ref 20), (Value.int 7 0), (Value.int 0 0), (Value.ref 40), (Value.int 12 0), (Value.int 0 0), (Value.ref 59), (Value.int 20 0), (Value.int 0 0), (Value.ref 78), (Value.int 25 0), (Value.int 0 0), (Value.ref 102), (Value.int 31 0), (Value.int 0 0), (Value.ref 123), (Value.int 39 0), (Value.int 0 0), (Value.ref 151)]) #[])
noncomputable def q1x97 (P : Params) : Obj := (Obj.mk (Value.type "tuple") Option.none (Data.seq #[] 0) #[])
noncomputable def q1x98 (P : Params) : Obj := (Obj.mk (Value.type "builtin_function_or_method") Option.none (Data.fields #[(Value.builtin "type.__prepare__"), (Value.type "type")]) #[])
noncomputable def q1x99 (P : Params) : Obj := (Obj.mk (Value.type "dict") Option.none (Data.dict #[(DictEntry.mk (PyData.keyHash P (ss "__module__")) (Value.str (ss "__module__") 315) (Value.str (ss "adacore.values") 273)), (DictEntry.mk (PyData.keyHash P (ss "__qualname__")) (Value.str (ss "__qualname__") 317) (Value.str (ss "Cell") 316)), (DictEntry.mk (PyData.keyHash P (ss "__firstlineno__")) (Value.str (ss "__firstlineno__") 319) (Value.int 25 318)), (DictEntry.mk (PyData.keyHash P (ss "__init__")) (Value.str (ss "__init__") 328) (Value.ref 110)), (DictEntry.mk (PyData.keyHash P (ss "__static_attributes__")) (Value.str (ss "__static_attributes__") 332) (Value.ref 111))] 5) #[])
noncomputable def q1x100 (P : Params) : Obj := (Obj.mk (Value.type "tuple") Option.none (Data.seq #[] 0) #[])
noncomputable def q1x101 (P : Params) : Obj := (Obj.mk Value.none Option.none (Data.fields #[(Value.int 27 0), (Value.int 4 0), (Value.ref 109)]) #[])
noncomputable def q1x102 (P : Params) : Obj := (Obj.mk (Value.type "code") Option.none (Data.fields #[(Value.str (ss "Cell") 310), (Value.str (ss "Cell") 311), (Value.str (ss "/claim/cut.py") 312), (Value.int 25 0), (Value.int 0 0), (Value.int 0 0), (Value.int 0 0), (Value.int 0 0), (Value.ref 100), (Value.bool Bool.false), (Value.int 181 0), (Value.ref 101), Value.none, Value.none, Value.none, Value.none, (Value.int 313 0), (Value.int 25 0), (Value.str (ss "/claim/cut.py") 314)]) #[])
noncomputable def q1x103 (P : Params) : Obj := (Obj.mk (Value.type "frame") Option.none Data.plain #[(Option.some (Value.ref 102)), (Option.some (Value.ref 3)), (Option.some (Value.ref 99)), Option.none, (Option.some (Value.str (ss "adacore.values") 273)), Option.none, (Option.some (Value.ref 0))])
noncomputable def q1x105 (P : Params) : Obj := (Obj.mk Value.none Option.none (Data.fields #[]) #[])
noncomputable def q1x108 (P : Params) : Obj := (Obj.mk Value.none Option.none (Data.func (FuncData.mk (ss "__init__") (ss "Cell.__init__") (fArgs (sub 7 0)) (FuncBody.stmts (fBody (sub 7 0))) (fScope (sub 7 0)) 0 [] Value.none Value.none Value.none Value.none Option.none Value.none Value.none 0)) #[])
noncomputable def q1x116 (P : Params) : Obj := (Obj.mk (Value.type "super") Option.none (Data.fields #[(Value.ref 113), (Value.ref 113), (Value.ref 113)]) #[])
noncomputable def q1x117 (P : Params) : Obj := (Obj.mk (Value.type "builtin_function_or_method") Option.none (Data.fields #[(Value.builtin "object.__init_subclass__"), (Value.ref 113)]) #[])
noncomputable def q1x118 (P : Params) : Obj := (Obj.mk (Value.type "tuple") Option.none (Data.seq #[] 0) #[])
noncomputable def q1x119 (P : Params) : Obj := (Obj.mk (Value.type "builtin_function_or_method") Option.none (Data.fields #[(Value.builtin "type.__prepare__"), (Value.type "type")]) #[])
noncomputable def q1x120 (P : Params) : Obj := (Obj.mk (Value.type "dict") Option.none (Data.dict #[(DictEntry.mk (PyData.keyHash P (ss "__module__")) (Value.str (ss "__module__") 347) (Value.str (ss "adacore.values") 273)), (DictEntry.mk (PyData.keyHash P (ss "__qualname__")) (Value.str (ss "__qualname__") 349) (Value.str (ss "CellMaker") 348)), (DictEntry.mk (PyData.keyHash P (ss "__firstlineno__")) (Value.str (ss "__firstlineno__") 351) (Value.int 31 350)), (DictEntry.mk (PyData.keyHash P (ss "__init__")) (Value.str (ss "__init__") 358) (Value.ref 131)), (DictEntry.mk (PyData.keyHash P (ss "make_cell")) (Value.str (ss "make_cell") 366) (Value.ref 138)), (DictEntry.mk (PyData.keyHash P (ss "__static_attributes__")) (Value.str (ss "__static_attributes__") 368) (Value.ref 139))] 6) #[])
noncomputable def q1x121 (P : Params) : Obj := (Obj.mk (Value.type "tuple") Option.none (Data.seq #[] 0) #[])
noncomputable def q1x122 (P : Params) : Obj := (Obj.mk Value.none Option.none (Data.fields #[(Value.int 33 0), (Value.int 4 0), (Value.ref 130), (Value.int 36 0), (Value.int 4 0), (Value.ref 137)]) #[])
noncomputable def q1x123 (P : Params) : Obj := (Obj.mk (Value.type "code") Option.none (Data.fields #[(Value.str (ss "CellMaker") 342), (Value.str (ss "CellMaker") 343), (Value.str (ss "/claim/cut.py") 344), (Value.int 31 0), (Value.int 0 0), (Value.int 0 0), (Value.int 0 0), (Value.int 0 0), (Value.ref 121), (Value.bool Bool.false), (Value.int 181 0), (Value.ref 122), Value.none, Value.none, Value.none, Value.none, (Value.int 345 0), (Value.int 31 0), (Value.str (ss "/claim/cut.py") 346)]) #[])
noncomputable def q1x124 (P : Params) : Obj := (Obj.mk (Value.type "frame") Option.none Data.plain #[(Option.some (Value.ref 123)), (Option.some (Value.ref 3)), (Option.some (Value.ref 120)), Option.none, (Option.some (Value.str (ss "adacore.values") 273)), Option.none, (Option.some (Value.ref 0))])
noncomputable def q1x126 (P : Params) : Obj := (Obj.mk Value.none Option.none (Data.fields #[]) #[])
noncomputable def q1x129 (P : Params) : Obj := (Obj.mk Value.none Option.none (Data.func (FuncData.mk (ss "__init__") (ss "CellMaker.__init__") (fArgs (sub 8 0)) (FuncBody.stmts (fBody (sub 8 0))) (fScope (sub 8 0)) 0 [] Value.none Value.none Value.none Value.none Option.none Value.none Value.none 0)) #[])
noncomputable def q1x133 (P : Params) : Obj := (Obj.mk Value.none Option.none (Data.fields #[]) #[])
noncomputable def q1x136 (P : Params) : Obj := (Obj.mk Value.none Option.none (Data.func (FuncData.mk (ss "make_cell") (ss "CellMaker.make_cell") (fArgs (sub 8 1)) (FuncBody.stmts (fBody (sub 8 1))) (fScope (sub 8 1)) 0 [] Value.none Value.none Value.none Value.none Option.none Value.none Value.none 0)) #[])
noncomputable def q1x144 (P : Params) : Obj := (Obj.mk (Value.type "super") Option.none (Data.fields #[(Value.ref 141), (Value.ref 141), (Value.ref 141)]) #[])
noncomputable def q1x145 (P : Params) : Obj := (Obj.mk (Value.type "builtin_function_or_method") Option.none (Data.fields #[(Value.builtin "object.__init_subclass__"), (Value.ref 141)]) #[])
noncomputable def q1x146 (P : Params) : Obj := (Obj.mk (Value.type "tuple") Option.none (Data.seq #[] 0) #[])
noncomputable def q1x147 (P : Params) : Obj := (Obj.mk (Value.type "builtin_function_or_method") Option.none (Data.fields #[(Value.builtin "type.__prepare__"), (Value.type "type")]) #[])
noncomputable def q1x148 (P : Params) : Obj := (Obj.mk (Value.type "dict") Option.none (Data.dict #[(DictEntry.mk (PyData.keyHash P (ss "__module__")) (Value.str (ss "__module__") 383) (Value.str (ss "adacore.values") 273)), (DictEntry.mk (PyData.keyHash P (ss "__qualname__")) (Value.str (ss "__qualname__") 385) (Value.str (ss "ArrayValue") 384)), (DictEntry.mk (PyData.keyHash P (ss "__firstlineno__")) (Value.str (ss "__firstlineno__") 387) (Value.int 39 386)), (DictEntry.mk (PyData.keyHash P (ss "__init__")) (Value.str (ss "__init__") 396) (Value.ref 159)), (DictEntry.mk (PyData.keyHash P (ss "__static_attributes__")) (Value.str (ss "__static_attributes__") 399) (Value.ref 160))] 5) #[])
noncomputable def q1x149 (P : Params) : Obj := (Obj.mk (Value.type "tuple") Option.none (Data.seq #[] 0) #[])
noncomputable def q1x150 (P : Params) : Obj := (Obj.mk Value.none Option.none (Data.fields #[(Value.int 41 0), (Value.int 4 0), (Value.ref 158)]) #[])
noncomputable def q1x151 (P : Params) : Obj := (Obj.mk (Value.type "code") Option.none (Data.fields #[(Value.str (ss "ArrayValue") 378), (Value.str (ss "ArrayValue") 379), (Value.str (ss "/claim/cut.py") 380), (Value.int 39 0), (Value.int 0 0), (Value.int 0 0), (Value.int 0 0), (Value.int 0 0), (Value.ref 149), (Value.bool Bool.false), (Value.int 181 0), (Value.ref 150), Value.none, Value.none, Value.none, Value.none, (Value.int 381 0), (Value.int 39 0), (Value.str (ss "/claim/cut.py") 382)]) #[])
noncomputable def q1x152 (P : Params) : Obj := (Obj.mk (Value.type "frame") Option.none Data.plain #[(Option.some (Value.ref 151)), (Option.some (Value.ref 3)), (Option.some (Value.ref 148)), Option.none, (Option.some (Value.str (ss "adacore.values") 273)), Option.none, (Option.some (Value.ref 0))])
noncomputable def q1x154 (P : Params) : Obj := (Obj.mk Value.none Option.none (Data.fields #[]) #[])
noncomputable def q1x157 (P : Params) : Obj := (Obj.mk Value.none Option.none (Data.func (FuncData.mk (ss "__init__") (ss "ArrayValue.__init__") (fArgs (sub 9 0)) (FuncBody.stmts (fBody (sub 9 0))) (fScope (sub 9 0)) 0 [] Value.none Value.none Value.none Value.none Option.none Value.none Value.none 0)) #[])
noncomputable def q1x165 (P : Params) : Obj := (Obj.mk (Value.type "super") Option.none (Data.fields #[(Value.ref 162), (Value.ref 162), (Value.ref 162)]) #[])
noncomputable def q1x166 (P : Params) : Obj := (Obj.mk (Value.type "builtin_function_or_method") Option.none (Data.fields #[(Value.builtin "object.__init_subclass__"), (Value.ref 162)]) #[])
noncomputable def tr2 (P : Params) : BT := (.node (boot_o_0 P) (.node (boot_o_1 P) (.node (q1x3 P) (.node (boot_o_7 P) (.node (kk P 15) (.node (kk P 31) (.node (kk P 63) (.node (kk P 127) .nil .nil) .nil) (.node (kk P 95) (.node (kk P 159) .nil .nil) .nil)) (.node (kk P 47) (.node (q0x79 P) (.node (kk P 143) .nil .nil) .nil) (.node (kk P 111) .nil .nil))) (.node (q0x23 P) (.node (q0x39 P) (.node (q0x71 P) (.node (kk P 135) .nil .nil) .nil) (.node (q1x103 P) .nil .nil)) (.node (q0x55 P) (.node (kk P 87) (.node (q1x151 P) .nil .nil) .nil) (.node (q1x119 P) .nil .nil)))) (.node (q0x11 P) (.node (q0x19 P) (.node (kk P 35) (.node (kk P 67) (.node (kk P 131) .nil .nil) .nil) (.node (q1x99 P) (.node (kk P 163) .nil .nil) .nil)) (.node (kk P 51) (.node (kk P 83) (.node (q1x147 P) .nil .nil) .nil) (.node (kk P 115) .nil .nil))) (.node (kk P 27) (.node (q0x43 P) (.node (q0x75 P) (.node (kk P 139) .nil .nil) .nil) (.node (kk P 107) .nil .nil)) (.node (q0x59 P) (.node (kk P 91) (.node (kk P 155) .nil .nil) .nil) (.node (q1x123 P) .nil .nil))))) (.node (boot_o_5 P) (.node (boot_o_9 P) (.node (q0x17 P) (.node (q0x33 P) (.node (q0x65 P) (.node (q1x129 P) .nil .nil) .nil) (.node (q1x97 P) (.node (kk P 161) .nil .nil) .nil)) (.node (kk P 49) (.node (q0x81 P) (.node (q1x145 P) .nil .nil) .nil) (.node (kk P 113) .nil .nil))) (.node (kk P 25) (.node (q0x41 P) (.node (q0x73 P) (.node (kk P 137) .nil .nil) .nil) (.node (q1x105 P) .nil .nil)) (.node (q0x57 P) (.node (kk P 89) (.node (kk P 153) .nil .nil) .nil) (.node (q1x121 P) .nil .nil)))) (.node (q0x13 P) (.node (q0x21 P) (.node (q0x37 P) (.node (kk P 69) (.node (q1x133 P) .nil .nil) .nil) (.node (q1x101 P) (.node (q1x165 P) .nil .nil) .nil)) (.node (q0x53 P) (.node (kk P 85) (.node (q1x149 P) .nil .nil) .nil) (.node (q1x117 P) .nil .nil))) (.node (kk P 29) (.node (kk P 45) (.node (q0x77 P) (.node (kk P 141) .nil .nil) .nil) (.node (kk P 109) .nil .nil)) (.node (kk P 61) (.node (q0x93 P) (.node (q1x157 P) .nil .nil) .nil) (.node (kk P 125) .nil .nil)))))) (.node (kk P 2) (.node (boot_o_4 P) (.node (boot_o_8 P) (.node (q0x16 P) (.node (kk P 32) (.node (kk P 64) (.node (kk P 128) .nil .nil) .nil) (.node (q0x96 P) (.node (kk P 160) .nil .nil) .nil)) (.node (kk P 48) (.node (kk P 80) (.node (q1x144 P) .nil .nil) .nil) (.node (kk P 112) .nil .nil))) (.node (kk P 24) (.node (q0x40 P) (.node (q0x72 P) (.node (q1x136 P) .nil .nil) .nil) (.node (kk P 104) .nil .nil)) (.node (q0x56 P) (.node (kk P 88) (.node (q1x152 P) .nil .nil) .nil) (.node (q1x120 P) .nil .nil)))) (.node (q1x12 P) (.node (q0x20 P) (.node (q0x36 P) (.node (kk P 68) (.node (kk P 132) .nil .nil) .nil) (.node (q1x100 P) (.node (kk P 164) .nil .nil) .nil)) (.node (q0x52 P) (.node (q0x84 P) (.node (q1x148 P) .nil .nil) .nil) (.node (q1x116 P) .nil .nil))) (.node (kk P 28) (.node (kk P 44) (.node (q0x76 P) (.node (kk P 140) .nil .nil) .nil) (.node (q1x108 P) .nil .nil)) (.node (q0x60 P) (.node (q0x92 P) (.node (kk P 156) .nil .nil) .nil) (.node (q1x124 P) .nil .nil))))) (.node (boot_o_6 P) (.node (boot_o_10 P) (.node (q0x18 P) (.node (q0x34 P) (.node (kk P 66) (.node (kk P 130) .nil .nil) .nil) (.node (q1x98 P) (.node (kk P 162) .nil .nil) .nil)) (.node (kk P 50) (.node (kk P 82) (.node (q1x146 P) .nil .nil) .nil) (.node (kk P 114) .nil .nil))) (.node (q0x26 P) (.node (kk P 42) (.node (q0x74 P) (.node (kk P 138) .nil .nil) .nil) (.node (kk P 106) .nil .nil)) (.node (q0x58 P) (.node (kk P 90) (.node (q1x154 P) .nil .nil) .nil) (.node (q1x122 P) .nil .nil)))) (.node (q0x14 P) (.node (kk P 22) (.node (q0x38 P) (.node (kk P 70) (.node (kk P 134) .nil .nil) .nil) (.node (q1x102 P) (.node (q1x166 P) .nil .nil) .nil)) (.node (kk P 54) (.node (kk P 86) (.node (q1x150 P) .nil .nil) .nil) (.node (q1x118 P) .nil .nil))) (.node (kk P 30) (.node (q0x46 P) (.node (q0x78 P) (.node (kk P 142) .nil .nil) .nil) (.node (kk P 110) .nil .nil)) (.node (q0x62 P) (.node (kk P 94) (.node (kk P 158) .nil .nil) .nil) (.node (q1x126 P) .nil .nil)))))))
noncomputable def S2 (P : Params) (os : OsState) : SharedT := { tree := tr2 P, n := 167, life := {}, gens := Array.mk [], drawn := {}, toks := 407, os }
abbrev p2 : Pos := ⟨39, 0, 43, 26⟩
noncomputable def q2x3 (P : Params) : Obj := (Obj.mk (Value.type "dict") Option.none (Data.dict #[(DictEntry.mk (PyData.keyHash P (ss "__name__")) (Value.str (ss "__name__") 165) (Value.str (ss "adacore.limits") 590)), (DictEntry.mk (PyData.keyHash P (ss "__doc__")) (Value.str (ss "__doc__") 166) Value.none), (DictEntry.mk (PyData.keyHash P (ss "__package__")) (Value.str (ss "__package__") 167) Value.none), (DictEntry.mk (PyData.keyHash P (ss "__loader__")) (Value.str (ss "__loader__") 168) (Value.builtin "__main__.__loader__#opaque")), (DictEntry.mk (PyData.keyHash P (ss "__spec__")) (Value.str (ss "__spec__") 169) Value.none), (DictEntry.mk (PyData.keyHash P (ss "__annotations__")) (Value.str (ss "__annotations__") 170) (Value.ref 6)), (DictEntry.mk (PyData.keyHash P (ss "__builtins__")) (Value.str (ss "__builtins__") 171) (Value.ref 4)), (DictEntry.mk (PyData.keyHash P (ss "__file__")) (Value.str (ss "__file__") 173) (Value.str (ss "/claim/cut.py") 172)), (DictEntry.mk (PyData.keyHash P (ss "__cached__")) (Value.str (ss "__cached__") 174) Value.none), (DictEntry.mk (PyData.keyHash P (ss "AdaError")) (Value.str (ss "AdaError") 217) (Value.ref 31)), (DictEntry.mk (PyData.keyHash P (ss "CheckFault")) (Value.str (ss "CheckFault") 243) (Value.ref 51)), (DictEntry.mk (PyData.keyHash P (ss "AdaRaise")) (Value.str (ss "AdaRaise") 272) (Value.ref 70)), (DictEntry.mk (PyData.keyHash P (ss "Unset")) (Value.str (ss "Unset") 302) (Value.ref 89)), (DictEntry.mk (PyData.keyHash P (ss "UNSET")) (Value.str (ss "UNSET") 307) (Value.ref 95)), (DictEntry.mk (PyData.keyHash P (ss "Cell")) (Value.str (ss "Cell") 339) (Value.ref 113)), (DictEntry.mk (PyData.keyHash P (ss "CellMaker")) (Value.str (ss "CellMaker") 375) (Value.ref 141)), (DictEntry.mk (PyData.keyHash P (ss "ArrayValue")) (Value.str (ss "ArrayValue") 406) (Value.ref 162)), (DictEntry.mk (PyData.keyHash P (ss "RecordValue")) (Value.str (ss "RecordValue") 437) (Value.ref 183)), (DictEntry.mk (PyData.keyHash P (ss "need_set")) (Value.str (ss "need_set") 444) (Value.ref 194)), (DictEntry.mk (PyData.keyHash P (ss "weight_of")) (Value.str (ss "weight_of") 450) (Value.ref 199)), (DictEntry.mk (PyData.keyHash P (ss "World")) (Value.str (ss "World") 481) (Value.ref 216)), (DictEntry.mk (PyData.keyHash P (ss "text_of")) (Value.str (ss "text_of") 487) (Value.ref 225)), (DictEntry.mk (PyData.keyHash P (ss "add_text")) (Value.str (ss "add_text") 495) (Value.ref 232)), (DictEntry.mk (PyData.keyHash P (ss "put_text")) (Value.str (ss "put_text") 503) (Value.ref 239)), (DictEntry.mk (PyData.keyHash P (ss "put_sign")) (Value.str (ss "put_sign") 511) (Value.ref 246)), (DictEntry.mk (PyData.keyHash P (ss "end_row")) (Value.str (ss "end_row") 519) (Value.ref 253)), (DictEntry.mk (PyData.keyHash P (ss "put_row")) (Value.str (ss "put_row") 527) (Value.ref 260)), (DictEntry.mk (PyData.keyHash P (ss "Run")) (Value.str (ss "Run") 589) (Value.ref 277)), (DictEntry.mk (PyData.keyHash P (ss "Limits")) (Value.str (ss "Limits") 647) (Value.ref 299))] 29) #[])
noncomputable def q2x12 (P : Params) : Obj := (Obj.mk Value.none Option.none (Data.fields (List.toArray ((Value.int 2 0) :: (Value.int 0 0) :: (Value.ref 20) :: (Value.int 7 0) :: (Value.int 0 0) :: (Value.ref 40) :: (Value.int 12 0) :: (Value.int 0 0) :: (Value.ref 59) :: (Value.int 20 0) :: (Value.int 0 0) :: (Value.ref 78) :: (Value.int 25 0) :: (Value.int 0 0) :: (Value.ref 102) :: (Value.int 31 0) :: (Value.int 0 0) :: (Value.ref 123) :: (Value.int 39 0) :: (Value.int 0 0) :: (Value.ref 151) :: (Value.int 44 0) :: (Value.int 0 0) :: (Value.ref 172) :: (Value.int 49 0) :: (Value.int 0 0) :: (Value.ref 193) :: (Value.int 53 0) :: (Value.int 0 0) :: (Value.ref 198) :: (Value.int 62 0) :: (Value.int 0 0) :: (Value.ref 205) :: (Value.int 67 0) :: (Value.int 0 0) :: (Value.ref 224) :: (Value.int 69 0) :: (Value.int 0 0) :: (Value.ref 231) :: (Value.int 73 0) :: (Value.int 0 0) :: (Value.ref 238) :: (Value.int 75 0) :: (Value.int 0 0) :: (Value.ref 245) :: (Value.int 77 0) :: (Value.int 0 0) :: (Value.ref 252) :: (Value.int 82 0) :: (Value.int 0 0) :: (Value.ref 259) :: (Value.int 86 0) :: (Value.int 0 0) :: (Value.ref 266) :: (Value.int 121 0) :: (Value.int 0 0) :: (Value.ref 287) :: []))) #[])
noncomputable def q2x167 (P : Params) : Obj := (Obj.mk (Value.type "tuple") Option.none (Data.seq #[] 0) #[])
noncomputable def q2x168 (P : Params) : Obj := (Obj.mk (Value.type "builtin_function_or_method") Option.none (Data.fields #[(Value.builtin "type.__prepare__"), (Value.type "type")]) #[])
noncomputable def q2x169 (P : Params) : Obj := (Obj.mk (Value.type "dict") Option.none (Data.dict #[(DictEntry.mk (PyData.keyHash P (ss "__module__")) (Value.str (ss "__module__") 414) (Value.str (ss "adacore.values") 273)), (DictEntry.mk (PyData.keyHash P (ss "__qualname__")) (Value.str (ss "__qualname__") 416) (Value.str (ss "RecordValue") 415)), (DictEntry.mk (PyData.keyHash P (ss "__firstlineno__")) (Value.str (ss "__firstlineno__") 418) (Value.int 44 417)), (DictEntry.mk (PyData.keyHash P (ss "__init__")) (Value.str (ss "__init__") 427) (Value.ref 180)), (DictEntry.mk (PyData.keyHash P (ss "__static_attributes__")) (Value.str (ss "__static_attributes__") 430) (Value.ref 181))] 5) #[])
noncomputable def q2x170 (P : Params) : Obj := (Obj.mk (Value.type "tuple") Option.none (Data.seq #[] 0) #[])
noncomputable def q2x171 (P : Params) : Obj := (Obj.mk Value.none Option.none (Data.fields #[(Value.int 46 0), (Value.int 4 0), (Value.ref 179)]) #[])
noncomputable def q2x172 (P : Params) : Obj := (Obj.mk (Value.type "code") Option.none (Data.fields #[(Value.str (ss "RecordValue") 409), (Value.str (ss "RecordValue") 410), (Value.str (ss "/claim/cut.py") 411), (Value.int 44 0), (Value.int 0 0), (Value.int 0 0), (Value.int 0 0), (Value.int 0 0), (Value.ref 170), (Value.bool Bool.false), (Value.int 181 0), (Value.ref 171), Value.none, Value.none, Value.none, Value.none, (Value.int 412 0), (Value.int 44 0), (Value.str (ss "/claim/cut.py") 413)]) #[])
noncomputable def q2x173 (P : Params) : Obj := (Obj.mk (Value.type "frame") Option.none Data.plain #[(Option.some (Value.ref 172)), (Option.some (Value.ref 3)), (Option.some (Value.ref 169)), Option.none, (Option.some (Value.str (ss "adacore.values") 273)), Option.none, (Option.some (Value.ref 0))])
noncomputable def q2x175 (P : Params) : Obj := (Obj.mk Value.none Option.none (Data.fields #[]) #[])
noncomputable def q2x178 (P : Params) : Obj := (Obj.mk Value.none Option.none (Data.func (FuncData.mk (ss "__init__") (ss "RecordValue.__init__") (fArgs (sub 10 0)) (FuncBody.stmts (fBody (sub 10 0))) (fScope (sub 10 0)) 0 [] Value.none Value.none Value.none Value.none Option.none Value.none Value.none 0)) #[])
noncomputable def q2x186 (P : Params) : Obj := (Obj.mk (Value.type "super") Option.none (Data.fields #[(Value.ref 183), (Value.ref 183), (Value.ref 183)]) #[])
noncomputable def q2x187 (P : Params) : Obj := (Obj.mk (Value.type "builtin_function_or_method") Option.none (Data.fields #[(Value.builtin "object.__init_subclass__"), (Value.ref 183)]) #[])
noncomputable def q2x189 (P : Params) : Obj := (Obj.mk Value.none Option.none (Data.fields #[]) #[])
noncomputable def q2x192 (P : Params) : Obj := (Obj.mk Value.none Option.none (Data.func (FuncData.mk (ss "need_set") (ss "need_set") (fArgs (top 11)) (FuncBody.stmts (fBody (top 11))) (fScope (top 11)) 0 [] Value.none Value.none Value.none Value.none Option.none Value.none Value.none 0)) #[])
noncomputable def q2x196 (P : Params) : Obj := (Obj.mk Value.none Option.none (Data.fields #[]) #[])
noncomputable def q2x197 (P : Params) : Obj := (Obj.mk Value.none Option.none (Data.func (FuncData.mk (ss "weight_of") (ss "weight_of") (fArgs (top 12)) (FuncBody.stmts (fBody (top 12))) (fScope (top 12)) 0 [] Value.none Value.none Value.none Value.none Option.none Value.none Value.none 0)) #[])
noncomputable def q2x200 (P : Params) : Obj := (Obj.mk (Value.type "tuple") Option.none (Data.seq #[] 0) #[])
noncomputable def q2x201 (P : Params) : Obj := (Obj.mk (Value.type "builtin_function_or_method") Option.none (Data.fields #[(Value.builtin "type.__prepare__"), (Value.type "type")]) #[])
noncomputable def q2x202 (P : Params) : Obj := (Obj.mk (Value.type "dict") Option.none (Data.dict #[(DictEntry.mk (PyData.keyHash P (ss "__module__")) (Value.str (ss "__module__") 460) (Value.str (ss "adacore.whole") 451)), (DictEntry.mk (PyData.keyHash P (ss "__qualname__")) (Value.str (ss "__qualname__") 462) (Value.str (ss "World") 461)), (DictEntry.mk (PyData.keyHash P (ss "__firstlineno__")) (Value.str (ss "__firstlineno__") 464) (Value.int 62 463)), (DictEntry.mk (PyData.keyHash P (ss "__init__")) (Value.str (ss "__init__") 471) (Value.ref 213)), (DictEntry.mk (PyData.keyHash P (ss "__static_attributes__")) (Value.str (ss "__static_attributes__") 474) (Value.ref 214))] 5) #[])
noncomputable def q2x203 (P : Params) : Obj := (Obj.mk (Value.type "tuple") Option.none (Data.seq #[] 0) #[])
noncomputable def q2x204 (P : Params) : Obj := (Obj.mk Value.none Option.none (Data.fields #[(Value.int 64 0), (Value.int 4 0), (Value.ref 212)]) #[])
noncomputable def q2x205 (P : Params) : Obj := (Obj.mk (Value.type "code") Option.none (Data.fields #[(Value.str (ss "World") 455), (Value.str (ss "World") 456), (Value.str (ss "/claim/cut.py") 457), (Value.int 62 0), (Value.int 0 0), (Value.int 0 0), (Value.int 0 0), (Value.int 0 0), (Value.ref 203), (Value.bool Bool.false), (Value.int 181 0), (Value.ref 204), Value.none, Value.none, Value.none, Value.none, (Value.int 458 0), (Value.int 62 0), (Value.str (ss "/claim/cut.py") 459)]) #[])
noncomputable def q2x206 (P : Params) : Obj := (Obj.mk (Value.type "frame") Option.none Data.plain #[(Option.some (Value.ref 205)), (Option.some (Value.ref 3)), (Option.some (Value.ref 202)), Option.none, (Option.some (Value.str (ss "adacore.whole") 451)), Option.none, (Option.some (Value.ref 0))])
noncomputable def q2x208 (P : Params) : Obj := (Obj.mk Value.none Option.none (Data.fields #[]) #[])
noncomputable def q2x211 (P : Params) : Obj := (Obj.mk Value.none Option.none (Data.func (FuncData.mk (ss "__init__") (ss "World.__init__") (fArgs (sub 14 0)) (FuncBody.stmts (fBody (sub 14 0))) (fScope (sub 14 0)) 0 [] Value.none Value.none Value.none Value.none Option.none Value.none Value.none 0)) #[])
noncomputable def q2x219 (P : Params) : Obj := (Obj.mk (Value.type "super") Option.none (Data.fields #[(Value.ref 216), (Value.ref 216), (Value.ref 216)]) #[])
noncomputable def q2x220 (P : Params) : Obj := (Obj.mk (Value.type "builtin_function_or_method") Option.none (Data.fields #[(Value.builtin "object.__init_subclass__"), (Value.ref 216)]) #[])
noncomputable def q2x222 (P : Params) : Obj := (Obj.mk Value.none Option.none (Data.fields #[]) #[])
noncomputable def q2x223 (P : Params) : Obj := (Obj.mk Value.none Option.none (Data.func (FuncData.mk (ss "text_of") (ss "text_of") (fArgs (top 15)) (FuncBody.stmts (fBody (top 15))) (fScope (top 15)) 0 [] Value.none Value.none Value.none Value.none Option.none Value.none Value.none 0)) #[])
noncomputable def q2x227 (P : Params) : Obj := (Obj.mk Value.none Option.none (Data.fields #[]) #[])
noncomputable def q2x230 (P : Params) : Obj := (Obj.mk Value.none Option.none (Data.func (FuncData.mk (ss "add_text") (ss "add_text") (fArgs (top 16)) (FuncBody.stmts (fBody (top 16))) (fScope (top 16)) 0 [] Value.none Value.none Value.none Value.none Option.none Value.none Value.none 0)) #[])
noncomputable def q2x234 (P : Params) : Obj := (Obj.mk Value.none Option.none (Data.fields #[]) #[])
noncomputable def q2x237 (P : Params) : Obj := (Obj.mk Value.none Option.none (Data.func (FuncData.mk (ss "put_text") (ss "put_text") (fArgs (top 17)) (FuncBody.stmts (fBody (top 17))) (fScope (top 17)) 0 [] Value.none Value.none Value.none Value.none Option.none Value.none Value.none 0)) #[])
noncomputable def q2x241 (P : Params) : Obj := (Obj.mk Value.none Option.none (Data.fields #[]) #[])
noncomputable def q2x244 (P : Params) : Obj := (Obj.mk Value.none Option.none (Data.func (FuncData.mk (ss "put_sign") (ss "put_sign") (fArgs (top 18)) (FuncBody.stmts (fBody (top 18))) (fScope (top 18)) 0 [] Value.none Value.none Value.none Value.none Option.none Value.none Value.none 0)) #[])
noncomputable def q2x248 (P : Params) : Obj := (Obj.mk Value.none Option.none (Data.fields #[]) #[])
noncomputable def q2x251 (P : Params) : Obj := (Obj.mk Value.none Option.none (Data.func (FuncData.mk (ss "end_row") (ss "end_row") (fArgs (top 19)) (FuncBody.stmts (fBody (top 19))) (fScope (top 19)) 0 [] Value.none Value.none Value.none Value.none Option.none Value.none Value.none 0)) #[])
noncomputable def q2x255 (P : Params) : Obj := (Obj.mk Value.none Option.none (Data.fields #[]) #[])
noncomputable def q2x258 (P : Params) : Obj := (Obj.mk Value.none Option.none (Data.func (FuncData.mk (ss "put_row") (ss "put_row") (fArgs (top 20)) (FuncBody.stmts (fBody (top 20))) (fScope (top 20)) 0 [] Value.none Value.none Value.none Value.none Option.none Value.none Value.none 0)) #[])
noncomputable def q2x261 (P : Params) : Obj := (Obj.mk (Value.type "tuple") Option.none (Data.seq #[] 0) #[])
noncomputable def q2x262 (P : Params) : Obj := (Obj.mk (Value.type "builtin_function_or_method") Option.none (Data.fields #[(Value.builtin "type.__prepare__"), (Value.type "type")]) #[])
noncomputable def q2x263 (P : Params) : Obj := (Obj.mk (Value.type "dict") Option.none (Data.dict #[(DictEntry.mk (PyData.keyHash P (ss "__module__")) (Value.str (ss "__module__") 537) (Value.str (ss "adacore.frames") 528)), (DictEntry.mk (PyData.keyHash P (ss "__qualname__")) (Value.str (ss "__qualname__") 539) (Value.str (ss "Run") 538)), (DictEntry.mk (PyData.keyHash P (ss "__firstlineno__")) (Value.str (ss "__firstlineno__") 541) (Value.int 86 540)), (DictEntry.mk (PyData.keyHash P (ss "__init__")) (Value.str (ss "__init__") 550) (Value.ref 274)), (DictEntry.mk (PyData.keyHash P (ss "__static_attributes__")) (Value.str (ss "__static_attributes__") 582) (Value.ref 275))] 5) #[])
noncomputable def q2x264 (P : Params) : Obj := (Obj.mk (Value.type "tuple") Option.none (Data.seq #[] 0) #[])
noncomputable def q2x265 (P : Params) : Obj := (Obj.mk Value.none Option.none (Data.fields #[(Value.int 88 0), (Value.int 4 0), (Value.ref 273)]) #[])
noncomputable def q2x266 (P : Params) : Obj := (Obj.mk (Value.type "code") Option.none (Data.fields #[(Value.str (ss "Run") 532), (Value.str (ss "Run") 533), (Value.str (ss "/claim/cut.py") 534), (Value.int 86 0), (Value.int 0 0), (Value.int 0 0), (Value.int 0 0), (Value.int 0 0), (Value.ref 264), (Value.bool Bool.false), (Value.int 181 0), (Value.ref 265), Value.none, Value.none, Value.none, Value.none, (Value.int 535 0), (Value.int 86 0), (Value.str (ss "/claim/cut.py") 536)]) #[])
noncomputable def q2x267 (P : Params) : Obj := (Obj.mk (Value.type "frame") Option.none Data.plain #[(Option.some (Value.ref 266)), (Option.some (Value.ref 3)), (Option.some (Value.ref 263)), Option.none, (Option.some (Value.str (ss "adacore.frames") 528)), Option.none, (Option.some (Value.ref 0))])
noncomputable def q2x269 (P : Params) : Obj := (Obj.mk Value.none Option.none (Data.fields #[]) #[])
noncomputable def q2x272 (P : Params) : Obj := (Obj.mk Value.none Option.none (Data.func (FuncData.mk (ss "__init__") (ss "Run.__init__") (fArgs (sub 22 0)) (FuncBody.stmts (fBody (sub 22 0))) (fScope (sub 22 0)) 0 [] Value.none Value.none Value.none Value.none Option.none Value.none Value.none 0)) #[])
noncomputable def q2x280 (P : Params) : Obj := (Obj.mk (Value.type "super") Option.none (Data.fields #[(Value.ref 277), (Value.ref 277), (Value.ref 277)]) #[])
noncomputable def q2x281 (P : Params) : Obj := (Obj.mk (Value.type "builtin_function_or_method") Option.none (Data.fields #[(Value.builtin "object.__init_subclass__"), (Value.ref 277)]) #[])
noncomputable def q2x282 (P : Params) : Obj := (Obj.mk (Value.type "tuple") Option.none (Data.seq #[] 0) #[])
noncomputable def q2x283 (P : Params) : Obj := (Obj.mk (Value.type "builtin_function_or_method") Option.none (Data.fields #[(Value.builtin "type.__prepare__"), (Value.type "type")]) #[])
noncomputable def q2x284 (P : Params) : Obj := (Obj.mk (Value.type "dict") Option.none (Data.dict #[(DictEntry.mk (PyData.keyHash P (ss "__module__")) (Value.str (ss "__module__") 599) (Value.str (ss "adacore.limits") 590)), (DictEntry.mk (PyData.keyHash P (ss "__qualname__")) (Value.str (ss "__qualname__") 601) (Value.str (ss "Limits") 600)), (DictEntry.mk (PyData.keyHash P (ss "__firstlineno__")) (Value.str (ss "__firstlineno__") 603) (Value.int 121 602)), (DictEntry.mk (PyData.keyHash P (ss "__init__")) (Value.str (ss "__init__") 632) (Value.ref 296)), (DictEntry.mk (PyData.keyHash P (ss "__static_attributes__")) (Value.str (ss "__static_attributes__") 640) (Value.ref 297))] 5) #[])
noncomputable def q2x285 (P : Params) : Obj := (Obj.mk (Value.type "tuple") Option.none (Data.seq #[] 0) #[])
noncomputable def q2x286 (P : Params) : Obj := (Obj.mk Value.none Option.none (Data.fields #[(Value.int 123 0), (Value.int 4 0), (Value.ref 295)]) #[])
noncomputable def q2x287 (P : Params) : Obj := (Obj.mk (Value.type "code") Option.none (Data.fields #[(Value.str (ss "Limits") 594), (Value.str (ss "Limits") 595), (Value.str (ss "/claim/cut.py") 596), (Value.int 121 0), (Value.int 0 0), (Value.int 0 0), (Value.int 0 0), (Value.int 0 0), (Value.ref 285), (Value.bool Bool.false), (Value.int 181 0), (Value.ref 286), Value.none, Value.none, Value.none, Value.none, (Value.int 597 0), (Value.int 121 0), (Value.str (ss "/claim/cut.py") 598)]) #[])
noncomputable def q2x288 (P : Params) : Obj := (Obj.mk (Value.type "frame") Option.none Data.plain #[(Option.some (Value.ref 287)), (Option.some (Value.ref 3)), (Option.some (Value.ref 284)), Option.none, (Option.some (Value.str (ss "adacore.limits") 590)), Option.none, (Option.some (Value.ref 0))])
noncomputable def q2x291 (P : Params) : Obj := (Obj.mk Value.none Option.none (Data.fields #[]) #[])
noncomputable def q2x294 (P : Params) : Obj := (Obj.mk Value.none Option.none (Data.func (FuncData.mk (ss "__init__") (ss "Limits.__init__") (fArgs (sub 24 0)) (FuncBody.stmts (fBody (sub 24 0))) (fScope (sub 24 0)) 0 [] Value.none Value.none Value.none Value.none Option.none Value.none Value.none 0)) #[])
noncomputable def q2x302 (P : Params) : Obj := (Obj.mk (Value.type "super") Option.none (Data.fields #[(Value.ref 299), (Value.ref 299), (Value.ref 299)]) #[])
noncomputable def q2x303 (P : Params) : Obj := (Obj.mk (Value.type "builtin_function_or_method") Option.none (Data.fields #[(Value.builtin "object.__init_subclass__"), (Value.ref 299)]) #[])
noncomputable def tr3 (P : Params) : BT := (.node (boot_o_0 P) (.node (boot_o_1 P) (.node (q2x3 P) (.node (boot_o_7 P) (.node (kk P 15) (.node (kk P 31) (.node (kk P 63) (.node (kk P 127) (.node (q2x255 P) .nil .nil) .nil) (.node (kk P 191) .nil .nil)) (.node (kk P 95) (.node (kk P 159) (.node (q2x287 P) .nil .nil) .nil) (.node (q2x223 P) .nil .nil))) (.node (kk P 47) (.node (q0x79 P) (.node (kk P 143) (.node (kk P 271) .nil .nil) .nil) (.node (kk P 207) .nil .nil)) (.node (kk P 111) (.node (q2x175 P) (.node (q2x303 P) .nil .nil) .nil) (.node (kk P 239) .nil .nil)))) (.node (q0x23 P) (.node (q0x39 P) (.node (q0x71 P) (.node (kk P 135) (.node (q2x263 P) .nil .nil) .nil) (.node (kk P 199) .nil .nil)) (.node (q1x103 P) (.node (q2x167 P) (.node (kk P 295) .nil .nil) .nil) (.node (kk P 231) .nil .nil))) (.node (q0x55 P) (.node (kk P 87) (.node (q1x151 P) (.node (kk P 279) .nil .nil) .nil) (.node (kk P 215) .nil .nil)) (.node (q1x119 P) (.node (kk P 183) .nil .nil) (.node (kk P 247) .nil .nil))))) (.node (q0x11 P) (.node (q0x19 P) (.node (kk P 35) (.node (kk P 67) (.node (kk P 131) (.node (kk P 259) .nil .nil) .nil) (.node (kk P 195) .nil .nil)) (.node (q1x99 P) (.node (kk P 163) (.node (q2x291 P) .nil .nil) .nil) (.node (q2x227 P) .nil .nil))) (.node (kk P 51) (.node (kk P 83) (.node (q1x147 P) (.node (kk P 275) .nil .nil) .nil) (.node (q2x211 P) .nil .nil)) (.node (kk P 115) (.node (kk P 179) .nil .nil) (.node (kk P 243) .nil .nil)))) (.node (kk P 27) (.node (q0x43 P) (.node (q0x75 P) (.node (kk P 139) (.node (q2x267 P) .nil .nil) .nil) (.node (q2x203 P) .nil .nil)) (.node (kk P 107) (.node (q2x171 P) (.node (kk P 299) .nil .nil) .nil) (.node (kk P 235) .nil .nil))) (.node (q0x59 P) (.node (kk P 91) (.node (kk P 155) (.node (q2x283 P) .nil .nil) .nil) (.node (q2x219 P) .nil .nil)) (.node (q1x123 P) (.node (q2x187 P) .nil .nil) (.node (q2x251 P) .nil .nil)))))) (.node (boot_o_5 P) (.node (boot_o_9 P) (.node (q0x17 P) (.node (q0x33 P) (.node (q0x65 P) (.node (q1x129 P) (.node (kk P 257) .nil .nil) .nil) (.node (kk P 193) .nil .nil)) (.node (q1x97 P) (.node (kk P 161) (.node (kk P 289) .nil .nil) .nil) (.node (kk P 225) .nil .nil))) (.node (kk P 49) (.node (q0x81 P) (.node (q1x145 P) (.node (kk P 273) .nil .nil) .nil) (.node (kk P 209) .nil .nil)) (.node (kk P 113) (.node (kk P 177) .nil .nil) (.node (q2x241 P) .nil .nil)))) (.node (kk P 25) (.node (q0x41 P) (.node (q0x73 P) (.node (kk P 137) (.node (q2x265 P) .nil .nil) .nil) (.node (q2x201 P) .nil .nil)) (.node (q1x105 P) (.node (q2x169 P) (.node (kk P 297) .nil .nil) .nil) (.node (kk P 233) .nil .nil))) (.node (q0x57 P) (.node (kk P 89) (.node (kk P 153) (.node (q2x281 P) .nil .nil) .nil) (.node (kk P 217) .nil .nil)) (.node (q1x121 P) (.node (kk P 185) .nil .nil) (.node (kk P 249) .nil .nil))))) (.node (q0x13 P) (.node (q0x21 P) (.node (q0x37 P) (.node (kk P 69) (.node (q1x133 P) (.node (q2x261 P) .nil .nil) .nil) (.node (q2x197 P) .nil .nil)) (.node (q1x101 P) (.node (q1x165 P) (.node (kk P 293) .nil .nil) .nil) (.node (kk P 229) .nil .nil))) (.node (q0x53 P) (.node (kk P 85) (.node (q1x149 P) (.node (kk P 277) .nil .nil) .nil) (.node (kk P 213) .nil .nil)) (.node (q1x117 P) (.node (kk P 181) .nil .nil) (.node (kk P 245) .nil .nil)))) (.node (kk P 29) (.node (kk P 45) (.node (q0x77 P) (.node (kk P 141) (.node (q2x269 P) .nil .nil) .nil) (.node (q2x205 P) .nil .nil)) (.node (kk P 109) (.node (q2x173 P) (.node (kk P 301) .nil .nil) .nil) (.node (q2x237 P) .nil .nil))) (.node (kk P 61) (.node (q0x93 P) (.node (q1x157 P) (.node (q2x285 P) .nil .nil) .nil) (.node (kk P 221) .nil .nil)) (.node (kk P 125) (.node (q2x189 P) .nil .nil) (.node (kk P 253) .nil .nil))))))) (.node (kk P 2) (.node (boot_o_4 P) (.node (boot_o_8 P) (.node (q0x16 P) (.node (kk P 32) (.node (kk P 64) (.node (kk P 128) (.node (kk P 256) .nil .nil) .nil) (.node (q2x192 P) .nil .nil)) (.node (q0x96 P) (.node (kk P 160) (.node (q2x288 P) .nil .nil) .nil) (.node (kk P 224) .nil .nil))) (.node (kk P 48) (.node (kk P 80) (.node (q1x144 P) (.node (q2x272 P) .nil .nil) .nil) (.node (q2x208 P) .nil .nil)) (.node (kk P 112) (.node (kk P 176) .nil .nil) (.node (kk P 240) .nil .nil)))) (.node (kk P 24) (.node (q0x40 P) (.node (q0x72 P) (.node (q1x136 P) (.node (q2x264 P) .nil .nil) .nil) (.node (q2x200 P) .nil .nil)) (.node (kk P 104) (.node (q2x168 P) (.node (kk P 296) .nil .nil) .nil) (.node (kk P 232) .nil .nil))) (.node (q0x56 P) (.node (kk P 88) (.node (q1x152 P) (.node (q2x280 P) .nil .nil) .nil) (.node (kk P 216) .nil .nil)) (.node (q1x120 P) (.node (kk P 184) .nil .nil) (.node (q2x248 P) .nil .nil))))) (.node (q2x12 P) (.node (q0x20 P) (.node (q0x36 P) (.node (kk P 68) (.node (kk P 132) (.node (kk P 260) .nil .nil) .nil) (.node (q2x196 P) .nil .nil)) (.node (q1x100 P) (.node (kk P 164) (.node (kk P 292) .nil .nil) .nil) (.node (kk P 228) .nil .nil))) (.node (q0x52 P) (.node (q0x84 P) (.node (q1x148 P) (.node (kk P 276) .nil .nil) .nil) (.node (kk P 212) .nil .nil)) (.node (q1x116 P) (.node (kk P 180) .nil .nil) (.node (q2x244 P) .nil .nil)))) (.node (kk P 28) (.node (kk P 44) (.node (q0x76 P) (.node (kk P 140) (.node (kk P 268) .nil .nil) .nil) (.node (q2x204 P) .nil .nil)) (.node (q1x108 P) (.node (q2x172 P) (.node (kk P 300) .nil .nil) .nil) (.node (kk P 236) .nil .nil))) (.node (q0x60 P) (.node (q0x92 P) (.node (kk P 156) (.node (q2x284 P) .nil .nil) .nil) (.node (q2x220 P) .nil .nil)) (.node (q1x124 P) (.node (kk P 188) .nil .nil) (.node (kk P 252) .nil .nil)))))) (.node (boot_o_6 P) (.node (boot_o_10 P) (.node (q0x18 P) (.node (q0x34 P) (.node (kk P 66) (.node (kk P 130) (.node (q2x258 P) .nil .nil) .nil) (.node (kk P 194) .nil .nil)) (.node (q1x98 P) (.node (kk P 162) (.node (kk P 290) .nil .nil) .nil) (.node (kk P 226) .nil .nil))) (.node (kk P 50) (.node (kk P 82) (.node (q1x146 P) (.node (kk P 274) .nil .nil) .nil) (.node (kk P 210) .nil .nil)) (.node (kk P 114) (.node (q2x178 P) .nil .nil) (.node (kk P 242) .nil .nil)))) (.node (q0x26 P) (.node (kk P 42) (.node (q0x74 P) (.node (kk P 138) (.node (q2x266 P) .nil .nil) .nil) (.node (q2x202 P) .nil .nil)) (.node (kk P 106) (.node (q2x170 P) (.node (kk P 298) .nil .nil) .nil) (.node (q2x234 P) .nil .nil))) (.node (q0x58 P) (.node (kk P 90) (.node (q1x154 P) (.node (q2x282 P) .nil .nil) .nil) (.node (kk P 218) .nil .nil)) (.node (q1x122 P) (.node (q2x186 P) .nil .nil) (.node (kk P 250) .nil .nil))))) (.node (q0x14 P) (.node (kk P 22) (.node (q0x38 P) (.node (kk P 70) (.node (kk P 134) (.node (q2x262 P) .nil .nil) .nil) (.node (kk P 198) .nil .nil)) (.node (q1x102 P) (.node (q1x166 P) (.node (q2x294 P) .nil .nil) .nil) (.node (q2x230 P) .nil .nil))) (.node (kk P 54) (.node (kk P 86) (.node (q1x150 P) (.node (kk P 278) .nil .nil) .nil) (.node (kk P 214) .nil .nil)) (.node (q1x118 P) (.node (kk P 182) .nil .nil) (.node (kk P 246) .nil .nil)))) (.node (kk P 30) (.node (q0x46 P) (.node (q0x78 P) (.node (kk P 142) (.node (kk P 270) .nil .nil) .nil) (.node (q2x206 P) .nil .nil)) (.node (kk P 110) (.node (kk P 174) (.node (q2x302 P) .nil .nil) .nil) (.node (kk P 238) .nil .nil))) (.node (q0x62 P) (.node (kk P 94) (.node (kk P 158) (.node (q2x286 P) .nil .nil) .nil) (.node (q2x222 P) .nil .nil)) (.node (q1x126 P) (.node (kk P 190) .nil .nil) (.node (kk P 254) .nil .nil))))))))
noncomputable def S3 (P : Params) (os : OsState) : SharedT := { tree := tr3 P, n := 304, life := {}, gens := Array.mk [], drawn := {}, toks := 648, os }
abbrev p3 : Pos := ⟨121, 0, 130, 24⟩
noncomputable def q3x12 (P : Params) : Obj := (Obj.mk Value.none Option.none (Data.fields (List.toArray ((Value.int 2 0) :: (Value.int 0 0) :: (Value.ref 20) :: (Value.int 7 0) :: (Value.int 0 0) :: (Value.ref 40) :: (Value.int 12 0) :: (Value.int 0 0) :: (Value.ref 59) :: (Value.int 20 0) :: (Value.int 0 0) :: (Value.ref 78) :: (Value.int 25 0) :: (Value.int 0 0) :: (Value.ref 102) :: (Value.int 31 0) :: (Value.int 0 0) :: (Value.ref 123) :: (Value.int 39 0) :: (Value.int 0 0) :: (Value.ref 151) :: (Value.int 44 0) :: (Value.int 0 0) :: (Value.ref 172) :: (Value.int 49 0) :: (Value.int 0 0) :: (Value.ref 193) :: (Value.int 53 0) :: (Value.int 0 0) :: (Value.ref 198) :: (Value.int 62 0) :: (Value.int 0 0) :: (Value.ref 205) :: (Value.int 67 0) :: (Value.int 0 0) :: (Value.ref 224) :: (Value.int 69 0) :: (Value.int 0 0) :: (Value.ref 231) :: (Value.int 73 0) :: (Value.int 0 0) :: (Value.ref 238) :: (Value.int 75 0) :: (Value.int 0 0) :: (Value.ref 245) :: (Value.int 77 0) :: (Value.int 0 0) :: (Value.ref 252) :: (Value.int 82 0) :: (Value.int 0 0) :: (Value.ref 259) :: (Value.int 86 0) :: (Value.int 0 0) :: (Value.ref 266) :: (Value.int 121 0) :: (Value.int 0 0) :: (Value.ref 287) :: (Value.int 132 0) :: (Value.int 0 0) :: (Value.ref 309) :: (Value.int 159 0) :: (Value.int 0 0) :: (Value.ref 330) :: (Value.int 164 0) :: (Value.int 0 0) :: (Value.ref 351) :: (Value.int 166 0) :: (Value.int 0 0) :: (Value.ref 358) :: (Value.int 171 0) :: (Value.int 0 0) :: (Value.ref 365) :: (Value.int 174 0) :: (Value.int 0 0) :: (Value.ref 372) :: (Value.int 179 0) :: (Value.int 0 0) :: (Value.ref 379) :: (Value.int 188 0) :: (Value.int 0 0) :: (Value.ref 386) :: (Value.int 193 0) :: (Value.int 0 0) :: (Value.ref 391) :: (Value.int 198 0) :: (Value.int 0 0) :: (Value.ref 398) :: (Value.int 207 0) :: (Value.int 0 0) :: (Value.ref 405) :: (Value.int 210 0) :: (Value.int 0 0) :: (Value.ref 410) :: (Value.int 226 0) :: (Value.int 0 0) :: (Value.ref 415) :: (Value.int 228 0) :: (Value.int 0 0) :: (Value.ref 422) :: (Value.int 233 0) :: (Value.int 0 0) :: (Value.ref 429) :: (Value.int 239 0) :: (Value.int 0 0) :: (Value.ref 436) :: (Value.int 245 0) :: (Value.int 0 0) :: (Value.ref 443) :: (Value.int 247 0) :: (Value.int 0 0) :: (Value.ref 450) :: (Value.int 257 0) :: (Value.int 0 0) :: (Value.ref 455) :: (Value.int 273 0) :: (Value.int 0 0) :: (Value.ref 462) :: []))) #[])
noncomputable def q3x304 (P : Params) : Obj := (Obj.mk (Value.type "tuple") Option.none (Data.seq #[] 0) #[])
noncomputable def q3x305 (P : Params) : Obj := (Obj.mk (Value.type "builtin_function_or_method") Option.none (Data.fields #[(Value.builtin "type.__prepare__"), (Value.type "type")]) #[])
noncomputable def q3x306 (P : Params) : Obj := (Obj.mk (Value.type "dict") Option.none (Data.dict #[(DictEntry.mk (PyData.keyHash P (ss "__module__")) (Value.str (ss "__module__") 657) (Value.str (ss "adacore.types") 648)), (DictEntry.mk (PyData.keyHash P (ss "__qualname__")) (Value.str (ss "__qualname__") 659) (Value.str (ss "Type") 658)), (DictEntry.mk (PyData.keyHash P (ss "__firstlineno__")) (Value.str (ss "__firstlineno__") 661) (Value.int 132 660)), (DictEntry.mk (PyData.keyHash P (ss "__init__")) (Value.str (ss "__init__") 670) (Value.ref 317)), (DictEntry.mk (PyData.keyHash P (ss "__static_attributes__")) (Value.str (ss "__static_attributes__") 695) (Value.ref 318))] 5) #[])
noncomputable def q3x307 (P : Params) : Obj := (Obj.mk (Value.type "tuple") Option.none (Data.seq #[] 0) #[])
noncomputable def q3x308 (P : Params) : Obj := (Obj.mk Value.none Option.none (Data.fields #[(Value.int 134 0), (Value.int 4 0), (Value.ref 316)]) #[])
noncomputable def q3x309 (P : Params) : Obj := (Obj.mk (Value.type "code") Option.none (Data.fields #[(Value.str (ss "Type") 652), (Value.str (ss "Type") 653), (Value.str (ss "/claim/cut.py") 654), (Value.int 132 0), (Value.int 0 0), (Value.int 0 0), (Value.int 0 0), (Value.int 0 0), (Value.ref 307), (Value.bool Bool.false), (Value.int 181 0), (Value.ref 308), Value.none, Value.none, Value.none, Value.none, (Value.int 655 0), (Value.int 132 0), (Value.str (ss "/claim/cut.py") 656)]) #[])
noncomputable def q3x310 (P : Params) : Obj := (Obj.mk (Value.type "frame") Option.none Data.plain #[(Option.some (Value.ref 309)), (Option.some (Value.ref 3)), (Option.some (Value.ref 306)), Option.none, (Option.some (Value.str (ss "adacore.types") 648)), Option.none, (Option.some (Value.ref 0))])
noncomputable def q3x312 (P : Params) : Obj := (Obj.mk Value.none Option.none (Data.fields #[]) #[])
noncomputable def q3x315 (P : Params) : Obj := (Obj.mk Value.none Option.none (Data.func (FuncData.mk (ss "__init__") (ss "Type.__init__") (fArgs (sub 26 0)) (FuncBody.stmts (fBody (sub 26 0))) (fScope (sub 26 0)) 0 [] Value.none Value.none Value.none Value.none Option.none Value.none Value.none 0)) #[])
noncomputable def q3x323 (P : Params) : Obj := (Obj.mk (Value.type "super") Option.none (Data.fields #[(Value.ref 320), (Value.ref 320), (Value.ref 320)]) #[])
noncomputable def q3x324 (P : Params) : Obj := (Obj.mk (Value.type "builtin_function_or_method") Option.none (Data.fields #[(Value.builtin "object.__init_subclass__"), (Value.ref 320)]) #[])
noncomputable def q3x325 (P : Params) : Obj := (Obj.mk (Value.type "tuple") Option.none (Data.seq #[] 0) #[])
noncomputable def q3x326 (P : Params) : Obj := (Obj.mk (Value.type "builtin_function_or_method") Option.none (Data.fields #[(Value.builtin "type.__prepare__"), (Value.type "type")]) #[])
noncomputable def q3x327 (P : Params) : Obj := (Obj.mk (Value.type "dict") Option.none (Data.dict #[(DictEntry.mk (PyData.keyHash P (ss "__module__")) (Value.str (ss "__module__") 710) (Value.str (ss "adacore.types") 648)), (DictEntry.mk (PyData.keyHash P (ss "__qualname__")) (Value.str (ss "__qualname__") 712) (Value.str (ss "Subtype") 711)), (DictEntry.mk (PyData.keyHash P (ss "__firstlineno__")) (Value.str (ss "__firstlineno__") 714) (Value.int 159 713)), (DictEntry.mk (PyData.keyHash P (ss "__init__")) (Value.str (ss "__init__") 723) (Value.ref 338)), (DictEntry.mk (PyData.keyHash P (ss "__static_attributes__")) (Value.str (ss "__static_attributes__") 726) (Value.ref 339))] 5) #[])
noncomputable def q3x328 (P : Params) : Obj := (Obj.mk (Value.type "tuple") Option.none (Data.seq #[] 0) #[])
noncomputable def q3x329 (P : Params) : Obj := (Obj.mk Value.none Option.none (Data.fields #[(Value.int 161 0), (Value.int 4 0), (Value.ref 337)]) #[])
noncomputable def q3x330 (P : Params) : Obj := (Obj.mk (Value.type "code") Option.none (Data.fields #[(Value.str (ss "Subtype") 705), (Value.str (ss "Subtype") 706), (Value.str (ss "/claim/cut.py") 707), (Value.int 159 0), (Value.int 0 0), (Value.int 0 0), (Value.int 0 0), (Value.int 0 0), (Value.ref 328), (Value.bool Bool.false), (Value.int 181 0), (Value.ref 329), Value.none, Value.none, Value.none, Value.none, (Value.int 708 0), (Value.int 159 0), (Value.str (ss "/claim/cut.py") 709)]) #[])
noncomputable def q3x331 (P : Params) : Obj := (Obj.mk (Value.type "frame") Option.none Data.plain #[(Option.some (Value.ref 330)), (Option.some (Value.ref 3)), (Option.some (Value.ref 327)), Option.none, (Option.some (Value.str (ss "adacore.types") 648)), Option.none, (Option.some (Value.ref 0))])
noncomputable def q3x333 (P : Params) : Obj := (Obj.mk Value.none Option.none (Data.fields #[]) #[])
noncomputable def q3x336 (P : Params) : Obj := (Obj.mk Value.none Option.none (Data.func (FuncData.mk (ss "__init__") (ss "Subtype.__init__") (fArgs (sub 27 0)) (FuncBody.stmts (fBody (sub 27 0))) (fScope (sub 27 0)) 0 [] Value.none Value.none Value.none Value.none Option.none Value.none Value.none 0)) #[])
noncomputable def q3x344 (P : Params) : Obj := (Obj.mk (Value.type "super") Option.none (Data.fields #[(Value.ref 341), (Value.ref 341), (Value.ref 341)]) #[])
noncomputable def q3x345 (P : Params) : Obj := (Obj.mk (Value.type "builtin_function_or_method") Option.none (Data.fields #[(Value.builtin "object.__init_subclass__"), (Value.ref 341)]) #[])
noncomputable def q3x347 (P : Params) : Obj := (Obj.mk Value.none Option.none (Data.fields #[]) #[])
noncomputable def q3x350 (P : Params) : Obj := (Obj.mk Value.none Option.none (Data.func (FuncData.mk (ss "base_bounds") (ss "base_bounds") (fArgs (top 28)) (FuncBody.stmts (fBody (top 28))) (fScope (top 28)) 0 [] Value.none Value.none Value.none Value.none Option.none Value.none Value.none 0)) #[])
noncomputable def q3x354 (P : Params) : Obj := (Obj.mk Value.none Option.none (Data.fields #[]) #[])
noncomputable def q3x357 (P : Params) : Obj := (Obj.mk Value.none Option.none (Data.func (FuncData.mk (ss "int_type") (ss "int_type") (fArgs (top 29)) (FuncBody.stmts (fBody (top 29))) (fScope (top 29)) 0 [] Value.none Value.none Value.none Value.none Option.none Value.none Value.none 0)) #[])
noncomputable def q3x361 (P : Params) : Obj := (Obj.mk Value.none Option.none (Data.fields #[]) #[])
noncomputable def q3x364 (P : Params) : Obj := (Obj.mk Value.none Option.none (Data.func (FuncData.mk (ss "numbered") (ss "numbered") (fArgs (top 30)) (FuncBody.stmts (fBody (top 30))) (fScope (top 30)) 0 [] Value.none Value.none Value.none Value.none Option.none Value.none Value.none 0)) #[])
noncomputable def q3x368 (P : Params) : Obj := (Obj.mk Value.none Option.none (Data.fields #[]) #[])
noncomputable def q3x371 (P : Params) : Obj := (Obj.mk Value.none Option.none (Data.func (FuncData.mk (ss "integer_type") (ss "integer_type") (fArgs (top 31)) (FuncBody.stmts (fBody (top 31))) (fScope (top 31)) 0 [] Value.none Value.none Value.none Value.none Option.none Value.none Value.none 0)) #[])
noncomputable def q3x375 (P : Params) : Obj := (Obj.mk Value.none Option.none (Data.fields #[]) #[])
noncomputable def q3x378 (P : Params) : Obj := (Obj.mk Value.none Option.none (Data.func (FuncData.mk (ss "full_subtype") (ss "full_subtype") (fArgs (top 34)) (FuncBody.stmts (fBody (top 34))) (fScope (top 34)) 0 [] Value.none Value.none Value.none Value.none Option.none Value.none Value.none 0)) #[])
noncomputable def q3x382 (P : Params) : Obj := (Obj.mk Value.none Option.none (Data.fields #[]) #[])
noncomputable def q3x385 (P : Params) : Obj := (Obj.mk Value.none Option.none (Data.func (FuncData.mk (ss "full_type") (ss "full_type") (fArgs (top 35)) (FuncBody.stmts (fBody (top 35))) (fScope (top 35)) 0 [] Value.none Value.none Value.none Value.none Option.none Value.none Value.none 0)) #[])
noncomputable def q3x389 (P : Params) : Obj := (Obj.mk Value.none Option.none (Data.fields #[]) #[])
noncomputable def q3x390 (P : Params) : Obj := (Obj.mk Value.none Option.none (Data.func (FuncData.mk (ss "kept_subtype") (ss "kept_subtype") (fArgs (top 37)) (FuncBody.stmts (fBody (top 37))) (fScope (top 37)) 0 [] Value.none Value.none Value.none Value.none Option.none Value.none Value.none 0)) #[])
noncomputable def q3x394 (P : Params) : Obj := (Obj.mk Value.none Option.none (Data.fields #[]) #[])
noncomputable def q3x397 (P : Params) : Obj := (Obj.mk Value.none Option.none (Data.func (FuncData.mk (ss "heap_cell") (ss "heap_cell") (fArgs (top 38)) (FuncBody.stmts (fBody (top 38))) (fScope (top 38)) 0 [] Value.none Value.none Value.none Value.none Option.none Value.none Value.none 0)) #[])
noncomputable def q3x401 (P : Params) : Obj := (Obj.mk Value.none Option.none (Data.fields #[]) #[])
noncomputable def q3x404 (P : Params) : Obj := (Obj.mk Value.none Option.none (Data.func (FuncData.mk (ss "_law_cast") (ss "_law_cast") (fArgs (top 40)) (FuncBody.stmts (fBody (top 40))) (fScope (top 40)) 0 [] Value.none Value.none Value.none Value.none Option.none Value.none Value.none 0)) #[])
noncomputable def q3x408 (P : Params) : Obj := (Obj.mk Value.none Option.none (Data.fields #[]) #[])
noncomputable def q3x409 (P : Params) : Obj := (Obj.mk Value.none Option.none (Data.func (FuncData.mk (ss "_law_thing") (ss "_law_thing") (fArgs (top 41)) (FuncBody.stmts (fBody (top 41))) (fScope (top 41)) 0 [] Value.none Value.none Value.none Value.none Option.none Value.none Value.none 0)) #[])
noncomputable def q3x413 (P : Params) : Obj := (Obj.mk Value.none Option.none (Data.fields #[]) #[])
noncomputable def q3x414 (P : Params) : Obj := (Obj.mk Value.none Option.none (Data.func (FuncData.mk (ss "_law_text") (ss "_law_text") (fArgs (top 42)) (FuncBody.stmts (fBody (top 42))) (fScope (top 42)) 0 [] Value.none Value.none Value.none Value.none Option.none Value.none Value.none 0)) #[])
noncomputable def q3x418 (P : Params) : Obj := (Obj.mk Value.none Option.none (Data.fields #[]) #[])
noncomputable def q3x421 (P : Params) : Obj := (Obj.mk Value.none Option.none (Data.func (FuncData.mk (ss "_law_said") (ss "_law_said") (fArgs (top 43)) (FuncBody.stmts (fBody (top 43))) (fScope (top 43)) 0 [] Value.none Value.none Value.none Value.none Option.none Value.none Value.none 0)) #[])
noncomputable def q3x425 (P : Params) : Obj := (Obj.mk Value.none Option.none (Data.fields #[]) #[])
noncomputable def q3x428 (P : Params) : Obj := (Obj.mk Value.none Option.none (Data.func (FuncData.mk (ss "_law_ended") (ss "_law_ended") (fArgs (top 44)) (FuncBody.stmts (fBody (top 44))) (fScope (top 44)) 0 [] Value.none Value.none Value.none Value.none Option.none Value.none Value.none 0)) #[])
noncomputable def q3x432 (P : Params) : Obj := (Obj.mk Value.none Option.none (Data.fields #[]) #[])
noncomputable def q3x435 (P : Params) : Obj := (Obj.mk Value.none Option.none (Data.func (FuncData.mk (ss "_law_word") (ss "_law_word") (fArgs (top 45)) (FuncBody.stmts (fBody (top 45))) (fScope (top 45)) 0 [] Value.none Value.none Value.none Value.none Option.none Value.none Value.none 0)) #[])
noncomputable def q3x439 (P : Params) : Obj := (Obj.mk Value.none Option.none (Data.fields #[]) #[])
noncomputable def q3x442 (P : Params) : Obj := (Obj.mk Value.none Option.none (Data.func (FuncData.mk (ss "_law_line") (ss "_law_line") (fArgs (top 46)) (FuncBody.stmts (fBody (top 46))) (fScope (top 46)) 0 [] Value.none Value.none Value.none Value.none Option.none Value.none Value.none 0)) #[])
noncomputable def q3x446 (P : Params) : Obj := (Obj.mk Value.none Option.none (Data.fields #[]) #[])
noncomputable def q3x449 (P : Params) : Obj := (Obj.mk Value.none Option.none (Data.func (FuncData.mk (ss "_law_object") (ss "_law_object") (fArgs (top 47)) (FuncBody.stmts (fBody (top 47))) (fScope (top 47)) 0 [] Value.none Value.none Value.none Value.none Option.none Value.none Value.none 0)) #[])
noncomputable def q3x453 (P : Params) : Obj := (Obj.mk Value.none Option.none (Data.fields #[]) #[])
noncomputable def q3x454 (P : Params) : Obj := (Obj.mk Value.none Option.none (Data.func (FuncData.mk (ss "_law_deed") (ss "_law_deed") (fArgs (top 48)) (FuncBody.stmts (fBody (top 48))) (fScope (top 48)) 0 [] Value.none Value.none Value.none Value.none Option.none Value.none Value.none 0)) #[])
noncomputable def q3x458 (P : Params) : Obj := (Obj.mk Value.none Option.none (Data.fields #[]) #[])
noncomputable def q3x461 (P : Params) : Obj := (Obj.mk Value.none Option.none (Data.func (FuncData.mk (ss "law") (ss "law") (fArgs (top 49)) (FuncBody.stmts (fBody (top 49))) (fScope (top 49)) 0 [] Value.none Value.none Value.none Value.none Option.none Value.none Value.none 0)) #[])
noncomputable def tr4 (P : Params) : BT := (.node (boot_o_0 P) (.node (boot_o_1 P) (.node (kk P 3) (.node (boot_o_7 P) (.node (kk P 15) (.node (kk P 31) (.node (kk P 63) (.node (kk P 127) (.node (q2x255 P) .nil .nil) (.node (kk P 383) .nil .nil)) (.node (kk P 191) (.node (kk P 319) .nil .nil) (.node (kk P 447) .nil .nil))) (.node (kk P 95) (.node (kk P 159) (.node (q2x287 P) .nil .nil) (.node (kk P 415) .nil .nil)) (.node (q2x223 P) (.node (kk P 351) .nil .nil) .nil))) (.node (kk P 47) (.node (q0x79 P) (.node (kk P 143) (.node (kk P 271) .nil .nil) (.node (kk P 399) .nil .nil)) (.node (kk P 207) (.node (kk P 335) .nil .nil) (.node (kk P 463) .nil .nil))) (.node (kk P 111) (.node (q2x175 P) (.node (q2x303 P) .nil .nil) (.node (kk P 431) .nil .nil)) (.node (kk P 239) (.node (kk P 367) .nil .nil) .nil)))) (.node (q0x23 P) (.node (q0x39 P) (.node (q0x71 P) (.node (kk P 135) (.node (q2x263 P) .nil .nil) (.node (kk P 391) .nil .nil)) (.node (kk P 199) (.node (q3x327 P) .nil .nil) (.node (kk P 455) .nil .nil))) (.node (q1x103 P) (.node (q2x167 P) (.node (kk P 295) .nil .nil) (.node (kk P 423) .nil .nil)) (.node (kk P 231) (.node (kk P 359) .nil .nil) .nil))) (.node (q0x55 P) (.node (kk P 87) (.node (q1x151 P) (.node (kk P 279) .nil .nil) (.node (kk P 407) .nil .nil)) (.node (kk P 215) (.node (kk P 343) .nil .nil) .nil)) (.node (q1x119 P) (.node (kk P 183) (.node (kk P 311) .nil .nil) (.node (q3x439 P) .nil .nil)) (.node (kk P 247) (.node (q3x375 P) .nil .nil) .nil))))) (.node (q0x11 P) (.node (q0x19 P) (.node (kk P 35) (.node (kk P 67) (.node (kk P 131) (.node (kk P 259) .nil .nil) (.node (kk P 387) .nil .nil)) (.node (kk P 195) (.node (q3x323 P) .nil .nil) (.node (kk P 451) .nil .nil))) (.node (q1x99 P) (.node (kk P 163) (.node (q2x291 P) .nil .nil) (.node (kk P 419) .nil .nil)) (.node (q2x227 P) (.node (kk P 355) .nil .nil) .nil))) (.node (kk P 51) (.node (kk P 83) (.node (q1x147 P) (.node (kk P 275) .nil .nil) (.node (kk P 403) .nil .nil)) (.node (q2x211 P) (.node (kk P 339) .nil .nil) .nil)) (.node (kk P 115) (.node (kk P 179) (.node (q3x307 P) .nil .nil) (.node (q3x435 P) .nil .nil)) (.node (kk P 243) (.node (q3x371 P) .nil .nil) .nil)))) (.node (kk P 27) (.node (q0x43 P) (.node (q0x75 P) (.node (kk P 139) (.node (q2x267 P) .nil .nil) (.node (kk P 395) .nil .nil)) (.node (q2x203 P) (.node (q3x331 P) .nil .nil) (.node (kk P 459) .nil .nil))) (.node (kk P 107) (.node (q2x171 P) (.node (kk P 299) .nil .nil) (.node (kk P 427) .nil .nil)) (.node (kk P 235) (.node (kk P 363) .nil .nil) .nil))) (.node (q0x59 P) (.node (kk P 91) (.node (kk P 155) (.node (q2x283 P) .nil .nil) (.node (kk P 411) .nil .nil)) (.node (q2x219 P) (.node (q3x347 P) .nil .nil) .nil)) (.node (q1x123 P) (.node (q2x187 P) (.node (q3x315 P) .nil .nil) (.node (kk P 443) .nil .nil)) (.node (q2x251 P) (.node (kk P 379) .nil .nil) .nil)))))) (.node (boot_o_5 P) (.node (boot_o_9 P) (.node (q0x17 P) (.node (q0x33 P) (.node (q0x65 P) (.node (q1x129 P) (.node (kk P 257) .nil .nil) (.node (q3x385 P) .nil .nil)) (.node (kk P 193) (.node (kk P 321) .nil .nil) (.node (q3x449 P) .nil .nil))) (.node (q1x97 P) (.node (kk P 161) (.node (kk P 289) .nil .nil) (.node (kk P 417) .nil .nil)) (.node (kk P 225) (.node (kk P 353) .nil .nil) .nil))) (.node (kk P 49) (.node (q0x81 P) (.node (q1x145 P) (.node (kk P 273) .nil .nil) (.node (q3x401 P) .nil .nil)) (.node (kk P 209) (.node (kk P 337) .nil .nil) .nil)) (.node (kk P 113) (.node (kk P 177) (.node (q3x305 P) .nil .nil) (.node (kk P 433) .nil .nil)) (.node (q2x241 P) (.node (kk P 369) .nil .nil) .nil)))) (.node (kk P 25) (.node (q0x41 P) (.node (q0x73 P) (.node (kk P 137) (.node (q2x265 P) .nil .nil) (.node (kk P 393) .nil .nil)) (.node (q2x201 P) (.node (q3x329 P) .nil .nil) (.node (kk P 457) .nil .nil))) (.node (q1x105 P) (.node (q2x169 P) (.node (kk P 297) .nil .nil) (.node (q3x425 P) .nil .nil)) (.node (kk P 233) (.node (q3x361 P) .nil .nil) .nil))) (.node (q0x57 P) (.node (kk P 89) (.node (kk P 153) (.node (q2x281 P) .nil .nil) (.node (q3x409 P) .nil .nil)) (.node (kk P 217) (.node (q3x345 P) .nil .nil) .nil)) (.node (q1x121 P) (.node (kk P 185) (.node (kk P 313) .nil .nil) (.node (kk P 441) .nil .nil)) (.node (kk P 249) (.node (kk P 377) .nil .nil) .nil))))) (.node (q0x13 P) (.node (q0x21 P) (.node (q0x37 P) (.node (kk P 69) (.node (q1x133 P) (.node (q2x261 P) .nil .nil) (.node (q3x389 P) .nil .nil)) (.node (q2x197 P) (.node (q3x325 P) .nil .nil) (.node (q3x453 P) .nil .nil))) (.node (q1x101 P) (.node (q1x165 P) (.node (kk P 293) .nil .nil) (.node (q3x421 P) .nil .nil)) (.node (kk P 229) (.node (q3x357 P) .nil .nil) .nil))) (.node (q0x53 P) (.node (kk P 85) (.node (q1x149 P) (.node (kk P 277) .nil .nil) (.node (kk P 405) .nil .nil)) (.node (kk P 213) (.node (kk P 341) .nil .nil) .nil)) (.node (q1x117 P) (.node (kk P 181) (.node (q3x309 P) .nil .nil) (.node (kk P 437) .nil .nil)) (.node (kk P 245) (.node (kk P 373) .nil .nil) .nil)))) (.node (kk P 29) (.node (kk P 45) (.node (q0x77 P) (.node (kk P 141) (.node (q2x269 P) .nil .nil) (.node (q3x397 P) .nil .nil)) (.node (q2x205 P) (.node (q3x333 P) .nil .nil) (.node (q3x461 P) .nil .nil))) (.node (kk P 109) (.node (q2x173 P) (.node (kk P 301) .nil .nil) (.node (kk P 429) .nil .nil)) (.node (q2x237 P) (.node (kk P 365) .nil .nil) .nil))) (.node (kk P 61) (.node (q0x93 P) (.node (q1x157 P) (.node (q2x285 P) .nil .nil) (.node (q3x413 P) .nil .nil)) (.node (kk P 221) (.node (kk P 349) .nil .nil) .nil)) (.node (kk P 125) (.node (q2x189 P) (.node (kk P 317) .nil .nil) (.node (kk P 445) .nil .nil)) (.node (kk P 253) (.node (kk P 381) .nil .nil) .nil))))))) (.node (kk P 2) (.node (boot_o_4 P) (.node (boot_o_8 P) (.node (q0x16 P) (.node (kk P 32) (.node (kk P 64) (.node (kk P 128) (.node (kk P 256) .nil .nil) (.node (kk P 384) .nil .nil)) (.node (q2x192 P) (.node (kk P 320) .nil .nil) (.node (kk P 448) .nil .nil))) (.node (q0x96 P) (.node (kk P 160) (.node (q2x288 P) .nil .nil) (.node (kk P 416) .nil .nil)) (.node (kk P 224) (.node (kk P 352) .nil .nil) .nil))) (.node (kk P 48) (.node (kk P 80) (.node (q1x144 P) (.node (q2x272 P) .nil .nil) (.node (kk P 400) .nil .nil)) (.node (q2x208 P) (.node (q3x336 P) .nil .nil) .nil)) (.node (kk P 112) (.node (kk P 176) (.node (q3x304 P) .nil .nil) (.node (q3x432 P) .nil .nil)) (.node (kk P 240) (.node (q3x368 P) .nil .nil) .nil)))) (.node (kk P 24) (.node (q0x40 P) (.node (q0x72 P) (.node (q1x136 P) (.node (q2x264 P) .nil .nil) (.node (kk P 392) .nil .nil)) (.node (q2x200 P) (.node (q3x328 P) .nil .nil) (.node (kk P 456) .nil .nil))) (.node (kk P 104) (.node (q2x168 P) (.node (kk P 296) .nil .nil) (.node (kk P 424) .nil .nil)) (.node (kk P 232) (.node (kk P 360) .nil .nil) .nil))) (.node (q0x56 P) (.node (kk P 88) (.node (q1x152 P) (.node (q2x280 P) .nil .nil) (.node (q3x408 P) .nil .nil)) (.node (kk P 216) (.node (q3x344 P) .nil .nil) .nil)) (.node (q1x120 P) (.node (kk P 184) (.node (q3x312 P) .nil .nil) (.node (kk P 440) .nil .nil)) (.node (q2x248 P) (.node (kk P 376) .nil .nil) .nil))))) (.node (q3x12 P) (.node (q0x20 P) (.node (q0x36 P) (.node (kk P 68) (.node (kk P 132) (.node (kk P 260) .nil .nil) (.node (kk P 388) .nil .nil)) (.node (q2x196 P) (.node (q3x324 P) .nil .nil) (.node (kk P 452) .nil .nil))) (.node (q1x100 P) (.node (kk P 164) (.node (kk P 292) .nil .nil) (.node (kk P 420) .nil .nil)) (.node (kk P 228) (.node (kk P 356) .nil .nil) .nil))) (.node (q0x52 P) (.node (q0x84 P) (.node (q1x148 P) (.node (kk P 276) .nil .nil) (.node (q3x404 P) .nil .nil)) (.node (kk P 212) (.node (kk P 340) .nil .nil) .nil)) (.node (q1x116 P) (.node (kk P 180) (.node (q3x308 P) .nil .nil) (.node (kk P 436) .nil .nil)) (.node (q2x244 P) (.node (kk P 372) .nil .nil) .nil)))) (.node (kk P 28) (.node (kk P 44) (.node (q0x76 P) (.node (kk P 140) (.node (kk P 268) .nil .nil) (.node (kk P 396) .nil .nil)) (.node (q2x204 P) (.node (kk P 332) .nil .nil) (.node (kk P 460) .nil .nil))) (.node (q1x108 P) (.node (q2x172 P) (.node (kk P 300) .nil .nil) (.node (q3x428 P) .nil .nil)) (.node (kk P 236) (.node (q3x364 P) .nil .nil) .nil))) (.node (q0x60 P) (.node (q0x92 P) (.node (kk P 156) (.node (q2x284 P) .nil .nil) (.node (kk P 412) .nil .nil)) (.node (q2x220 P) (.node (kk P 348) .nil .nil) .nil)) (.node (q1x124 P) (.node (kk P 188) (.node (kk P 316) .nil .nil) (.node (kk P 444) .nil .nil)) (.node (kk P 252) (.node (kk P 380) .nil .nil) .nil)))))) (.node (boot_o_6 P) (.node (boot_o_10 P) (.node (q0x18 P) (.node (q0x34 P) (.node (kk P 66) (.node (kk P 130) (.node (q2x258 P) .nil .nil) (.node (kk P 386) .nil .nil)) (.node (kk P 194) (.node (kk P 322) .nil .nil) (.node (kk P 450) .nil .nil))) (.node (q1x98 P) (.node (kk P 162) (.node (kk P 290) .nil .nil) (.node (q3x418 P) .nil .nil)) (.node (kk P 226) (.node (q3x354 P) .nil .nil) .nil))) (.node (kk P 50) (.node (kk P 82) (.node (q1x146 P) (.node (kk P 274) .nil .nil) (.node (kk P 402) .nil .nil)) (.node (kk P 210) (.node (kk P 338) .nil .nil) .nil)) (.node (kk P 114) (.node (q2x178 P) (.node (q3x306 P) .nil .nil) (.node (kk P 434) .nil .nil)) (.node (kk P 242) (.node (kk P 370) .nil .nil) .nil)))) (.node (q0x26 P) (.node (kk P 42) (.node (q0x74 P) (.node (kk P 138) (.node (q2x266 P) .nil .nil) (.node (q3x394 P) .nil .nil)) (.node (q2x202 P) (.node (q3x330 P) .nil .nil) (.node (q3x458 P) .nil .nil))) (.node (kk P 106) (.node (q2x170 P) (.node (kk P 298) .nil .nil) (.node (kk P 426) .nil .nil)) (.node (q2x234 P) (.node (kk P 362) .nil .nil) .nil))) (.node (q0x58 P) (.node (kk P 90) (.node (q1x154 P) (.node (q2x282 P) .nil .nil) (.node (kk P 410) .nil .nil)) (.node (kk P 218) (.node (kk P 346) .nil .nil) .nil)) (.node (q1x122 P) (.node (q2x186 P) (.node (kk P 314) .nil .nil) (.node (q3x442 P) .nil .nil)) (.node (kk P 250) (.node (q3x378 P) .nil .nil) .nil))))) (.node (q0x14 P) (.node (kk P 22) (.node (q0x38 P) (.node (kk P 70) (.node (kk P 134) (.node (q2x262 P) .nil .nil) (.node (q3x390 P) .nil .nil)) (.node (kk P 198) (.node (q3x326 P) .nil .nil) (.node (q3x454 P) .nil .nil))) (.node (q1x102 P) (.node (q1x166 P) (.node (q2x294 P) .nil .nil) (.node (kk P 422) .nil .nil)) (.node (q2x230 P) (.node (kk P 358) .nil .nil) .nil))) (.node (kk P 54) (.node (kk P 86) (.node (q1x150 P) (.node (kk P 278) .nil .nil) (.node (kk P 406) .nil .nil)) (.node (kk P 214) (.node (kk P 342) .nil .nil) .nil)) (.node (q1x118 P) (.node (kk P 182) (.node (q3x310 P) .nil .nil) (.node (kk P 438) .nil .nil)) (.node (kk P 246) (.node (kk P 374) .nil .nil) .nil)))) (.node (kk P 30) (.node (q0x46 P) (.node (q0x78 P) (.node (kk P 142) (.node (kk P 270) .nil .nil) (.node (kk P 398) .nil .nil)) (.node (q2x206 P) (.node (kk P 334) .nil .nil) (.node (kk P 462) .nil .nil))) (.node (kk P 110) (.node (kk P 174) (.node (q2x302 P) .nil .nil) (.node (kk P 430) .nil .nil)) (.node (kk P 238) (.node (kk P 366) .nil .nil) .nil))) (.node (q0x62 P) (.node (kk P 94) (.node (kk P 158) (.node (q2x286 P) .nil .nil) (.node (q3x414 P) .nil .nil)) (.node (q2x222 P) (.node (q3x350 P) .nil .nil) .nil)) (.node (q1x126 P) (.node (kk P 190) (.node (kk P 318) .nil .nil) (.node (q3x446 P) .nil .nil)) (.node (kk P 254) (.node (q3x382 P) .nil .nil) .nil))))))))
noncomputable def S4 (P : Params) (os : OsState) : SharedT := { tree := tr4 P, n := 464, life := {}, gens := Array.mk [], drawn := {}, toks := 896, os }
abbrev p4 : Pos := ⟨273, 0, 282, 39⟩
noncomputable abbrev bd : List Stmt := behindTheImports pg
theorem runA : ∀ (w : World) (os : OsState), segRunT treeTable pg w 11 (some (Value.ref 6)) 1 1055 (S0 w.params os) (piecesOf (bd.take 7) env0 (.body bd env0) p0 [topFrame p0]) = some (Flow.next, S1 w.params os, .body bd env0, p1) := fun w os => by
  rw [Fast.te10110043849684766642, Fast.te14364793385576792824]
  kernel_rfl
theorem runB : ∀ (w : World) (os : OsState), segRunT treeTable pg w 11 (some (Value.ref 6)) 1 703 (S1 w.params os) (piecesOf ((bd.drop 7).take 3) env0 (.body bd env0) p1 [topFrame p0]) = some (Flow.next, S2 w.params os, .body bd env0, p2) := fun w os => by
  rw [Fast.te10110043849684766642, Fast.te14364793385576792824]
  kernel_rfl
theorem runC : ∀ (w : World) (os : OsState), segRunT treeTable pg w 11 (some (Value.ref 6)) 1 1224 (S2 w.params os) (piecesOf (((bd.drop 7).drop 3).take 15) env0 (.body bd env0) p2 [topFrame p0]) = some (Flow.next, S3 w.params os, .body bd env0, p3) := fun w os => by
  rw [Fast.te10110043849684766642, Fast.te14364793385576792824]
  kernel_rfl
theorem runD : ∀ (w : World) (os : OsState), segRunT treeTable pg w 11 (some (Value.ref 6)) 1 1058 (S3 w.params os) (piecesOf (((bd.drop 7).drop 3).drop 15) env0 (.body bd env0) p3 [topFrame p0]) = some (Flow.next, S4 w.params os, .body bd env0, p4) := fun w os => by
  rw [Fast.te10110043849684766642, Fast.te14364793385576792824]
  kernel_rfl
theorem run0 (w : World) (os : OsState) : topRun treeTable pg w 11 (some (Value.ref 6)) (1055 + (703 + (1224 + (1058 + (2 + 0))))) (S0 w.params os).abs (restOf bd env0 (.body bd env0) p0 [topFrame p0]) = some (S4 w.params os).abs := by
  have h4 := piece_app (l := ((bd.drop 7).drop 3).drop 15) (rest := []) (segRun_of (runD w os)) (piece_nil (fin_top 0))
  rw [List.append_nil] at h4
  have h3 := piece_app (segRun_of (runC w os)) h4
  rw [List.take_append_drop] at h3
  have h2 := piece_app (segRun_of (runB w os)) h3
  rw [List.take_append_drop] at h2
  have h1 := piece_app (segRun_of (runA w os)) h2
  rw [List.take_append_drop] at h1
  exact h1
theorem lookA : ∀ (w : World) (os : OsState), (fun s : Shared => staticsOk (importedModules pg.main.body) (boot_heap w.params) s.heap && namesBound pg s.heap && gensDone s && laidKept (boot_heap w.params) s.heap) (S4 w.params os).abs = true := fun w os => by kernel_rfl
theorem lookB : ∀ (w : World) (os : OsState), openSeen vw ls (importedModules pg.main.body) xt true (S4 w.params os).abs = openGood vw ls := fun w os => by
  rw [Fast.te4187177175401517315]
  kernel_rfl
theorem lookC : ∀ (w : World) (os : OsState), Hook.obs hk (S4 w.params os).abs = Hook.val hk w := fun w os => by kernel_rfl
theorem left0 : LeftO PySem.Challenge.rw_pp0007_01.row.toRowW.prog vw ls xt (Hook.obs hk) (Hook.val hk) 8198 := left_of open0 size0 pre0 block0 run0 lookA lookB lookC (by decide)
theorem said0 : OpenLaw.wellSaid PySem.Challenge.rw_pp0007_01 = true := by
  repeat' (first | (with_reducible refine look_both ?_ ?_) | unfold OpenLaw.wellSaid | unfold OpenRow.wellSaid | unfold OpenRow.partSaid | unfold looksOpen | decide +kernel)
end Mine
namespace Mine
theorem flat {M : Model} {A : Around} {t : Sem Flow} {Q : Flow → Shared → Prop} {E : Value → Shared → Prop} {h : Heap} {g : Array GenState} {d : Drawn} {k : Nat} {os : OsState} (x : ∀ tk : Nat, wpAny M A t Q E ⟨h, g, d, tk, os⟩) : wpAny M A t Q E ⟨h, g, d, k, os⟩ := x k
theorem rules_M1_1 : True := by
  k_with_none
  k_with "execs cons" => (k_here; (try dsimp only); (with_reducible refine flat ?_); intro ztk'; (with_reducible refine wpAny_execs_cons ?_); (try dsimp only))
  trivial
theorem fillit : (fun (_ : OpenLaw) (_ : Params → Frag) => True) PySem.Challenge.rw_pp0007_01 Mine.KK := by k_fill; trivial
noncomputable abbrev loo : List Str := looseW Mine.vw [Str.ofString "UNSET", Str.ofString "Limits"]
theorem rules_M1_2 : True := by
  k_with "my all" => (assumption)
  trivial

section
variable {w : World} {mean : ExcName → Option Value} {mg mb : Str → Option Value} {A₀ : Around} {base h₀ : Heap} {outer : List Env} {L : Addr} {m : Str → Option Value}
  {s : Shared} {dp un : Nat} {gd : Option (List Code)} {cn : Str} {cs : Scope} {a : Addr} {ccd : Value} {cl : List (Str × Addr)} {Q E : Value → Shared → Prop}

theorem cast_in {dice sc : Addr} {items : List Value} {ns : List Int} {k sides : Int} {n1 n2 : Nat} {t1 t2 : Tok} {rest : List (Addr × Obj)}
    (B : Below A₀ base outer h₀) (F : Fr h₀ L s.heap m) (X : (Mine.KK w.params).In h₀)
    (N : News h₀ L s.heap ((dice, listOf #[.ref sc, .int k t1] n1) :: (sc, listOf items.toArray n2) :: rest))
    (T : Top Mine.vw loo mean mg mb h₀) (hk : cs.kind = .function) (hi : IntsAre items ns) (hl : ns.length ≤ 63) (k0 : 0 ≤ k) (k1 : k < 100000) (hs : 0 < sides) (hs2 : sides < 1000)
    (dsc : @Ne Nat sc dice) (hrest : ∀ p ∈ rest, p.1 ≠ dice)
    (hd : dp + 1 < 500) (hu : un + 8 < 1000)
    (hQ : ∀ h' tk t3 t4 v, Fr h₀ L h' m → News h₀ L h' ((dice, listOf #[.ref sc, .int (k + 1) t3] n1) :: (sc, listOf items.toArray n2) :: rest) → 0 ≤ v → v < sides → Q (.int v t4) { s with heap := h', toks := tk }) :
    wpAny (model PySem.Challenge.pw_pp0007_01 w) (ktrTop dp un gd cn cs L a ccd cl outer) (call (.ref 406) [.ref dice, .int sides t2]) Q E s := by
  w_top off
  refine wpAny_call ?_
  k_dflt ktr_enter
  k_steps
  all_goals (refine hQ _ _ _ _ _ (by k_asm) (by k_asm) ?_ ?_)
  · rw [Int.fmod_eq_emod_of_nonneg _ (by omega)]; exact Int.emod_nonneg _ (by omega)
  · rw [Int.fmod_eq_emod_of_nonneg _ (by omega)]; exact Int.emod_lt_of_pos _ (by omega)
  · omega
  · omega

theorem News.sub {h₀ h : Heap} {L : Addr} {news news' : List (Addr × Obj)} (N : News h₀ L h news) (hs : ∀ p ∈ news', p ∈ news) : News h₀ L h news' := fun p hp => N p (hs p hp)

theorem cast_app {dice sc : Addr} {items : List Value} {ns : List Int} {k sides : Int} {n1 n2 : Nat} {t1 t2 : Tok} {news : List (Addr × Obj)} {news' : Tok → List (Addr × Obj)}
    (B : Below A₀ base outer h₀) (F : Fr h₀ L s.heap m) (X : (Mine.KK w.params).In h₀) (N : News h₀ L s.heap news)
    (T : Top Mine.vw loo mean mg mb h₀) (hk : cs.kind = .function) (hi : IntsAre items ns) (hl : ns.length ≤ 63)
    (hm : (sc, listOf items.toArray n2) ∈ news) (U : ∀ t, Upd dice (listOf #[.ref sc, .int k t1] n1) (listOf #[.ref sc, .int (k + 1) t] n1) news (news' t))
    (k0 : 0 ≤ k) (k1 : k < 100000) (hs : 0 < sides) (hs2 : sides < 1000) (hne : @Ne Nat sc dice)
    (hd : dp + 1 < 500) (hu : un + 8 < 1000)
    (hQ : ∀ h' tk t3 t4 v, Fr h₀ L h' m → News h₀ L h' (news' t3) → 0 ≤ v → v < sides → Q (.int v t4) { s with heap := h', toks := tk }) :
    wpAny (model PySem.Challenge.pw_pp0007_01 w) (ktrTop dp un gd cn cs L a ccd cl outer) (call (.ref 406) [.ref dice, .int sides t2]) Q E s := by
  obtain ⟨pre, post, e1, _, p1, p2⟩ := (U 0).split
  subst e1
  have hm' : (sc, listOf items.toArray n2) ∈ pre ++ post := by
    rcases List.mem_append.mp hm with h | h
    · exact List.mem_append_left _ h
    · rcases List.mem_cons.mp h with h | h
      · exact absurd (congrArg Prod.fst h) hne
      · exact List.mem_append_right _ h
  refine cast_in (rest := pre ++ post) (n1 := n1) (n2 := n2) (t1 := t1) B F X (News.sub N ?_) T hk hi hl k0 k1 hs hs2 hne ?_ hd hu ?_
  · intro p hp
    rcases List.mem_cons.mp hp with rfl | hp
    · simp
    · rcases List.mem_cons.mp hp with rfl | hp
      · exact hm
      · rcases List.mem_append.mp hp with h | h <;> simp [h]
  · intro p hp
    rcases List.mem_append.mp hp with h | h
    · exact p1 p h
    · exact p2 p h
  · intro h' tk t3 t4 v F' N' v0 v1
    obtain ⟨pre', post', e1, e2, q1, q2⟩ := (U t3).split
    refine hQ h' tk t3 t4 v F' (News.sub N' ?_) v0 v1
    rw [e2]
    have hpp : ∀ p, p ∈ pre' ∨ p ∈ post' → p ∈ pre ++ post := by
      intro p hp
      have hin : p ∈ pre ++ (dice, listOf #[.ref sc, .int k t1] n1) :: post := by
        rw [e1]; rcases hp with h | h <;> simp [h]
      have hnd : p.1 ≠ dice := by rcases hp with h | h; exact q1 p h; exact q2 p h
      rcases List.mem_append.mp hin with h | h
      · exact List.mem_append_left _ h
      · rcases List.mem_cons.mp h with h | h
        · exact absurd (congrArg Prod.fst h) hnd
        · exact List.mem_append_right _ h
    intro p hp
    rcases List.mem_append.mp hp with h | h
    · exact .tail _ (.tail _ (hpp p (.inl h)))
    · rcases List.mem_cons.mp h with rfl | h
      · exact .head _
      · exact .tail _ (.tail _ (hpp p (.inr h)))
end
end Mine
namespace Mine
theorem rules_M2_1 : True := by
  k_with_none
  k_with "eval Call" => (k_fold; walk1)
  k_with "eval Compare" => (k_fold; walk1)
  k_with "eval BinOp" => (k_fold; walk1)
  k_with "eval Subscript" => (k_fold; walk1)
  k_with "eval IfExp" => (k_fold; walk1)
  k_with "eval Tuple" => (k_fold; walk1)
  k_with "eval List" => (k_fold; walk1)
  k_with "eval BoolOp" => (k_fold; walk1)
  k_with "execs cons" => (k_here; (try dsimp only); (with_reducible refine flat ?_); intro ztk'; (with_reducible refine wpAny_execs_cons ?_); (try dsimp only); (try k_fold))
  trivial
noncomputable def Hold (P : Prop) : Prop := P
theorem hold {P : Prop} (h : Hold P) : P := h
theorem unhold {P : Prop} (h : P) : Hold P := h
theorem rules_M2_2 : True := by
  k_with "my all" => (assumption)
  k_with "my enter" => (refine' code_def ?k1 ?k2 ?k3 ?k4 ?k5 ?kA ?kF ?kK ?k6 ?k7 ?k8 ?k9 ?kB ?_ ?c2 ?c3 ?c4 ?c5; (case kA => exact rfl); (case kF => exact rfl); (case kK => assumption); (case k1 => k_asm); (case k2 => k_asm); (case k3 => k_asm); (case k4 => k_asm); (case k5 => k_asm); (case k6 => k_is); (case k7 => k_is); (case k8 => ktr_room); (case k9 => first | exact BindsTo.of_eq rfl | exact binds_K (by k_in) rfl (by k_is) rfl rfl rfl); (case c5 => decide); (case kB => exact locs rfl); (case c2 => exact rfl); (case c3 => exact rfl); (case c4 => exact rfl); k_whole; intro zg' zL' zh' zFG' zF' zN' zB' zX' zT'; (try dsimp only); (try k_fold))
  k_with "my enter" => (refine' code_defC ?k1 ?k2 ?k3 ?k4 ?k5 ?kA ?kF ?kK ?k6 ?k7 ?k8 ?k9 ?kB ?kD ?_ ?c2 ?c3 ?c4; (case kA => exact rfl); (case kF => exact rfl); (case kK => assumption); (case k1 => k_asm); (case k2 => k_asm); (case k3 => k_asm); (case k4 => k_asm); (case k5 => k_asm); (case k6 => k_is); (case k7 => k_is); (case k8 => ktr_room); (case k9 => exact BindsTo.of_eq rfl); (case kB => exact rfl); (case kD => decide +kernel); (case c2 => exact rfl); (case c3 => exact rfl); (case c4 => exact rfl); k_whole; intro zg' zL' zh' ztk' zcells' zFG' zF' zN' zY' zB' zX' zT' zl1; (try k_lt zl1); k_cells zY'; (try simp only [List.cons_append, List.nil_append] at zN'); (try dsimp only); (try k_fold))
  k_with "call ref" => (k_here; (with_reducible show wpAny _ _ (call (Value.ref 406) [Value.ref _, Value.int _ _]) _ _ _); k_dflt (refine' cast_app ?B ?F ?X ?N ?T ?hk ?hi ?hl ?hm ?U ?k0 ?k1 ?hs ?hs2 ?hne ?hd ?hu ?_; (case B => k_asm); (case F => k_asm); (case X => k_asm); (case N => k_asm); (case T => k_asm); (case hk => first | exact rfl | assumption); (case hi => assumption); (case hl => assumption); (case hm => k_mem); (case U => intro zt'; k_upd)); (case k0 => omega); (case k1 => omega); (case hs => omega); (case hs2 => omega); (case hne => k_ne); (case hd => ktr_room); (case hu => ktr_room); k_whole; intro zh' ztk' zt3' zt4' zv' zF' zN' zv0' zv1'; (try k_sweep); walk_say "CAST")
  k_with "CompSrc" => (refine hold ?_)
  k_with "CompEnd" => (refine hold ?_)
  trivial

section
variable {prog : Program} {w : World} {A : Around} {E : Value → Shared → Prop} {s : Shared} {h₀ : Heap} {L : Addr} {m : Str → Option Value} {env : Env}
/-- a comprehension over range(n), by what holds of the turns' number, of what is made so far and of the ledger -/
theorem src_range {elt : Expr} {x : Str} {scope : Scope} {cl : List (Str × Addr)} {Fin : Shared → List Value → List (Addr × Obj) → Prop} {r : Addr} {b : Int} {t u v : Tok} {news : List (Addr × Obj)} {s₁ : Shared}
    (n : Nat) (P : Nat → List Value → List (Addr × Obj) → Prop)
    (hh : A.handled = none) (F : Fr h₀ L s₁.heap m) (N : News h₀ L s₁.heap news) (hr : IsRange s₁.heap r 0 b 1 t u v) (hb : b = (n : Int)) (hn : n ≤ 100)
    (h0 : P 0 [] news)
    (step : ∀ (i : Nat) (ys : List Value) (nw : List (Addr × Obj)) (v : Value) (I : Addr) (oI : Obj) (C : Addr) (oC : Obj) (D : Addr) (m₂ : Str → Option Value) (h : Heap) (tk : Nat) (E' : Value → Shared → Prop) (s₂ : Shared), i < n → P i ys nw → (∃ t, v = .int (i : Int) t) → LCg.NsObj oC m₂ → m₂ x = some v → Fr h₀ L h m →
      News h₀ L h ((I, oI) :: (C, oC) :: (D, LCg.lst ys) :: nw) → LCg.Off3 I C D nw → ((@Ne Nat I C) ∧ (@Ne Nat I D) ∧ (@Ne Nat C D)) →
      wpAny (model prog w) A (eval elt (compEnvC scope cl C env)) (LCg.CompEnd h₀ L m { s₂ with heap := h, toks := tk } I oI C oC D (LCg.lst ys) (fun _ => True) (fun y nw' => P (i + 1) (ys ++ [y]) nw')) E' { s₂ with heap := h, toks := tk })
    (fin : ∀ ys nw s₂, (∃ h, s₂ = { s₁ with heap := h }) → P n ys nw → Fin s₂ ys nw) :
    LCg.CompSrc prog w A h₀ L m env elt x scope cl Fin (.ref r) s₁ := by
  subst hb
  have hsm : Builtin.Range.small 0 (n : Int) 1 = true := by
    have : ∀ k : Nat, k ≤ 100 → Builtin.Range.small 0 (k : Int) 1 = true := by decide +kernel
    exact this n hn
  have hsz : Builtin.Range.rangeSize 0 (n : Int) 1 = ((n : Nat) : Int) := by
    have : ∀ k : Nat, k ≤ 100 → Builtin.Range.rangeSize 0 (k : Int) 1 = ((k : Nat) : Int) := by decide +kernel
    exact this n hn
  refine LCg.CompSrc.range hh F N hr hsm hsz (by have : sizeLine = 16777216 := by decide +kernel
                                                 omega) fun g => ?_
  have all : ∀ (j i : Nat) (ys : List Value) (nw : List (Addr × Obj)), i + j = n → P i ys nw →
      LCg.CompRest prog w A h₀ L m env elt x scope cl { s₁ with heap := g } (fun _ => True) (fun i v => ∃ t, v = .int ((0 : Int) + (i : Int)) t) (Fin { s₁ with heap := g }) j i ys nw := by
    intro j
    induction j with
    | zero =>
      intro i ys nw e p
      obtain rfl : i = n := by omega
      exact fin ys nw _ ⟨g, rfl⟩ p
    | succ j ih =>
      intro i ys nw e p
      refine LCg.CompRest.succ fun v I oI C oC D m₂ h tk E' hv hC hx F' N' off ne => ?_
      refine wpAny_mono (step i ys nw v I oI C oC D m₂ h tk E' _ (by omega) p (by obtain ⟨t, e⟩ := hv; exact ⟨t, by rw [e, Int.zero_add]⟩) hC hx F' N' off ne) (fun y s₃ h₃ => ?_) fun _ _ e => e
      obtain ⟨h', tk', nw', e1, e2, e3, e4, e5, e6⟩ := h₃
      exact ⟨h', tk', nw', e1, e2, e3, e4, e5, ih (i + 1) (ys ++ [y]) nw' (by omega) e6⟩
  exact all n 0 [] news (by omega) h0
end

noncomputable def OkSign (y : Value) : Prop := ∃ v t, y = Value.int v t ∧ (v = -1 ∨ (32 ≤ v ∧ v ≤ 126))
noncomputable def TextP (hd : Addr × Obj) (dice sc : Addr) (items : List Value) (n1 n2 : Nat) (rest : List (Addr × Obj)) (k : Int) (i : Nat) (ys : List Value) (nw : List (Addr × Obj)) : Prop :=
  ∃ k' t', nw = hd :: (dice, listOf #[.ref sc, .int k' t'] n1) :: (sc, listOf items.toArray n2) :: rest ∧ k ≤ k' ∧ k' ≤ k + 2 * (i : Int) ∧ ys.length = i ∧ ∀ y ∈ ys, OkSign y
theorem okSigns_snoc {ys : List Value} {y : Value} (h : ∀ y ∈ ys, OkSign y) (hy : OkSign y) : ∀ z ∈ ys ++ [y], OkSign z := fun z hz => by
  rcases List.mem_append.mp hz with hz | hz
  · exact h z hz
  · rw [List.mem_singleton.mp hz]; exact hy

section
variable {prog : Program} {w : World} {A : Around} {h₀ : Heap} {L : Addr} {m : Str → Option Value} {env : Env}
theorem text_src {elt : Expr} {x : Str} {scope : Scope} {cl : List (Str × Addr)} {Fin : Shared → List Value → List (Addr × Obj) → Prop} {r : Addr} {b : Int} {t u v : Tok} {s₁ : Shared}
    {hd : Addr × Obj} {dice sc : Addr} {items : List Value} {n1 n2 : Nat} {rest : List (Addr × Obj)} {k : Int} {t0 : Tok}
    (hh : A.handled = none) (F : Fr h₀ L s₁.heap m) (N : News h₀ L s₁.heap (hd :: (dice, listOf #[.ref sc, .int k t0] n1) :: (sc, listOf items.toArray n2) :: rest)) (hr : IsRange s₁.heap r 0 b 1 t u v) (hb : 0 ≤ b) (hn : b ≤ 100)
    (step : ∀ (i : Nat) (ys : List Value) (nw : List (Addr × Obj)) (v : Value) (I : Addr) (oI : Obj) (C : Addr) (oC : Obj) (D : Addr) (m₂ : Str → Option Value) (h : Heap) (tk : Nat) (E' : Value → Shared → Prop) (s₂ : Shared), (i : Int) < b → TextP hd dice sc items n1 n2 rest k i ys nw → (∃ t, v = .int (i : Int) t) → LCg.NsObj oC m₂ → m₂ x = some v → Fr h₀ L h m →
      News h₀ L h ((I, oI) :: (C, oC) :: (D, LCg.lst ys) :: nw) → LCg.Off3 I C D nw → ((@Ne Nat I C) ∧ (@Ne Nat I D) ∧ (@Ne Nat C D)) →
      wpAny (model prog w) A (eval elt (compEnvC scope cl C env)) (LCg.CompEnd h₀ L m { s₂ with heap := h, toks := tk } I oI C oC D (LCg.lst ys) (fun _ => True) (fun y nw' => TextP hd dice sc items n1 n2 rest k (i + 1) (ys ++ [y]) nw')) E' { s₂ with heap := h, toks := tk })
    (fin : ∀ ys nw s₂, (∃ h, s₂ = { s₁ with heap := h }) → TextP hd dice sc items n1 n2 rest k b.toNat ys nw → Fin s₂ ys nw) :
    LCg.CompSrc prog w A h₀ L m env elt x scope cl Fin (.ref r) s₁ :=
  src_range b.toNat (TextP hd dice sc items n1 n2 rest k) hh F N hr (Int.toNat_of_nonneg hb).symm (by omega) ⟨k, t0, rfl, Int.le_refl _, by omega, rfl, fun _ h => nomatch h⟩
    (fun i ys nw v I oI C oC D m₂ h tk E' s₂ hi => step i ys nw v I oI C oC D m₂ h tk E' s₂ (by omega)) fin
end

section
variable {w : World} {mean : ExcName → Option Value} {mg mb : Str → Option Value} {A₀ : Around} {base h₀ : Heap} {outer : List Env} {L : Addr} {m : Str → Option Value}
  {s : Shared} {dp un : Nat} {gd : Option (List Code)} {cn : Str} {cs : Scope} {a : Addr} {ccd : Value} {cl : List (Str × Addr)} {Q E : Value → Shared → Prop}

theorem text_in {dice sc : Addr} {items : List Value} {ns : List Int} {k : Int} {n1 n2 : Nat} {t1 : Tok} {rest : List (Addr × Obj)}
    (B : Below A₀ base outer h₀) (F : Fr h₀ L s.heap m) (X : (Mine.KK w.params).In h₀)
    (N : News h₀ L s.heap ((dice, listOf #[.ref sc, .int k t1] n1) :: (sc, listOf items.toArray n2) :: rest))
    (T : Top Mine.vw loo mean mg mb h₀) (hk : cs.kind = .function) (hi : IntsAre items ns) (hl : ns.length ≤ 63) (k0 : 0 ≤ k) (k1 : k < 90000)
    (dsc : @LT.lt Nat _ sc dice) (hrest : ∀ p ∈ rest, p.1 ≠ dice)
    (hd : dp + 2 < 500) (hu : un + 16 < 1000)
    (hQ : ∀ h' tk t3 k' l (ys : List Value), Fr h₀ L h' m → News h₀ L h' ((l, listOf ys.toArray ys.length) :: (dice, listOf #[.ref sc, .int k' t3] n1) :: (sc, listOf items.toArray n2) :: rest) →
      LCg.Off1 l ((dice, listOf #[.ref sc, .int k' t3] n1) :: (sc, listOf items.toArray n2) :: rest) → k ≤ k' → k' ≤ k + 12 → ys.length ≤ 5 → (∀ y ∈ ys, OkSign y) → Q (.ref l) { s with heap := h', toks := tk }) :
    wpAny (model PySem.Challenge.pw_pp0007_01 w) (ktrTop dp un gd cn cs L a ccd cl outer) (call (.ref 416) [.ref dice]) Q E s := by
  w_top off
  refine wpAny_call ?_
  k_dflt k_enter
  k_steps
  refine unhold ?_
  rename IsRange _ _ _ _ _ _ _ _ => hR
  rename (0 : Int) ≤ _ => hv0
  rename News _ _ _ _ => hN
  rename Fr _ _ _ _ => hF
  refine text_src (k := k + 1) rfl hF hN hR hv0 (by omega) ?step ?fin
  case step =>
    intro i' ys' nw' v' I' oI' C' oC' D' m2' h' tk' E' s2' hi' hP' hv' hC' hx' F' N' off' ne'
    obtain ⟨k', t', e', hk1', hk2', hys', hok'⟩ := hP'
    subst e'
    obtain ⟨tv', hv'⟩ := hv'
    subst hv'
    have off2' := off'
    simp only [LCg.Off3, and_true] at off2'
    (try k_fold)
    k_steps
    · exact unhold (LCg.CompEnd.intro (by assumption) (by assumption) _ (fun p hp => hp) (by exact off') True.intro ⟨_, _, rfl, by omega, by omega, by simp [hys'], okSigns_snoc hok' ⟨_, _, rfl, .inl rfl⟩⟩)
    · exact unhold (LCg.CompEnd.intro (by assumption) (by assumption) _ (fun p hp => hp) (by exact off') True.intro ⟨_, _, rfl, by omega, by omega, by simp [hys'], okSigns_snoc hok' ⟨_, _, rfl, .inr (by omega)⟩⟩)
  case fin =>
    intro ys' nw' s2' hs' hP'
    obtain ⟨k', t', e', hk1', hk2', hys', hok'⟩ := hP'
    subst e'
    obtain ⟨g2', hs'⟩ := hs'
    subst hs'
    (try dsimp only)
    k_steps
    rename _ ∧ _ => ho
    rename Fr h₀ L _ _ => kF
    rename News h₀ L _ _ => kN
    exact hQ _ _ _ _ _ _ kF (News.sub kN (fun p hp => by rcases List.mem_cons.mp hp with rfl | hp; exact .head _; exact .tail _ (.tail _ hp))) ho.2 (by omega) (by omega) (by omega) hok'
end
end Mine
namespace Mine
theorem rules_M3_1 : True := by
  k_with_none
  k_with "execs cons" => (k_here; (try dsimp only); (with_reducible refine flat ?_); intro ztk'; (with_reducible refine wpAny_execs_cons ?_); (try dsimp only))
  trivial
theorem rules_M3_2 : True := by
  k_with "my all" => (assumption)
  k_with "my enter" => (refine' code_def ?k1 ?k2 ?k3 ?k4 ?k5 ?kA ?kF ?kK ?k6 ?k7 ?k8 ?k9 ?kB ?_ ?c2 ?c3 ?c4 ?c5; (case kA => exact rfl); (case kF => exact rfl); (case kK => assumption); (case k1 => k_asm); (case k2 => k_asm); (case k3 => k_asm); (case k4 => k_asm); (case k5 => k_asm); (case k6 => k_is); (case k7 => k_is); (case k8 => ktr_room); (case k9 => first | exact BindsTo.of_eq rfl | exact binds_K (by k_in) rfl (by k_is) rfl rfl rfl); (case c5 => decide); (case kB => exact locs rfl); (case c2 => exact rfl); (case c3 => exact rfl); (case c4 => exact rfl); k_whole; intro zg' zL' zh' zFG' zF' zN' zB' zX' zT'; (try dsimp only); (try k_fold))
  k_with "my enter" => (refine' code_defC ?k1 ?k2 ?k3 ?k4 ?k5 ?kA ?kF ?kK ?k6 ?k7 ?k8 ?k9 ?kB ?kD ?_ ?c2 ?c3 ?c4; (case kA => exact rfl); (case kF => exact rfl); (case kK => assumption); (case k1 => k_asm); (case k2 => k_asm); (case k3 => k_asm); (case k4 => k_asm); (case k5 => k_asm); (case k6 => k_is); (case k7 => k_is); (case k8 => ktr_room); (case k9 => exact BindsTo.of_eq rfl); (case kB => exact rfl); (case kD => decide +kernel); (case c2 => exact rfl); (case c3 => exact rfl); (case c4 => exact rfl); k_whole; intro zg' zL' zh' ztk' zcells' zFG' zF' zN' zY' zB' zX' zT' zl1; (try k_lt zl1); k_cells zY'; (try simp only [List.cons_append, List.nil_append] at zN'); (try dsimp only); (try k_fold))
  k_with "call ref" => (k_here; (with_reducible show wpAny _ _ (call (Value.ref 406) [Value.ref _, Value.int _ _]) _ _ _); k_dflt (refine' cast_app ?B ?F ?X ?N ?T ?hk ?hi ?hl ?hm ?U ?k0 ?k1 ?hs ?hs2 ?hne ?hd ?hu ?_; (case B => k_asm); (case F => k_asm); (case X => k_asm); (case N => k_asm); (case T => k_asm); (case hk => first | exact rfl | assumption); (case hi => assumption); (case hl => assumption); (case hm => k_mem); (case U => intro zt'; k_upd)); (case k0 => omega); (case k1 => omega); (case hs => omega); (case hs2 => omega); (case hne => k_ne); (case hd => ktr_room); (case hu => ktr_room); k_whole; intro zh' ztk' zt3' zt4' zv' zF' zN' zv0' zv1'; (try k_sweep); walk_say "CAST")
  k_with "CompSrc" => (refine hold ?_)
  k_with "CompEnd" => (refine hold ?_)
  trivial


abbrev tupO (vs : List Value) : Obj := { cls := .type "tuple", data := .seq vs.toArray }
noncomputable def Apart (as bs : List (Addr × Obj)) : Prop := ∀ p ∈ as, ∀ q ∈ bs, @Ne Nat p.1 q.1
theorem Apart.nil {bs : List (Addr × Obj)} : Apart [] bs := fun _ h => nomatch h
theorem Apart.keys {as bs bs' : List (Addr × Obj)} (h : Apart as bs) (e : bs'.map (·.1) = bs.map (·.1)) : Apart as bs' := fun p hp q hq => by
  have : q.1 ∈ bs'.map (·.1) := List.mem_map_of_mem hq
  rw [e] at this
  obtain ⟨q', hq', e'⟩ := List.mem_map.mp this
  rw [← e']
  exact h p hp q' hq'
theorem Apart.append {as as' bs : List (Addr × Obj)} (h : Apart as bs) (h' : Apart as' bs) : Apart (as ++ as') bs := fun p hp => (List.mem_append.mp hp).elim (h p) (h' p)
theorem Apart.sub {as as' bs bs' : List (Addr × Obj)} (h : Apart as bs) (s1 : ∀ p ∈ as', p ∈ as) (s2 : ∀ p ∈ bs', p ∈ bs) : Apart as' bs' := fun p hp q hq => h p (s1 p hp) q (s2 q hq)
theorem Apart.cons {p : Addr × Obj} {as bs : List (Addr × Obj)} (h1 : ∀ q ∈ bs, @Ne Nat p.1 q.1) (h : Apart as bs) : Apart (p :: as) bs := fun q hq => by
  rcases List.mem_cons.mp hq with rfl | hq
  · exact h1
  · exact h q hq
theorem ne_of_allLt {d : Addr} {l : List (Addr × Obj)} (h : AllLt d l) : ∀ q ∈ l, @Ne Nat d q.1 := by
  induction l with
  | nil => intro q hq; cases hq
  | cons p r ih =>
    intro q hq
    rcases List.mem_cons.mp hq with rfl | hq
    · exact Nat.ne_of_gt h.1
    · exact ih h.2 q hq

/-- a list of refs to pairs (a value, an int) -/
noncomputable def Parts (Rel : Value → Int → Prop) (tl : List (Addr × Obj)) : List Value → List (Value × Int) → Prop
  | [], [] => True
  | y :: ys, p :: ps => (∃ r t, y = .ref r ∧ (r, tupO [p.1, .int p.2 t]) ∈ tl ∧ Rel p.1 p.2) ∧ Parts Rel tl ys ps
  | _, _ => False
noncomputable def most1 (n : Int) : Int := if 0 < n then n else 1
noncomputable def scal : Value → Bool | .int _ _ => true | _ => false
noncomputable def sumAll (ps : List (Value × Int)) : Int := (ps.map (·.2)).sum
noncomputable def sumObj (ps : List (Value × Int)) : Int := (ps.map fun p => if scal p.1 then 0 else p.2).sum
/-- what a made thing is, d levels deep: its value, its weight, its objects among tl -/
noncomputable def ThAt (w : World) : Nat → List (Addr × Obj) → Value → Int → Prop
  | 0, _, v, wt => ∃ i t, v = .int i t ∧ wt = 1
  | d + 1, tl, v, wt => (∃ i t, v = .int i t ∧ wt = 1) ∨
    (∃ x dx b l tk1 tk2 n, ∃ ps : List (Value × Int), v = .ref x ∧ (x, instObj 162 dx) ∈ tl ∧
      (dx, dictOf [⟨PyData.keyHash w.params (Str.ofString "bounds"), .str (Str.ofString "bounds") tk1, .ref b⟩, ⟨PyData.keyHash w.params (Str.ofString "items"), .str (Str.ofString "items") tk2, .ref l⟩] 2) ∈ tl ∧
      (l, listOf (ps.map (·.1)).toArray n) ∈ tl ∧ ps.length ≤ 3 ∧ (∀ p ∈ ps, ThAt w d tl p.1 p.2) ∧ wt = most1 (sumAll ps)) ∨
    (∃ x dx fd tk1 tk2 o, ∃ kvs : List (Str × Value), ∃ ps : List (Value × Int), v = .ref x ∧ (x, instObj 183 dx) ∈ tl ∧
      (dx, dictOf [⟨PyData.keyHash w.params (Str.ofString "type"), .str (Str.ofString "type") tk1, .none⟩, ⟨PyData.keyHash w.params (Str.ofString "fields"), .str (Str.ofString "fields") tk2, .ref fd⟩] 2) ∈ tl ∧
      ((fd, o) ∈ tl ∧ (fd == sysModules) = false ∧ o.IsDictOf (PySem.strKind PySem.Challenge.pw_pp0007_01 w) kvs ∧ kvs.map (·.2) = ps.map (·.1)) ∧ ps.length ≤ 3 ∧ (∀ p ∈ ps, ThAt w d tl p.1 p.2) ∧ wt = most1 (sumObj ps))
theorem ThAt.mono {w : World} {tl tl' : List (Addr × Obj)} (hs : ∀ p ∈ tl, p ∈ tl') : ∀ {d : Nat} {v : Value} {wt : Int}, ThAt w d tl v wt → ThAt w d tl' v wt
  | 0, _, _, h => h
  | d + 1, _, _, h => by
    rcases h with h | ⟨x, dx, b, l, tk1, tk2, n, ps, h1, h2, h3, h4, h5, h6, h7⟩ | ⟨x, dx, fd, tk1, tk2, n, es, ps, h1, h2, h3, h4, h5, h6, h7⟩
    · exact .inl h
    · exact .inr (.inl ⟨x, dx, b, l, tk1, tk2, n, ps, h1, hs _ h2, hs _ h3, hs _ h4, h5, fun p hp => ThAt.mono hs (h6 p hp), h7⟩)
    · exact .inr (.inr ⟨x, dx, fd, tk1, tk2, n, es, ps, h1, hs _ h2, hs _ h3, ⟨hs _ h4.1, h4.2⟩, h5, fun p hp => ThAt.mono hs (h6 p hp), h7⟩)
theorem ThAt.up {w : World} {tl : List (Addr × Obj)} : ∀ {d : Nat} {v : Value} {wt : Int}, ThAt w d tl v wt → ThAt w (d + 1) tl v wt
  | 0, _, _, h => .inl h
  | d + 1, _, _, h => by
    rcases h with h | ⟨x, dx, b, l, tk1, tk2, n, ps, h1, h2, h3, h4, h5, h6, h7⟩ | ⟨x, dx, fd, tk1, tk2, n, es, ps, h1, h2, h3, h4, h5, h6, h7⟩
    · exact .inl h
    · exact .inr (.inl ⟨x, dx, b, l, tk1, tk2, n, ps, h1, h2, h3, h4, h5, fun p hp => ThAt.up (h6 p hp), h7⟩)
    · exact .inr (.inr ⟨x, dx, fd, tk1, tk2, n, es, ps, h1, h2, h3, h4, h5, fun p hp => ThAt.up (h6 p hp), h7⟩)
noncomputable def thW : Nat → Int | 0 => 1 | d + 1 => 3 * thW d
theorem thW_pos : ∀ d, 1 ≤ thW d | 0 => by decide | d + 1 => by have := thW_pos d; simp only [thW]; omega
theorem sum_le {c : Int} (hc : 0 ≤ c) : ∀ {l : List Int}, (∀ x ∈ l, 0 ≤ x ∧ x ≤ c) → 0 ≤ l.sum ∧ l.sum ≤ c * l.length
  | [], _ => by simp
  | x :: l, h => by
    have h1 := h x (.head _)
    have h2 := sum_le hc (fun y hy => h y (.tail _ hy))
    simp only [List.sum_cons, List.length_cons]
    have : c * ((l.length + 1 : Nat) : Int) = c * l.length + c := by rw [Int.natCast_add, Int.mul_add]; simp
    omega
theorem most1_le {s c : Int} (h0 : 0 ≤ s) (h1 : s ≤ c) (hc : 1 ≤ c) : 1 ≤ most1 s ∧ most1 s ≤ c := by unfold most1; split <;> omega
theorem ThAt.bound {w : World} {tl : List (Addr × Obj)} : ∀ {d : Nat} {v : Value} {wt : Int}, ThAt w d tl v wt → 1 ≤ wt ∧ wt ≤ thW d
  | 0, _, _, h => by obtain ⟨_, _, _, rfl⟩ := h; decide
  | d + 1, _, _, h => by
    have hp := thW_pos d
    have key : ∀ (ps : List (Value × Int)) (f : Value × Int → Int), ps.length ≤ 3 → (∀ p ∈ ps, 0 ≤ f p ∧ f p ≤ thW d) → 1 ≤ most1 ((ps.map f).sum) ∧ most1 ((ps.map f).sum) ≤ thW (d + 1) := by
      intro ps f hl hf
      have := sum_le (c := thW d) (by omega) (l := ps.map f) (fun x hx => by obtain ⟨p, hp, rfl⟩ := List.mem_map.mp hx; exact hf p hp)
      rw [List.length_map] at this
      have h3 : thW d * (ps.length : Int) ≤ thW d * 3 := Int.mul_le_mul_of_nonneg_left (by omega) (by omega)
      simp only [thW]
      exact most1_le this.1 (by omega) (by omega)
    rcases h with ⟨_, _, _, rfl⟩ | ⟨x, dx, b, l, tk1, tk2, n, ps, h1, h2, h3, h4, h5, h6, rfl⟩ | ⟨x, dx, fd, tk1, tk2, n, es, ps, h1, h2, h3, h4, h5, h6, rfl⟩
    · simp only [thW]; omega
    · exact key ps (·.2) h5 fun p hp => by have := ThAt.bound (h6 p hp); omega
    · exact key ps (fun p => if scal p.1 then 0 else p.2) h5 fun p hp => by have := ThAt.bound (h6 p hp); split <;> omega
noncomputable def thC : Nat → Int | 0 => 1 | d + 1 => 2 + 3 * thC d
theorem thC_pos : ∀ d, 1 ≤ thC d | 0 => by decide | d + 1 => by have := thC_pos d; simp only [thC]; omega

/-- what a call of _law_thing gives, d levels deep -/
noncomputable def ThingSpec (w : World) (mean : ExcName → Option Value) (mg mb : Str → Option Value) (d : Nat) : Prop :=
  ∀ (A₀ : Around) (base h₀ : Heap) (outer : List Env) (L : Addr) (m : Str → Option Value) (s : Shared) (dp un : Nat) (gd : Option (List Code)) (cn : Str) (cs : Scope) (a : Addr) (ccd : Value) (cl : List (Str × Addr)) (Q E : Value → Shared → Prop)
    (dice sc : Addr) (items : List Value) (ns : List Int) (k z : Int) (n1 n2 : Nat) (t1 t2 : Tok) (rest : List (Addr × Obj)),
    Below A₀ base outer h₀ → Fr h₀ L s.heap m → (Mine.KK w.params).In h₀ →
    News h₀ L s.heap ((dice, listOf #[.ref sc, .int k t1] n1) :: (sc, listOf items.toArray n2) :: rest) →
    Top Mine.vw loo mean mg mb h₀ → cs.kind = .function → IntsAre items ns → ns.length ≤ 63 → 0 ≤ k → k + thC d < 90000 → z = (d : Int) →
    @Ne Nat sc dice → (∀ p ∈ rest, p.1 ≠ dice) → dp + 2 * (d + 1) < 500 → un + 16 * (d + 1) < 1000 →
    (∀ h' tk t3 k' r v wt t tl, Fr h₀ L h' m → News h₀ L h' (tl ++ (dice, listOf #[.ref sc, .int k' t3] n1) :: (sc, listOf items.toArray n2) :: rest) → k ≤ k' → k' ≤ k + thC d →
      (r, tupO [v, .int wt t]) ∈ tl → ThAt w d tl v wt → Apart tl ((dice, listOf #[.ref sc, .int k' t3] n1) :: (sc, listOf items.toArray n2) :: rest) → Q (.ref r) { s with heap := h', toks := tk }) →
    wpAny (model PySem.Challenge.pw_pp0007_01 w) (ktrTop dp un gd cn cs L a ccd cl outer) (call (.ref 411) [.ref dice, .int z t2]) Q E s

theorem News.drop2 {h₀ h : Heap} {L : Addr} {a b c : Addr × Obj} {r : List (Addr × Obj)} (N : News h₀ L h (a :: b :: c :: r)) : News h₀ L h ([a] ++ r) :=
  News.sub N fun p hp => by
    rcases List.mem_cons.mp hp with rfl | hp
    · exact .head _
    · exact .tail _ (.tail _ (.tail _ hp))

section
variable {w : World} {mean : ExcName → Option Value} {mg mb : Str → Option Value} {A₀ : Around} {base h₀ : Heap} {outer : List Env} {L : Addr} {m : Str → Option Value}
  {s : Shared} {dp un : Nat} {gd : Option (List Code)} {cn : Str} {cs : Scope} {a : Addr} {ccd : Value} {cl : List (Str × Addr)} {Q E : Value → Shared → Prop}
theorem ThingSpec.use {d : Nat} {dice sc : Addr} {items : List Value} {ns : List Int} {k z : Int} {n1 n2 : Nat} {t1 t2 : Tok} {rest : List (Addr × Obj)} (C : ThingSpec w mean mg mb d)
    (B : Below A₀ base outer h₀) (F : Fr h₀ L s.heap m) (X : (Mine.KK w.params).In h₀)
    (N : News h₀ L s.heap ((dice, listOf #[.ref sc, .int k t1] n1) :: (sc, listOf items.toArray n2) :: rest))
    (T : Top Mine.vw loo mean mg mb h₀) (hk : cs.kind = .function) (hi : IntsAre items ns) (hl : ns.length ≤ 63) (k0 : 0 ≤ k) (k1 : k + thC d < 90000) (hz : z = (d : Int))
    (dsc : @Ne Nat sc dice) (hr : ∀ p ∈ rest, p.1 ≠ dice) (hd : dp + 2 * (d + 1) < 500) (hu : un + 16 * (d + 1) < 1000)
    (hQ : ∀ h' tk t3 k' r v wt t tl, Fr h₀ L h' m → News h₀ L h' (tl ++ (dice, listOf #[.ref sc, .int k' t3] n1) :: (sc, listOf items.toArray n2) :: rest) → k ≤ k' → k' ≤ k + thC d →
      (r, tupO [v, .int wt t]) ∈ tl → ThAt w d tl v wt → Apart tl ((dice, listOf #[.ref sc, .int k' t3] n1) :: (sc, listOf items.toArray n2) :: rest) → Q (.ref r) { s with heap := h', toks := tk }) :
    wpAny (model PySem.Challenge.pw_pp0007_01 w) (ktrTop dp un gd cn cs L a ccd cl outer) (call (.ref 411) [.ref dice, .int z t2]) Q E s :=
  C _ _ _ _ _ _ _ _ _ _ _ _ _ _ _ _ _ _ _ _ _ _ _ _ _ _ _ _ B F X N T hk hi hl k0 k1 hz dsc hr hd hu hQ
end

theorem thing0 (w : World) (mean : ExcName → Option Value) (mg mb : Str → Option Value) : ThingSpec w mean mg mb 0 := by
  w_top off
  intro A₀ base h₀ outer L m s dp un gd cn cs a ccd cl Q E dice sc items ns k z n1 n2 t1 t2 rest B F X N T hk hi hl k0 k1 hz dsc hrest hd hu hQ
  subst hz
  simp only [thC] at k1 hQ
  refine wpAny_call ?_
  k_dflt k_enter
  k_steps
  rename (_ < _ ∧ _) => lo
  rename Fr h₀ L _ _ => kF
  rename News h₀ L _ _ => kN
  exact hQ _ _ _ _ _ _ _ _ [_] kF (News.drop2 kN) (by omega) (by omega) (.head _) ⟨_, _, rfl, rfl⟩ (Apart.cons (ne_of_allLt lo.2.2) Apart.nil)
end Mine
namespace Mine
theorem rules_M4_1 : True := by
  k_with_none
  k_with "execs cons" => (k_here; (try dsimp only); (with_reducible refine flat ?_); intro ztk'; (with_reducible refine wpAny_execs_cons ?_); (try dsimp only))
  trivial
theorem rules_M4_2 : True := by
  k_with "my all" => (assumption)
  k_with "my enter" => (refine' code_def ?k1 ?k2 ?k3 ?k4 ?k5 ?kA ?kF ?kK ?k6 ?k7 ?k8 ?k9 ?kB ?_ ?c2 ?c3 ?c4 ?c5; (case kA => exact rfl); (case kF => exact rfl); (case kK => assumption); (case k1 => k_asm); (case k2 => k_asm); (case k3 => k_asm); (case k4 => k_asm); (case k5 => k_asm); (case k6 => k_is); (case k7 => k_is); (case k8 => ktr_room); (case k9 => first | exact BindsTo.of_eq rfl | exact binds_K (by k_in) rfl (by k_is) rfl rfl rfl); (case c5 => decide); (case kB => exact locs rfl); (case c2 => exact rfl); (case c3 => exact rfl); (case c4 => exact rfl); k_whole; intro zg' zL' zh' zFG' zF' zN' zB' zX' zT'; (try dsimp only); (try k_fold))
  k_with "my enter" => (refine' code_defC ?k1 ?k2 ?k3 ?k4 ?k5 ?kA ?kF ?kK ?k6 ?k7 ?k8 ?k9 ?kB ?kD ?_ ?c2 ?c3 ?c4; (case kA => exact rfl); (case kF => exact rfl); (case kK => assumption); (case k1 => k_asm); (case k2 => k_asm); (case k3 => k_asm); (case k4 => k_asm); (case k5 => k_asm); (case k6 => k_is); (case k7 => k_is); (case k8 => ktr_room); (case k9 => exact BindsTo.of_eq rfl); (case kB => exact rfl); (case kD => decide +kernel); (case c2 => exact rfl); (case c3 => exact rfl); (case c4 => exact rfl); k_whole; intro zg' zL' zh' ztk' zcells' zFG' zF' zN' zY' zB' zX' zT' zl1; (try k_lt zl1); k_cells zY'; (try simp only [List.cons_append, List.nil_append] at zN'); (try dsimp only); (try k_fold))
  k_with "call ref" => (k_here; (with_reducible show wpAny _ _ (call (Value.ref 406) [Value.ref _, Value.int _ _]) _ _ _); k_dflt (refine' cast_app ?B ?F ?X ?N ?T ?hk ?hi ?hl ?hm ?U ?k0 ?k1 ?hs ?hs2 ?hne ?hd ?hu ?_; (case B => k_asm); (case F => k_asm); (case X => k_asm); (case N => k_asm); (case T => k_asm); (case hk => first | exact rfl | assumption); (case hi => assumption); (case hl => assumption); (case hm => k_mem); (case U => intro zt'; k_upd)); (case k0 => omega); (case k1 => omega); (case hs => omega); (case hs2 => omega); (case hne => k_ne); (case hd => ktr_room); (case hu => ktr_room); k_whole; intro zh' ztk' zt3' zt4' zv' zF' zN' zv0' zv1'; (try k_sweep); walk_say "CAST")
  k_with "CompSrc" => (refine hold ?_)
  k_with "CompEnd" => (refine hold ?_)
  trivial

noncomputable def ThingP (P : World) (d : Nat) (c1 c2 : Addr × Obj) (dice sc : Addr) (items : List Value) (n1 n2 : Nat) (rest : List (Addr × Obj)) (k : Int) (i : Nat) (ys : List Value) (nw : List (Addr × Obj)) : Prop :=
  ∃ k' t' tl ps, nw = tl ++ c1 :: c2 :: (dice, listOf #[.ref sc, .int k' t'] n1) :: (sc, listOf items.toArray n2) :: rest ∧ k ≤ k' ∧ k' ≤ k + thC d * (i : Int) ∧ ys.length = i ∧ Parts (ThAt P d tl) tl ys ps ∧
    Apart tl (c1 :: c2 :: (dice, listOf #[.ref sc, .int k' t'] n1) :: (sc, listOf items.toArray n2) :: rest)
theorem Parts.mono {R R' : Value → Int → Prop} {tl tl' : List (Addr × Obj)} (hs : ∀ p ∈ tl, p ∈ tl') (hR : ∀ v n, R v n → R' v n) {ys : List Value} : ∀ {ps : List (Value × Int)}, Parts R tl ys ps → Parts R' tl' ys ps := by
  induction ys with
  | nil => intro ps h; cases ps with
    | nil => trivial
    | cons p ps => exact h.elim
  | cons y ys ih => intro ps h; cases ps with
    | nil => exact h.elim
    | cons p ps =>
      obtain ⟨⟨r, t, e, h1, h2⟩, h3⟩ := h
      exact ⟨⟨r, t, e, hs _ h1, hR _ _ h2⟩, ih h3⟩
theorem Parts.snoc {R : Value → Int → Prop} {tl : List (Addr × Obj)} {y : Value} {p : Value × Int} {r : Addr} {t : Tok} (e : y = .ref r) (h : (r, tupO [p.1, .int p.2 t]) ∈ tl) (hR : R p.1 p.2) {ys : List Value} : ∀ {ps : List (Value × Int)}, Parts R tl ys ps → Parts R tl (ys ++ [y]) (ps ++ [p]) := by
  induction ys with
  | nil => intro ps h'; cases ps with
    | nil => exact ⟨⟨r, t, e, h, hR⟩, trivial⟩
    | cons p ps => exact h'.elim
  | cons y ys ih => intro ps h'; cases ps with
    | nil => exact h'.elim
    | cons p ps => exact ⟨h'.1, ih h'.2⟩

theorem News.regroup {h₀ h : Heap} {L : Addr} {a b c d e f g : Addr × Obj} {tl r : List (Addr × Obj)} (N : News h₀ L h (a :: b :: c :: (tl ++ d :: e :: f :: g :: r))) : News h₀ L h (a :: b :: c :: d :: e :: f :: g :: (tl ++ r)) :=
  News.sub N fun p hp => by
    simp only [List.mem_cons, List.mem_append] at hp ⊢
    grind

theorem News.toFront {h₀ h : Heap} {L : Addr} {a b c d e f g : Addr × Obj} {r : List (Addr × Obj)} (N : News h₀ L h (a :: b :: c :: d :: e :: f :: g :: r)) : News h₀ L h (f :: g :: a :: b :: c :: d :: e :: r) :=
  News.sub N fun p hp => by
    simp only [List.mem_cons] at hp ⊢
    grind

theorem Parts.cases3 {R : Value → Int → Prop} {tl : List (Addr × Obj)} {ys : List Value} {ps : List (Value × Int)} (h : Parts R tl ys ps) (hl : ys.length ≤ 3) :
    (ys = [] ∧ ps = []) ∨
    (∃ r1 t1 v1 w1, ys = [.ref r1] ∧ ps = [(v1, w1)] ∧ (r1, tupO [v1, .int w1 t1]) ∈ tl ∧ R v1 w1) ∨
    (∃ r1 t1 v1 w1 r2 t2 v2 w2, ys = [.ref r1, .ref r2] ∧ ps = [(v1, w1), (v2, w2)] ∧ (r1, tupO [v1, .int w1 t1]) ∈ tl ∧ R v1 w1 ∧ (r2, tupO [v2, .int w2 t2]) ∈ tl ∧ R v2 w2) ∨
    (∃ r1 t1 v1 w1 r2 t2 v2 w2 r3 t3 v3 w3, ys = [.ref r1, .ref r2, .ref r3] ∧ ps = [(v1, w1), (v2, w2), (v3, w3)] ∧ (r1, tupO [v1, .int w1 t1]) ∈ tl ∧ R v1 w1 ∧ (r2, tupO [v2, .int w2 t2]) ∈ tl ∧ R v2 w2 ∧ (r3, tupO [v3, .int w3 t3]) ∈ tl ∧ R v3 w3) := by
  rcases ys with _ | ⟨y1, ys⟩
  · rcases ps with _ | ⟨p1, ps⟩
    · exact .inl ⟨rfl, rfl⟩
    · exact h.elim
  · rcases ps with _ | ⟨⟨v1, w1⟩, ps⟩
    · exact h.elim
    · obtain ⟨⟨r1, t1, rfl, h1, g1⟩, h⟩ := h
      rcases ys with _ | ⟨y2, ys⟩
      · rcases ps with _ | ⟨p1, ps⟩
        · exact .inr (.inl ⟨r1, t1, v1, w1, rfl, rfl, h1, g1⟩)
        · exact h.elim
      · rcases ps with _ | ⟨⟨v2, w2⟩, ps⟩
        · exact h.elim
        · obtain ⟨⟨r2, t2, rfl, h2, g2⟩, h⟩ := h
          rcases ys with _ | ⟨y3, ys⟩
          · rcases ps with _ | ⟨p1, ps⟩
            · exact .inr (.inr (.inl ⟨r1, t1, v1, w1, r2, t2, v2, w2, rfl, rfl, h1, g1, h2, g2⟩))
            · exact h.elim
          · rcases ps with _ | ⟨⟨v3, w3⟩, ps⟩
            · exact h.elim
            · obtain ⟨⟨r3, t3, rfl, h3, g3⟩, h⟩ := h
              rcases ys with _ | ⟨y4, ys⟩
              · rcases ps with _ | ⟨p1, ps⟩
                · exact .inr (.inr (.inr ⟨r1, t1, v1, w1, r2, t2, v2, w2, r3, t3, v3, w3, rfl, rfl, h1, g1, h2, g2, h3, g3⟩))
                · exact h.elim
              · simp only [List.length_cons] at hl; omega
theorem News.look0 {h₀ h : Heap} {L : Addr} {a d e f g : Addr × Obj} {tl r : List (Addr × Obj)} (N : News h₀ L h (a :: (tl ++ d :: e :: f :: g :: r))) : News h₀ L h (a :: d :: e :: f :: g :: (tl ++ r)) :=
  News.sub N fun p hp => by simp only [List.mem_cons, List.mem_append] at hp ⊢; grind
theorem News.look1 {h₀ h : Heap} {L : Addr} {a d e f g b1 : Addr × Obj} {tl r : List (Addr × Obj)} (N : News h₀ L h (a :: (tl ++ d :: e :: f :: g :: r))) (m1 : b1 ∈ tl) : News h₀ L h (a :: b1 :: d :: e :: f :: g :: (tl ++ r)) :=
  News.sub N fun p hp => by simp only [List.mem_cons, List.mem_append] at hp ⊢; grind
theorem News.look2 {h₀ h : Heap} {L : Addr} {a d e f g b1 b2 : Addr × Obj} {tl r : List (Addr × Obj)} (N : News h₀ L h (a :: (tl ++ d :: e :: f :: g :: r))) (m1 : b1 ∈ tl) (m2 : b2 ∈ tl) : News h₀ L h (a :: b1 :: b2 :: d :: e :: f :: g :: (tl ++ r)) :=
  News.sub N fun p hp => by simp only [List.mem_cons, List.mem_append] at hp ⊢; grind
theorem News.look3 {h₀ h : Heap} {L : Addr} {a d e f g b1 b2 b3 : Addr × Obj} {tl r : List (Addr × Obj)} (N : News h₀ L h (a :: (tl ++ d :: e :: f :: g :: r))) (m1 : b1 ∈ tl) (m2 : b2 ∈ tl) (m3 : b3 ∈ tl) : News h₀ L h (a :: b1 :: b2 :: b3 :: d :: e :: f :: g :: (tl ++ r)) :=
  News.sub N fun p hp => by simp only [List.mem_cons, List.mem_append] at hp ⊢; grind

section
variable {prog : Program} {w : World} {A : Around} {h₀ : Heap} {L : Addr} {m : Str → Option Value} {env : Env}
theorem thing_src {elt : Expr} {x : Str} {scope : Scope} {cl : List (Str × Addr)} {Fin : Shared → List Value → List (Addr × Obj) → Prop} {r : Addr} {b : Int} {t u v : Tok} {s₁ : Shared}
    {c1 c2 : Addr × Obj} {dice sc : Addr} {items : List Value} {n1 n2 : Nat} {rest : List (Addr × Obj)} {k : Int} {t0 : Tok} (P : World) (d : Nat)
    (hh : A.handled = none) (F : Fr h₀ L s₁.heap m) (N : News h₀ L s₁.heap (c1 :: c2 :: (dice, listOf #[.ref sc, .int k t0] n1) :: (sc, listOf items.toArray n2) :: rest)) (hr : IsRange s₁.heap r 0 b 1 t u v) (hb : 0 ≤ b) (hn : b ≤ 100)
    (step : ∀ (i : Nat) (ys : List Value) (nw : List (Addr × Obj)) (v : Value) (I : Addr) (oI : Obj) (C : Addr) (oC : Obj) (D : Addr) (m₂ : Str → Option Value) (h : Heap) (tk : Nat) (E' : Value → Shared → Prop) (s₂ : Shared), (i : Int) < b → ThingP P d c1 c2 dice sc items n1 n2 rest k i ys nw → (∃ t, v = .int (i : Int) t) → LCg.NsObj oC m₂ → m₂ x = some v → Fr h₀ L h m →
      News h₀ L h ((I, oI) :: (C, oC) :: (D, LCg.lst ys) :: nw) → LCg.Off3 I C D nw → ((@Ne Nat I C) ∧ (@Ne Nat I D) ∧ (@Ne Nat C D)) →
      wpAny (model prog w) A (eval elt (compEnvC scope cl C env)) (LCg.CompEnd h₀ L m { s₂ with heap := h, toks := tk } I oI C oC D (LCg.lst ys) (fun _ => True) (fun y nw' => ThingP P d c1 c2 dice sc items n1 n2 rest k (i + 1) (ys ++ [y]) nw')) E' { s₂ with heap := h, toks := tk })
    (fin : ∀ ys nw s₂, (∃ h, s₂ = { s₁ with heap := h }) → ThingP P d c1 c2 dice sc items n1 n2 rest k b.toNat ys nw → Fin s₂ ys nw) :
    LCg.CompSrc prog w A h₀ L m env elt x scope cl Fin (.ref r) s₁ :=
  src_range b.toNat (ThingP P d c1 c2 dice sc items n1 n2 rest k) hh F N hr (Int.toNat_of_nonneg hb).symm (by omega) ⟨k, t0, [], [], rfl, Int.le_refl _, by simp, rfl, trivial, Apart.nil⟩
    (fun i ys nw v I oI C oC D m₂ h tk E' s₂ hi => step i ys nw v I oI C oC D m₂ h tk E' s₂ (by omega)) fin
end


section
variable {prog : Program} {w : World} {A : Around} {E : Value → Shared → Prop} {s : Shared} {env : Env} {h₀ : Heap} {target : Expr} {body : List Stmt} {Q : Flow → Shared → Prop}

theorem UnrEndW.head {L : Addr} {p : Addr × Obj} {rest : (Str → Option Value) → List (Addr × Obj) → Prop} {s₁ : Shared} {h' : Heap} {tk : Nat} {m' : Str → Option Value} {nw : List (Addr × Obj)} (F : Fr h₀ L h' m') (N : News h₀ L h' (p :: nw))
    (off : ∀ q ∈ nw, @Ne Nat q.1 p.1) (r : rest m' nw) : UnrEndW h₀ L s₁ [p] rest { s₁ with heap := h', toks := tk } :=
  ⟨h', tk, m', nw, rfl, F, N, fun q hq a ha => by rw [List.mem_singleton.mp ha]; exact off q hq, r⟩

/-- a loop over a list of the ledger, by what holds of the turns' number, of the names and of the ledger -/
theorem for_inv {L : Addr} {ax : Addr} {lo : Obj} {vs : List Value} {n : Nat} {m₀ : Str → Option Value} {news : List (Addr × Obj)}
    (J : Nat → (Str → Option Value) → List (Addr × Obj) → Prop)
    (hL : env.locals = L) (hh : A.handled = none) (F : Fr h₀ L s.heap m₀) (N : News h₀ L s.heap news) (hm : (ax, lo) ∈ news) (hc : lo.cls = .type "list") (hd : lo.data = .seq vs.toArray n)
    (h0 : J 0 m₀ news)
    (step : ∀ (i : Nat) (v : Value) (m₁ : Str → Option Value) (nw : List (Addr × Obj)) (h : Heap) (tk : Nat) (I : Addr) (oI : Obj), vs[i]? = some v → J i m₁ nw → (∀ p ∈ news, @LT.lt Nat _ p.1 I) → oI.cls = .type "list_iterator" → Fr h₀ L h m₁ → News h₀ L h ((I, oI) :: nw) →
      wpAny (model prog w) A (assign target env v) (fun _ s₂ => wpAny (model prog w) A (execs body env) (UnrPostW h₀ L { s with heap := h, toks := tk } [(I, oI)] (fun m' n' => (ax, lo) ∈ n' ∧ J (i + 1) m' n') Q) E s₂) E { s with heap := h, toks := tk })
    (fin : ∀ h tk m₁ nw, Fr h₀ L h m₁ → News h₀ L h nw → J vs.length m₁ nw → Q .next { s with heap := h, toks := tk }) :
    wpAny (model prog w) A (pyIter (.ref ax)) (fun it s₂ => TurnsAt prog w A h₀ env target body Q E it s₂) E s := by
  subst hL
  refine iter_listTurns hh F N hm hc hd fun I hI => ?_
  have all : ∀ (k i : Nat) (m₁ : Str → Option Value) (nw : List (Addr × Obj)), i + k = vs.length → J i m₁ nw →
      ItemsRest prog w A E h₀ env target body Q s [(I, "list_iterator")] [(ax, lo)] ((vs.drop i).map .val) m₁ nw := by
    intro k
    induction k with
    | zero =>
      intro i m₁ nw e j
      obtain rfl : i = vs.length := by omega
      rw [List.drop_length]
      exact ItemsRest.zero fun h tk F' N' => fin h tk m₁ nw F' N' j
    | succ k ih =>
      intro i m₁ nw e j
      have hi : i < vs.length := by omega
      rw [List.drop_eq_getElem_cons hi]
      refine ItemsRest.val fun h tk F' => AllObj.cons fun o ho => AllObj.nil fun N' => ?_
      refine wpAny_mono (step i _ m₁ nw h tk I o (List.getElem?_eq_getElem hi) j hI ho F' N') (fun _ s₂ h₂ => wpAny_mono h₂ (fun f s₃ h₃ => ?_) fun _ _ e => e) fun _ _ e => e
      have go : UnrEndW h₀ env.locals { s with heap := h, toks := tk } [(I, o)] (fun m' n' => (ax, lo) ∈ n' ∧ J (i + 1) m' n') s₃ →
          UnrEndW h₀ env.locals { s with heap := h, toks := tk } [(I, o)] (fun m' n' => SubL [(ax, lo)] n' ∧ ItemsRest prog w A E h₀ env target body Q s [(I, "list_iterator")] [(ax, lo)] ((vs.drop (i + 1)).map .val) m' n') s₃ := by
        rintro ⟨h', tk', m', n', e1, e2, e3, e4, e5, e6⟩
        exact ⟨h', tk', m', n', e1, e2, e3, e4, ⟨e5, trivial⟩, ih (i + 1) m' n' (by omega) e6⟩
      cases f with
      | ret v => exact h₃
      | brk => exact h₃
      | next => exact go h₃
      | cont => exact go h₃
  have := all vs.length 0 m₀ news (by omega) h0
  rwa [List.drop_zero] at this
end

section
variable {prog : Program} {w : World} {A : Around} {h₀ : Heap} {L : Addr} {m : Str → Option Value} {env : Env}
/-- a comprehension over a list of pairs of the ledger, that takes the pairs' first part -/
theorem pair_src {R : Value → Int → Prop} {x x₂ : Str} {px : Pos} {scope : Scope} {cl : List (Str × Addr)} {Fin : Shared → List Value → List (Addr × Obj) → Prop} {ax : Addr} {ys : List Value} {ps : List (Value × Int)} {tl news : List (Addr × Obj)} {s₁ : Shared} {k : Nat}
    (hh : A.handled = none) (F : Fr h₀ L s₁.heap m) (N : News h₀ L s₁.heap news) (hm : (ax, listOf ys.toArray k) ∈ news) (hl : ys.length ≤ 3) (hp : Parts R tl ys ps) (hs : ∀ p ∈ tl, p ∈ news)
    (hk : ∀ C, (compEnvC scope cl C env).scope.kind = .function) (hx : ∀ C, (compEnvC scope cl C env).kindOf x = some .local) (hdb : (x == ("__debug__" : Str)) = false)
    (fin : ∀ s₂, (∃ h, s₂ = { s₁ with heap := h }) → Fin s₂ (ps.map (·.1)) news) :
    LCp.SrcLP prog w A h₀ L m env (.Name x px) x x₂ scope cl Fin (.ref ax) s₁ := by
  have hsl : ys.toArray.size ≤ sizeLine := by
    have : sizeLine = 16777216 := by decide +kernel
    simp only [List.size_toArray]
    omega
  refine LCp.SrcLP.ledger hh F N hm hsl fun g => ?_
  have all : ∀ (ys2 : List Value) (ps1 ps2 : List (Value × Int)) (i : Nat), ys.drop i = ys2 → ps = ps1 ++ ps2 → Parts R tl ys2 ps2 →
      LCp.CompRestP prog w A h₀ L m env (.Name x px) x x₂ scope cl { s₁ with heap := g } (LCg.SrcAt h₀ ax ys.toArray) (fun i v => ys.toArray[i]? = some v) (Fin { s₁ with heap := g }) ys2.length i (ps1.map (·.1)) news := by
    intro ys2
    induction ys2 with
    | nil =>
      intro ps1 ps2 i hd hps h
      cases ps2 with
      | nil =>
        have e : ps1 = ps := by rw [hps, List.append_nil]
        rw [e]
        exact LCp.CompRestP.zero (fin _ ⟨g, rfl⟩)
      | cons p ps2 => exact h.elim
    | cons y ys2 ih =>
      intro ps1 ps2 i hd hps h
      cases ps2 with
      | nil => exact h.elim
      | cons p ps2 =>
        obtain ⟨⟨r, t, e, hmem, hR⟩, hrest⟩ := h
        refine LCp.CompRestP.succ fun v hv => ?_
        have hv' : v = y := by
          have h1 : ys[i]? = some y := by
            have := congrArg (fun l => l[0]?) hd
            simpa using this
          rw [List.getElem?_toArray] at hv
          rw [h1] at hv
          exact (Option.some.inj hv).symm
        subst hv'
        refine ⟨r, tupO [p.1, .int p.2 t], p.1, .int p.2 t, _, e, hs _ hmem, rfl, rfl, ?_⟩
        intro I oI C oC D m₂ h tk E' hC hx1 hx2 F' N' off ne
        have hE := ih (ps1 ++ [p]) ps2 (i + 1) (by rw [← List.drop_drop, hd]; rfl) (by rw [hps]; simp) hrest
        refine LCgL.ld_own N' (.tail _ (.head _)) hC hx1 ?_ (hk C) (hx C) hdb
        refine LCg.CompEnd.intro F' N' news (fun p hp => hp) off (.inr ⟨_, hm, rfl, _, rfl⟩) ?_
        rwa [List.map_append] at hE
  have := all ys [] ps 0 (by rw [List.drop_zero]) (by simp) hp
  simpa using this
end
theorem off1_mem {D : Addr} : ∀ {l : List (Addr × Obj)}, LCg.Off1 D l → ∀ p ∈ l, @Ne Nat p.1 D := by
  intro l
  induction l with
  | nil => intro _ p hp; cases hp
  | cons a r ih =>
    intro h p hp
    rcases List.mem_cons.mp hp with rfl | hp
    · exact h.1
    · exact ih h.2 p hp

theorem Parts.get {R : Value → Int → Prop} {tl : List (Addr × Obj)} {ys : List Value} : ∀ {ps : List (Value × Int)} {i : Nat} {v : Value}, Parts R tl ys ps → ys[i]? = some v →
    ∃ r t a n, v = .ref r ∧ (r, tupO [a, .int n t]) ∈ tl ∧ ps[i]? = some (a, n) ∧ R a n := by
  induction ys with
  | nil => intro ps i v _ h; simp at h
  | cons y ys ih =>
    intro ps i v h hv
    cases ps with
    | nil => exact h.elim
    | cons p ps =>
      obtain ⟨⟨r, t, e, h1, h2⟩, h3⟩ := h
      cases i with
      | zero =>
        have : y = v := by simpa using hv
        exact ⟨r, t, p.1, p.2, this ▸ e, h1, rfl, h2⟩
      | succ i =>
        obtain ⟨r, t, a, n, e1, e2, e3, e4⟩ := ih (i := i) h3 (by simpa using hv)
        exact ⟨r, t, a, n, e1, e2, by simpa using e3, e4⟩
theorem Parts.len {R : Value → Int → Prop} {tl : List (Addr × Obj)} {ys : List Value} : ∀ {ps : List (Value × Int)}, Parts R tl ys ps → ps.length = ys.length := by
  induction ys with
  | nil => intro ps h; cases ps with
    | nil => rfl
    | cons p ps => exact h.elim
  | cons y ys ih => intro ps h; cases ps with
    | nil => exact h.elim
    | cons p ps => simp only [List.length_cons, ih h.2]
theorem Parts.all {R : Value → Int → Prop} {tl : List (Addr × Obj)} {ys : List Value} : ∀ {ps : List (Value × Int)}, Parts R tl ys ps → ∀ p ∈ ps, R p.1 p.2 := by
  induction ys with
  | nil => intro ps h; cases ps with
    | nil => intro p hp; cases hp
    | cons p ps => exact h.elim
  | cons y ys ih => intro ps h; cases ps with
    | nil => exact h.elim
    | cons p ps =>
      intro q hq
      rcases List.mem_cons.mp hq with rfl | hq
      · obtain ⟨_, _, _, _, h2⟩ := h.1
        exact h2
      · exact ih h.2 q hq
theorem sumAll_take {ps : List (Value × Int)} {i : Nat} {a : Value} {n : Int} (h : ps[i]? = some (a, n)) : sumAll (ps.take (i + 1)) = sumAll (ps.take i) + n := by
  obtain ⟨hi, e⟩ := List.getElem?_eq_some_iff.mp h
  rw [List.take_succ_eq_append_getElem hi, e]
  simp [sumAll]

abbrev nSize : Str := Str.ofString "size"
abbrev nValue : Str := Str.ofString "value"
abbrev nMany : Str := Str.ofString "many"
noncomputable def SumJ (m₀ : Str → Option Value) (NW : List (Addr × Obj)) (ps : List (Value × Int)) (i : Nat) (m' : Str → Option Value) (nw : List (Addr × Obj)) : Prop :=
  nw = NW ∧ ∃ t vo mo, m' = fun y => if y = nSize then some (.int (sumAll (ps.take i)) t) else if y = nValue then vo else if y = nMany then mo else m₀ y
theorem SumJ.of {m₀ m' : Str → Option Value} {NW : List (Addr × Obj)} {ps : List (Value × Int)} {i : Nat} {z : Int} {t : Tok} (h1 : m' nSize = some (.int z t)) (hz : z = sumAll (ps.take i))
    (h2 : ∀ y, ¬ y = nSize → ¬ y = nValue → ¬ y = nMany → m' y = m₀ y) : SumJ m₀ NW ps i m' NW := by
  subst hz
  refine ⟨rfl, t, m' nValue, m' nMany, ?_⟩
  funext y
  by_cases e1 : y = nSize
  · rw [if_pos e1, e1, h1]
  · rw [if_neg e1]
    by_cases e2 : y = nValue
    · rw [if_pos e2, e2]
    · rw [if_neg e2]
      by_cases e3 : y = nMany
      · rw [if_pos e3, e3]
      · rw [if_neg e3]
        exact h2 y e1 e2 e3

section
variable {prog : Program} {w : World} {A : Around} {E : Value → Shared → Prop} {s : Shared} {h₀ : Heap} {L : Addr}
theorem len_any {l : Addr} {lo : Obj} {ys : List Value} {n : Nat} {news : List (Addr × Obj)} {Q : Value → Shared → Prop} (N : News h₀ L s.heap news) (hm : (l, lo) ∈ news) (hc : lo.cls = .type "list") (hd : lo.data = .seq ys.toArray n) (hz : ys.length ≤ 16384)
    (h : Q (.int (ys.length : Int) (s.toks + 1)) { s with toks := s.toks + 1 + 1 }) : wpAny (model prog w) A (call (.builtin "len") [.ref l]) Q E s := by
  refine len_list (items := ys.toArray) ⟨lo, (N _ hm).1, hc, n, hd⟩ ?_ ?_
  · simp only [List.size_toArray]; omega
  · simp only [List.size_toArray]; exact h
end

theorem News.fin7 {h₀ h : Heap} {L : Addr} {a1 a2 a3 a4 a5 a6 a7 c1 c2 d e : Addr × Obj} {tl rest r : List (Addr × Obj)} (N : News h₀ L h (a1 :: a2 :: a3 :: a4 :: a5 :: a6 :: a7 :: c1 :: c2 :: d :: e :: r)) (hr : tl ++ rest = r) :
    News h₀ L h ((a1 :: a2 :: a3 :: a4 :: a5 :: a6 :: a7 :: tl) ++ d :: e :: rest) :=
  News.sub N fun p hp => by subst hr; simp only [List.mem_cons, List.mem_append] at hp ⊢; grind
theorem lt_of_allLt {d : Nat} {l : List (Addr × Obj)} (h : AllLt d l) : ∀ q ∈ l, @LT.lt Nat _ q.1 d := by
  induction l with
  | nil => intro q hq; cases hq
  | cons p r ih =>
    intro q hq
    rcases List.mem_cons.mp hq with rfl | hq
    · exact h.1
    · exact ih h.2 q hq
theorem lt_of_lo {d e : Addr × Obj} {Lq : Nat} {rest : List (Addr × Obj)} (h : @LT.lt Nat _ d.1 Lq ∧ @LT.lt Nat _ e.1 Lq ∧ AllLt Lq rest) : ∀ q ∈ d :: e :: rest, @LT.lt Nat _ q.1 Lq := by
  intro q hq
  rcases List.mem_cons.mp hq with rfl | hq
  · exact h.1
  · rcases List.mem_cons.mp hq with rfl | hq
    · exact h.2.1
    · exact lt_of_allLt h.2.2 q hq
theorem Apart.gt {a : Addr} {o : Obj} {as bs : List (Addr × Obj)} {Lq : Nat} (hL : ∀ q ∈ bs, @LT.lt Nat _ q.1 Lq) (h1 : @LT.lt Nat _ Lq a) (h : Apart as bs) : Apart ((a, o) :: as) bs :=
  Apart.cons (fun q hq => Nat.ne_of_gt (Nat.lt_trans (hL q hq) h1)) h
theorem Apart.off {a : Addr} {o : Obj} {as bs cs : List (Addr × Obj)} (h1 : ∀ q ∈ cs, @Ne Nat q.1 a) (hs : ∀ q ∈ bs, q ∈ cs) (h : Apart as bs) : Apart ((a, o) :: as) bs :=
  Apart.cons (fun q hq => Ne.symm (h1 q (hs q hq))) h

section
variable {prog : Program} {w : World} {A : Around} {E : Value → Shared → Prop} {s : Shared} {env : Env} {h₀ : Heap} {body : List Stmt} {Q : Flow → Shared → Prop}
theorem enumItems_drop (vs : List Value) : ∀ (a i : Nat), (enumItems a vs).drop i = enumItems (a + i) (vs.drop i) := by
  induction vs with
  | nil => intro a i; simp [enumItems]
  | cons v r ih =>
    intro a i
    cases i with
    | zero => simp
    | succ i =>
      show (enumItems (a + 1) r).drop i = _
      rw [ih (a + 1) i]
      show _ = enumItems (a + (i + 1)) (r.drop i)
      rw [show a + 1 + i = a + (i + 1) by omega]

/-- a loop over enumerate(l), l of the ledger -/
theorem for_enum {L : Addr} {elts : List Expr} {k : Nat} {pos : Pos} {ax : Addr} {lo : Obj} {vs : List Value} {n : Nat} {m₀ : Str → Option Value} {news : List (Addr × Obj)}
    (J : Nat → (Str → Option Value) → List (Addr × Obj) → Prop)
    (hL : env.locals = L) (hh : A.handled = none) (F : Fr h₀ L s.heap m₀) (N : News h₀ L s.heap news) (hm : (ax, lo) ∈ news) (hc : lo.cls = .type "list") (hd : lo.data = .seq vs.toArray n)
    (h0 : J 0 m₀ news)
    (step : ∀ (i : Nat) (v : Value) (T : Addr) (t : Tok) (m₁ : Str → Option Value) (nw : List (Addr × Obj)) (h : Heap) (tk : Nat) (I : Addr) (oI oE : Obj), vs[i]? = some v → IsTup h T #[.int (i : Int) t, v] → J i m₁ nw → (∀ p ∈ news, @LT.lt Nat _ p.1 I) → Fr h₀ L h m₁ → News h₀ L h ((I + 1, oE) :: (I, oI) :: nw) →
      wpAny (model prog w) A (assign (.Tuple elts k pos) env (.ref T)) (fun _ s₂ => wpAny (model prog w) A (execs body env) (UnrPostW h₀ L { s with heap := h, toks := tk } [(I + 1, oE), (I, oI)] (fun m' n' => (ax, lo) ∈ n' ∧ J (i + 1) m' n') Q) E s₂) E { s with heap := h, toks := tk })
    (fin : ∀ h tk m₁ nw, Fr h₀ L h m₁ → News h₀ L h nw → J vs.length m₁ nw → Q .next { s with heap := h, toks := tk }) :
    wpAny (model prog w) A (call (.type "enumerate") [.ref ax]) (fun xv s₁ => wpAny (model prog w) A (pyIter xv) (fun it s₂ => TurnsAt prog w A h₀ env (.Tuple elts k pos) body Q E it s₂) E s₁) E s := by
  subst hL
  refine ktu_enum hh F N hm hc hd rfl fun I hI => ?_
  have all : ∀ (k' i : Nat) (m₁ : Str → Option Value) (nw : List (Addr × Obj)), i + k' = vs.length → J i m₁ nw →
      ItemsRest prog w A E h₀ env (.Tuple elts k pos) body Q s [(I + 1, "enumerate"), (I, "list_iterator")] [(ax, lo)] (enumItems i (vs.drop i)) m₁ nw := by
    intro k'
    induction k' with
    | zero =>
      intro i m₁ nw e j
      obtain rfl : i = vs.length := by omega
      rw [List.drop_length]
      exact ItemsRest.zero fun h tk F' N' => fin h tk m₁ nw F' N' j
    | succ k' ih =>
      intro i m₁ nw e j
      have hi : i < vs.length := by omega
      rw [List.drop_eq_getElem_cons hi]
      refine ItemsRest.pair fun T t h tk hT F' => AllObj.cons fun o ho => AllObj.cons fun o2 ho2 => AllObj.nil fun N' => ?_
      refine wpAny_mono (step i _ T t m₁ nw h tk I o2 o (List.getElem?_eq_getElem hi) hT j hI F' N') (fun _ s₂ h₂ => wpAny_mono h₂ (fun f s₃ h₃ => ?_) fun _ _ e => e) fun _ _ e => e
      have go : UnrEndW h₀ env.locals { s with heap := h, toks := tk } [(I + 1, o), (I, o2)] (fun m' n' => (ax, lo) ∈ n' ∧ J (i + 1) m' n') s₃ →
          UnrEndW h₀ env.locals { s with heap := h, toks := tk } [(I + 1, o), (I, o2)] (fun m' n' => SubL [(ax, lo)] n' ∧ ItemsRest prog w A E h₀ env (.Tuple elts k pos) body Q s [(I + 1, "enumerate"), (I, "list_iterator")] [(ax, lo)] (enumItems (i + 1) (vs.drop (i + 1))) m' n') s₃ := by
        rintro ⟨h', tk', m', n', e1, e2, e3, e4, e5, e6⟩
        exact ⟨h', tk', m', n', e1, e2, e3, e4, ⟨e5, trivial⟩, ih (i + 1) m' n' (by omega) e6⟩
      cases f with
      | ret v => exact h₃
      | brk => exact h₃
      | next => exact go h₃
      | cont => exact go h₃
  have := all vs.length 0 m₀ news (by omega) h0
  rwa [List.drop_zero] at this
theorem UnrEndW.head2 {L : Addr} {p1 p2 : Addr × Obj} {rest : (Str → Option Value) → List (Addr × Obj) → Prop} {s₁ : Shared} {h' : Heap} {tk : Nat} {m' : Str → Option Value} {nw : List (Addr × Obj)} (F : Fr h₀ L h' m') (N : News h₀ L h' (p1 :: p2 :: nw))
    (off : ∀ q ∈ nw, @Ne Nat q.1 p1.1 ∧ @Ne Nat q.1 p2.1) (r : rest m' nw) : UnrEndW h₀ L s₁ [p1, p2] rest { s₁ with heap := h', toks := tk } :=
  ⟨h', tk, m', nw, rfl, F, N, fun q hq a ha => by
    rcases List.mem_cons.mp ha with rfl | ha
    · exact (off q hq).1
    · rw [List.mem_singleton.mp ha]; exact (off q hq).2, r⟩
end

noncomputable def Kind (news : List (Addr × Obj)) (v : Value) : Prop := (∃ i t, v = .int i t) ∨ ∃ x dx od, v = .ref x ∧ ((x, instObj 162 dx) ∈ news ∨ (x, instObj 183 dx) ∈ news) ∧ (dx, dictOf od 2) ∈ news
theorem ThAt.kind {w : World} {d : Nat} {tl : List (Addr × Obj)} {v : Value} {wt : Int} (h : ThAt w d tl v wt) : Kind tl v := by
  cases d with
  | zero => obtain ⟨i, t, h, _⟩ := h; exact .inl ⟨i, t, h⟩
  | succ d =>
    rcases h with ⟨i, t, h, _⟩ | ⟨x, dx, b, l, tk1, tk2, n, ps, h1, h2, h3, _⟩ | ⟨x, dx, fd, tk1, tk2, n, es, ps, h1, h2, h3, _⟩
    · exact .inl ⟨i, t, h⟩
    · exact .inr ⟨x, dx, _, h1, .inl h2, h3⟩
    · exact .inr ⟨x, dx, _, h1, .inr h2, h3⟩
theorem Kind.mono {news news' : List (Addr × Obj)} {v : Value} (hs : ∀ p ∈ news, p ∈ news') (h : Kind news v) : Kind news' v := by
  rcases h with h | ⟨x, dx, od, h1, h2, h3⟩
  · exact .inl h
  · exact .inr ⟨x, dx, od, h1, h2.imp (hs _) (hs _), hs _ h3⟩

section
variable {w : World} {A : Around} {E : Value → Shared → Prop} {s : Shared} {h₀ : Heap} {L : Addr} {m : Str → Option Value} {news : List (Addr × Obj)} {mean : ExcName → Option Value} {mg mb : Str → Option Value} {Q : Value → Shared → Prop}
theorem isint_any {v : Value} (F : Fr h₀ L s.heap m) (X : (Mine.KK w.params).In h₀) (N : News h₀ L s.heap news) (T : Top Mine.vw loo mean mg mb h₀) (hv : Kind news v) (h : ∀ tk, Q (.bool (scal v)) { s with toks := tk }) :
    wpAny (model PySem.Challenge.pw_pp0007_01 w) A (call (.builtin "isinstance") [v, .type "int"]) Q E s := by
  w_top off
  rcases hv with ⟨i, t, rfl⟩ | ⟨x, dx, od, rfl, h2 | h2, h3⟩
  · k_steps
    exact h _
  · have N2 : News h₀ L s.heap [(x, instObj 162 dx), (dx, dictOf od 2)] := News.sub N (fun p hp => by rcases List.mem_cons.mp hp with rfl | hp; exact h2; rw [List.mem_singleton.mp hp]; exact h3)
    k_steps
    exact h _
  · have N2 : News h₀ L s.heap [(x, instObj 183 dx), (dx, dictOf od 2)] := News.sub N (fun p hp => by rcases List.mem_cons.mp hp with rfl | hp; exact h2; rw [List.mem_singleton.mp hp]; exact h3)
    k_steps
    exact h _
end

abbrev nAt : Str := Str.ofString "at"
abbrev abc : List Str := [Str.ofString "a", Str.ofString "b", Str.ofString "c"]
noncomputable def RecJ (w : World) (m₀ : Str → Option Value) (fd : Addr) (R : List (Addr × Obj)) (ps : List (Value × Int)) (i : Nat) (m' : Str → Option Value) (nw : List (Addr × Obj)) : Prop :=
  ∃ o kvs, nw = (fd, o) :: R ∧ o.IsDictOf (PySem.strKind PySem.Challenge.pw_pp0007_01 w) kvs ∧ kvs.map (·.1) = abc.take i ∧ kvs.map (·.2) = (ps.take i).map (·.1) ∧
    ∃ t ao vo mo, m' = fun y => if y = nSize then some (.int (sumObj (ps.take i)) t) else if y = nAt then ao else if y = nValue then vo else if y = nMany then mo else m₀ y
theorem RecJ.of {w : World} {m₀ m' : Str → Option Value} {fd : Addr} {R : List (Addr × Obj)} {ps : List (Value × Int)} {i : Nat} {z : Int} {t : Tok} {o : Obj} {kvs : List (Str × Value)}
    (hd : o.IsDictOf (PySem.strKind PySem.Challenge.pw_pp0007_01 w) kvs) (e1 : kvs.map (·.1) = abc.take i) (e2 : kvs.map (·.2) = (ps.take i).map (·.1)) (h1 : m' nSize = some (.int z t)) (hz : z = sumObj (ps.take i))
    (h2 : ∀ y, ¬ y = nSize → ¬ y = nAt → ¬ y = nValue → ¬ y = nMany → m' y = m₀ y) : RecJ w m₀ fd R ps i m' ((fd, o) :: R) := by
  subst hz
  refine ⟨o, kvs, rfl, hd, e1, e2, t, m' nAt, m' nValue, m' nMany, ?_⟩
  funext y
  by_cases e1 : y = nSize
  · rw [if_pos e1, e1, h1]
  · rw [if_neg e1]
    by_cases e2 : y = nAt
    · rw [if_pos e2, e2]
    · rw [if_neg e2]
      by_cases e3 : y = nValue
      · rw [if_pos e3, e3]
      · rw [if_neg e3]
        by_cases e4 : y = nMany
        · rw [if_pos e4, e4]
        · rw [if_neg e4]
          exact h2 y e1 e2 e3 e4
theorem sumObj_take {ps : List (Value × Int)} {i : Nat} {a : Value} {n : Int} (h : ps[i]? = some (a, n)) : sumObj (ps.take (i + 1)) = sumObj (ps.take i) + (if scal a then 0 else n) := by
  obtain ⟨hi, e⟩ := List.getElem?_eq_some_iff.mp h
  rw [List.take_succ_eq_append_getElem hi, e]
  simp [sumObj]
theorem News.ins3 {h₀ h : Heap} {L : Addr} {a b c x : Addr × Obj} {R : List (Addr × Obj)} (N : News h₀ L h (a :: b :: c :: R)) (hx : x ∈ R) : News h₀ L h (a :: b :: c :: x :: R) :=
  News.sub N fun p hp => by simp only [List.mem_cons] at hp ⊢; grind
theorem News.del3 {h₀ h : Heap} {L : Addr} {a b c x : Addr × Obj} {R : List (Addr × Obj)} (N : News h₀ L h (a :: b :: c :: x :: R)) : News h₀ L h (a :: b :: c :: R) :=
  News.sub N fun p hp => by simp only [List.mem_cons] at hp ⊢; grind
theorem stored_new {kvs : List (Str × Value)} {k : Str} {v : Value} (h : k ∉ kvs.map (·.1)) : stored kvs k v = kvs ++ [(k, v)] := by
  unfold stored
  rw [if_neg]
  intro h'
  obtain ⟨kv, h1, h2⟩ := List.any_eq_true.mp h'
  exact h (of_decide_eq_true h2 ▸ List.mem_map_of_mem h1)
theorem rec_new {kvs : List (Str × Value)} {ps : List (Value × Int)} {v : Value} {n : Int} {i : Nat} {k : Str} (e1 : kvs.map (·.1) = abc.take i) (e2 : kvs.map (·.2) = (ps.take i).map (·.1)) (hk : abc[i]? = some k) (h : ps[i]? = some (v, n)) :
    (stored kvs k v).map (·.1) = abc.take (i + 1) ∧ (stored kvs k v).map (·.2) = (ps.take (i + 1)).map (·.1) := by
  have hn : k ∉ kvs.map (·.1) := by
    rw [e1]
    rcases i with _ | _ | _ | i
    · simp
    · have : k = Str.ofString "b" := by simpa using hk.symm
      subst this; decide
    · have : k = Str.ofString "c" := by simpa using hk.symm
      subst this; decide
    · simp at hk
  obtain ⟨hi, e⟩ := List.getElem?_eq_some_iff.mp h
  obtain ⟨hi', e'⟩ := List.getElem?_eq_some_iff.mp hk
  rw [stored_new hn, List.map_append, List.map_append, e1, e2, List.take_succ_eq_append_getElem hi, List.take_succ_eq_append_getElem hi', e, e']
  simp

theorem rec_ne {h₀ hh : Heap} {LL : Addr} {a b : Addr × Obj} {dD D' c1 c2 di sc : Nat} {oD o1 o2 o3 o4 o5 : Obj} {x : Addr × Obj} {rest2 : List (Addr × Obj)} (_N : News h₀ LL hh (a :: b :: (dD, oD) :: x :: (D', o1) :: (c1, o2) :: (c2, o3) :: (di, o4) :: (sc, o5) :: rest2)) (h : @LT.lt Nat _ D' dD ∧ @LT.lt Nat _ c1 dD ∧ @LT.lt Nat _ c2 dD ∧ @LT.lt Nat _ di dD ∧ @LT.lt Nat _ sc dD ∧ AllLt dD rest2) (hx : x ∈ rest2) :
    ∀ p ∈ x :: (D', o1) :: (c1, o2) :: (c2, o3) :: (di, o4) :: (sc, o5) :: rest2, p.1 ≠ dD := by
  obtain ⟨h1, h2, h3, h4, h5, h6⟩ := h
  have h7 := lt_of_allLt h6
  intro p hp
  simp only [List.mem_cons] at hp
  rcases hp with rfl | rfl | rfl | rfl | rfl | rfl | hp
  · exact Nat.ne_of_lt (h7 _ hx)
  · exact Nat.ne_of_lt h1
  · exact Nat.ne_of_lt h2
  · exact Nat.ne_of_lt h3
  · exact Nat.ne_of_lt h4
  · exact Nat.ne_of_lt h5
  · exact Nat.ne_of_lt (h7 _ hp)

theorem off_two {d : Addr} {o : Obj} {R : List (Addr × Obj)} {I : Nat} (hI : ∀ p ∈ (d, o) :: R, @LT.lt Nat _ p.1 I) (o' : Obj) : ∀ q ∈ (d, o') :: R, @Ne Nat q.1 (I + 1) ∧ @Ne Nat q.1 I := by
  intro q hq
  have : @LT.lt Nat _ q.1 I := by
    rcases List.mem_cons.mp hq with rfl | hq
    · exact hI (d, o) (.head _)
    · exact hI q (.tail _ hq)
  exact ⟨Nat.ne_of_lt (Nat.lt_succ_of_lt this), Nat.ne_of_lt this⟩
theorem rec_sum {ps : List (Value × Int)} {i : Nat} {a : Value} {n : Int} (h : ps[i]? = some (a, n)) :
    (scal a = true → sumObj (ps.take i) + 0 = sumObj (ps.take (i + 1))) ∧ (scal a = false → sumObj (ps.take i) + n = sumObj (ps.take (i + 1))) := by
  rw [sumObj_take h]
  exact ⟨fun e => by rw [e]; rfl, fun e => by rw [e]; rfl⟩

theorem News.fin5 {h₀ h : Heap} {L : Addr} {a1 a2 a3 a4 a5 c1 c2 d e : Addr × Obj} {tl rest r : List (Addr × Obj)} (N : News h₀ L h (a1 :: a2 :: a3 :: a4 :: a5 :: c1 :: c2 :: d :: e :: r)) (hr : tl ++ rest = r) :
    News h₀ L h ((a1 :: a2 :: a3 :: a4 :: a5 :: tl) ++ d :: e :: rest) :=
  News.sub N fun p hp => by subst hr; simp only [List.mem_cons, List.mem_append] at hp ⊢; grind
end Mine
namespace Mine
theorem isStr_ne {k : Value} {a b : Str} (h : k.isStr a = true) (hab : a ≠ b) : k.isStr b = false := by
  cases k <;> simp_all [Value.isStr]
theorem getL_iff {name : Str} {es : List DictEntry} {v : Value} : getL name es = some (some v) ↔ (es.find? (·.key.isStr name)).map (·.val) = some v := by
  unfold getL
  cases es.find? (·.key.isStr name) with
  | none =>
    dsimp only
    split <;> simp
  | some e => simp
theorem getL_tail {name : Str} {e : DictEntry} {r : List DictEntry} {v : Value} (hk : ¬ e.key.isStr name = true) (h : getL name (e :: r) = some (some v)) : getL name r = some (some v) := by
  rw [getL_iff] at h ⊢
  rwa [List.find?_cons_of_neg (by simpa using hk)] at h
theorem getL_cons {name : Str} {e : DictEntry} {r : List DictEntry} {v : Value} (hk : ¬ e.key.isStr name = true) (h : getL name r = some (some v)) : getL name (e :: r) = some (some v) := by
  rw [getL_iff] at h ⊢
  rwa [List.find?_cons_of_neg (by simpa using hk)]
theorem getL_same {name : Str} {hsh : Int} {key v v0 : Value} : ∀ {es : List DictEntry}, getL name es = some (some v0) → getL name (putL name hsh key v es) = some (some v)
  | [], h => by simp [getL] at h
  | e :: r, h => by
    unfold putL
    by_cases hk : e.key.isStr name = true
    · rw [if_pos hk]
      simp [getL, hk]
    · rw [if_neg hk]
      exact getL_cons hk (getL_same (getL_tail hk h))
theorem find_put {name name2 : Str} {hsh : Int} {key v : Value} (hn : name ≠ name2) (hkey : key.isStr name = true) : ∀ {es : List DictEntry}, ((putL name hsh key v es).find? (·.key.isStr name2)).map (·.val) = (es.find? (·.key.isStr name2)).map (·.val)
  | [] => by simp [putL, isStr_ne hkey hn]
  | e :: r => by
    unfold putL
    by_cases hk : e.key.isStr name = true
    · rw [if_pos hk]
      simp [isStr_ne hk hn]
    · rw [if_neg hk]
      by_cases h2 : e.key.isStr name2 = true
      · simp [h2]
      · rw [List.find?_cons_of_neg (by simpa using h2), List.find?_cons_of_neg (by simpa using h2)]
        exact find_put hn hkey
theorem getL_other {name name2 : Str} {hsh : Int} {key v v2 : Value} {es : List DictEntry} (hn : name ≠ name2) (hkey : key.isStr name = true) (h : getL name2 es = some (some v2)) : getL name2 (putL name hsh key v es) = some (some v2) := by
  rw [getL_iff] at h ⊢
  rw [find_put hn hkey, h]
theorem putL_len_same {name : Str} {hsh : Int} {key v v0 : Value} : ∀ {es : List DictEntry}, getL name es = some (some v0) → (putL name hsh key v es).length = es.length
  | [], h => by simp [getL] at h
  | e :: r, h => by
    unfold putL
    by_cases hk : e.key.isStr name = true
    · rw [if_pos hk]; rfl
    · rw [if_neg hk]
      simp only [List.length_cons, putL_len_same (getL_tail hk h)]
/-- a made object's dict: its keys are texts, it holds I -/
noncomputable def DOk (es : List DictEntry) (I : List (Str × Value)) (n : Nat) : Prop :=
  (∀ e ∈ es, e.refKey = false) ∧ (∀ p ∈ I, getL p.1 es = some (some p.2)) ∧ es.length ≤ n
theorem DOk.nil : DOk [] [] 0 := ⟨fun _ h => (nomatch h), fun _ h => (nomatch h), Nat.le_refl _⟩
theorem putL_len {name : Str} {hsh : Int} {key v : Value} : ∀ es : List DictEntry, (putL name hsh key v es).length ≤ es.length + 1
  | [] => Nat.le_refl _
  | e :: r => by
    unfold putL
    split
    · simp
    · simpa using putL_len r
theorem putL_keys {name : Str} {hsh : Int} {t : Tok} {v : Value} : ∀ {es : List DictEntry}, (∀ e ∈ es, e.refKey = false) → ∀ e ∈ putL name hsh (.str name t) v es, e.refKey = false
  | [], _, e, h => by
    obtain rfl : e = _ := List.mem_singleton.mp h
    rfl
  | e :: r, hk, e', h => by
    unfold putL at h
    split at h
    · rcases List.mem_cons.mp h with rfl | h
      · exact hk e (.head _)
      · exact hk e' (.tail _ h)
    · rcases List.mem_cons.mp h with rfl | h
      · exact hk _ (.head _)
      · exact putL_keys (fun x hx => hk x (.tail _ hx)) e' h
theorem getL_new {name : Str} {hsh : Int} {t : Tok} {v : Value} : ∀ {es : List DictEntry}, getL name (putL name hsh (.str name t) v es) = some (some v)
  | [] => by simp [putL, getL, Value.isStr]
  | e :: r => by
    unfold putL
    by_cases hk : e.key.isStr name = true
    · rw [if_pos hk]; simp [getL, hk]
    · rw [if_neg hk]; exact getL_cons hk getL_new
theorem DOk.some {es : List DictEntry} {I : List (Str × Value)} {n : Nat} {name : Str} (D : DOk es I n) : (getL name es).isSome = true := by
  unfold getL
  split
  · rfl
  · rw [if_neg (by simpa using D.1)]; rfl
theorem DOk.put {es : List DictEntry} {I : List (Str × Value)} {n : Nat} {name : Str} {hsh : Int} {t : Tok} {v : Value} (D : DOk es I n) (hI : (I.any fun p => p.1 == name) = false) : DOk (putL name hsh (.str name t) v es) I (n + 1) := by
  refine ⟨putL_keys D.1, fun p hp => ?_, Nat.le_trans (putL_len es) (Nat.succ_le_succ D.2.2)⟩
  have hn : name ≠ p.1 := fun q => by
    have := List.any_eq_false.mp hI p hp
    simp [q] at this
  exact getL_other hn (by simp [Value.isStr]) (D.2.1 p hp)
theorem DOk.add {es : List DictEntry} {I : List (Str × Value)} {n : Nat} {name : Str} {hsh : Int} {t : Tok} {v : Value} (D : DOk es I n) (hI : (I.any fun p => p.1 == name) = false) : DOk (putL name hsh (.str name t) v es) ((name, v) :: I) (n + 1) := by
  obtain ⟨a, b, c⟩ := D.put (hsh := hsh) (t := t) (v := v) hI
  refine ⟨a, fun p hp => ?_, c⟩
  rcases List.mem_cons.mp hp with rfl | hp
  · exact getL_new
  · exact b p hp
theorem DOk.get {es : List DictEntry} {I : List (Str × Value)} {n : Nat} {name : Str} {v : Value} (D : DOk es I n) (h : (name, v) ∈ I) : getL name es = Option.some (Option.some v) := D.2.1 _ h

noncomputable def plainE : Expr → Bool
  | .Constant .none _ _ => true
  | .Constant (.bool _) _ _ => true
  | .Constant (.int _) _ _ => true
  | .Dict [] [] _ => true
  | .List [] _ => true
  | _ => false
noncomputable def plainS (K : Frag) (C : Addr) (ns : List Str) : Stmt → Bool
  | .Assign [.Attribute (.Name x _) nm _] e _ => x == Str.ofString "self" && plainE e && !ns.contains nm && (match takerIn K C nm with | some none => true | _ => false)
  | _ => false
theorem upd_at {d : Addr} {o o' : Obj} {post : List (Addr × Obj)} (p2 : ∀ p ∈ post, p.1 ≠ d) : ∀ {pre : List (Addr × Obj)}, (∀ p ∈ pre, p.1 ≠ d) → Upd d o o' (pre ++ (d, o) :: post) (pre ++ (d, o') :: post)
  | [], _ => .head p2
  | a :: r, h => .tail (h a (.head _)) (upd_at p2 fun p hp => h p (.tail _ hp))
section
variable {w : World} {A : Around} {E : Value → Shared → Prop} {s : Shared} {h₀ : Heap} {L : Addr} {m : Str → Option Value} {news : List (Addr × Obj)}
theorem plainE_eval {M : Model} {e : Expr} {env : Env} {Q : Value → Shared → Prop} (he : plainE e = true) (F : Fr h₀ L s.heap m) (N : News h₀ L s.heap news)
    (k : ∀ v h' tk, Fr h₀ L h' m → News h₀ L h' news → Q v { s with heap := h', toks := tk }) : wpAny M A (eval e env) Q E s := by
  unfold plainE at he
  split at he
  · exact wpAny_Constant_none (k _ s.heap s.toks F N)
  · exact wpAny_Constant_bool (k _ s.heap s.toks F N)
  · exact wpAny_Constant_int (k _ s.heap (s.toks + 1) F N)
  · exact wpAny_Dict_empty (k _ _ s.toks (F.push _) (News.sub (News.push F N ({ cls := .type "dict", data := .dict #[] } : Obj)) fun p hp => .tail _ hp))
  · refine wpAny_List (args_nil ⟨Nat.zero_le _, k _ _ s.toks (F.push _) (News.sub (News.push F N ({ cls := .type "list", data := .seq #[] } : Obj)) fun p hp => .tail _ hp)⟩)
  · cases he
theorem plainE_hs {e : Expr} {t : Option Expr} {n : Nat} {env : Env} (he : plainE e = true) : swapsWith e t n env = pure false := by
  unfold plainE at he
  split at he <;> first | rfl | cases he
theorem set_new {C x dx : Addr} {es : List DictEntry} {I : List (Str × Value)} {n z : Nat} {name : Str} {v : Value} {news' : List DictEntry → Nat → List (Addr × Obj)} {Q : Unit → Shared → Prop} (F : Fr h₀ L s.heap m) (X : (KK w.params).In h₀) (N : News h₀ L s.heap news)
    (m1 : (x, instObj C dx) ∈ news) (U : ∀ es' n', Upd dx (dictOf es n) (dictOf es' n') news (news' es' n')) (D : DOk es I z) (hz : z < 1000)
    (h1 : findIn (KK w.params) (.ref C) "__setattr__" = some (some (.builtin "object.__setattr__"))) (h2 : plainOver (KK w.params) C = true) (h3 : takerIn (KK w.params) C name = some none) (h4 : hasDictIn (KK w.params) C = true)
    (h : ∀ h' es' n' hsh t, Fr h₀ L h' m → News h₀ L h' (news' es' n') → es' = putL name hsh (.str name t) v es → Q () { s with heap := h', toks := s.toks + 2 }) :
    wpAny (model PySem.Challenge.pw_pp0007_01 w) A (setAttr (.ref x) name v) Q E s := by
  obtain ⟨pre, post, e1, _, _, _⟩ := (U [] 0).split
  have m2 : (dx, dictOf es n) ∈ news := e1 ▸ List.mem_append_right _ (.head _)
  exact set_dict (C := C) (dx := dx) (es := es) (n := n) F X N (InstAt.of_news N m1 m2) rfl h1 h2 h3 h4 D.some rfl (U _ _) (Nat.le_trans (putL_len es) (Nat.le_trans (Nat.succ_le_succ D.2.2) hz)) fun h' F' N' => h h' _ _ _ _ F' N' rfl
theorem set_drop {C x dx : Addr} {es : List DictEntry} {I : List (Str × Value)} {n z : Nat} {name : Str} {v : Value} {news' : List DictEntry → Nat → List (Addr × Obj)} {Q : Unit → Shared → Prop} (F : Fr h₀ L s.heap m) (X : (KK w.params).In h₀) (N : News h₀ L s.heap news)
    (m1 : (x, instObj C dx) ∈ news) (U : ∀ es' n', Upd dx (dictOf es n) (dictOf es' n') news (news' es' n')) (D : DOk es I z) (hz : z < 1000)
    (h1 : findIn (KK w.params) (.ref C) "__setattr__" = some (some (.builtin "object.__setattr__"))) (h2 : plainOver (KK w.params) C = true) (h3 : takerIn (KK w.params) C name = some none) (h4 : hasDictIn (KK w.params) C = true) (hI : (I.any fun p => p.1 == name) = false)
    (h : ∀ h' es' n', Fr h₀ L h' m → News h₀ L h' (news' es' n') → DOk es' I (z + 1) → Q () { s with heap := h', toks := s.toks + 2 }) :
    wpAny (model PySem.Challenge.pw_pp0007_01 w) A (setAttr (.ref x) name v) Q E s :=
  set_new F X N m1 U D hz h1 h2 h3 h4 fun h' es' n' hsh t F' N' q => h h' es' n' F' N' (q ▸ D.put hI)
theorem set_add {C x dx : Addr} {es : List DictEntry} {I : List (Str × Value)} {n z : Nat} {name : Str} {v : Value} {news' : List DictEntry → Nat → List (Addr × Obj)} {Q : Unit → Shared → Prop} (F : Fr h₀ L s.heap m) (X : (KK w.params).In h₀) (N : News h₀ L s.heap news)
    (m1 : (x, instObj C dx) ∈ news) (U : ∀ es' n', Upd dx (dictOf es n) (dictOf es' n') news (news' es' n')) (D : DOk es I z) (hz : z < 1000)
    (h1 : findIn (KK w.params) (.ref C) "__setattr__" = some (some (.builtin "object.__setattr__"))) (h2 : plainOver (KK w.params) C = true) (h3 : takerIn (KK w.params) C name = some none) (h4 : hasDictIn (KK w.params) C = true) (hI : (I.any fun p => p.1 == name) = false)
    (h : ∀ h' es' n', Fr h₀ L h' m → News h₀ L h' (news' es' n') → DOk es' ((name, v) :: I) (z + 1) → Q () { s with heap := h', toks := s.toks + 2 }) :
    wpAny (model PySem.Challenge.pw_pp0007_01 w) A (setAttr (.ref x) name v) Q E s :=
  set_new F X N m1 U D hz h1 h2 h3 h4 fun h' es' n' hsh t F' N' q => h h' es' n' F' N' (q ▸ D.add hI)
theorem plain_run {C x dx : Addr} {I : List (Str × Value)} {env : Env} {rest : List Stmt} {pre post : List (Addr × Obj)} {Q : Flow → Shared → Prop} (ek : env.scope.kind = .function) (el : env.locals = L) (es0 : env.kindOf (Str.ofString "self") = some .local) (hm : m (Str.ofString "self") = some (.ref x)) (X : (KK w.params).In h₀)
    (h1 : findIn (KK w.params) (.ref C) "__setattr__" = some (some (.builtin "object.__setattr__"))) (h2 : plainOver (KK w.params) C = true) (h4 : hasDictIn (KK w.params) C = true)
    (p1 : ∀ p ∈ pre, p.1 ≠ dx) (p2 : ∀ p ∈ post, p.1 ≠ dx) (m1 : (x, instObj C dx) ∈ pre ++ post) :
    ∀ (l : List Stmt) {es : List DictEntry} {n z : Nat} {s : Shared} (pl : l.all (plainS (KK w.params) C (I.map (·.1))) = true) (D : DOk es I z) (hz : z + l.length < 1000) (F : Fr h₀ L s.heap m) (N : News h₀ L s.heap (pre ++ (dx, dictOf es n) :: post))
      (k : ∀ h' tk es' n', Fr h₀ L h' m → News h₀ L h' (pre ++ (dx, dictOf es' n') :: post) → DOk es' I (z + l.length) → wpAny (model PySem.Challenge.pw_pp0007_01 w) A (execs rest env) Q E { s with heap := h', toks := tk }),
      wpAny (model PySem.Challenge.pw_pp0007_01 w) A (execs (l ++ rest) env) Q E s
  | [], es, n, z, s, _, D, _, F, N, k => k s.heap s.toks es n F N D
  | st :: l, es, n, z, s, pl, D, hz, F, N, k => by
    obtain ⟨q1, q2⟩ := Bool.and_eq_true_iff.mp (List.all_cons ▸ pl)
    rw [List.length_cons] at hz
    unfold plainS at q1
    split at q1
    · rename_i xn p3 nm p4 e p5
      simp only [Bool.and_eq_true, beq_iff_eq] at q1
      obtain ⟨⟨⟨rfl, he⟩, hn⟩, ht⟩ := q1
      have ht' : takerIn (KK w.params) C nm = some none := by
        revert ht
        cases takerIn (KK w.params) C nm with
        | none => intro q; cases q
        | some o => cases o with
          | none => intro _; rfl
          | some _ => intro q; cases q
      have hI : (I.any fun p => p.1 == nm) = false := by
        rw [List.any_eq_false]
        intro p hp q
        have : nm ∈ I.map (·.1) := List.mem_map.mpr ⟨p, hp, beq_iff_eq.mp q⟩
        simp only [Bool.not_eq_true', List.contains_eq_mem, decide_eq_false_iff_not] at hn
        exact hn this
      rw [List.cons_append]
      refine wpAny_execs_cons (plainObj_wpAny_Assign_Attribute (plainE_eval he F N fun v h' tk F' N' => ?_) (plainE_hs he))
      refine wpAny_Name (wpAny_loadName_local ek es0 (el ▸ F'.ns) hm ?_) (by decide)
      have mN : (x, instObj C dx) ∈ pre ++ (dx, dictOf es n) :: post := by
        rcases List.mem_append.mp m1 with q | q
        · exact List.mem_append_left _ q
        · exact List.mem_append_right _ (.tail _ q)
      have U : ∀ es' n', Upd dx (dictOf es n) (dictOf es' n') (pre ++ (dx, dictOf es n) :: post) (pre ++ (dx, dictOf es' n') :: post) := fun es' n' => upd_at p2 p1
      refine set_drop (C := C) (z := z) F' X N' mN U D (by omega) h1 h2 ht' h4 hI fun h'' es' n' F'' N'' D' => ?_
      exact plain_run ek el es0 hm X h1 h2 h4 p1 p2 m1 l q2 D' (by omega) F'' N'' fun h3 tk3 es3 n3 F3 N3 D3 => k h3 tk3 es3 n3 F3 N3 (by rw [List.length_cons]; rw [show z + (l.length + 1) = z + 1 + l.length by omega]; exact D3)
    · cases q1
theorem plain_go (k : Nat) {C x dx : Addr} {es : List DictEntry} {I : List (Str × Value)} {n z : Nat} {env : Env} {body : List Stmt} {news' : List DictEntry → Nat → List (Addr × Obj)} {Q : Flow → Shared → Prop} (F : Fr h₀ L s.heap m) (X : (KK w.params).In h₀) (N : News h₀ L s.heap news)
    (m1 : (x, instObj C dx) ∈ news) (U : ∀ es' n', Upd dx (dictOf es n) (dictOf es' n') news (news' es' n')) (D : DOk es I z) (hz : z + k < 1000)
    (ek : env.scope.kind = .function) (el : env.locals = L) (es0 : env.kindOf (Str.ofString "self") = some .local) (hm : m (Str.ofString "self") = some (.ref x))
    (h1 : findIn (KK w.params) (.ref C) "__setattr__" = some (some (.builtin "object.__setattr__"))) (h2 : plainOver (KK w.params) C = true) (h4 : hasDictIn (KK w.params) C = true)
    (pl : (body.take k).all (plainS (KK w.params) C (I.map (·.1))) = true)
    (h : ∀ h' tk es' n', Fr h₀ L h' m → News h₀ L h' (news' es' n') → DOk es' I (z + k) → wpAny (model PySem.Challenge.pw_pp0007_01 w) A (execs (body.drop k) env) Q E { s with heap := h', toks := tk }) :
    wpAny (model PySem.Challenge.pw_pp0007_01 w) A (execs body env) Q E s := by
  obtain ⟨pre, post, e1, _, p1, p2⟩ := (U [] 0).split
  subst e1
  have m2 : (x, instObj C dx) ∈ pre ++ post := by
    rcases List.mem_append.mp m1 with q | q
    · exact List.mem_append_left _ q
    · rcases List.mem_cons.mp q with q | q
      · cases q
      · exact List.mem_append_right _ q
  suffices H : wpAny (model PySem.Challenge.pw_pp0007_01 w) A (execs (body.take k ++ body.drop k) env) Q E s by rwa [List.take_append_drop] at H
  have hl : (body.take k).length ≤ k := by rw [List.length_take]; exact Nat.min_le_left _ _
  refine plain_run ek el es0 hm X h1 h2 h4 p1 p2 m2 (body.take k) pl D (by omega) F N fun h' tk es' n' F' N' D' => ?_
  refine h h' tk es' n' F' (fun p hp => N' p ?_) ⟨D'.1, D'.2.1, Nat.le_trans D'.2.2 (by omega)⟩
  obtain ⟨pre', post', q1, q2, r1, r2⟩ := (U es' n').split
  rw [q2] at hp
  have old : ∀ p, p ∈ pre' ∨ p ∈ post' → p ∈ pre ++ (dx, dictOf es' n') :: post := fun p hp => by
    have : p ∈ pre ++ (dx, dictOf es n) :: post := by rw [q1]; rcases hp with h | h <;> simp [h]
    have hn : p.1 ≠ dx := by rcases hp with h | h; exact r1 p h; exact r2 p h
    rcases List.mem_append.mp this with h | h
    · exact List.mem_append_left _ h
    · rcases List.mem_cons.mp h with h | h
      · exact absurd (congrArg Prod.fst h) hn
      · exact List.mem_append_right _ (.tail _ h)
  rcases List.mem_append.mp hp with h | h
  · exact old p (.inl h)
  · rcases List.mem_cons.mp h with rfl | h
    · exact List.mem_append_right _ (.head _)
    · exact old p (.inr h)
end
end Mine
namespace Mine
theorem rules_T5_1 : True := by
  k_with_none
  k_with "execs cons" => (k_here; (try dsimp only); (with_reducible refine flat ?_); intro ztk'; (with_reducible refine wpAny_execs_cons ?_); (try dsimp only); (try k_fold))
  trivial
theorem rules_T5_2 : True := by
  k_with "my all" => (assumption)
  k_with "my enter" => (refine' code_def ?k1 ?k2 ?k3 ?k4 ?k5 ?kA ?kF ?kK ?k6 ?k7 ?k8 ?k9 ?kB ?_ ?c2 ?c3 ?c4 ?c5; (case kA => exact rfl); (case kF => exact rfl); (case kK => first | assumption | exact rfl); (case k1 => k_asm); (case k2 => k_asm); (case k3 => k_asm); (case k4 => k_asm); (case k5 => k_asm); (case k6 => k_is); (case k7 => k_is); (case k8 => ktr_room); (case k9 => first | exact BindsTo.of_eq rfl | exact binds_K (by k_in) rfl (by k_is) rfl rfl rfl); (case c5 => decide); (case kB => exact locs rfl); (case c2 => exact rfl); (case c3 => exact rfl); (case c4 => exact rfl); k_whole; intro zg' zL' zh' zFG' zF' zN' zB' zX' zT'; (try dsimp only); (try k_fold))
  k_with "my enter" => (refine' code_defC ?k1 ?k2 ?k3 ?k4 ?k5 ?kA ?kF ?kK ?k6 ?k7 ?k8 ?k9 ?kB ?kD ?_ ?c2 ?c3 ?c4; (case kA => exact rfl); (case kF => exact rfl); (case kK => first | assumption | exact rfl); (case k1 => k_asm); (case k2 => k_asm); (case k3 => k_asm); (case k4 => k_asm); (case k5 => k_asm); (case k6 => k_is); (case k7 => k_is); (case k8 => ktr_room); (case k9 => exact BindsTo.of_eq rfl); (case kB => exact rfl); (case kD => decide +kernel); (case c2 => exact rfl); (case c3 => exact rfl); (case c4 => exact rfl); k_whole; intro zg' zL' zh' ztk' zcells' zFG' zF' zN' zY' zB' zX' zT' zl1; (try k_lt zl1); k_cells zY'; (try simp only [List.cons_append, List.nil_append] at zN'); (try dsimp only); (try k_fold))
  k_with "call ref" => (k_here; (with_reducible show wpAny _ _ (call (Value.ref 406) [Value.ref _, Value.int _ _]) _ _ _); k_dflt (refine' cast_app ?B ?F ?X ?N ?T ?hk ?hi ?hl ?hm ?U ?k0 ?k1 ?hs ?hs2 ?hne ?hd ?hu ?_; (case B => k_asm); (case F => k_asm); (case X => k_asm); (case N => k_asm); (case T => k_asm); (case hk => first | exact rfl | assumption); (case hi => assumption); (case hl => assumption); (case hm => k_mem); (case U => intro zt'; k_upd)); (case k0 => omega); (case k1 => omega); (case hs => omega); (case hs2 => omega); (case hne => k_ne); (case hd => ktr_room); (case hu => ktr_room); k_whole; intro zh' ztk' zt3' zt4' zv' zF' zN' zv0' zv1'; (try k_sweep); walk_say "CAST")
  k_with "CompSrc" => (refine hold ?_)
  k_with "CompEnd" => (refine hold ?_)
  k_with "call ref" => ((with_reducible show wpAny _ _ (call (Value.ref 411) _) _ _ _); refine hold ?_)
  k_with "exec For Tuple Name cons nil" => (refine hold ?_)
  k_with "exec For Tuple Call cons nil" => (refine hold ?_)
  k_with "pyIter ref" => (k_here; (with_reducible show wpAny _ _ (pyIter (Value.ref _)) (fun it s₂ => TurnsAt _ _ _ _ _ _ _ _ _ it s₂) _ _); refine hold ?_)
  k_with "SrcLP" => (refine hold ?_)
  k_with "UnrEndW" => (refine hold ?_)
  k_with "call builtin:len" => (k_here; (with_reducible show wpAny _ _ (call (Value.builtin "len") [Value.ref _]) _ _ _); (refine len_any (by k_asm) (by k_mem) (by rfl) (by rfl) (by omega) ?_))
  k_with "call type:enumerate" => (k_here; (with_reducible show wpAny _ _ (call (Value.type _) [Value.ref _]) (fun xv s₁ => wpAny _ _ (pyIter xv) (fun it s₂ => TurnsAt _ _ _ _ _ _ _ _ _ it s₂) _ s₁) _ _); refine hold ?_)
  k_with "setItem ref str" => (k_here; k_dflt (refine' kda_set (knd := PySem.strKind _ _) ?F ?N ?U ?d (strKind_is _ _ _ _) ?z ?_; (case F => k_asm); (case N => k_asm); (case U => k_updF); (case d => k_asm); (case z => assumption)); intro zh' zo' zF' zN' zhd'; (try dsimp only at zN'))
  k_with "call builtin:isinstance" => (k_here; refine hold ?_)
  trivial

theorem thingS (w : World) (mean : ExcName → Option Value) (mg mb : Str → Option Value) (d : Nat) (hd2 : d ≤ 1) (IH : ThingSpec w mean mg mb d) : ThingSpec w mean mg mb (d + 1) := by
  w_top off
  intro A₀ base h₀ outer L m s dp un gd cn cs a ccd cl Q E dice sc items ns k z n1 n2 t1 t2 rest B F X N T hk hi hl k0 k1 hz dsc hrest hd hu hQ
  have hC0 := thC_pos d
  have hz0 : 0 < z := by omega
  simp only [thC] at k1 hQ
  refine wpAny_call ?_
  k_dflt k_enter
  k_steps
  · rename (_ < _ ∧ _) => lo
    rename Fr h₀ L _ _ => kF
    rename News h₀ L _ _ => kN
    exact hQ _ _ _ _ _ _ _ _ [_] kF (News.drop2 kN) (by omega) (by omega) (.head _) (.inl ⟨_, _, rfl, rfl⟩) (Apart.cons (ne_of_allLt lo.2.2) Apart.nil)
  · refine unhold ?_
    rename (_ < _ ∧ _ < _ ∧ AllLt _ rest) => lo0
    rename IsRange _ _ _ _ _ _ _ _ => hR
    rename (_ : Int) < 4 => hv1
    rename (0 : Int) ≤ _ => hv0
    rename News _ _ _ _ => hN
    rename Fr _ _ _ _ => hF
    refine thing_src (k := k + 1 + 1) w d rfl hF hN hR hv0 (by omega) ?step ?fin
    case step =>
      intro i' ys' nw' v' I' oI' C' oC' D' m2' h' tk' E' s2' hi' hP' hv' hC' hx' F' N' off' ne'
      obtain ⟨k', t', tl', ps', e', hk1', hk2', hys', hps', hap'⟩ := hP'
      subst e'
      obtain ⟨tv', hv'⟩ := hv'
      subst hv'
      have off2' := off'.mem
      have offc1 := off2' (_, _) (List.mem_append_right _ (.head _))
      have offc2 := off2' (_, _) (List.mem_append_right _ (.tail _ (.head _)))
      have offd := off2' (_, _) (List.mem_append_right _ (.tail _ (.tail _ (.head _))))
      have offs := off2' (_, _) (List.mem_append_right _ (.tail _ (.tail _ (.tail _ (.head _)))))
      have N2 := News.regroup N'
      clear N' hN hF hR
      have hne2 : ∀ p ∈ tl' ++ rest, p.1 ≠ dice := fun p hp => by
        rcases List.mem_append.mp hp with hp | hp
        · exact hap' p hp _ (.tail _ (.tail _ (.head _)))
        · exact hrest p hp
      generalize htr : tl' ++ rest = rest2 at N2 hne2
      simp only at offc1 offc2 offd offs
      (try k_fold)
      k_steps
      refine unhold ?_
      refine IH.use (rest := (I', oI') :: (C', oC') :: (D', LCg.lst ys') :: _ :: _ :: rest2) (by k_asm) (by k_asm) (by k_asm) (News.toFront (by k_asm)) (by k_asm) rfl hi hl (by omega) ?_ ?_ dsc ?_ ?_ ?_ ?_
      · have hm : thC d * (i' : Int) ≤ thC d * 2 := Int.mul_le_mul_of_nonneg_left (by omega) (by omega)
        omega
      · omega
      · intro p hp
        simp only [List.mem_cons] at hp
        rcases hp with rfl | rfl | rfl | rfl | rfl | hp
        · exact Ne.symm offd.1
        · exact Ne.symm offd.2.1
        · exact Ne.symm offd.2.2
        · exact Nat.ne_of_gt (by omega)
        · exact Nat.ne_of_gt (by omega)
        · exact hne2 p hp
      · show dp + 1 + 2 * (d + 1) < 500
        omega
      · show un + 3 + 16 * (d + 1) < 1000
        omega
      · intro h2 tk2 t3 k2 r2 v2 wt2 t2' tl2 F2 N2 hk2a hk2b hr2 hth2 hap2
        subst htr
        refine LCg.CompEnd.intro F2 N2 ((tl2 ++ tl') ++ _ :: _ :: (dice, listOf #[.ref sc, .int k2 t3] n1) :: (sc, listOf items.toArray n2) :: rest) ?_ (LCg.Off3.of ?_) True.intro
          ⟨k2, t3, tl2 ++ tl', ps' ++ [(v2, wt2)], rfl, by omega, ?_, by simp [hys'], ?_, ?_⟩
        · intro p hp
          simp only [List.mem_cons, List.mem_append] at hp ⊢
          grind
        · intro p hp
          rcases List.mem_append.mp hp with hp | hp
          · rcases List.mem_append.mp hp with hp | hp
            · exact ⟨hap2 p hp (I', oI') (by simp), hap2 p hp (C', oC') (by simp), hap2 p hp (D', LCg.lst ys') (by simp)⟩
            · exact off'.mem p (List.mem_append_left _ hp)
          · rcases List.mem_cons.mp hp with rfl | hp
            · exact offc1
            · rcases List.mem_cons.mp hp with rfl | hp
              · exact offc2
              · rcases List.mem_cons.mp hp with rfl | hp
                · exact offd
                · exact off'.mem p (List.mem_append_right _ (.tail _ (.tail _ (.tail _ hp))))
        · have : thC d * ((i' + 1 : Nat) : Int) = thC d * (i' : Int) + thC d := by rw [Int.natCast_add, Int.mul_add]; simp
          omega
        · exact Parts.snoc rfl (List.mem_append_left _ hr2) (hth2.mono fun p hp => List.mem_append_left _ hp) (hps'.mono (fun p hp => List.mem_append_right _ hp) fun v n hv => hv.mono fun p hp => List.mem_append_right _ hp)
        · exact Apart.append (hap2.sub (fun p hp => hp) fun q hq => by simp only [List.mem_cons, List.mem_append] at hq ⊢; grind) (hap'.keys rfl)
    case fin =>
      intro ys' nw' s2' hs' hP'
      obtain ⟨k', t', tl', ps', e', hk1', hk2', hys', hps', hap'⟩ := hP'
      subst e'
      obtain ⟨g2', hs'⟩ := hs'
      subst hs'
      unfold LCg.FinA
      intro D' h' tk' F' N' o1'
      rw [← hys'] at hk2'
      have hy3 : ys'.length ≤ 3 := by omega
      have hm : thC d * (ys'.length : Int) ≤ thC d * 3 := Int.mul_le_mul_of_nonneg_left (by omega) (by omega)
      have hk3 : k' ≤ k + (2 + 3 * thC d) := by omega
      have htk1 : ps'.take ys'.length = ps' := by rw [← hps'.len, List.take_length]
      have htk2 : sumObj (ps'.take ys'.length) = sumObj ps' := by rw [htk1]
      have htk : sumAll (ps'.take ys'.length) = sumAll ps' := by rw [← hps'.len, List.take_length]
      clear hm
      have bs3 : ∀ q ∈ (dice, listOf #[.ref sc, .int k' t'] n1) :: (sc, listOf items.toArray n2) :: rest, q ∈ (dice, listOf #[.ref sc, .int k' t'] n1) :: (sc, listOf items.toArray n2) :: (tl' ++ rest) := fun q hq => by
        simp only [List.mem_cons, List.mem_append] at hq ⊢; grind
      have lo1 := lt_of_lo (d := (dice, listOf #[.ref sc, .int k' t'] n1)) (e := (sc, listOf items.toArray n2)) lo0
      clear hN hF hR
      have N2 := News.look0 N'
      have o2' := off1_mem o1'
      clear N'
      have hs2 : ∀ p ∈ tl', p ∈ tl' ++ rest := fun p hp => List.mem_append_left _ hp
      generalize htr : tl' ++ rest = rest2 at N2 hs2 bs3
      (try dsimp only)
      (try k_fold)
      k_steps
      · refine unhold ?_
        rename Fr _ _ _ _ => lF'
        rename News _ _ _ _ => lN'
        (with_unfolding_all refine' For_turns lF' ?_)
        k_whole
        k_steps
        refine unhold ?_
        refine for_inv (vs := ys') (SumJ _ _ ps') (by rfl) rfl lF' lN' (.head _) rfl rfl (SumJ.of rfl (by simp [sumAll]) (fun y _ _ _ => rfl)) ?_ ?_
        · intro i' v' m1' nw' h1' tk1' I' oI' hv' hJ' hI' hc' F1 N1
          obtain ⟨rfl, t', vo', mo', rfl⟩ := hJ'
          obtain ⟨r, u, a', n', rfl, hmem, hps, hR⟩ := hps'.get hv'
          have hT : IsTup h1' r #[a', .int n' u] := News.isTup N1 (.tail _ (.tail _ (.tail _ (.tail _ (.tail _ (.tail _ (htr ▸ List.mem_append_left _ hmem)))))))
          clear lF' lN'
          k_steps
          refine unhold ?_
          rename Fr _ _ _ _ => kF
          rename News _ _ _ _ => kN
          refine UnrEndW.head kF kN (fun q hq => @Nat.ne_of_lt q.1 I' (hI' q hq)) ⟨.head _, SumJ.of rfl (sumAll_take hps).symm ?_⟩
          intro y e1 e2 e3
          simp only [e1, e2, e3, if_false]
        · intro h1' tk1' m1' nw' F1 N1 hJ'
          obtain ⟨rfl, t', vo', mo', rfl⟩ := hJ'
          clear lF' lN'
          k_steps
          refine unhold ?_
          rename Fr _ _ _ _ => lF'
          rename News _ _ _ _ => lN'
          refine pair_src rfl lF' lN' (by k_mem) (by omega) hps' (fun p hp => by repeat (first | exact hs2 p hp | apply List.Mem.tail)) (fun _ => rfl) (fun _ => rfl) (by decide) ?_
          intro s3 hs3
          obtain ⟨g3, rfl⟩ := hs3
          unfold LCg.FinE
          intro D3 h3 tk3 F3 N3 o3
          clear lF' lN'
          have o3' := off1_mem o3
          clear o3
          (try dsimp only)
          k_steps
          all_goals (rename Fr h₀ L _ _ => kF; rename News h₀ L _ _ => kN; repeat (rename _ ∧ _ => hcj; cases hcj))
          all_goals refine hQ _ _ _ _ _ _ _ _ _ kF (News.fin7 kN htr) (by omega) hk3 (.head _) (.inr (.inl ⟨_, _, _, _, _, _, _, ps', rfl, .tail _ (.head _), .tail _ (.tail _ (.head _)), .tail _ (.tail _ (.tail _ (.head _))), hps'.len ▸ hy3, fun p hp => (hps'.all p hp).mono (fun q hq => .tail _ (.tail _ (.tail _ (.tail _ (.tail _ (.tail _ (.tail _ hq))))))), ?_⟩)) ?_
          · unfold most1; rw [← htk]; split <;> omega
          · refine Apart.gt lo1 (by omega) (Apart.gt lo1 (by omega) (Apart.gt lo1 (by omega) (Apart.off o3' ?_ (Apart.gt lo1 (by omega) (Apart.gt lo1 (by omega) (Apart.off o2' ?_ (hap'.sub (fun p hp => hp) (fun q hq => .tail _ (.tail _ hq)))))))))
            · exact fun q hq => .tail _ (.tail _ (.tail _ (.tail _ (.tail _ (bs3 q hq)))))
            · exact fun q hq => List.mem_append_right _ (.tail _ (.tail _ hq))
          · unfold most1; rw [← htk]; split <;> omega
          · refine Apart.gt lo1 (by omega) (Apart.gt lo1 (by omega) (Apart.gt lo1 (by omega) (Apart.off o3' ?_ (Apart.gt lo1 (by omega) (Apart.gt lo1 (by omega) (Apart.off o2' ?_ (hap'.sub (fun p hp => hp) (fun q hq => .tail _ (.tail _ hq)))))))))
            · exact fun q hq => .tail _ (.tail _ (.tail _ (.tail _ (.tail _ (bs3 q hq)))))
            · exact fun q hq => List.mem_append_right _ (.tail _ (.tail _ hq))
      · refine unhold ?_
        rename Fr _ _ _ _ => lF'
        rename News _ _ _ _ => lN'
        rename Obj.IsDictOf (PySem.strKind _ _) _ _ => hds
        rename (_ == sysModules) = false => hsm
        rename (_ ∧ _ ∧ _ ∧ _ ∧ _ ∧ AllLt _ rest2) => lod
        (with_unfolding_all refine' For_turns lF' ?_)
        k_whole
        k_steps
        refine unhold ?_
        refine for_enum (vs := ys') (RecJ w _ _ _ ps') (by rfl) rfl lF' lN' (.tail _ (.head _)) rfl rfl (RecJ.of hds rfl (by simp) rfl (by simp [sumObj]) (fun y _ _ _ _ => rfl)) ?_ ?_
        · intro i' v' T' u' m1' nw' h1' tk1' I' oI' oE' hv' hT' hJ' hI' F1 N1
          obtain ⟨o', kvs', rfl, hd', e1', e2', t', ao', vo', mo', rfl⟩ := hJ'
          obtain ⟨r, u, a', n', rfl, hmem, hps, hR⟩ := hps'.get hv'
          have hI1 := hI' _ (.head _)
          have N2' := News.ins3 N1 (.tail _ (.tail _ (.tail _ (.tail _ (.tail _ (hs2 _ hmem))))))
          have hne := rec_ne N2' lod (hs2 _ hmem)
          have hkd : Kind rest2 a' := hR.kind.mono hs2
          have hlen : kvs'.length = (abc.take i').length := by rw [← e1', List.length_map]
          have hi3 : i' < 3 := by
            have := (List.getElem?_eq_some_iff.mp hv').1
            omega
          have hz : kvs'.length ≤ sizeLine := by
            have : sizeLine = 16777216 := by decide +kernel
            have : (abc.take i').length ≤ 3 := by simp only [List.length_take]; exact Nat.min_le_right _ _
            omega
          clear lF' lN' N1
          have hof := off_two hI'
          clear hI'
          obtain ⟨hs1, hs3⟩ := rec_sum hps
          rcases i' with _ | _ | _ | i'
          · have hT1 : IsTup h1' T' #[.int 0 u', .ref r] := hT'
            clear hT'
            k_steps
            refine unhold ?_
            refine' isint_any ?F ?X ?N ?T ?K ?_
            case F => k_asm
            case X => k_asm
            case N => k_asm
            case T => k_asm
            case K => exact hkd.mono (fun p hp => by repeat (first | exact hp | apply List.Mem.tail))
            intro _
            k_steps
            all_goals (refine unhold ?_; rename Fr _ _ _ _ => kF; rename News _ _ _ _ => kN; rename Obj.IsDictOf (PySem.strKind _ _) _ (stored _ _ _) => hd2; obtain ⟨q1, q2⟩ := rec_new e1' e2' rfl hps)
            all_goals refine UnrEndW.head2 kF (News.del3 kN) (hof _) ⟨.tail _ (.head _), RecJ.of hd2 q1 q2 rfl ?_ ?_⟩
            all_goals first | (intro y a1 a2 a3 a4; simp only [a1, a2, a3, a4, if_false]; done) | exact hs1 (by assumption) | exact hs3 (by assumption) | exact hs3 (by simpa using (by assumption : ¬ scal a' = true))
          · have hT1 : IsTup h1' T' #[.int 1 u', .ref r] := hT'
            clear hT'
            k_steps
            refine unhold ?_
            refine' isint_any ?F ?X ?N ?T ?K ?_
            case F => k_asm
            case X => k_asm
            case N => k_asm
            case T => k_asm
            case K => exact hkd.mono (fun p hp => by repeat (first | exact hp | apply List.Mem.tail))
            intro _
            k_steps
            all_goals (refine unhold ?_; rename Fr _ _ _ _ => kF; rename News _ _ _ _ => kN; rename Obj.IsDictOf (PySem.strKind _ _) _ (stored _ _ _) => hd2; obtain ⟨q1, q2⟩ := rec_new e1' e2' rfl hps)
            all_goals refine UnrEndW.head2 kF (News.del3 kN) (hof _) ⟨.tail _ (.head _), RecJ.of hd2 q1 q2 rfl ?_ ?_⟩
            all_goals first | (intro y a1 a2 a3 a4; simp only [a1, a2, a3, a4, if_false]; done) | exact hs1 (by assumption) | exact hs3 (by assumption) | exact hs3 (by simpa using (by assumption : ¬ scal a' = true))
          · have hT1 : IsTup h1' T' #[.int 2 u', .ref r] := hT'
            clear hT'
            k_steps
            refine unhold ?_
            refine' isint_any ?F ?X ?N ?T ?K ?_
            case F => k_asm
            case X => k_asm
            case N => k_asm
            case T => k_asm
            case K => exact hkd.mono (fun p hp => by repeat (first | exact hp | apply List.Mem.tail))
            intro _
            k_steps
            all_goals (refine unhold ?_; rename Fr _ _ _ _ => kF; rename News _ _ _ _ => kN; rename Obj.IsDictOf (PySem.strKind _ _) _ (stored _ _ _) => hd2; obtain ⟨q1, q2⟩ := rec_new e1' e2' rfl hps)
            all_goals refine UnrEndW.head2 kF (News.del3 kN) (hof _) ⟨.tail _ (.head _), RecJ.of hd2 q1 q2 rfl ?_ ?_⟩
            all_goals first | (intro y a1 a2 a3 a4; simp only [a1, a2, a3, a4, if_false]; done) | exact hs1 (by assumption) | exact hs3 (by assumption) | exact hs3 (by simpa using (by assumption : ¬ scal a' = true))
          · omega
        · intro h1' tk1' m1' nw' F1 N1 hJ'
          obtain ⟨o', kvs', rfl, hd', e1', e2', t', ao', vo', mo', rfl⟩ := hJ'
          clear lF' lN'
          k_steps
          all_goals (rename Fr h₀ L _ _ => kF; rename News h₀ L _ _ => kN; repeat (rename _ ∧ _ => hcj; cases hcj))
          all_goals refine hQ _ _ _ _ _ _ _ _ _ kF (News.fin5 kN htr) (by omega) hk3 (.head _) (.inr (.inr ⟨_, _, _, _, _, o', kvs', ps', rfl, .tail _ (.head _), .tail _ (.tail _ (.head _)), ⟨.tail _ (.tail _ (.tail _ (.head _))), hsm, hd', by rw [e2', htk1]⟩, hps'.len ▸ hy3, fun p hp => (hps'.all p hp).mono (fun q hq => .tail _ (.tail _ (.tail _ (.tail _ (.tail _ hq))))), ?_⟩)) ?_
          · unfold most1; rw [← htk2]; split <;> omega
          · refine Apart.gt lo1 (by omega) (Apart.gt lo1 (by omega) (Apart.gt lo1 (by omega) (Apart.gt lo1 (by omega) (Apart.off o2' ?_ (hap'.sub (fun p hp => hp) (fun q hq => .tail _ (.tail _ hq)))))))
            exact fun q hq => List.mem_append_right _ (.tail _ (.tail _ hq))
          · unfold most1; rw [← htk2]; split <;> omega
          · refine Apart.gt lo1 (by omega) (Apart.gt lo1 (by omega) (Apart.gt lo1 (by omega) (Apart.gt lo1 (by omega) (Apart.off o2' ?_ (hap'.sub (fun p hp => hp) (fun q hq => .tail _ (.tail _ hq)))))))
            exact fun q hq => List.mem_append_right _ (.tail _ (.tail _ hq))
end Mine
namespace Mine
section
variable {prog : Program} {w : World} {A : Around} {E : Value → Shared → Prop} {s : Shared} {h₀ : Heap} {L : Addr} {m : Str → Option Value} {env : Env} {K : Type} [DecidableEq K] {knd : KeyKind prog w K}

/-- the source of a comprehension with one test over a dict's values -/
noncomputable def ValSrc (prog : Program) (w : World) {K : Type} [DecidableEq K] (knd : KeyKind prog w K) (A : Around) (h₀ : Heap) (L : Addr) (m : Str → Option Value) (env : Env) (ct elt : Expr) (x : Str) (scope : Scope) (cl : List (Str × Addr)) (Fin : Shared → List Value → List (Addr × Obj) → Prop) (xv : Value) (s₁ : Shared) : Prop :=
  ∃ vw d od, ∃ kvs : List (K × Value), ∃ news, xv = .ref vw ∧ A.handled = none ∧ Fr h₀ L s₁.heap m ∧ News h₀ L s₁.heap news ∧ s₁.heap.IsValuesView vw d ∧ (d, od) ∈ news ∧ od.IsDictOf knd kvs ∧ kvs.length ≤ sizeLine ∧
    ∀ s₂ : Shared, (∃ h, s₂ = { s₁ with heap := h }) → LCt.CompRestT prog w A h₀ L m env ct elt x scope cl s₂ (fun nw => (d, od) ∈ nw) (fun i v => ∃ k, kvs[i]? = some (k, v)) (Fin s₂) kvs.length 0 [] news

theorem valiter_obj {h : Heap} {I d : Addr} {i n ep : Nat} (x : h.IsValIter I d i n ep) : ∃ o, h.get? I = some o := ⟨_, x.choose_spec.1⟩

theorem Assign_comp_values {ct elt iter : Expr} {x y : Str} {px py : Pos} {scope : Scope} {cl : List (Str × Addr)} {pos spos : Pos} {Q : Flow → Shared → Prop} (F₀ : Fr h₀ L s.heap m) (hLe : env.locals = L)
    (hsw : swapsWith (.ListComp elt [⟨.Name x px, iter, [ct], 0⟩] scope pos) (some (.Name y py)) spos.line env = pure true)
    (hclos : closureFor scope env = pure cl) (hcell : ∀ z ∈ scope.names, z.2 ≠ .cell) (hkind : scope.kind = .function)
    (hnames : ∀ z ∈ scope.names, z.2 = .local → scope.names.lookup z.1 = some .local) (hx : scope.names.lookup x = some .local)
    (hy : env.kindOf y = some .local) (hp : (env.scope.kind == .class || (env.scope.kind == .module && env.locals != env.globals)) = false)
    (h : wpAny (model prog w) A (eval iter env) (ValSrc prog w knd A h₀ L m env ct elt x scope cl (fun s₂ => LCg.FinA h₀ L m s₂ y Q)) E s)
    (hs : ∀ x, foldedSetIterable iter env x = pure x := by intro _; rfl) :
    wpAny (model prog w) A (exec (.Assign [.Name y py] (.ListComp elt [⟨.Name x px, iter, [ct], 0⟩] scope pos) spos) env) Q E s := by
  subst hLe
  rw [exec_Assign_Name_used _ _ _ _ hsw]
  refine wpAny_bind (wpAny_standAt (wpAny_bind ?_))
  show wpAny _ A (do let _ ← comprehension (.ListComp elt [⟨.Name x px, iter, [ct], 0⟩] scope pos) scope env _ (newList []) false (eval iter env) (some (assign (.Name y py) env))) _ _ s
  refine wpAny_bind (wpAny_mono (wpAny_comprehension_free (use := some (assign (.Name y py) env)) (Q := fun _ s' => Q .next s') rfl hs hclos hkind hnames
    (wpAny_mono h (fun xv s₁ h₁ => ?_) fun _ _ e => e)) (fun _ s' hq => wpAny_pure (wpAny_pure hq)) fun _ _ e => e)
  obtain ⟨vw, d, od, kvs, news, rfl, hh, F, N, hv, hm, hd, hsz, R⟩ := h₁
  obtain ⟨es, ep, hrr⟩ := hd
  have hat' : ∀ h' : Heap, h'.get? d = some od → h'.DictAt knd d kvs ep := fun h' e => ⟨od, es, e, hrr⟩
  have hat := hat' _ (N _ hm).1
  have hlt : d < s₁.heap.objs.size := Heap.lt_size (N _ hm).1
  refine wpAny_pyIter_values hv hat ?_
  refine LCt.block_T (Walks.dictValues (knd := knd) hh s₁.heap.objs.size d (Nat.ne_of_lt hlt) kvs ep) hsz (fun i h st => valiter_obj st.1) (fun i h h' o nw st e e' k N' S => ?_) hcell hkind hx
    ⟨⟨_, Heap.get?_push_size _ rfl, rfl, rfl⟩, hat.push _⟩ (fun b hb => ?_)
    (F.keeps fun b o e => Heap.get?_push_of_some _ e) (N.grown fun b o e => Heap.get?_push_of_some _ e) (Nat.ne_of_lt F.ns.lt) (next_is_new F) (fun p hp => Nat.ne_of_lt (Heap.lt_size (N p hp).1)) hm (R _ ⟨_, rfl⟩) ?_
  · refine ⟨?_, ?_⟩
    · obtain ⟨o', q, r⟩ := st.1
      rw [e] at q
      cases q
      exact ⟨o, e', r⟩
    · exact hat' _ (N' _ S).1
  · show b < (s₁.heap.push _).objs.size
    rw [Heap.size_push]
    rcases List.mem_cons.mp hb with rfl | hb
    · exact Nat.lt_succ_self _
    · rw [List.mem_singleton.mp hb]; exact Nat.lt_succ_of_lt hlt
  · intro D C h' tk m' ys news' F' N' o1 hn hC₀ hD₀ hCL hDL hCD offC fin
    show wpAny _ A (assign (.Name y py) env (.ref D)) _ _ _
    refine wpAny_assign_Name (wpAny_storeName_local hy F'.ns (fun h₂ hn₂ hs₂ => ?_) hp)
    have hL₀ : h₀.get? env.locals = none := Heap.get?_none_of_le F'.above
    have F₂ : Fr h₀ env.locals h₂ (fun z => if z = y then some (.ref D) else m z) := ⟨hn₂, fun b o e => hs₂.extBut b o (fun q => by rw [q, hL₀] at e; cases e) (F'.keep b o e), F'.above⟩
    refine ⟨m', hn.sameBut hs₂ hCL, fun h'' hs'' => fin D h'' _ (F₂.change hs'' hCL hC₀) (fun p hp => ?_) o1⟩
    have z : h₂.get? p.1 = some p.2 := hs₂.extBut _ _ (N' p hp).2.1 (N' p hp).1
    refine ⟨hs''.extBut _ _ ?_ z, (N' p hp).2⟩
    rcases List.mem_cons.mp hp with rfl | hp
    · exact Ne.symm hCD
    · exact offC p hp
end

noncomputable def KeepP (h₀ : Heap) (L : Addr) (m : Str → Option Value) (news : List (Addr × Obj)) (s₂ : Shared) (P : Prop) (s₃ : Shared) : Prop := ∃ h' tk', s₃ = { s₂ with heap := h', toks := tk' } ∧ Fr h₀ L h' m ∧ News h₀ L h' news ∧ P
section
variable {prog : Program} {w : World} {A : Around} {E : Value → Shared → Prop} {s : Shared} {h₀ : Heap} {L : Addr} {m : Str → Option Value} {env : Env} {K : Type} [DecidableEq K] {knd : KeyKind prog w K}
theorem val_src {ct elt : Expr} {x : Str} {scope : Scope} {cl : List (Str × Addr)} {Fin : Shared → List Value → List (Addr × Obj) → Prop} {vw d : Addr} {od : Obj} {kvs : List (K × Value)} {news : List (Addr × Obj)} {s₁ : Shared}
    (P : Nat → List Value → Prop)
    (hh : A.handled = none) (F : Fr h₀ L s₁.heap m) (N : News h₀ L s₁.heap news) (hv : (vw, ({ cls := .type "dict_values", data := .fields #[.ref d] } : Obj)) ∈ news) (hm : (d, od) ∈ news) (hd : od.IsDictOf knd kvs) (hn : kvs.length ≤ 100)
    (h0 : P 0 [])
    (step : ∀ (i : Nat) (zs : List Value) (v : Value) (I : Addr) (oI : Obj) (C : Addr) (oC : Obj) (D : Addr) (m₂ : Str → Option Value) (h : Heap) (tk : Nat) (E' : Value → Shared → Prop) (s₂ : Shared), (kvs.map (·.2))[i]? = some v → P i zs → LCg.NsObj oC m₂ → m₂ x = some v → Fr h₀ L h m →
      News h₀ L h ((I, oI) :: (C, oC) :: (D, LCg.lst zs) :: news) →
      wpAny (model prog w) A (isTrue ct (compEnvC scope cl C env) (eval ct (compEnvC scope cl C env))) (fun ok s' => if ok = true then
        wpAny (model prog w) A (eval elt (compEnvC scope cl C env)) (fun y s₃ => KeepP h₀ L m ((I, oI) :: (C, oC) :: (D, LCg.lst zs) :: news) s₂ (P (i + 1) (zs ++ [y])) s₃) E' s'
        else KeepP h₀ L m ((I, oI) :: (C, oC) :: (D, LCg.lst zs) :: news) s₂ (P (i + 1) zs) s') E' { s₂ with heap := h, toks := tk })
    (fin : ∀ zs s₂, (∃ h, s₂ = { s₁ with heap := h }) → P kvs.length zs → Fin s₂ zs news) :
    ValSrc prog w knd A h₀ L m env ct elt x scope cl Fin (.ref vw) s₁ := by
  have hsl : kvs.length ≤ sizeLine := by
    have : sizeLine = 16777216 := by decide +kernel
    omega
  refine ⟨vw, d, od, kvs, news, rfl, hh, F, N, ⟨_, (N _ hv).1, rfl, rfl⟩, hm, hd, hsl, fun s₂ ⟨g, e⟩ => ?_⟩
  subst e
  have all : ∀ (j i : Nat) (zs : List Value), i + j = kvs.length → P i zs →
      LCt.CompRestT prog w A h₀ L m env ct elt x scope cl { s₁ with heap := g } (fun nw => (d, od) ∈ nw) (fun i v => ∃ k, kvs[i]? = some (k, v)) (Fin { s₁ with heap := g }) j i zs news := by
    intro j
    induction j with
    | zero =>
      intro i zs e p
      obtain rfl : i = kvs.length := by omega
      exact fin zs _ ⟨g, rfl⟩ p
    | succ j ih =>
      intro i zs e p
      refine LCt.CompRestT.succ fun v I oI C oC D m₂ h tk E' hv' hC hx F' N' off ne => ?_
      obtain ⟨k', hk'⟩ := hv'
      refine wpAny_mono (step i zs v I oI C oC D m₂ h tk E' _ (by rw [List.getElem?_map, hk']; rfl) p hC hx F' N') (fun ok s₃ h₃ => ?_) fun _ _ e => e
      cases ok with
      | true =>
        simp only [if_true] at h₃ ⊢
        refine wpAny_mono h₃ (fun y s₄ h₄ => ?_) fun _ _ e => e
        obtain ⟨h', tk', rfl, e2, e3, e4⟩ := h₄
        exact LCg.CompEnd.intro e2 e3 news (fun p hp => hp) off hm (ih (i + 1) _ (by omega) e4)
      | false =>
        simp only [Bool.false_eq_true, if_false] at h₃ ⊢
        obtain ⟨h', tk', rfl, e2, e3, e4⟩ := h₃
        exact LCg.CompEnd.intro e2 e3 news (fun p hp => hp) off hm (ih (i + 1) _ (by omega) e4)
  exact all kvs.length 0 [] (by omega) h0
end
theorem filt_snoc {ps : List (Value × Int)} {i : Nat} {p : Value × Int} {zs : List Value} (h : ps[i]? = some p) (hz : zs = ((ps.take i).filter fun q => !scal q.1).map (·.1)) :
    (scal p.1 = false → zs ++ [p.1] = ((ps.take (i + 1)).filter fun q => !scal q.1).map (·.1)) ∧ (scal p.1 = true → zs = ((ps.take (i + 1)).filter fun q => !scal q.1).map (·.1)) := by
  obtain ⟨hi, e⟩ := List.getElem?_eq_some_iff.mp h
  rw [List.take_succ_eq_append_getElem hi, e, List.filter_append, List.map_append, hz]
  exact ⟨fun h => by simp [List.filter, h], fun h => by simp [List.filter, h]⟩
theorem sum_filt {ps : List (Value × Int)} : sumAll (ps.filter fun q => !scal q.1) = sumObj ps := by
  unfold sumAll sumObj
  induction ps with
  | nil => rfl
  | cons p ps ih =>
    cases h : scal p.1
    · rw [List.filter_cons_of_pos (by simp [h])]
      simp [h, ih]
    · rw [List.filter_cons_of_neg (by simp [h])]
      simp [h, ih]
end Mine
namespace Mine
theorem rules_T6_1 : True := by
  k_with_none
  k_with "eval Call" => (k_fold; walk1)
  k_with "eval Compare" => (k_fold; walk1)
  k_with "eval BinOp" => (k_fold; walk1)
  k_with "eval Subscript" => (k_fold; walk1)
  k_with "eval IfExp" => (k_fold; walk1)
  k_with "eval Tuple" => (k_fold; walk1)
  k_with "eval List" => (k_fold; walk1)
  k_with "eval BoolOp" => (k_fold; walk1)
  k_with "execs cons" => (k_here; (try dsimp only); (with_reducible refine flat ?_); intro ztk'; (with_reducible refine wpAny_execs_cons ?_); (try dsimp only); (try k_fold))
  trivial
theorem rules_T6_2 : True := by
  k_with "my all" => (assumption)
  k_with "my enter" => (refine' code_def ?k1 ?k2 ?k3 ?k4 ?k5 ?kA ?kF ?kK ?k6 ?k7 ?k8 ?k9 ?kB ?_ ?c2 ?c3 ?c4 ?c5; (case kA => exact rfl); (case kF => exact rfl); (case kK => first | assumption | exact rfl); (case k1 => k_asm); (case k2 => k_asm); (case k3 => k_asm); (case k4 => k_asm); (case k5 => k_asm); (case k6 => k_is); (case k7 => k_is); (case k8 => ktr_room); (case k9 => first | exact BindsTo.of_eq rfl | exact binds_K (by k_in) rfl (by k_is) rfl rfl rfl); (case c5 => decide); (case kB => exact locs rfl); (case c2 => exact rfl); (case c3 => exact rfl); (case c4 => exact rfl); k_whole; intro zg' zL' zh' zFG' zF' zN' zB' zX' zT'; (try dsimp only); (try k_fold))
  k_with "my enter" => (refine' code_defC ?k1 ?k2 ?k3 ?k4 ?k5 ?kA ?kF ?kK ?k6 ?k7 ?k8 ?k9 ?kB ?kD ?_ ?c2 ?c3 ?c4; (case kA => exact rfl); (case kF => exact rfl); (case kK => first | assumption | exact rfl); (case k1 => k_asm); (case k2 => k_asm); (case k3 => k_asm); (case k4 => k_asm); (case k5 => k_asm); (case k6 => k_is); (case k7 => k_is); (case k8 => ktr_room); (case k9 => exact BindsTo.of_eq rfl); (case kB => exact rfl); (case kD => decide +kernel); (case c2 => exact rfl); (case c3 => exact rfl); (case c4 => exact rfl); k_whole; intro zg' zL' zh' ztk' zcells' zFG' zF' zN' zY' zB' zX' zT' zl1; (try k_lt zl1); k_cells zY'; (try simp only [List.cons_append, List.nil_append] at zN'); (try dsimp only); (try k_fold))
  k_with "call ref" => (k_here; (with_reducible show wpAny _ _ (call (Value.ref 406) [Value.ref _, Value.int _ _]) _ _ _); k_dflt (refine' cast_app ?B ?F ?X ?N ?T ?hk ?hi ?hl ?hm ?U ?k0 ?k1 ?hs ?hs2 ?hne ?hd ?hu ?_; (case B => k_asm); (case F => k_asm); (case X => k_asm); (case N => k_asm); (case T => k_asm); (case hk => first | exact rfl | assumption); (case hi => assumption); (case hl => assumption); (case hm => k_mem); (case U => intro zt'; k_upd)); (case k0 => omega); (case k1 => omega); (case hs => omega); (case hs2 => omega); (case hne => k_ne); (case hd => ktr_room); (case hu => ktr_room); k_whole; intro zh' ztk' zt3' zt4' zv' zF' zN' zv0' zv1'; (try k_sweep); walk_say "CAST")
  k_with "CompSrc" => (refine hold ?_)
  k_with "CompEnd" => (refine hold ?_)
  trivial


section
variable {prog : Program} {w : World} {A : Around} {E : Value → Shared → Prop} {s : Shared} {h₀ : Heap} {L : Addr} {m : Str → Option Value} {env : Env}
/-- a comprehension over a list of the ledger -/
theorem src_list {elt : Expr} {x : Str} {scope : Scope} {cl : List (Str × Addr)} {Fin : Shared → List Value → List (Addr × Obj) → Prop} {ax : Addr} {ys : List Value} {k : Nat} {news : List (Addr × Obj)} {s₁ : Shared}
    (P : Nat → List Value → Prop)
    (hh : A.handled = none) (F : Fr h₀ L s₁.heap m) (N : News h₀ L s₁.heap news) (hm : (ax, ({ cls := .type "list", data := .seq ys.toArray k } : Obj)) ∈ news) (hn : ys.length ≤ 100)
    (h0 : P 0 [])
    (step : ∀ (i : Nat) (zs : List Value) (v : Value) (I : Addr) (oI : Obj) (C : Addr) (oC : Obj) (D : Addr) (m₂ : Str → Option Value) (h : Heap) (tk : Nat) (E' : Value → Shared → Prop) (s₂ : Shared), ys[i]? = some v → P i zs → LCg.NsObj oC m₂ → m₂ x = some v → Fr h₀ L h m →
      News h₀ L h ((I, oI) :: (C, oC) :: (D, LCg.lst zs) :: news) →
      wpAny (model prog w) A (eval elt (compEnvC scope cl C env)) (fun y s₃ => ∃ h' tk', s₃ = { s₂ with heap := h', toks := tk' } ∧ Fr h₀ L h' m ∧ News h₀ L h' ((I, oI) :: (C, oC) :: (D, LCg.lst zs) :: news) ∧ P (i + 1) (zs ++ [y])) E' { s₂ with heap := h, toks := tk })
    (fin : ∀ zs s₂, (∃ h, s₂ = { s₁ with heap := h }) → P ys.length zs → Fin s₂ zs news) :
    LCg.CompSrc prog w A h₀ L m env elt x scope cl Fin (.ref ax) s₁ := by
  have hsl : ys.toArray.size ≤ sizeLine := by
    have : sizeLine = 16777216 := by decide +kernel
    simp only [List.size_toArray]
    omega
  refine LCg.CompSrc.ledger hh F N hm hsl fun g => ?_
  have all : ∀ (j i : Nat) (zs : List Value), i + j = ys.length → P i zs →
      LCg.CompRest prog w A h₀ L m env elt x scope cl { s₁ with heap := g } (LCg.SrcAt h₀ ax ys.toArray) (fun i v => ys.toArray[i]? = some v) (Fin { s₁ with heap := g }) j i zs news := by
    intro j
    induction j with
    | zero =>
      intro i zs e p
      obtain rfl : i = ys.length := by omega
      exact fin zs _ ⟨g, rfl⟩ p
    | succ j ih =>
      intro i zs e p
      refine LCg.CompRest.succ fun v I oI C oC D m₂ h tk E' hv hC hx F' N' off ne => ?_
      refine wpAny_mono (step i zs v I oI C oC D m₂ h tk E' _ (by simpa using hv) p hC hx F' N') (fun y s₃ h₃ => ?_) fun _ _ e => e
      obtain ⟨h', tk', rfl, e2, e3, e4⟩ := h₃
      exact LCg.CompEnd.intro e2 e3 news (fun p hp => hp) off (.inr ⟨_, hm, rfl, _, rfl⟩) (ih (i + 1) _ (by omega) e4)
  have := all ys.length 0 [] (by omega) h0
  simpa using this
end

section
variable {w : World} {A : Around} {E : Value → Shared → Prop} {s : Shared} {h₀ : Heap} {L : Addr} {m : Str → Option Value} {news : List (Addr × Obj)} {mean : ExcName → Option Value} {mg mb : Str → Option Value} {Q : Value → Shared → Prop}
theorem isobj_any {v : Value} {tp : Addr} {n : Nat} (F : Fr h₀ L s.heap m) (X : (Mine.KK w.params).In h₀) (N : News h₀ L s.heap news) (T : Top Mine.vw loo mean mg mb h₀) (hv : Kind news v) (ht : (tp, ({ cls := .type "tuple", data := .seq #[.ref 162, .ref 183] n } : Obj)) ∈ news) (h : ∀ tk, Q (.bool (!scal v)) { s with toks := tk }) :
    wpAny (model PySem.Challenge.pw_pp0007_01 w) A (call (.builtin "isinstance") [v, .ref tp]) Q E s := by
  w_top off
  rcases hv with ⟨i, t, rfl⟩ | ⟨x, dx, od, rfl, h2 | h2, h3⟩
  · have N2 : News h₀ L s.heap [(tp, ({ cls := .type "tuple", data := .seq #[.ref 162, .ref 183] n } : Obj))] := News.sub N (fun p hp => by rw [List.mem_singleton.mp hp]; exact ht)
    k_steps
    exact h _
  · have N2 : News h₀ L s.heap [(tp, ({ cls := .type "tuple", data := .seq #[.ref 162, .ref 183] n } : Obj)), (x, instObj 162 dx), (dx, dictOf od 2)] := News.sub N (fun p hp => by simp only [List.mem_cons, List.not_mem_nil, or_false] at hp; rcases hp with rfl | rfl | rfl; exact ht; exact h2; exact h3)
    k_steps
    exact h _
  · have N2 : News h₀ L s.heap [(tp, ({ cls := .type "tuple", data := .seq #[.ref 162, .ref 183] n } : Obj)), (x, instObj 183 dx), (dx, dictOf od 2)] := News.sub N (fun p hp => by simp only [List.mem_cons, List.not_mem_nil, or_false] at hp; rcases hp with rfl | rfl | rfl; exact ht; exact h2; exact h3)
    k_steps
    exact h _
end

noncomputable def WeightSpec (w : World) (mean : ExcName → Option Value) (mg mb : Str → Option Value) (d : Nat) : Prop :=
  ∀ (A₀ : Around) (base h₀ : Heap) (outer : List Env) (L : Addr) (m : Str → Option Value) (s : Shared) (dp un : Nat) (gd : Option (List Code)) (cn : Str) (cs : Scope) (a : Addr) (ccd : Value) (cl : List (Str × Addr)) (Q E : Value → Shared → Prop)
    (v : Value) (wt : Int) (tl news : List (Addr × Obj)),
    Below A₀ base outer h₀ → Fr h₀ L s.heap m → (Mine.KK w.params).In h₀ → News h₀ L s.heap news → Top Mine.vw loo mean mg mb h₀ → cs.kind = .function →
    ThAt w d tl v wt → (∀ p ∈ tl, p ∈ news) → dp + 2 * (d + 1) < 500 → un + 16 * (d + 1) < 1000 →
    (∀ h' tk t, Fr h₀ L h' m → News h₀ L h' news → Q (.int wt t) { s with heap := h', toks := tk }) →
    wpAny (model PySem.Challenge.pw_pp0007_01 w) (ktrTop dp un gd cn cs L a ccd cl outer) (call (.ref 199) [v]) Q E s

section
variable {w : World} {mean : ExcName → Option Value} {mg mb : Str → Option Value} {A₀ : Around} {base h₀ : Heap} {outer : List Env} {L : Addr} {m : Str → Option Value}
  {s : Shared} {dp un : Nat} {gd : Option (List Code)} {cn : Str} {cs : Scope} {a : Addr} {ccd : Value} {cl : List (Str × Addr)} {Q E : Value → Shared → Prop}
theorem weight_int {i : Int} {t : Tok} {news : List (Addr × Obj)} (B : Below A₀ base outer h₀) (F : Fr h₀ L s.heap m) (X : (Mine.KK w.params).In h₀) (N : News h₀ L s.heap news) (T : Top Mine.vw loo mean mg mb h₀) (hk : cs.kind = .function)
    (hd : dp + 1 < 500) (hu : un + 8 < 1000) (hQ : ∀ h' tk t, Fr h₀ L h' m → News h₀ L h' news → Q (.int 1 t) { s with heap := h', toks := tk }) :
    wpAny (model PySem.Challenge.pw_pp0007_01 w) (ktrTop dp un gd cn cs L a ccd cl outer) (call (.ref 199) [.int i t]) Q E s := by
  w_top off
  refine wpAny_call ?_
  k_dflt k_enter
  k_steps
  rename Fr h₀ L _ _ => kF
  rename News h₀ L _ _ => kN
  exact hQ _ _ _ kF kN
end
section
variable {w : World} {mean : ExcName → Option Value} {mg mb : Str → Option Value} {A₀ : Around} {base h₀ : Heap} {outer : List Env} {L : Addr} {m : Str → Option Value}
  {s : Shared} {dp un : Nat} {gd : Option (List Code)} {cn : Str} {cs : Scope} {a : Addr} {ccd : Value} {cl : List (Str × Addr)} {Q E : Value → Shared → Prop}
theorem WeightSpec.use {d : Nat} {v : Value} {wt : Int} {tl news : List (Addr × Obj)} (C : WeightSpec w mean mg mb d) (B : Below A₀ base outer h₀) (F : Fr h₀ L s.heap m) (X : (Mine.KK w.params).In h₀) (N : News h₀ L s.heap news) (T : Top Mine.vw loo mean mg mb h₀) (hk : cs.kind = .function)
    (hth : ThAt w d tl v wt) (htl : ∀ p ∈ tl, p ∈ news) (hd : dp + 2 * (d + 1) < 500) (hu : un + 16 * (d + 1) < 1000)
    (hQ : ∀ h' tk t, Fr h₀ L h' m → News h₀ L h' news → Q (.int wt t) { s with heap := h', toks := tk }) :
    wpAny (model PySem.Challenge.pw_pp0007_01 w) (ktrTop dp un gd cn cs L a ccd cl outer) (call (.ref 199) [v]) Q E s :=
  C _ _ _ _ _ _ _ _ _ _ _ _ _ _ _ _ _ _ _ _ _ B F X N T hk hth htl hd hu hQ
theorem ints_snoc {ps : List (Value × Int)} {i : Nat} {p : Value × Int} {zs : List Value} {t : Tok} (h : ps[i]? = some p) (hz : IntsAre zs ((ps.take i).map (·.2))) : IntsAre (zs ++ [.int p.2 t]) ((ps.take (i + 1)).map (·.2)) := by
  obtain ⟨hi, e⟩ := List.getElem?_eq_some_iff.mp h
  rw [List.take_succ_eq_append_getElem hi, List.map_append, e]
  exact IntsAre.append hz (.cons _ _ .nil)
end
theorem max_most {ps : List (Value × Int)} : (if 1 > (ps.map (·.2)).sum then (1 : Int) else (ps.map (·.2)).sum) = most1 (sumAll ps) := by
  unfold most1 sumAll
  split <;> split <;> omega
theorem weight0 (w : World) (mean : ExcName → Option Value) (mg mb : Str → Option Value) : WeightSpec w mean mg mb 0 := by
  intro A₀ base h₀ outer L m s dp un gd cn cs a ccd cl Q E v wt tl news B F X N T hk hth htl hd hu hQ
  obtain ⟨i, t, rfl, rfl⟩ := hth
  exact weight_int B F X N T hk (by omega) (by omega) hQ

theorem rules_T6_3 : True := by
  k_with "call ref" => ((with_reducible show wpAny _ _ (call (Value.ref 199) _) _ _ _); refine hold ?_)
  k_with "exec Assign cons ListComp" => (k_here; k_dflt (refine Assign_comp_values (knd := PySem.strKind _ _) (F₀ := by k_asm) (by rfl) (by with_unfolding_all rfl) (by with_unfolding_all rfl) (by decide) (by rfl) (by decide) (by rfl) (by rfl) (by rfl) ?_))
  k_with "getMethod ref" => (k_here; (with_reducible show wpAny _ _ (getMethod (Value.ref _) (Str.ofString "values") _) _ _ _); k_dflt (refine kdl_method (knd := PySem.strKind _ _) PySem.F.slot_dict_values PySem.F.type_dict_values (by k_asm) (by k_mem) (by k_asm) ?_))
  k_with "call builtin:dict.values" => (k_here; (with_reducible show wpAny _ _ (call (Value.builtin "dict.values") [Value.ref _]) _ _ _); k_dflt (refine kdl_view_values (knd := PySem.strKind _ _) (by k_asm) (by k_asm) (by k_mem) (by k_asm) (by k_asm) ?_); intro zD' zh' zF' zN' zl1)
  k_with "call builtin:isinstance" => (k_here; (with_reducible show wpAny _ _ (call _ [Value.int _ _, _]) _ _ _); fail "no")
  k_with "call builtin:isinstance" => (k_here; (fail_if_success (with_reducible show wpAny _ _ (call _ [Value.ref _, _]) _ _ _)); (with_reducible show wpAny _ _ (call _ [_, Value.ref _]) _ _ _); refine hold ?_)
  trivial
theorem weightS (w : World) (mean : ExcName → Option Value) (mg mb : Str → Option Value) (d : Nat) (hd2 : d ≤ 1) (IH : WeightSpec w mean mg mb d) : WeightSpec w mean mg mb (d + 1) := by
  w_top off
  intro A₀ base h₀ outer L m s dp un gd cn cs a ccd cl Q E v wt tl news B F X N T hk hth htl hd hu hQ
  rcases hth with ⟨i, t, rfl, rfl⟩ | ⟨x, dx, b, l, tk1, tk2, n, ps, rfl, h2, h3, h4, h5, h6, rfl⟩ | ⟨x, dx, fd, tk1, tk2, o, kvs, ps, rfl, h2, h3, h4, h5, h6, rfl⟩
  · exact weight_int B F X N T hk (by omega) (by omega) hQ
  · have N2 : News h₀ L s.heap ((x, _) :: (dx, _) :: (l, _) :: news) := News.sub N (fun p hp => by
      simp only [List.mem_cons] at hp
      rcases hp with rfl | rfl | rfl | hp
      · exact htl _ h2
      · exact htl _ h3
      · exact htl _ h4
      · exact hp)
    clear N
    refine wpAny_call ?_
    k_dflt k_enter
    k_steps
    refine unhold ?_
    rename Fr _ _ _ _ => lF'
    rename News _ _ _ _ => lN'
    refine src_list (fun i zs => IntsAre zs ((ps.take i).map (·.2))) rfl lF' lN' (by k_mem) (by simp only [List.length_map]; omega) .nil ?step ?fin
    case step =>
      intro i' zs' v' I' oI' C' oC' D' m2' h' tk' E' s2' hv' hP' hC' hx' F' N'
      obtain ⟨p, hp1, hp2⟩ : ∃ p, ps[i']? = some p ∧ p.1 = v' := by
        rw [List.getElem?_map] at hv'
        exact Option.map_eq_some_iff.mp hv'
      subst hp2
      clear lF' lN'
      (try k_fold)
      k_steps
      refine unhold ?_
      refine IH.use (by k_asm) F' (by k_asm) N' (by k_asm) rfl (h6 p (List.mem_of_getElem? hp1)) (fun q hq => by repeat (first | exact htl q hq | apply List.Mem.tail)) ?_ ?_ ?_
      · show dp + 1 + 2 * (d + 1) < 500
        omega
      · show un + 3 + 16 * (d + 1) < 1000
        omega
      · intro h2 tk2 t2 F2 N2
        exact ⟨h2, tk2, rfl, F2, N2, ints_snoc hp1 hP'⟩
    case fin =>
      intro zs s2 hs2 hP'
      obtain ⟨g3, rfl⟩ := hs2
      rw [List.length_map, List.take_length] at hP'
      unfold LCg.FinE
      intro D3 h3 tk3 F3 N3 o3
      clear lF' lN'
      (try dsimp only)
      k_steps
      rename Fr h₀ L _ _ => kF
      rename News h₀ L _ _ => kN
      rw [max_most]
      exact hQ _ _ _ kF (News.sub kN fun p hp => by repeat (first | exact hp | apply List.Mem.tail))
  · have N2 : News h₀ L s.heap ((x, _) :: (dx, _) :: (fd, o) :: news) := News.sub N (fun p hp => by
      simp only [List.mem_cons] at hp
      rcases hp with rfl | rfl | rfl | hp
      · exact htl _ h2
      · exact htl _ h3
      · exact htl _ h4.1
      · exact hp)
    obtain ⟨-, hsm, hds, hkv⟩ := h4
    have hkl : kvs.length = ps.length := by rw [← List.length_map (f := (·.2)), hkv, List.length_map]
    clear N
    refine wpAny_call ?_
    k_dflt k_enter
    k_steps
    rename Fr _ _ _ _ => lF'
    rename News _ _ _ _ => lN'
    refine val_src (fun i zs => zs = ((ps.take i).filter fun q => !scal q.1).map (·.1)) rfl lF' lN' (.head _) (by k_mem) hds (by rw [hkl]; omega) rfl ?vstep ?vfin
    case vstep =>
      intro i' zs' v' I' oI' C' oC' D' m2' h' tk' E' s2' hv' hP' hC' hx' F' N'
      obtain ⟨p, hp1, hp2⟩ : ∃ p, ps[i']? = some p ∧ p.1 = v' := by
        rw [hkv, List.getElem?_map] at hv'
        exact Option.map_eq_some_iff.mp hv'
      subst hp2
      clear lF' lN'
      obtain ⟨q1, q2⟩ := filt_snoc hp1 hP'
      have hkd := (h6 p (List.mem_of_getElem? hp1)).kind.mono htl
      (try k_fold)
      k_steps
      refine unhold ?_
      rename Fr _ _ _ _ => kF
      rename News _ _ _ _ => kN
      refine' isobj_any kF ?X kN ?T ?K (.head _) ?_
      case X => k_asm
      case T => k_asm
      case K => exact hkd.mono (fun p hp => by repeat (first | exact hp | apply List.Mem.tail))
      intro _
      cases hsc : scal p.1
      · dsimp only [Bool.not_false]
        k_steps
        exact ⟨_, _, rfl, kF, News.sub kN (fun p hp => .tail _ hp), q1 hsc⟩
      · dsimp only [Bool.not_true]
        k_steps
        exact ⟨_, _, rfl, kF, News.sub kN (fun p hp => .tail _ hp), q2 hsc⟩
    case vfin =>
      intro zs0 s20 hs20 hP0
      obtain ⟨g30, rfl⟩ := hs20
      rw [hkl, List.take_length] at hP0
      unfold LCg.FinA
      intro D30 h30 tk30 F30 N30 o30
      clear lF' lN'
      obtain ⟨ps2, hps2⟩ : ∃ ps2, ps2 = ps.filter fun q => !scal q.1 := ⟨_, rfl⟩
      rw [← hps2] at hP0
      have sum_filt' : sumAll ps2 = sumObj ps := hps2 ▸ sum_filt
      have h62 : ∀ p ∈ ps2, ThAt w d tl p.1 p.2 := fun p hp => h6 p (List.mem_filter.mp (hps2 ▸ hp)).1
      have h52 : ps2.length ≤ 3 := by rw [hps2]; exact Nat.le_trans (List.length_filter_le _ _) h5
      clear hps2
      subst hP0
      (try dsimp only)
      k_steps
      refine unhold ?_
      rename Fr _ _ _ _ => lF'
      rename News _ _ _ _ => lN'
      refine src_list (fun i zs => IntsAre zs ((ps2.take i).map (·.2))) rfl lF' lN' (by k_mem) (by simp only [List.length_map]; omega) .nil ?step ?fin
      case step =>
        intro i' zs' v' I' oI' C' oC' D' m2' h' tk' E' s2' hv' hP' hC' hx' F' N'
        obtain ⟨p, hp1, hp2⟩ : ∃ p, ps2[i']? = some p ∧ p.1 = v' := by
          rw [List.getElem?_map] at hv'
          exact Option.map_eq_some_iff.mp hv'
        subst hp2
        clear lF' lN'
        (try k_fold)
        k_steps
        refine unhold ?_
        refine IH.use (by k_asm) F' (by k_asm) N' (by k_asm) rfl (h62 p (List.mem_of_getElem? hp1)) (fun q hq => by repeat (first | exact htl q hq | apply List.Mem.tail)) ?_ ?_ ?_
        · show dp + 1 + 2 * (d + 1) < 500
          omega
        · show un + 3 + 16 * (d + 1) < 1000
          omega
        · intro h2 tk2 t2 F2 N2
          exact ⟨h2, tk2, rfl, F2, N2, ints_snoc hp1 hP'⟩
      case fin =>
        intro zs s2 hs2 hP'
        obtain ⟨g3, rfl⟩ := hs2
        rw [List.length_map, List.take_length] at hP'
        unfold LCg.FinE
        intro D3 h3 tk3 F3 N3 o3
        clear lF' lN'
        (try dsimp only)
        k_steps
        rename Fr h₀ L _ _ => kF
        rename News h₀ L _ _ => kN
        rw [max_most, sum_filt']
        exact hQ _ _ _ kF (News.sub kN fun p hp => by repeat (first | exact hp | apply List.Mem.tail))
end Mine
namespace Mine
noncomputable def excObj (ed tp : Addr) : Obj := { cls := .ref 70, dict := some ed, data := .fields #[.ref tp, .none, .none, .none, .bool false, .none] }
noncomputable def adaDict (h1 h2 h3 h4 : Int) (k1 k2 k3 k4 : Tok) (v1 v4 : Value) (wd : Str) (t2 t3 : Tok) (n : Nat) : Obj :=
  { cls := .type "dict", data := .dict #[⟨h1, .str (Str.ofString "text") k1, v1⟩, ⟨h2, .str (Str.ofString "name") k2, .str wd t2⟩, ⟨h3, .str (Str.ofString "word") k3, .str wd t3⟩, ⟨h4, .str (Str.ofString "line") k4, v4⟩] n }
end Mine
namespace Mine
noncomputable def excO (dd : Option Addr) (tp : Addr) : Obj := { cls := .ref 70, dict := dd, data := .fields #[.ref tp, .none, .none, .none, .bool false, .none] }
abbrev bm70 : List Value := [.ref 31, .type "Exception", .type "BaseException", .type "object"]
abbrev cls70 : Obj := excClassObj (Str.ofString "AdaRaise") (Str.ofString "AdaRaise") 70 69 [.ref 31] bm70 true [] [] false none none (some (.ref 54)) none (some (.str (Str.ofString "AdaRaise") 244)) (some (.str (Str.ofString "AdaRaise") 252)) (some (.bool true)) "Exception.__new__"
theorem at70 {w : World} {h : Heap} (X : (KK w.params).In h) : h.get? 70 = some cls70 := X 70 _ (by rfl)
section
variable {w : World} {A : Around} {h : Heap} {g : Array GenState} {d : Drawn} {t : Nat} {os : OsState}
theorem new70 {prog : Program} {R : Result → Shared → Prop} {rest : List Value} (X : (KK w.params).In h) (hz : rest.length ≤ sizeLine)
    (hq : R (.ok (.ret (.ref (h.objs.size + 1)))) ⟨(h.push { cls := .type "tuple", data := .seq rest.toArray }).push (excO none h.objs.size), g, d, t, os⟩) :
    codeAny (model prog w) A (.builtin "Exception.__new__" ⟨.ref 70 :: rest, []⟩) R ⟨h, g, d, t, os⟩ := by
  have F := PySem.F.excBase_Exception
  have hC := at70 X
  have hends := F.ends
  have hB : (Value.ref 70 :: bm70).contains (.type "Exception") = true := by decide +kernel
  have hA : (Value.ref 70 :: bm70).contains (.type "AttributeError") = false := by decide +kernel
  have hN : (Value.ref 70 :: bm70).contains (.type "NameError") = false := by decide +kernel
  refine codeAny_builtinAt F.entry ?_
  unfold Builtin.«BaseException.__new__»
  refine PySem.wpAt_bind ?_
  show PySem.wpAt _ _ _ (stack >>= _) _ _ _
  refine PySem.wpAt_bind (PySem.wpAt_stack fun p below => PySem.wpAt_of_wpAny ?_)
  wp_walk
  refine PySem.wpAt_of_wpAny ?_
  rw [F.owner]
  repeat (first | with_reducible refine wpAny_madeHere_exc F.canon hC ?_ | with_reducible refine wpAny_loadPart_at hC ?_ | (with_reducible refine wpAny_isSubtype_exc hC ?_; first | rw [hB] | rw [hA] | rw [hN]) | wp_step)
  show R _ _
  rw [Heap.size_push]
  exact hq
theorem check70 {M : Model} {rest : List Value} {Q : Unit → Shared → Prop} {E : Value → Shared → Prop} (X : (KK w.params).In h) (hq : Q () ⟨h, g, d, t, os⟩) :
    wpAny M A (checkBuiltinCall "Exception.__new__" ⟨.ref 70 :: rest, []⟩) Q E ⟨h, g, d, t, os⟩ := by
  have F := PySem.F.excBase_Exception
  have hC := at70 X
  have hB : (Value.ref 70 :: bm70).contains (.type "Exception") = true := by decide +kernel
  have hstar := F.noStar
  simp only [checkBuiltinCall, F.newKind, F.newSplit, F.newRow]
  repeat (first | refine wpAny_loadPart_at hC ?_ | (refine wpAny_isSubtype_exc hC ?_; rw [hB]) | refine wpAny_staticBase_exc hC ?_ | refine wpAny_madeBy_exc hC ?_ | simp only [bne_self_eq_false, Bool.false_eq_true, if_false] | wp_step)
  exact hq
end
end Mine
namespace Mine
section
variable {w : World} {A : Around} {h : Heap} {g : Array GenState} {d : Drawn} {t : Nat} {os : OsState} {E : Value → Shared → Prop}
theorem init70 (w : World) : findIn (KK w.params) (.ref 70) "__init__" = some (some (.ref 67)) := by k_is
theorem fn67 (w : World) : typeIn (KK w.params) (.ref 67) = some (.type "function") := by k_is
theorem typeCall70 {prog : Program} {Q : Fin → Shared → Prop} {rest : List Value} (X : (KK w.params).In h) (hz : rest.length ≤ sizeLine)
    (hq : wpAny (model prog w) A (call (.ref 67) (.ref (h.objs.size + 1) :: rest)) (fun r s' => r = .none ∧ Q (.done (.ret (.ref (h.objs.size + 1)))) s') E
      ⟨(h.push { cls := .type "tuple", data := .seq rest.toArray }).push (excO none h.objs.size), g, d, t, os⟩) :
    wpAny (model prog w) A (Builtin.«type.__call__» ⟨.ref 70 :: rest, []⟩) Q E ⟨h, g, d, t, os⟩ := by
  have F := PySem.F.excBase_Exception
  have hC := at70 X
  repeat (first | with_reducible refine wpAny_loadPart_at hC ?_ | with_reducible refine wpAny_madeBy_exc hC ?_ | wp_step)
  refine codeAny_call_builtin_code (Code.quiet_builtin _ F.quiet) (check70 X ?_)
  refine new70 X hz ?_
  show wpAny _ _ _ _ _ _
  have X₁ : (KK w.params).In ((h.push { cls := .type "tuple", data := .seq rest.toArray }).push (excO none h.objs.size)) := X.keeps fun b o hb => Heap.get?_push_of_some _ (Heap.get?_push_of_some _ hb)
  have hC₁ := at70 X₁
  have hget : ((h.push { cls := .type "tuple", data := .seq rest.toArray }).push (excO none h.objs.size)).get? (h.objs.size + 1) = some { cls := .ref 70, data := .fields #[.ref h.objs.size, .none, .none, .none, .bool false, .none] } := by
    have := Heap.get?_push_at (h := h.push { cls := .type "tuple", data := .seq rest.toArray }) (o := excO none h.objs.size) (a := h.objs.size + 1) (by simp only [Heap.size_push]) rfl
    exact this
  have hc : (Value.ref 70 :: bm70).contains (.ref 70) = true := by decide +kernel
  unfold isInstance
  repeat (first | with_reducible refine wpAny_loadPart_at hget ?_ | (with_reducible refine wpAny_isSubtype_exc hC₁ ?_; rw [hc]) | wp_step)
  have L1 := looks_findIn (M := model prog w) X₁ (init70 w)
  have L2 := looks_typeIn (M := model prog w) X₁ (fn67 w)
  show wpAny _ _ (typeLookup (.ref 70) _) _ _ _
  refine L1.at ?_
  refine wpAny_holding (wpAny_bind ?_)
  unfold bindSpecial
  refine wpAny_bind (L2.at ?_)
  rw [if_pos (by decide)]
  refine wpAny_pure (wpAny_bind (wpAny_mono hq (fun r s' hr => ?_) fun _ _ x => x))
  obtain ⟨rfl, hQ⟩ := hr
  wp_walk
  exact hQ
theorem call70 {prog : Program} {Q : Value → Shared → Prop} {rest : List Value} (X : (KK w.params).In h) (hz : rest.length ≤ sizeLine)
    (hq : wpAny (model prog w) (A.under (.builtin "type.__call__" ⟨.ref 70 :: rest, []⟩)) (call (.ref 67) (.ref (h.objs.size + 1) :: rest)) (fun r s' => r = .none ∧ Q (.ref (h.objs.size + 1)) s') E
      ⟨(h.push { cls := .type "tuple", data := .seq rest.toArray }).push (excO none h.objs.size), g, d, t, os⟩) :
    wpAny (model prog w) A (call (.ref 70) rest) Q E ⟨h, g, d, t, os⟩ := by
  have f1 := tc_lookup
  have f2 := tc_bind (.ref 70)
  have hC := at70 X
  have hT : (⟨h, g, d, t, os⟩ : Shared).TypeIs (.ref 70) "type" := ⟨_, hC, rfl⟩
  refine wpAny_call (codeAny_of_tree ?_)
  show wpAny _ _ (callAny (.ref 70) _) _ _ _
  repeat (any_goals (first | assumption | with_reducible refine wpAny_loadPart_at hC ?_ | wp_step))
  refine ⟨rfl, ?_⟩
  exact codeAny_call_builtin_at (Code.quiet_builtin _ (by decide +kernel)) entry_typeCall (wpAny_check_type_call_sub hC (typeCall70 X hz hq))
end
end Mine
namespace Mine
theorem seta70 (w : World) : findIn (KK w.params) (.ref 70) "__setattr__" = some (some (.builtin "object.__setattr__")) := by k_is
section
variable {w : World} {A : Around} {E : Value → Shared → Prop} {s : Shared} {h₀ : Heap} {L : Addr} {m : Str → Option Value} {news : List (Addr × Obj)} {e ed tp : Addr} {name : Str} {v : Value} {tk : Tok} {R : Result → Shared → Prop}
theorem cd70 (w : World) : clsIn (KK w.params) 70 = some { name := Str.ofString "AdaRaise", bases := [.ref 31], mro := .ref 70 :: bm70, ns := 69, qualname := Str.ofString "AdaRaise" } := by rfl
theorem open70 {ox : Obj} {od : Option Obj} (X : (KK w.params).In s.heap) (I : InstAt s.heap e ox 70 od) (ht : findIn (KK w.params) (.ref 70) name = some none)
    (h : wpAny (model PySem.Challenge.pw_pp0007_01 w) A.in1 (Builtin.ObjectAttr.storeInOwnDict (.ref e) (.ref 70) (.str name tk) name v false)
      (fun fin s' => match fin with | .done f => R (.ok f) s' | .again c' => c'.quiet = true ∧ codeAny (model PySem.Challenge.pw_pp0007_01 w) A c' R s') (fun x s' => R (.error x) s') s) :
    codeAny (model PySem.Challenge.pw_pp0007_01 w) A (.call (.builtin "object.__setattr__") ⟨[.ref e, .str name tk, v], []⟩) R s := by
  have SF := PySem.F.store_object
  have sub : Looks (model PySem.Challenge.pw_pp0007_01 w) s.heap (isInstance (.ref e) (.type "object")) true :=
    I.type.andThen (looks_mroIn X (by unfold mroIn; rw [cd70]; rfl))
  refine codeAny_call_builtin SF.slot.plain SF.entry (@check_slot (model PySem.Challenge.pw_pp0007_01 w) _ _ s "object.__setattr__" "object" "__setattr__" (.ref e) [.str name tk, v] [] _ SF.kind SF.split sub (SF.args (.ref e) (.str name tk) v) ?_)
  have hm : Looks (model PySem.Challenge.pw_pp0007_01 w) s.heap (mroOf (.ref 70)) (.ref 70 :: bm70) := (looks_clsIn X (cd70 w)).andThen .now
  rw [osa_eq, refuse_eq]
  refine wpAny_bind (wpAny_bind (I.type.here (wpAny_bind (hm.here ?_))))
  rw [refuseLoop_ref, refuseLoop_ref, PySem.F.store_Exception.passes (.ref e)]
  exact wpAny_pure (wpAny_bind (I.type.here (wpAny_bind ((looks_findIn X ht).here (wpAny_bind (wpAny_pure h))))))
open Builtin Builtin.ObjectAttr in
theorem inDict {es : List DictEntry} {n : Nat} {d : Addr} {Q : Fin → Shared → Prop} (D : s.heap.get? d = some (dictOf es n)) (hl : (getL name es).isSome = true)
    (hz : (putL name (PyData.keyHash w.params name) (.str name s.toks) v es).length ≤ 1000)
    (h : Q (.done (.ret .none)) { s with heap := s.heap.update d (Obj.putName name (PyData.keyHash w.params name) (.str name s.toks) v), toks := s.toks + 1 }) :
    wpAny (model PySem.Challenge.pw_pp0007_01 w) A (storeInDict d (.str name tk) name v) Q E s := by
  have D' : (s.heap.update d (Obj.putName name (PyData.keyHash w.params name) (.str name s.toks) v)).get? d = some (dictOf (putL name (PyData.keyHash w.params name) (.str name s.toks) v es) (putN name es n)) := by
    rw [← putName_dict]
    exact Heap.get?_update_self _ D (by rw [putName_dict]; rfl)
  unfold storeInDict newKeyGuard
  refine wpAny_bind (wpAny_pure (wpAny_bind ?_))
  unfold nsSet
  refine wpAny_bind (wpAny_bind (wpAny_askSetting (wpAny_pure (wpAny_bind (wpAny_mkText (wpAny_bind (wpAny_loadPart D ?_)))))))
  have c : (!es.any (·.key.isStr name) && es.any (·.refKey)) = false := by
    unfold getL at hl
    split at hl
    · rename_i en he
      rw [List.any_eq_true.mpr ⟨en, List.mem_of_find?_eq_some he, List.find?_some he⟩]; rfl
    · split at hl
      · cases hl
      · rename_i z; rw [Bool.not_eq_true] at z; rw [z, Bool.and_false]
  dsimp only
  rw [aRefKeyMayBeTheName_at, List.any_toArray, List.any_toArray, c]
  refine wpAny_updatePart D ?_
  refine wpAny_bind (wpAny_lookBehind D' (pastItsLine_dict (by rw [List.size_toArray, sizeLine_eq]; omega)) ?_)
  exact wpAny_pure h
open Builtin Builtin.ObjectAttr in
theorem set1 {es es' : List DictEntry} {n n' : Nat} {Q : Unit → Shared → Prop} (F : Fr h₀ L s.heap m) (X₀ : (KK w.params).In h₀) (N : News h₀ L s.heap ((ed, dictOf es n) :: (e, excO (some ed) tp) :: news))
    (ne : ∀ p ∈ (e, excO (some ed) tp) :: news, p.1 ≠ ed) (ht : findIn (KK w.params) (.ref 70) name = some none) (hl : (getL name es).isSome = true)
    (q : (putL name (PyData.keyHash w.params name) (.str name (s.toks + 1)) v es, putN name es n) = (es', n')) (hz : es'.length ≤ 1000)
    (h : ∀ h', Fr h₀ L h' m → News h₀ L h' ((ed, dictOf es' n') :: (e, excO (some ed) tp) :: news) → Q () { s with heap := h', toks := s.toks + 2 }) :
    wpAny (model PySem.Challenge.pw_pp0007_01 w) A (setAttr (.ref e) name v) Q E s := by
  have X := X₀.keeps F.keep
  obtain ⟨q1, q2⟩ := Prod.mk.inj q
  have I : InstAt s.heap e (excO (some ed) tp) 70 (some (dictOf es n)) := ⟨(N _ (.tail _ (.head _))).1, rfl, rfl, (N _ (.head _)).1⟩
  refine set_plain X I (seta70 w) (open70 (s := { s with toks := s.toks + 1 }) X I ht ?_)
  refine wpAny_bind (wpAny_pure (wpAny_bind (wpAny_bind (wpAny_loadPart (N _ (.tail _ (.head _))).1 (wpAny_bind (Looks.here (s := { s with toks := s.toks + 1 }) (looks_clsIn X (cd70 w)) ?_))))))
  refine wpAny_pure (a := some ed) ?_
  have D := (N _ (.head _)).1
  refine inDict (s := { s with toks := s.toks + 1 }) D hl (by rw [q1]; exact hz) ?_
  obtain ⟨F', N'⟩ := news_upd (pre := []) F N (fun _ x => (nomatch x)) ne (show Obj.putName name (PyData.keyHash w.params name) (.str name (s.toks + 1)) v (dictOf es n) = dictOf es' n' by rw [putName_dict, q1, q2]) rfl
  exact h _ F' N'
open Builtin Builtin.ObjectAttr in
theorem set0 {Q : Unit → Shared → Prop} (F : Fr h₀ L s.heap m) (X₀ : (KK w.params).In h₀) (N : News h₀ L s.heap ((e, excO none tp) :: news))
    (ne : ∀ p ∈ news, p.1 ≠ e) (ht : findIn (KK w.params) (.ref 70) name = some none)
    (h : ∀ h' ed, Fr h₀ L h' m → News h₀ L h' ((ed, dictOf [⟨PyData.keyHash w.params name, .str name (s.toks + 1), v⟩] 1) :: (e, excO (some ed) tp) :: news) → (∀ p ∈ (e, excO (some ed) tp) :: news, p.1 ≠ ed) → Q () { s with heap := h', toks := s.toks + 2 }) :
    wpAny (model PySem.Challenge.pw_pp0007_01 w) A (setAttr (.ref e) name v) Q E s := by
  have X := X₀.keeps F.keep
  have he := (N _ (.head _)).1
  have I : InstAt s.heap e (excO none tp) 70 none := ⟨he, rfl, rfl, trivial⟩
  refine set_plain X I (seta70 w) (open70 (s := { s with toks := s.toks + 1 }) X I ht ?_)
  refine wpAny_bind (wpAny_pure (wpAny_bind (wpAny_bind (wpAny_loadPart he (wpAny_bind (Looks.here (s := { s with toks := s.toks + 1 }) (looks_clsIn X (cd70 w)) ?_))))))
  have F1 := F.push ({ cls := .type "dict", data := .dict #[] } : Obj)
  have N1 := News.push F N ({ cls := .type "dict", data := .dict #[] } : Obj)
  have fr : ∀ p ∈ (e, excO none tp) :: news, p.1 ≠ s.heap.objs.size := fun p hp => Nat.ne_of_lt (Heap.lt_size (N p hp).1)
  refine wpAny_bind (wpAny_alloc' ?_)
  have he1 := (N1 _ (.tail _ (.head _))).1
  refine wpAny_bind (wpAny_update' he1 ?_)
  refine wpAny_pure (a := some s.heap.objs.size) ?_
  obtain ⟨F2, N2⟩ := news_upd (pre := [(s.heap.objs.size, ({ cls := .type "dict", data := .dict #[] } : Obj))]) (f := fun o => { cls := o.cls, dict := some s.heap.objs.size, data := o.data, slots := o.slots }) F1 N1 (fun p hp => by rcases List.mem_singleton.mp hp with rfl; exact (fr _ (.head _)).symm) ne
    (show (fun o : Obj => ({ cls := o.cls, dict := some s.heap.objs.size, data := o.data, slots := o.slots } : Obj)) (excO none tp) = excO (some s.heap.objs.size) tp from rfl) rfl
  have D := (N2 _ (.head _)).1
  refine inDict (s := { s with heap := _, toks := s.toks + 1 }) (es := []) (n := 0) D rfl (by simp [putL]) ?_
  obtain ⟨F3, N3⟩ := news_upd (pre := []) F2 N2 (fun _ x => (nomatch x)) (fun p hp => by
      rcases List.mem_cons.mp hp with rfl | hp
      · exact fr (e, excO none tp) (.head _)
      · exact fr _ (.tail _ hp))
    (show Obj.putName name (PyData.keyHash w.params name) (.str name (s.toks + 1)) v (dictOf [] 0) = dictOf [⟨PyData.keyHash w.params name, .str name (s.toks + 1), v⟩] 1 by rw [putName_dict]; rfl) rfl
  exact h _ _ F3 N3 fun p hp => by
      rcases List.mem_cons.mp hp with rfl | hp
      · exact fr (e, excO none tp) (.head _)
      · exact fr _ (.tail _ hp)
theorem meta_exc : typeOf (.type "Exception") = pure (.type "type") := by kernel_rfl
theorem init0 {rest : List Value} {Q : Value → Shared → Prop} (F : Fr h₀ L s.heap m) (X₀ : (KK w.params).In h₀) (N : News h₀ L s.heap ((e, excO none tp) :: news)) (ne : ∀ p ∈ news, p.1 ≠ e) (hz : rest.length ≤ sizeLine)
    (h : ∀ h' tp', Fr h₀ L h' m → News h₀ L h' ((e, excO none tp') :: news) → Q .none { s with heap := h' }) :
    wpAny (model PySem.Challenge.pw_pp0007_01 w) A (call (.builtin "Exception.__init__") (.ref e :: rest)) Q E s := by
  have FE := PySem.F.excBase_Exception
  have X := X₀.keeps F.keep
  have he : s.heap.get? e = some { cls := .ref 70, data := .fields #[.ref tp, .none, .none, .none, .bool false, .none] } := (N _ (.head _)).1
  have hC := at70 X
  have F1 := F.push ({ cls := .type "tuple", data := .seq rest.toArray } : Obj)
  have N1 := News.push F N ({ cls := .type "tuple", data := .seq rest.toArray } : Obj)
  have he1 := (N1 _ (.tail _ (.head _))).1
  obtain ⟨F2, N2⟩ := news_upd (pre := [(s.heap.objs.size, ({ cls := .type "tuple", data := .seq rest.toArray } : Obj))]) (f := Obj.mapFields (·.setIfInBounds 0 (.ref s.heap.objs.size))) F1 N1 (fun p hp => by rcases List.mem_singleton.mp hp with rfl; exact (Nat.ne_of_lt (Heap.lt_size he)).symm) ne
    (show Obj.mapFields (·.setIfInBounds 0 (.ref s.heap.objs.size)) (excO none tp) = excO none s.heap.objs.size from rfl) rfl
  have hB : (Value.ref 70 :: bm70).contains (.type "Exception") = true := by decide +kernel
  have hshort := FE.noStar
  obtain ⟨hh, g, d, t, os⟩ := s
  refine wpAny_call (codeAny_call_builtin FE.init.plain FE.initEntry ?_)
  simp only [checkBuiltinCall, FE.initKind, FE.initSplit, FE.initRow]
  repeat (first | with_reducible refine wpAny_loadPart_at he ?_ | with_reducible refine wpAny_loadPart_at hC ?_ | (with_reducible refine wpAny_isSubtype_exc hC ?_; rw [hB]) | wp_step)
  refine wpAny_onRaise ?_
  rw [show ∀ (a b : String) (n : Nat), Bind.check ⟨.positional, "*", "Exception", .self, [⟨"args", .varPos, false⟩]⟩ a b n (List.map (fun x => x.fst) ({ pos := Value.ref e :: rest } : Args).kw) = pure () from
    fun a b n => check_star_args _ _ _ _ _ _]
  refine wpAny_pure ?_
  unfold Builtin.«BaseException.__init__»
  wp_walk
  exact h _ _ F2 (News.sub N2 fun p hp => .tail _ hp)
end
end Mine
namespace Mine
theorem rules_M6d_1 : True := by
  k_with_none
  k_with "execs cons" => (k_here; (try dsimp only); (with_reducible refine flat ?_); intro ztk'; (with_reducible refine wpAny_execs_cons ?_); (try dsimp only))
  trivial
theorem rules_M6d_2 : True := by
  k_with "my all" => (assumption)
  k_with "my enter" => (refine' code_def ?k1 ?k2 ?k3 ?k4 ?k5 ?kA ?kF ?kK ?k6 ?k7 ?k8 ?k9 ?kB ?_ ?c2 ?c3 ?c4 ?c5; (case kA => exact rfl); (case kF => exact rfl); (case kK => first | assumption | exact rfl); (case k1 => k_asm); (case k2 => k_asm); (case k3 => k_asm); (case k4 => k_asm); (case k5 => k_asm); (case k6 => k_is); (case k7 => k_is); (case k8 => ktr_room); (case k9 => first | exact BindsTo.of_eq rfl | exact binds_K (by k_in) rfl (by k_is) rfl rfl rfl); (case c5 => decide); (case kB => exact locs rfl); (case c2 => exact rfl); (case c3 => exact rfl); (case c4 => exact rfl); k_whole; intro zg' zL' zh' zFG' zF' zN' zB' zX' zT'; (try dsimp only); (try k_fold))
  k_with "my enter" => (refine' code_defC ?k1 ?k2 ?k3 ?k4 ?k5 ?kA ?kF ?kK ?k6 ?k7 ?k8 ?k9 ?kB ?kD ?_ ?c2 ?c3 ?c4; (case kA => exact rfl); (case kF => exact rfl); (case kK => first | assumption | exact rfl); (case k1 => k_asm); (case k2 => k_asm); (case k3 => k_asm); (case k4 => k_asm); (case k5 => k_asm); (case k6 => k_is); (case k7 => k_is); (case k8 => ktr_room); (case k9 => exact BindsTo.of_eq rfl); (case kB => exact rfl); (case kD => decide +kernel); (case c2 => exact rfl); (case c3 => exact rfl); (case c4 => exact rfl); k_whole; intro zg' zL' zh' ztk' zcells' zFG' zF' zN' zY' zB' zX' zT' zl1; (try k_lt zl1); k_cells zY'; (try simp only [List.cons_append, List.nil_append] at zN'); (try dsimp only); (try k_fold))
  k_with "call ref" => (k_here; (with_reducible show wpAny _ _ (call (Value.ref 406) [Value.ref _, Value.int _ _]) _ _ _); k_dflt (refine' cast_app ?B ?F ?X ?N ?T ?hk ?hi ?hl ?hm ?U ?k0 ?k1 ?hs ?hs2 ?hne ?hd ?hu ?_; (case B => k_asm); (case F => k_asm); (case X => k_asm); (case N => k_asm); (case T => k_asm); (case hk => first | exact rfl | assumption); (case hi => assumption); (case hl => assumption); (case hm => k_mem); (case U => intro zt'; k_upd)); (case k0 => omega); (case k1 => omega); (case hs => omega); (case hs2 => omega); (case hne => k_ne); (case hd => ktr_room); (case hu => ktr_room); k_whole; intro zh' ztk' zt3' zt4' zv' zF' zN' zv0' zv1'; (try k_sweep); walk_say "CAST")
  k_with "CompSrc" => (refine hold ?_)
  k_with "CompEnd" => (refine hold ?_)
  k_with "setAttr ref" => (k_here; k_dflt (first
      | (refine' set0 ?F ?X ?N ?ne (by k_is) ?_; (case F => k_asm); (case X => k_asm); (case N => k_asm); (case ne => assumption); k_whole; intro zh' zed' zF' zN' zne'; (try k_sweep))
      | (refine' set1 ?F ?X ?N ?ne (by k_is) ?l ?q ?z ?_; (case F => k_asm); (case X => k_asm); (case N => k_asm); (case ne => assumption); (case l => exact rfl); (case q => k_put); (case z => exact Nat.le_of_ble_eq_true rfl); k_whole; intro zh' zF' zN'; (try k_sweep))))
  k_with "getMethod type:Exception" => (k_here; refine' method_type ?F ?X ?m (by decide +kernel) ?e ?h ?_; (case F => k_asm); (case X => k_asm); (case m => exact meta_exc); (case e => k_dflt k_is); (case h => k_handed))
  k_with "call builtin:Exception.__init__" => (k_here; (with_reducible show wpAny _ _ (call (Value.builtin _) [Value.ref _, Value.str _ _]) _ _ _); k_dflt (refine' init0 ?F ?X ?N ?ne ?z ?_; (case F => k_asm); (case X => k_asm); (case N => k_asm); (case ne => assumption); (case z => size_fits); k_whole); intro zh' ztp' zF' zN'; (try k_sweep))
  trivial
section
variable {w : World} {mean : ExcName → Option Value} {mg mb : Str → Option Value} {A₀ : Around} {base h₀ : Heap} {outer : List Env} {L : Addr} {m : Str → Option Value}
  {s : Shared} {dp un : Nat} {gd : Option (List Code)} {cn : Str} {cs : Scope} {a : Addr} {ccd : Value} {cl : List (Str × Addr)} {Q E : Value → Shared → Prop}
theorem make_ada {nm txt : Str} {z : Int} {t1 t2 t3 : Tok} {news : List (Addr × Obj)} (B : Below A₀ base outer h₀) (F : Fr h₀ L s.heap m) (X : (Mine.KK w.params).In h₀) (N : News h₀ L s.heap news) (T : Top Mine.vw loo mean mg mb h₀) (hk : cs.kind = .function)
    (hd : dp + 3 < 500) (hu : un + 24 < 1000)
    (hQ : ∀ h' tk e ed tp h1 h2 h3 h4 k1 k2 k3 k4 v1 v4 t2 t3 n, Fr h₀ L h' m → News h₀ L h' ((ed, dictOf [⟨h1, .str (Str.ofString "text") k1, v1⟩, ⟨h2, .str (Str.ofString "name") k2, .str nm t2⟩, ⟨h3, .str (Str.ofString "word") k3, .str nm t3⟩, ⟨h4, .str (Str.ofString "line") k4, v4⟩] n) :: (e, excO (some ed) tp) :: news) → (∀ p ∈ (e, excO (some ed) tp) :: news, p.1 ≠ ed) → (∀ p ∈ news, p.1 ≠ e) →
      Q (.ref e) { s with heap := h', toks := tk }) :
    wpAny (model PySem.Challenge.pw_pp0007_01 w) (ktrTop dp un gd cn cs L a ccd cl outer) (call (.ref 70) [.str nm t1, .int z t2, .str txt t3]) Q E s := by
  w_top off
  obtain ⟨hh, g, d, t, os⟩ := s
  refine call70 (X.keeps F.keep) (by size_fits) ?_
  have F1 := (F.push ({ cls := .type "tuple", data := .seq #[.str nm t1, .int z t2, .str txt t3] } : Obj)).push (excO none hh.objs.size)
  have N1 := News.push (F.push ({ cls := .type "tuple", data := .seq #[.str nm t1, .int z t2, .str txt t3] } : Obj)) (News.sub (News.push F N ({ cls := .type "tuple", data := .seq #[.str nm t1, .int z t2, .str txt t3] } : Obj)) (fun p hp => .tail _ hp)) (excO none hh.objs.size)
  have ne1 : ∀ p ∈ news, p.1 ≠ hh.objs.size + 1 := fun p hp => Nat.ne_of_lt (Nat.lt_succ_of_lt (Heap.lt_size (N p hp).1))
  have e1 : (hh.push ({ cls := .type "tuple", data := .seq #[.str nm t1, .int z t2, .str txt t3] } : Obj)).objs.size = hh.objs.size + 1 := by simp only [Heap.size_push]
  rw [e1] at N1
  generalize hh.objs.size + 1 = e at *
  generalize hh.objs.size = tp at *
  generalize ((hh.push _).push _) = h9 at *
  clear e1 F N
  refine wpAny_call ?_
  k_dflt k_enter
  k_steps
  exact hQ _ _ _ _ _ _ _ _ _ _ _ _ _ _ _ _ _ _ (by k_asm) (by k_asm) (by assumption) (by assumption)
theorem call_ada {nm txt : Str} {z : Int} {t1 t2 t3 : Tok} {news : List (Addr × Obj)} (B : Below A₀ base outer h₀) (F : Fr h₀ L s.heap m) (X : (Mine.KK w.params).In h₀) (N : News h₀ L s.heap news) (T : Top Mine.vw loo mean mg mb h₀) (hk : cs.kind = .function)
    (hd : dp + 3 < 500) (hu : un + 24 < 1000)
    (h : ∀ h' tk e ed tp h1 h2 h3 h4 k1 k2 k3 k4 v1 v4 t2 t3 n, Fr h₀ L h' m → News h₀ L h' ((e, excObj ed tp) :: (ed, adaDict h1 h2 h3 h4 k1 k2 k3 k4 v1 v4 nm t2 t3 n) :: news) → (∀ p ∈ (ed, adaDict h1 h2 h3 h4 k1 k2 k3 k4 v1 v4 nm t2 t3 n) :: news, p.1 ≠ e) → (∀ p ∈ news, p.1 ≠ ed) →
      Q (.ref e) { s with heap := h', toks := tk }) :
    wpAny (model PySem.Challenge.pw_pp0007_01 w) (ktrTop dp un gd cn cs L a ccd cl outer) (call (.ref 70) [.str nm t1, .int z t2, .str txt t3]) Q E s := by
  refine make_ada B F X N T hk hd hu fun h' tk e ed tp h1 h2 h3 h4 k1 k2 k3 k4 v1 v4 t2 t3 n F' N' ne1 ne2 => ?_
  refine h h' tk e ed tp h1 h2 h3 h4 k1 k2 k3 k4 v1 v4 t2 t3 n F' (fun p hp => N' p ?_) (fun p hp => ?_) (fun p hp => ne1 p (.tail _ hp))
  · rcases List.mem_cons.mp hp with rfl | hp
    · exact .tail _ (.head _)
    · rcases List.mem_cons.mp hp with rfl | hp
      · exact .head _
      · exact .tail _ (.tail _ hp)
  · rcases List.mem_cons.mp hp with rfl | hp
    · exact fun q => ne1 _ (.head _) q.symm
    · exact ne2 p hp
end
end Mine
namespace Mine
/-- an exception of class 70 with the dict ed, its traceback's entry T -/
noncomputable def TracedD (h base : Heap) (e ed : Addr) (fl : Value) : Prop :=
  ∃ oe vs T oT ts, h.get? e = some oe ∧ oe.cls = .ref 70 ∧ oe.dict = some ed ∧ oe.data = .fields vs ∧ vs[1]? = some (.ref T) ∧ base.get? T = none ∧ T ≠ e ∧ h.get? T = some oT ∧ oT.data = .fields ts ∧ ts[3]? = some fl
noncomputable def FlyD (base : Heap) (l : List Env) (e ed : Addr) (fl : Value) (h : Heap) : Prop :=
  base.StaysIn h ∧ base.get? e = none ∧ h.FunFrames base l ∧ TracedD h base e ed fl

section
variable {M : Model} {A : Around} {E : Value → Shared → Prop} {s : Shared}
theorem entryD {base : Heap} {env : Env} {outer : List Env} {L e ed : Addr} {oe : Obj} {vs : Array Value} {head : Value} {hadNext : Bool} {Q : Unit → Shared → Prop}
    (hfr : A.frames = some (env :: outer)) (hl : s.heap.FunFrames base (env :: outer)) (hf : env.frame = some L)
    (he : s.heap.get? e = some oe) (hkb : base.StaysIn s.heap) (hen : base.get? e = none) (hc : oe.cls = .ref 70) (hdd : oe.dict = some ed) (hd : oe.data = .fields vs) (hsz : 1 < vs.size)
    (h : ∀ h', FlyD base (env :: outer) e ed (rawInt L) h' → s.heap.UpToSlots h' → Q () { s with heap := h' }) :
    wpAny M A (do let a ← frameOf env; let pl ← entryPlaceOf L hadNext; let b ← EntryCells.newEntry head a .none (rawInt L) .none pl; setField (.ref e) 1 b) Q E s := by
  have hene : e ∉ (env :: outer).filterMap (·.frame) := fun hm => by
    obtain ⟨_, o, ho, hnf⟩ := hl.mem hm
    rw [he] at ho
    cases ho
    exact hnf vs hd
  refine wpAny_bind (wpAny_frameOf_fun hfr hl hf fun h₁ hs₁ => ?_)
  refine wpAny_bind (wpAny_entryPlaceOf fun pl hpl => ?_)
  unfold EntryCells.newEntry newFields
  refine wpAny_bind (wpAny_newObj_type ?_ (hpl.sizeOk5 _ _ _ _ _))
  have he₁ : h₁.get? e = some oe := (hs₁.2.1 e hene).trans he
  have kb₁ : base.StaysIn h₁ := fun b o hbo => (hs₁.2.1 b fun hm => by rw [(hl.mem hm).1] at hbo; cases hbo).trans (hkb b o hbo)
  generalize hob : ({ cls := .type "traceback", dict := none, data := .fields ([head, .ref L, .none, rawInt L, .none] ++ (if pl.isEmpty then List.replicate 6 Value.none else pl)).toArray } : Obj) = ob
  have hob' : ∃ ts, ob.data = .fields ts ∧ ts[3]? = some (rawInt L) := by
    subst hob
    refine ⟨_, rfl, ?_⟩
    simp
  have hobf : ob.isFreed = false := by subst hob; rfl
  clear hob
  have he₂ := Heap.get?_push_of_some (h := h₁) ob he₁
  refine wpAny_setField he₂ hd hsz (h _ ?_ ?_)
  all_goals
    have hTe : h₁.objs.size ≠ e := Nat.ne_of_gt (Heap.lt_size he₁)
    have hd₃ := Obj.data_mapFields hd (·.setIfInBounds 1 (Value.ref h₁.objs.size))
    have he₃ := Heap.get?_update_self (Obj.mapFields (·.setIfInBounds 1 (Value.ref h₁.objs.size))) he₂ (Obj.isFreed_of_fields hd₃)
    have hT₃ := (Heap.get?_update_other (h₁.push ob) (Obj.mapFields (·.setIfInBounds 1 (Value.ref h₁.objs.size))) (Ne.symm hTe)).trans (Heap.get?_push_size h₁ hobf)
    have keep : ∀ b o, b ≠ e → h₁.get? b = some o → ((h₁.push ob).update e (Obj.mapFields (·.setIfInBounds 1 (Value.ref h₁.objs.size)))).get? b = some o := fun b o hbe hb => by
      rw [Heap.get?_update_other _ _ (Ne.symm hbe)]
      exact Heap.get?_push_of_some _ hb
    have noRecord : ∀ b o, s.heap.get? b = some o → (∀ vs, o.data ≠ .fields vs) → b ≠ e := fun b o hb hnf q => by
      rw [q, he] at hb
      cases hb
      exact hnf vs hd
  · refine ⟨fun b o hbo => keep b o (fun q => by rw [q, hen] at hbo; cases hbo) (kb₁ b o hbo), hen, hl.of_keeps fun b o hb hnf => ?_, ?_⟩
    · obtain ⟨sl, hs⟩ := hs₁.2.2 b o hb
      exact ⟨_, keep b _ (noRecord b o hb hnf) hs, rfl⟩
    · obtain ⟨ts, ht1, ht2⟩ := hob'
      refine ⟨_, _, h₁.objs.size, _, _, he₃, (Obj.cls_mapFields _ _).trans hc, ?_, hd₃, by simp [hsz], kb₁.fresh, hTe, hT₃, ht1, ht2⟩
      obtain ⟨_, _, dt, _⟩ := oe
      cases hd
      exact hdd
  · intro b o hb hnf
    obtain ⟨sl, hs⟩ := hs₁.2.2 b o hb
    exact ⟨sl, keep b _ (noRecord b o hb hnf) hs⟩

theorem flightD {base : Heap} {l : List Env} {e ed : Addr} {fl : Value} {Q : Unit → Shared → Prop} (x : FlyD base l e ed fl s.heap)
    (h : ∀ h', FlyD base l e ed .none h' → s.heap.UpToSlots h' → Q () { s with heap := h' }) : wpAny M A (setFlight (.ref e) none) Q E s := by
  obtain ⟨hkb, hen, hl, oe, vs, T, oT, ts, he, hc, hdd, hd, h1, hnT, hTe, hT, hdT, h3⟩ := x
  have hsz3 : 3 < ts.size := (Array.getElem?_eq_some_iff.mp h3).1
  have other : ∀ b, b ≠ T → (s.heap.update T (Obj.mapFields (·.setIfInBounds 3 ((none : Option Addr).elim Value.none fun f => rawInt f)))).get? b = s.heap.get? b := fun b hb => Heap.get?_update_other _ _ (Ne.symm hb)
  have noRecord : ∀ b o, s.heap.get? b = some o → (∀ vs, o.data ≠ .fields vs) → b ≠ T := fun b o hb hnf q => by
    rw [q, hT] at hb
    cases hb
    exact hnf ts hdT
  unfold setFlight
  refine wpAny_bind (wpAny_field he hd h1 ?_)
  rw [if_pos (show (Value.ref T != Value.none) = true from by simp)]
  refine wpAny_setField hT hdT hsz3 (h _ ⟨fun b o hbo => (other b fun q => by rw [q, hnT] at hbo; cases hbo).trans (hkb b o hbo), hen, hl.of_keeps fun b o hb hnf => ⟨o, (other b (noRecord b o hb hnf)).trans hb, rfl⟩, ?_⟩ fun b o hb hnf => ⟨o.slots, (other b (noRecord b o hb hnf)).trans hb⟩)
  exact ⟨oe, vs, T, _, _, (other e (Ne.symm hTe)).trans he, hc, hdd, hd, h1, hnT, hTe, Heap.get?_update_self _ hT (Obj.isFreed_of_fields (Obj.data_mapFields hdT _)), Obj.data_mapFields hdT _, by simp [hsz3]⟩

theorem leaving_firstD {base : Heap} {env : Env} {outer : List Env} {L e ed : Addr} {oe : Obj} {vs : Array Value} {Q : Unit → Shared → Prop}
    (hfr : A.frames = some (env :: outer)) (hl : s.heap.FunFrames base (env :: outer)) (hf : env.frame = some L)
    (he : s.heap.get? e = some oe) (hkb : base.StaysIn s.heap) (hen : base.get? e = none) (hc : oe.cls = .ref 70) (hdd : oe.dict = some ed) (hd : oe.data = .fields vs) (h1 : vs[1]? = some .none)
    (h : ∀ h', FlyD base (env :: outer) e ed .none h' → s.heap.UpToSlots h' → Q () { s with heap := h' }) : wpAny M A (leaving env (.ref e)) Q E s := by
  unfold leaving noteFrame
  simp only [hf]
  refine wpAny_bind (wpAny_bind (wpAny_field he hd h1 ?_))
  rw [if_neg (by decide)]
  refine entryD hfr hl hf he hkb hen hc hdd hd (Array.getElem?_eq_some_iff.mp h1).1 fun h' x1 x2 => ?_
  exact flightD (s := { s with heap := h' }) x1 fun h'' y1 y2 => h h'' y1 (x2.trans y2)

theorem noteFrameD {base : Heap} {env : Env} {outer : List Env} {L e ed : Addr} {fl : Value} {Q : Unit → Shared → Prop} (hfr : A.frames = some (env :: outer)) (hf : env.frame = some L) (x : FlyD base (env :: outer) e ed fl s.heap)
    (h : ∀ h' fl', FlyD base (env :: outer) e ed fl' h' → s.heap.UpToSlots h' → Q () { s with heap := h' }) : wpAny M A (noteFrame (.ref e) env) Q E s := by
  have x₀ := x
  obtain ⟨hkb, hen, hl, oe, vs, T, oT, ts, he, hc, hdd, hd, h1, hnT, hTe, hT, hdT, h3⟩ := x
  unfold noteFrame
  simp only [hf]
  refine wpAny_bind (wpAny_field he hd h1 ?_)
  rw [if_pos (show (Value.ref T != Value.none) = true from by simp)]
  refine wpAny_bind (wpAny_field hT hdT h3 ?_)
  by_cases hfl : (fl == rawInt L) = true
  · rw [if_pos hfl]
    exact wpAny_pure (h s.heap fl x₀ (Heap.UpToSlots.refl _))
  rw [if_neg hfl]
  refine wpAny_bind (wpAny_setField hT hdT (Array.getElem?_eq_some_iff.mp h3).1 ?_)
  have other : ∀ b, b ≠ T → (s.heap.update T (Obj.mapFields (·.setIfInBounds 3 Value.none))).get? b = s.heap.get? b := fun b hb => Heap.get?_update_other _ _ (Ne.symm hb)
  have noRecord : ∀ b o, s.heap.get? b = some o → (∀ vs, o.data ≠ .fields vs) → b ≠ T := fun b o hb hnf q => by
    rw [q, hT] at hb
    cases hb
    exact hnf ts hdT
  exact entryD hfr (hl.of_keeps fun b o hb hnf => ⟨o, (other b (noRecord b o hb hnf)).trans hb, rfl⟩) hf ((other e (Ne.symm hTe)).trans he)
    (fun b o hbo => (other b fun q => by rw [q, hnT] at hbo; cases hbo).trans (hkb b o hbo)) hen hc hdd hd (Array.getElem?_eq_some_iff.mp h1).1
    fun h' x1 x2 => h h' _ x1 fun b o hb hnf => x2 b o ((other b (noRecord b o hb hnf)).trans hb) hnf

theorem leaving_nextD {base : Heap} {env : Env} {outer : List Env} {L e ed : Addr} {fl : Value} {Q : Unit → Shared → Prop} (hfr : A.frames = some (env :: outer)) (hf : env.frame = some L) (x : FlyD base (env :: outer) e ed fl s.heap)
    (h : ∀ h', FlyD base (env :: outer) e ed .none h' → s.heap.UpToSlots h' → Q () { s with heap := h' }) : wpAny M A (leaving env (.ref e)) Q E s := by
  unfold leaving
  refine wpAny_bind (noteFrameD hfr hf x fun h' fl' x1 x2 => ?_)
  exact flightD (s := { s with heap := h' }) x1 fun h'' y1 y2 => h h'' y1 (x2.trans y2)
end
theorem noteFrame_same {env env' : Env} (h : env'.frame = env.frame) (x : Value) : noteFrame x env' = noteFrame x env := by
  unfold noteFrame PySem.frameOf
  rw [h]
section
variable {M : Model} {A : Around} {E : Value → Shared → Prop} {s : Shared}
theorem passOnD {α : Type} {base : Heap} {l : List Env} {e ed : Addr} {fl : Value} {what : String} {env : Env} {Q : α → Shared → Prop} (x : FlyD base l e ed fl s.heap)
    (h : ∀ h' fl', FlyD base l e ed fl' h' → s.heap.UpToSlots h' → E (.ref e) { s with heap := h' }) : wpAny M A (PySem.passOn what (.ref e) env : Sem α) Q E s := by
  obtain ⟨hkb, hen, hl, oe, vs, T, oT, ts, he, hc, hdd, hd, h1, hnT, hTe, hT, hdT, h3⟩ := x
  have hsz3 : 3 < ts.size := (Array.getElem?_eq_some_iff.mp h3).1
  have other : ∀ v b, b ≠ T → (s.heap.update T (Obj.mapFields (·.setIfInBounds 3 v))).get? b = s.heap.get? b := fun v b hb => Heap.get?_update_other _ _ (Ne.symm hb)
  have noRecord : ∀ b o, s.heap.get? b = some o → (∀ vs, o.data ≠ .fields vs) → b ≠ T := fun b o hb hnf q => by
    rw [q, hT] at hb
    cases hb
    exact hnf ts hdT
  unfold PySem.passOn
  refine wpAny_bind (wpAny_field he hd h1 ?_)
  rw [if_neg (show ¬ (Value.ref T == Value.none) = true from by simp)]
  unfold setFlight
  refine wpAny_bind (wpAny_bind (wpAny_field he hd h1 ?_))
  rw [if_pos (show (Value.ref T != Value.none) = true from by simp)]
  refine wpAny_setField hT hdT hsz3 (wpAny_throw ?_)
  refine h _ (env.frame.elim Value.none fun f => rawInt f) ⟨fun b o hbo => (other _ b fun q => by rw [q, hnT] at hbo; cases hbo).trans (hkb b o hbo), hen, hl.of_keeps fun b o hb hnf => ⟨o, (other _ b (noRecord b o hb hnf)).trans hb, rfl⟩, ?_⟩ fun b o hb hnf => ⟨o.slots, (other _ b (noRecord b o hb hnf)).trans hb⟩
  exact ⟨oe, vs, T, _, _, (other _ e (Ne.symm hTe)).trans he, hc, hdd, hd, h1, hnT, hTe, Heap.get?_update_self _ hT (Obj.isFreed_of_fields (Obj.data_mapFields hdT _)), Obj.data_mapFields hdT _, by simp [hsz3]⟩
end
theorem FlyD.tail {base h : Heap} {env : Env} {l : List Env} {e ed : Addr} {fl : Value} (x : FlyD base (env :: l) e ed fl h) : FlyD base l e ed fl h := by
  obtain ⟨a, b, ⟨_, _, c⟩, d⟩ := x
  exact ⟨a, b, c, d⟩
end Mine
namespace Mine

/-- an exception of class 70 in flight: what is kept of the ground and of the ledger -/
noncomputable def RaisedD (base G : Heap) (l : List Env) (e ed : Addr) (news : List (Addr × Obj)) (h : Heap) : Prop :=
  ∃ B, base.StaysIn B ∧ (∀ b o, G.get? b = some o → b ∉ l.filterMap (·.frame) → B.get? b = some o) ∧ (∀ q ∈ news, B.get? q.1 = some q.2 ∧ G.get? q.1 = none ∧ base.get? q.1 = none) ∧ ∃ fl, FlyD B l e ed fl h
theorem RaisedD.sub {base G : Heap} {l : List Env} {e ed : Addr} {news news' : List (Addr × Obj)} {h : Heap} (R : RaisedD base G l e ed news h) (hs : ∀ p ∈ news', p ∈ news) : RaisedD base G l e ed news' h := by
  obtain ⟨B, h1, h2, h3, h4⟩ := R
  exact ⟨B, h1, h2, fun q hq => h3 q (hs q hq), h4⟩

section
variable {M : Model} {A : Around} {E : Value → Shared → Prop} {s' : Shared} {base g G : Heap} {outer : List Env} {L a e ed tp : Addr} {m : Str → Option Value} {name : Str} {scope : Scope} {cd : Value} {Q : Unit → Shared → Prop} {news : List (Addr × Obj)}
theorem leave_raiseD (K : Below A base outer g) (F : Fr g L s'.heap m) (N : News g L s'.heap ((e, excObj ed tp) :: news)) (ne : ∀ p ∈ news, p.1 ≠ e)
    (hQ : ∀ h', RaisedD base g outer e ed news h' → g.UpToSlots h' → Q () { s' with heap := h' }) (hk : scope.kind = .function := by rfl) :
    wpAny M (A.deeper (envOf name scope L a cd)) (leaving (envOf name scope L a cd) (.ref e)) Q E s' := by
  have K' := K.push (name := name) (a := a) (cd := cd) F hk
  have he := N _ (.head _)
  have hge : g.get? e = none := he.2.2
  have hin : ∀ env ∈ (envOf name scope L a cd :: outer), ∀ b, env.frame = some b → b ∈ e :: (envOf name scope L a cd :: outer).filterMap (·.frame) := fun env he b hb => .tail _ (List.mem_filterMap.mpr ⟨env, he, hb⟩)
  have st : base.StaysIn (hideAll s'.heap (e :: (envOf name scope L a cd :: outer).filterMap (·.frame))) := fun b o q => hideAll_get _ (K'.stays b o q) fun hm => by
    rcases List.mem_cons.mp hm with z | hm
    · rw [z] at q
      have := K.stays e o q
      rw [hge] at this
      cases this
    · rw [(K'.frames.mem hm).1] at q; cases q
  have sg : ∀ b o, g.get? b = some o → b ∉ outer.filterMap (·.frame) → (hideAll s'.heap (e :: (envOf name scope L a cd :: outer).filterMap (·.frame))).get? b = some o := fun b o q nm => hideAll_get _ (F.keep b o q) fun hm => by
    rcases List.mem_cons.mp hm with z | hm
    · rw [z, hge] at q
      cases q
    · rcases kts_mem hm with z | z
      · rw [z, kts_self F] at q
        cases q
      · exact nm z
  have hl : ∀ q ∈ news, (hideAll s'.heap (e :: (envOf name scope L a cd :: outer).filterMap (·.frame))).get? q.1 = some q.2 ∧ g.get? q.1 = none ∧ base.get? q.1 = none := fun q hq => by
    have hq' := N q (.tail _ hq)
    refine ⟨hideAll_get _ hq'.1 fun hm => ?_, hq'.2.2, fresh_of_stays K.stays hq'.2.2⟩
    rcases List.mem_cons.mp hm with z | hm
    · exact ne q hq z
    · obtain ⟨env, he, hf⟩ := List.mem_filterMap.mp hm
      rcases List.mem_cons.mp he with rfl | he
      · exact hq'.2.1 (Option.some.inj hf).symm
      · obtain ⟨o, ho, _⟩ := (K.frames.mem (List.mem_filterMap.mpr ⟨env, he, hf⟩)).2
        rw [hq'.2.2] at ho; cases ho
  refine leaving_firstD (base := hideAll s'.heap (e :: (envOf name scope L a cd :: outer).filterMap (·.frame))) K'.stack (funFrames_hide K'.frames hin) rfl he.1 (fun b o q => of_hideAll _ q) (hideAll_none _ (.head _)) rfl rfl rfl rfl fun h' x1 x2 => ?_
  exact hQ h' ⟨_, st, sg, hl, _, x1.tail⟩ ((Heap.UpToSlots.of_keeps F.keep).trans x2)

theorem leave_onD (K : Below A base outer g) (F : Fr g L G m) (R : RaisedD base G (envOf name scope L a cd :: outer) e ed news s'.heap) (hsm : G.UpToSlots s'.heap)
    (hQ : ∀ h', RaisedD base g outer e ed news h' → g.UpToSlots h' → Q () { s' with heap := h' }) :
    wpAny M (A.deeper (envOf name scope L a cd)) (leaving (envOf name scope L a cd) (.ref e)) Q E s' := by
  obtain ⟨B, hB, hBG, hl, fl, hfl⟩ := R
  refine leaving_nextD (Around.frames_deeper K.stack) rfl hfl fun h' x1 x2 => ?_
  refine hQ h' ⟨B, hB, fun b o q nm => hBG b o (F.keep b o q) (fun hm => ?_), fun q hq => ⟨(hl q hq).1, kts_none F.keep (hl q hq).2.1, (hl q hq).2.2⟩, _, x1.tail⟩ ((Heap.UpToSlots.of_keeps F.keep).trans (hsm.trans x2))
  rcases kts_mem hm with z | z
  · rw [z, kts_self F] at q
    cases q
  · exact nm z
end

section
variable {prog : Program} {w : World} {A₀ : Around} {E : Value → Shared → Prop} {s' : Shared} {base g g₀ G : Heap} {outer : List Env} {L a e ed : Addr} {m : Str → Option Value} {name : Str} {scope : Scope} {cd : Value}
  {n : Str} {b₀ : Stmt} {suite : List Stmt} {pos np : Pos} {rest : List ExceptHandler} {Q : Flow → Shared → Prop} {news : List (Addr × Obj)} {KF : Frag}
  {p : Program} {loose : List Str} {mean : ExcName → Option Value} {mg mb : Str → Option Value} {x : Str}
theorem caughtD (R : RaisedD base G (envOf name scope L a cd :: outer) e ed news s'.heap) (F : Fr g L G m) (K : Below A₀ base outer g) (hsm : G.UpToSlots s'.heap) (XB : KF.In base) (TB : Top p loose mean mg mb base)
    (D : KtsDicts (outer.filterMap (·.frame)) g) (T0 : KtsTurn (outer.filterMap (·.frame)) g₀ g)
    (ex : nsIn KF mainGlobals x = some (some (.ref 70))) (q : ktsIn KF 70 "BaseException" = true)
    (k : ∀ h' g' oe vs tk, KtsTurn (outer.filterMap (·.frame)) g₀ g' → Fr g' L h' (fun y => if y = n then some (.ref e) else m y) → oe.cls = .ref 70 → oe.dict = some ed → oe.data = .fields vs → News g' L h' ((e, oe) :: news) → (∀ p ∈ news, p.1 ≠ e) → Below A₀ base outer g' → KF.In g' → Top p loose mean mg mb g' → KtsDicts (outer.filterMap (·.frame)) g' →
      wpAny (model prog w) ((A₀.deeper (envOf name scope L a cd)).mark (some (.ref e))) (execs (b₀ :: suite) (envOf name scope L a cd))
        (fun f s₄ => wpAny (model prog w) (A₀.deeper (envOf name scope L a cd)) (do bindName (envOf name scope L a cd) n .none; unbindBehindTheSuite (envOf name scope L a cd) n pos) (fun _ s₅ => Q f s₅) E s₄)
        (AsSuiteRaised (model prog w) ((A₀.deeper (envOf name scope L a cd)).mark (some (.ref e))) (envOf name scope L a cd) n pos (notedBy (model prog w) ((A₀.deeper (envOf name scope L a cd)).mark (some (.ref e))) (envOf name scope L a cd) (cameBackBy (model prog w) (A₀.deeper (envOf name scope L a cd)) (envOf name scope L a cd) E)))
        { s' with heap := h', toks := tk })
    (hk : scope.kind = .function := by rfl) (hlo : (envOf name scope L a cd).kindOf n = some .local := by rfl) (hx : (envOf name scope L a cd).kindOf x = some .globalImplicit := by rfl) (hd : (x == ("__debug__" : Str)) = false := by decide) :
    wpAny (model prog w) (A₀.deeper (envOf name scope L a cd)) (noteFrame (.ref e) (envOf name scope L a cd))
      (fun _ s₂ => wpAny (model prog w) (A₀.deeper (envOf name scope L a cd)) (setFlight (.ref e) none) (fun _ s₃ =>
        wpAny (model prog w) (A₀.deeper (envOf name scope L a cd)) (handleBy (.ref e) (envOf name scope L a cd) (.ExceptHandler (some (.Name x np)) (some n) (b₀ :: suite) pos :: rest)) Q E s₃) E s₂) E s' := by
  obtain ⟨B, hB, hBG, hl, fl, hfl⟩ := R
  have hL : B.get? L = none := by
    obtain ⟨_, ⟨L', _, hf, hn', _⟩, _⟩ := hfl.2.2.1
    obtain rfl : L = L' := Option.some.inj hf
    exact hn'
  refine noteFrameD (Around.frames_deeper K.stack) rfl hfl fun h₄ fl₄ hfl₄ hsm₄ => ?_
  refine flightD hfl₄ fun h₅ hfl₅ hsm₅' => ?_
  have hsm₅ := hsm₄.trans hsm₅'
  obtain ⟨g₅, T₅, F₅, K₅⟩ := kts_ground K F hBG hfl₅.1 (hsm.trans hsm₅)
  have X₅ : KF.In g₅ := XB.keeps K₅.stays
  have P₅ : TopRead p loose mg mb g₅ := topRead_of (TB.keeps K₅.stays)
  obtain ⟨ob, hob, hobc⟩ : ∃ ob, h₅.get? e = some ob ∧ ob.cls = .ref 70 := by
    obtain ⟨_, _, _, oe, vs, T, oT, ts, he, hc, _⟩ := hfl₅
    exact ⟨oe, he, hc⟩
  obtain ⟨nm, q', N, bs, bm, hdct, sn, sub, ab, col, dd, k0, k1, k2, k3, k5, newId, hC, hbase, hbT⟩ := kts_cls X₅ q
  have hC₅ := F₅.keep _ _ hC
  refine wpAny_handleBy_cons (codeAny_handlers_test (name_K F₅ X₅ P₅ ex ?_ hk hx hd)) (by intro q; cases q)
  refine wpAny_excMatches_sub_self hC₅ hob hobc hbase (codeAny_handlers_suite_as ?_)
  refine flightD hfl₅ fun h₆ hfl₆ hsm₆ => ?_
  obtain ⟨g₆, T₆, F₆, K₆⟩ := kts_ground K F hBG hfl₆.1 ((hsm.trans hsm₅).trans hsm₆)
  obtain ⟨_, hBe, _, oe, ws, _, _, _, hoe, hoec, hoedd, hoed, _⟩ := id hfl₆
  have ne₆ : g₆.get? e = none := T₆.none_ _ (kts_fresh F hBG hBe fun o ho m => by
    obtain ⟨_, o', ho', hd⟩ := K.frames.mem m
    rw [ho] at ho'
    cases ho'
    obtain ⟨sl, hs⟩ := ((hsm.trans hsm₅).trans hsm₆) _ _ (F.keep _ _ ho) hd
    rw [hoe] at hs
    cases hs
    exact hd _ hoed)
  have N₆ := News.more F₆ News.nil hoe (fun es n q => by rw [hoed] at q; cases q) ne₆
  have Nl : News g₆ L h₆ news := fun q hq => ⟨hfl₆.1 _ _ (hl q hq).1, (fun z => by have := (hl q hq).1; rw [z, hL] at this; cases this), T₆.none_ _ (kts_none F.keep (hl q hq).2.1)⟩
  have hne : ∀ p ∈ news, p.1 ≠ e := fun p hp z => by
    have := (hl p hp).1
    rw [z, hBe] at this
    cases this
  have X₆ : KF.In g₆ := XB.keeps K₆.stays
  have P₆ : Top p loose mean mg mb g₆ := TB.keeps K₆.stays
  have D₆ : KtsDicts (outer.filterMap (·.frame)) g₆ := D.turn T₆
  refine stN F₆ (news := (e, oe) :: news) (fun q hq => (List.mem_cons.mp hq).elim (fun z => N₆ q (z ▸ .head _)) (Nl q)) (fun h₇ F₇ N₇ => ?_) hk hlo
  exact k h₇ g₆ oe ws _ (T0.trans T₆) F₇ hoec hoedd hoed N₇ hne K₆ X₆ P₆ D₆
end

section
variable {w : World} {A : Around} {E : Value → Shared → Prop} {s : Shared} {env : Env}
/-- what raise wants of the value -/
noncomputable def RaisA (w : World) (E : Value → Shared → Prop) (v : Value) (s₁ : Shared) : Prop :=
  ∃ a ed tp, v = .ref a ∧ s₁.heap.get? a = some (excObj ed tp) ∧ (Mine.KK w.params).In s₁.heap ∧ E (.ref a) s₁
theorem kts70 (w : World) : ktsIn (Mine.KK w.params) 70 "BaseException" = true := by kts_isx
theorem Raise_ada {ex : Expr} {pos : Pos} {Q : Flow → Shared → Prop} (hh : A.handled = none) (h : wpAny (model PySem.Challenge.pw_pp0007_01 w) A (eval ex env) (RaisA w E) E s) : wpAny (model PySem.Challenge.pw_pp0007_01 w) A (exec (.Raise (some ex) none pos) env) Q E s := by
  show wpAny _ A (do standAt pos; raiseStmt env (some (do let v ← eval ex env; standAt pos; pure v)) none) Q E s
  refine wpAny_bind (wpAny_standAt ?_)
  unfold raiseStmt
  dsimp only
  refine wpAny_bind (wpAny_bind (wpAny_mono h (fun v s₁ h₁ => wpAny_bind (wpAny_standAt (wpAny_pure ?_))) fun _ _ x => x))
  obtain ⟨e, ed, tp, rfl, he, X, hE⟩ := h₁
  unfold excObj at he
  obtain ⟨nm, q', N, bs, bm, hdct, sn, sub, ab, col, dd, k0, k1, k2, k3, k5, newId, hC, hbase, hbT⟩ := kts_cls X (kts70 w)
  have hcB : (Value.ref 70 :: bm).contains (.type "BaseException") = true := by rw [List.contains_cons, hbase, Bool.or_true]
  obtain ⟨hp, g, d, tk, os⟩ := s₁
  repeat (first | with_reducible refine wpAny_loadPart_at he ?_ | with_reducible refine wpAny_loadPart_at hC ?_ | (with_reducible refine wpAny_isSubtype_exc hC ?_; rw [hcB]) | wp_step)
  exact wpAny_raiseNew_none hh hE
end

end Mine
namespace Mine
noncomputable def AdaW (wd : Str) (o : Obj) : Prop := ∃ h1 h2 h3 h4 k1 k2 k3 k4 v1 v4 t2 t3 n, o = adaDict h1 h2 h3 h4 k1 k2 k3 k4 v1 v4 wd t2 t3 n
theorem AdaW.of {h1 h2 h3 h4 : Int} {k1 k2 k3 k4 : Tok} {v1 v4 : Value} {wd : Str} {t2 t3 : Tok} {n : Nat} : AdaW wd (adaDict h1 h2 h3 h4 k1 k2 k3 k4 v1 v4 wd t2 t3 n) := ⟨_, _, _, _, _, _, _, _, _, _, _, _, _, rfl⟩
/-- what a call that raises class 70 with this word leaves -/
noncomputable def ErrD (base h₀ : Heap) (L : Addr) (m : Str → Option Value) (l : List Env) (wd : Str) (news : List (Addr × Obj)) (s : Shared) (E : Value → Shared → Prop) : Prop :=
  ∀ G e ed od h' tk, Fr h₀ L G m → RaisedD base G l e ed ((ed, od) :: news) h' → AdaW wd od → (∀ p ∈ news, p.1 ≠ ed) → G.UpToSlots h' → E (.ref e) { s with heap := h', toks := tk }

theorem funFrames_but {h h3 B : Heap} {C : Addr} {oC : Obj} (hC : B.get? C = some oC) (hs : Heap.SameBut C h h3) : ∀ {l : List Env}, h.FunFrames B l → h3.FunFrames (hideAll B [C]) l
  | [], _ => trivial
  | env :: rest, ⟨a, ⟨L, o, f, n, g, d⟩, r⟩ => by
    refine ⟨a, ⟨L, o, f, ?_, ?_, d⟩, funFrames_but hC hs r⟩
    · cases q : (hideAll B [C]).get? L with
      | none => rfl
      | some o' => have := of_hideAll _ q; rw [n] at this; cases this
    · rw [hs.2 L (fun z => by rw [z, hC] at n; cases n)]
      exact g
theorem FlyD.but {B h h3 : Heap} {l : List Env} {e ed C : Addr} {oC : Obj} {fl : Value} (x : FlyD B l e ed fl h) (hC : B.get? C = some oC) (hs : Heap.SameBut C h h3) : FlyD (hideAll B [C]) l e ed fl h3 := by
  obtain ⟨hkb, hen, hl, oe, vs, T, oT, ts, he, hc, hdd, hd, h1, hnT, hTe, hT, hdT, h3'⟩ := x
  have hid : ∀ b, B.get? b = none → (hideAll B [C]).get? b = none := fun b hb => by
    cases q : (hideAll B [C]).get? b with
    | none => rfl
    | some o' => have := of_hideAll _ q; rw [hb] at this; cases this
  have neC : ∀ b, B.get? b = none → b ≠ C := fun b hb z => by rw [z, hC] at hb; cases hb
  refine ⟨fun b o q => ?_, hid e hen, funFrames_but hC hs hl, oe, vs, T, oT, ts, (hs.2 e (neC e hen)).trans he, hc, hdd, hd, h1, hid T hnT, hTe, (hs.2 T (neC T hnT)).trans hT, hdT, h3'⟩
  have hb : b ≠ C := fun z => by
    rw [z, hideAll_none _ (.head _)] at q
    cases q
  exact (hs.2 b hb).trans (hkb b o (of_hideAll _ q))
theorem RaisedD.but {base G h h3 : Heap} {l : List Env} {e ed C : Addr} {oC : Obj} {news news' : List (Addr × Obj)} (R : RaisedD base G l e ed news h) (hC : (C, oC) ∈ news) (hs : Heap.SameBut C h h3) (hn : ∀ q ∈ news', q ∈ news ∧ q.1 ≠ C) : RaisedD base G l e ed news' h3 := by
  obtain ⟨B, r1, r2, r3, fl, r4⟩ := R
  have c := r3 _ hC
  refine ⟨hideAll B [C], fun b o q => hideAll_get _ (r1 b o q) (fun z => ?_), fun b o q nm => hideAll_get _ (r2 b o q nm) (fun z => ?_), fun q hq => ?_, fl, r4.but c.1 hs⟩
  · rw [List.mem_singleton.mp z] at q
    rw [c.2.2] at q
    cases q
  · rw [List.mem_singleton.mp z] at q
    rw [c.2.1] at q
    cases q
  · obtain ⟨q1, q2⟩ := hn q hq
    have z := r3 q q1
    exact ⟨hideAll_get _ z.1 (fun z' => q2 (List.mem_singleton.mp z')), z.2⟩

/-- what an element of a comprehension leaves when it raises class 70 -/
noncomputable def ErrIn (Bad : Prop) (base h₀ : Heap) (L : Addr) (m : Str → Option Value) (l : List Env) (wd : Str) (news : List (Addr × Obj)) (s : Shared) (v : Value) (s' : Shared) : Prop :=
  Bad ∧ ∃ G e ed od h' tk, v = .ref e ∧ s' = { s with heap := h', toks := tk } ∧ Fr h₀ L G m ∧ RaisedD base G l e ed ((ed, od) :: news) h' ∧ AdaW wd od ∧ (∀ p ∈ news, p.1 ≠ ed) ∧ G.UpToSlots h'
theorem ErrIn.of {Bad : Prop} (hb : Bad) {base h₀ : Heap} {L : Addr} {m : Str → Option Value} {l : List Env} {wd : Str} {news : List (Addr × Obj)} {s : Shared} : ErrD base h₀ L m l wd news s (ErrIn Bad base h₀ L m l wd news s) :=
  fun G e ed od h' tk a b c d e' => ⟨hb, G, e, ed, od, h', tk, rfl, rfl, a, b, c, d, e'⟩
noncomputable def Kept (h₀ : Heap) (L : Addr) (m : Str → Option Value) (news : List (Addr × Obj)) (s₂ : Shared) (P : Prop) (s₃ : Shared) : Prop := ∃ h' tk', s₃ = { s₂ with heap := h', toks := tk' } ∧ Fr h₀ L h' m ∧ News h₀ L h' news ∧ P
noncomputable def RestR (Bad : Prop) (prog : Program) (w : World) (A : Around) (base h₀ : Heap) (L : Addr) (m : Str → Option Value) (env : Env) (outer : List Env) (wd : Str) (elt : Expr) (x : Str) (scope : Scope) (cl : List (Str × Addr)) (s : Shared) (news : List (Addr × Obj)) (Fin : List Value → Prop) : List Value → List Value → Prop
  | [], zs => Fin zs
  | v :: r, zs => ∀ I oI C oC D m₂ h tk, LCg.NsObj oC m₂ → m₂ x = some v → Fr h₀ L h m → News h₀ L h ((I, oI) :: (C, oC) :: (D, LCg.lst zs) :: news) → LCg.Off3 I C D news → ((@Ne Nat I C) ∧ (@Ne Nat I D) ∧ (@Ne Nat C D)) →
      wpAny (model prog w) A (eval elt (compEnvC scope cl C env)) (fun y s₃ => Kept h₀ L m ((I, oI) :: (C, oC) :: (D, LCg.lst zs) :: news) { s with heap := h, toks := tk } (RestR Bad prog w A base h₀ L m env outer wd elt x scope cl s news Fin r (zs ++ [y])) s₃)
        (ErrIn Bad base h₀ L m (env :: outer) wd ((I, oI) :: (C, oC) :: (D, LCg.lst zs) :: news) { s with heap := h, toks := tk }) { s with heap := h, toks := tk }
noncomputable def SrcR (prog : Program) (w : World) (A : Around) (base h₀ : Heap) (L : Addr) (m : Str → Option Value) (env : Env) (outer : List Env) (elt : Expr) (x : Str) (scope : Scope) (cl : List (Str × Addr)) (Q : Value → Shared → Prop) (E : Value → Shared → Prop) (xv : Value) (s₁ : Shared) : Prop :=
  ∃ Bad ax ys k news wd, xv = .ref ax ∧ A.handled = none ∧ Fr h₀ L s₁.heap m ∧ News h₀ L s₁.heap news ∧ (ax, ({ cls := .type "list", data := .seq (List.toArray ys) k } : Obj)) ∈ news ∧ ys.length ≤ sizeLine ∧
    (Bad → ErrD base h₀ L m (env :: outer) wd news s₁ E) ∧ ∀ s₂ : Shared, (∃ h, s₂ = { s₁ with heap := h }) → RestR Bad prog w A base h₀ L m env outer wd elt x scope cl s₂ news (fun zs => LCg.FinE h₀ L m s₂ Q zs news) ys []

section
variable {prog : Program} {w : World} {A : Around} {E : Value → Shared → Prop} {s : Shared} {base h₀ : Heap} {L : Addr} {m : Str → Option Value} {env : Env} {outer : List Env}
theorem ListComp_R {elt iter : Expr} {x : Str} {px : Pos} {scope : Scope} {cl : List (Str × Addr)} {pos : Pos} {Q : Value → Shared → Prop} (F₀ : Fr h₀ L s.heap m)
    (hAf : A.frames = some (env :: outer)) (hf : env.frame = some L)
    (hclos : closureFor scope env = pure cl) (hcell : ∀ y ∈ scope.names, y.2 ≠ .cell) (hkind : scope.kind = .function)
    (hnames : ∀ y ∈ scope.names, y.2 = .local → scope.names.lookup y.1 = some .local) (hx : scope.names.lookup x = some .local)
    (h : wpAny (model prog w) A (eval iter env) (SrcR prog w A base h₀ L m env outer elt x scope cl Q E) E s)
    (hs : ∀ x, foldedSetIterable iter env x = pure x := by intro _; rfl) :
    wpAny (model prog w) A (eval (.ListComp elt [⟨.Name x px, iter, [], 0⟩] scope pos) env) Q E s := by
  rw [eval_ListComp]
  refine wpAny_comprehension_free (use := none) rfl hs hclos hkind hnames (wpAny_mono h (fun xv s₁ h₁ => ?_) fun _ _ e => e)
  obtain ⟨Bad, ax, its, k, news, wd, rfl, hh, F, N, hm, hsz, hE, R⟩ := h₁
  have hax := N _ hm
  have hl : s₁.heap.IsList ax its.toArray := ⟨_, hax.1, rfl, k, rfl⟩
  have hlt : ax < s₁.heap.objs.size := Heap.lt_size hax.1
  refine wpAny_pyIter_list hl ?_
  -- the iterator, the list and the comprehension's own names
  obtain ⟨I, hI⟩ : ∃ I, I = s₁.heap.objs.size := ⟨_, rfl⟩
  rw [← hI]
  have W := Walks.list (prog := prog) (w := w) hh I ax (hI ▸ Nat.ne_of_lt hlt) its.toArray
  generalize hH : s₁.heap.push { cls := .type "list_iterator", data := .fields #[.ref ax, .int 0 0] } = H
  have hup : ∀ b o, s₁.heap.get? b = some o → H.get? b = some o := fun b o e => hH ▸ Heap.get?_push_of_some _ e
  have hHs : H.objs.size = I + 1 := by rw [← hH, Heap.size_push, hI]
  have hst : H.IsListIter I ax 0 ∧ H.IsList ax its.toArray := ⟨⟨_, by rw [← hH, hI]; exact Heap.get?_push_size _ rfl, rfl, rfl⟩, hH ▸ hl.push _⟩
  have FH : Fr h₀ L H m := F.keeps hup
  have NH : News h₀ L H news := N.grown hup
  have hLI : L ≠ I := hI ▸ Nat.ne_of_lt F.ns.lt
  have hI₀ : h₀.get? I = none := hI ▸ next_is_new F
  have offI : ∀ p ∈ news, p.1 ≠ I := fun p hp => hI ▸ Nat.ne_of_lt (Heap.lt_size (N p hp).1)
  have hIlt : I < H.objs.size := hHs ▸ Nat.lt_succ_self _
  have haxlt : ax < H.objs.size := Nat.lt_trans (hI ▸ hlt) hIlt
  clear hlt hH
  have R₀ := R { s₁ with heap := H } ⟨H, rfl⟩
  refine wpAny_newObj_type (wpAny_newFunctionEnv hcell (by intro y hy; simp at hy) (fun h₁ hns₁ hsb₁ => ?_) hkind)
  dsimp only at hns₁ hsb₁ ⊢
  obtain ⟨D, hD⟩ : ∃ D, D = H.objs.size := ⟨_, rfl⟩
  generalize hH2 : H.push { cls := .type "list", dict := none, data := .seq ([] : List Value).toArray } = H2 at hns₁ hsb₁ ⊢
  obtain ⟨C, hC⟩ : ∃ C, C = H2.objs.size := ⟨_, rfl⟩
  rw [← hC] at hns₁ hsb₁ ⊢
  rw [← hD]
  have hCD : C = D + 1 := by rw [hC, ← hH2, Heap.size_push, hD]
  have hDC : D ≠ C := by rw [hCD]; exact Nat.ne_of_lt (Nat.lt_succ_self _)
  have below : ∀ b, b < H.objs.size → b ≠ C ∧ b ≠ D := fun b hb => ⟨by rw [hCD, hD]; exact Nat.ne_of_lt (Nat.lt_succ_of_lt hb), hD ▸ Nat.ne_of_lt hb⟩
  have old : ∀ b o, H.get? b = some o → h₁.get? b = some o := fun b o e => hsb₁.extBut b o (below b (Heap.lt_size e)).1 (Heap.get?_push_of_some _ (hH2 ▸ Heap.get?_push_of_some _ e))
  have hacc : h₁.get? D = some (LCg.lst []) := hsb₁.extBut _ _ hDC (Heap.get?_push_of_some _ (by rw [← hH2, hD]; exact Heap.get?_push_size _ rfl))
  have hst₁ : h₁.IsListIter I ax 0 ∧ h₁.IsList ax its.toArray := W.frame _ _ _ hst fun b _ o e => old b o e
  have fresh₀ : ∀ a, H.objs.size ≤ a → h₀.get? a = none := fun a ha => by
    cases e : h₀.get? a with
    | none => rfl
    | some o' => exact absurd (Heap.lt_size (FH.keep a o' e)) (Nat.not_lt.mpr ha)
  have hD₀ : h₀.get? D = none := fresh₀ _ (hD ▸ Nat.le_refl _)
  have hC₀ : h₀.get? C = none := fresh₀ _ (by rw [hCD, hD]; exact Nat.le_succ _)
  have hDL : D ≠ L := Ne.symm (below L FH.ns.lt).2
  have hCL : C ≠ L := Ne.symm (below L FH.ns.lt).1
  have hCI : I ≠ C := (below I hIlt).1
  have hDI : I ≠ D := (below I hIlt).2
  have off₀ : LCg.Off3 I C D news := LCg.Off3.of fun p hp => ⟨offI p hp, (below _ (Heap.lt_size (NH p hp).1)).1, (below _ (Heap.lt_size (NH p hp).1)).2⟩
  have off3 := off₀.mem
  have hfr : (compEnvC scope cl C env).frame = env.frame := rfl
  have loop : ∀ s₃ : Shared, s₃ = { s₁ with heap := h₁, toks := s₁.toks + ([] : List (Str × Value)).length } →
      codeAny (model prog w) A (.compLoop (.ListComp elt [⟨.Name x px, iter, [], 0⟩] scope pos) 0 (.ref I) (.ref D) (compEnvC scope cl C env)) (compPost (model prog w) A E none Q (.ref D) C) s₃ := by
    rintro s₃ rfl
    refine codeAny_compLoop_list
      (fun k s' => ∃ h' tk i zs m', s' = { s₁ with heap := h', toks := tk } ∧ i ≤ its.length ∧ k = its.length + 1 - i ∧ zs.length = i ∧ (h'.IsListIter I ax i ∧ h'.IsList ax its.toArray) ∧ Fr h₀ L h' m ∧ h'.Ns C m' ∧ News h₀ L h' ((D, LCg.lst zs) :: news) ∧
        RestR Bad prog w A base h₀ L m env outer wd elt x scope cl { s₁ with heap := H } news (fun zs => LCg.FinE h₀ L m { s₁ with heap := H } Q zs news) (its.drop i) zs) ?_ (its.length + 1)
      ⟨h₁, _, 0, [], _, rfl, Nat.zero_le _, rfl, rfl, hst₁, FH.keeps old, hns₁, fun p hp => ?_, by rw [List.drop_zero]; exact R₀⟩
    · rintro k s' ⟨h', tk, i, zs, m', rfl, hi, rfl, hzl, hst', F', hn', N', R'⟩
      by_cases hlt : i < its.length
      · rw [List.drop_eq_getElem_cons hlt] at R'
        refine W.item i _ _ _ (by simpa using hlt) hst' fun v h₂ tk₂ hPv hst₂ hk₂ => ?_
        have hv : v = its[i] := by
          rw [List.getElem?_toArray, List.getElem?_eq_getElem hlt] at hPv
          exact (Option.some.inj hPv).symm
        subst hv
        refine wpAny_assign_Name (wpAny_storeName_local (lookup_relabel_local hx) (hn'.at' fun o e => hk₂ _ o (by simpa using Ne.symm hCI) e) (fun h₃ hn₃ hs₃ => ?_) (by simp [compEnvC, relabel, hkind]))
        have hst₃ : h₃.IsListIter I ax (i + 1) ∧ h₃.IsList ax its.toArray := W.frame _ _ _ hst₂ fun b hb o e => hs₃.extBut b o (fun q => by
          rw [q] at hb
          rcases List.mem_cons.mp hb with z | z
          · exact hCI z.symm
          · exact (below ax haxlt).1 (List.mem_singleton.mp z).symm) e
        obtain ⟨oI, heI, _⟩ := id hst₃.1
        obtain ⟨oC, heC, hoC⟩ := LCg.ns_obj hn₃
        have F₃ : Fr h₀ L h₃ m := (LCg.fr_but F' hk₂ hLI hI₀).change hs₃ hCL hC₀
        have N₂ : News h₀ L h₂ ((D, LCg.lst zs) :: news) := LCg.news_but N' hk₂ fun p hp => by
          rcases List.mem_cons.mp hp with rfl | hp
          · exact Ne.symm hDI
          · exact (off3 p hp).1
        have N₃ : News h₀ L h₃ ((I, oI) :: (C, oC) :: (D, LCg.lst zs) :: news) := fun p hp => by
          rcases List.mem_cons.mp hp with rfl | hp
          · exact ⟨heI, Ne.symm hLI, hI₀⟩
          · rcases List.mem_cons.mp hp with rfl | hp
            · exact ⟨heC, hCL, hC₀⟩
            · have z := N₂ p hp
              refine ⟨hs₃.extBut _ _ ?_ z.1, z.2⟩
              rcases List.mem_cons.mp hp with rfl | hp
              · exact hDC
              · exact (off3 p hp).2.1
        refine wpAny_mono (R' I oI C oC D _ h₃ _ hoC (by simp) F₃ N₃ off₀ ⟨hCI, hDI, Ne.symm hDC⟩) (fun y s₄ h₄ => ?_) (fun v s₄ h₄ => ?_)
        · obtain ⟨h₄, tk₄, rfl, F₄, N₄, R₄⟩ := h₄
          have zI := (N₄ _ (.head _)).1
          have zC := (N₄ _ (.tail _ (.head _))).1
          have zD := (N₄ _ (.tail _ (.tail _ (.head _)))).1
          have hst₄ : h₄.IsListIter I ax (i + 1) ∧ h₄.IsList ax its.toArray := by
            refine ⟨?_, ⟨_, (N₄ _ (.tail _ (.tail _ (.tail _ hm)))).1, rfl, _, rfl⟩⟩
            obtain ⟨o', q, r⟩ := hst₃.1
            rw [heI] at q
            cases q
            exact ⟨oI, zI, r⟩
          refine append_at (hsz := by show zs.toArray.size ≤ sizeLine; rw [List.size_toArray, hzl]; exact Nat.le_trans hi hsz) zD fun h₅ hs₅ hD₅ => ?_
          refine ⟨its.length + 1 - (i + 1), by omega, h₅, tk₄, i + 1, zs ++ [y], _, rfl, hlt, rfl, by rw [List.length_append, List.length_singleton, hzl], W.frame _ _ _ hst₄ fun b hb o e => hs₅.extBut b o (fun q => ?_) e, F₄.change hs₅ hDL hD₀,
            (hoC.ns zC).sameBut hs₅ (Ne.symm hDC), fun p hp => ?_, R₄⟩
          · rw [q] at hb
            rcases List.mem_cons.mp hb with z | z
            · exact hDI z.symm
            · exact (below ax haxlt).2 (List.mem_singleton.mp z).symm
          · rcases List.mem_cons.mp hp with rfl | hp
            · exact ⟨hD₅.trans (congrArg some (LCg.lst_snoc zs y)), hDL, hD₀⟩
            · have z := N₄ p (.tail _ (.tail _ (.tail _ hp)))
              exact ⟨hs₅.extBut _ _ (off3 p hp).2.2 z.1, z.2⟩
        · obtain ⟨hbad, G, e, ed, od, h₄, tk₄, rfl, rfl, FG, RR, hw, hned, hU⟩ := h₄
          show wpAny _ A (noteFrame (.ref e) (compEnvC scope cl C env)) _ _ _
          rw [noteFrame_same hfr]
          obtain ⟨B, r1, r2, r3, fl, r4⟩ := RR
          refine noteFrameD hAf hf r4 fun h₅ fl₅ r5 u5 => ?_
          have zC := r5.1 _ _ (r3 _ (.tail _ (.tail _ (.head _)))).1
          refine ⟨_, hoC.ns zC, fun h₆ hs₆ cenv hcenv => ?_⟩
          have RR₆ : RaisedD base G (env :: outer) e ed ((ed, od) :: news) h₆ := by
            refine RaisedD.but (C := C) (oC := oC) ⟨B, r1, r2, r3, fl₅, r5⟩ (.tail _ (.tail _ (.head _))) hs₆ fun q hq => ?_
            rcases List.mem_cons.mp hq with rfl | hq
            · exact ⟨.head _, Ne.symm (hned _ (.tail _ (.head _)))⟩
            · exact ⟨.tail _ (.tail _ (.tail _ (.tail _ hq))), (off3 q hq).2.1⟩
          obtain ⟨B₆, a1, a2, a3, fl₆, a4⟩ := RR₆
          refine passOnD a4 fun h₇ fl₇ b4 u7 => ?_
          have hGC : G.get? C = none := (r3 _ (.tail _ (.tail _ (.head _)))).2.1
          refine hE hbad G e ed od h₇ _ FG ⟨B₆, a1, a2, a3, fl₇, b4⟩ hw (fun p hp => hned p (.tail _ (.tail _ (.tail _ hp)))) ?_
          have u6 : G.UpToSlots h₆ := fun b o q nf => by
            obtain ⟨sl, hs⟩ := (hU.trans u5) b o q nf
            exact ⟨sl, (hs₆.2 b (fun z => by rw [z, hGC] at q; cases q)).trans hs⟩
          exact u6.trans u7
      · obtain rfl : i = its.length := Nat.le_antisymm hi (Nat.not_lt.mp hlt)
        rw [List.drop_length] at R'
        refine W.done _ _ _ (by simpa using hst') fun h₂ tk₂ hk₂ => ?_
        have F₂ := LCg.fr_but F' hk₂ hLI hI₀
        have N₂ : News h₀ L h₂ ((D, LCg.lst zs) :: news) := LCg.news_but N' hk₂ fun p hp => by
          rcases List.mem_cons.mp hp with rfl | hp
          · exact Ne.symm hDI
          · exact (off3 p hp).1
        have hn₂ := hn'.at' fun o e => hk₂ _ o (by simpa using Ne.symm hCI) e
        refine ⟨_, hn₂, fun h'' hs'' => R' D h'' _ (F₂.change hs'' hCL hC₀) (fun p hp => ?_) off₀.one⟩
        refine ⟨hs''.extBut _ _ ?_ (N₂ p hp).1, (N₂ p hp).2⟩
        rcases List.mem_cons.mp hp with rfl | hp
        · exact hDC
        · exact (off3 p hp).2.1
    · rcases List.mem_cons.mp hp with rfl | hp
      · exact ⟨hacc, hDL, hD₀⟩
      · exact ⟨old _ _ (NH p hp).1, (NH p hp).2⟩
  exact codeAny_compStart_list (loop _ rfl) (W.self 0 _ _ _ hst₁ (loop _ rfl))
end

theorem RestR.ind {Bad : Prop} {prog : Program} {w : World} {A : Around} {base h₀ : Heap} {L : Addr} {m : Str → Option Value} {env : Env} {outer : List Env} {wd : Str} {elt : Expr} {x : Str} {scope : Scope} {cl : List (Str × Addr)} {s : Shared} {news : List (Addr × Obj)} {Fin : List Value → Prop}
    (P : List Value → List Value → Prop) (nil : ∀ zs, P [] zs → Fin zs)
    (cons : ∀ v r zs, P (v :: r) zs → ∀ I oI C oC D m₂ h tk, LCg.NsObj oC m₂ → m₂ x = some v → Fr h₀ L h m → News h₀ L h ((I, oI) :: (C, oC) :: (D, LCg.lst zs) :: news) → LCg.Off3 I C D news → ((@Ne Nat I C) ∧ (@Ne Nat I D) ∧ (@Ne Nat C D)) →
      wpAny (model prog w) A (eval elt (compEnvC scope cl C env)) (fun y s₃ => Kept h₀ L m ((I, oI) :: (C, oC) :: (D, LCg.lst zs) :: news) { s with heap := h, toks := tk } (P r (zs ++ [y])) s₃)
        (ErrIn Bad base h₀ L m (env :: outer) wd ((I, oI) :: (C, oC) :: (D, LCg.lst zs) :: news) { s with heap := h, toks := tk }) { s with heap := h, toks := tk }) :
    ∀ r zs, P r zs → RestR Bad prog w A base h₀ L m env outer wd elt x scope cl s news Fin r zs := by
  intro r
  induction r with
  | nil => exact nil
  | cons v r ih =>
    intro zs p I oI C oC D m₂ h tk h1 h2 h3 h4 h5 h6
    refine wpAny_mono (cons v r zs p I oI C oC D m₂ h tk h1 h2 h3 h4 h5 h6) (fun y s₃ hk => ?_) fun _ _ e => e
    obtain ⟨h', tk', e1, e2, e3, e4⟩ := hk
    exact ⟨h', tk', e1, e2, e3, ih _ e4⟩
end Mine
namespace Mine
theorem rules_T7_1 : True := by
  k_with_none
  k_with "execs cons" => (k_here; (try dsimp only); (with_reducible refine flat ?_); intro ztk'; (with_reducible refine wpAny_execs_cons ?_); (try dsimp only))
  trivial
theorem rules_T7_2 : True := by
  k_with "my all" => (assumption)
  k_with "my enter" => (refine' code_def ?k1 ?k2 ?k3 ?k4 ?k5 ?kA ?kF ?kK ?k6 ?k7 ?k8 ?k9 ?kB ?_ ?c2 ?c3 ?c4 ?c5; (case kA => exact rfl); (case kF => exact rfl); (case kK => first | assumption | exact rfl); (case k1 => k_asm); (case k2 => k_asm); (case k3 => k_asm); (case k4 => k_asm); (case k5 => k_asm); (case k6 => k_is); (case k7 => k_is); (case k8 => ktr_room); (case k9 => first | exact BindsTo.of_eq rfl | exact binds_K (by k_in) rfl (by k_is) rfl rfl rfl); (case c5 => decide); (case kB => exact locs rfl); (case c2 => exact rfl); (case c3 => exact rfl); (case c4 => exact rfl); k_whole; intro zg' zL' zh' zFG' zF' zN' zB' zX' zT'; (try dsimp only); (try k_fold))
  k_with "my enter" => (refine' code_defC ?k1 ?k2 ?k3 ?k4 ?k5 ?kA ?kF ?kK ?k6 ?k7 ?k8 ?k9 ?kB ?kD ?_ ?c2 ?c3 ?c4; (case kA => exact rfl); (case kF => exact rfl); (case kK => first | assumption | exact rfl); (case k1 => k_asm); (case k2 => k_asm); (case k3 => k_asm); (case k4 => k_asm); (case k5 => k_asm); (case k6 => k_is); (case k7 => k_is); (case k8 => ktr_room); (case k9 => exact BindsTo.of_eq rfl); (case kB => exact rfl); (case kD => decide +kernel); (case c2 => exact rfl); (case c3 => exact rfl); (case c4 => exact rfl); k_whole; intro zg' zL' zh' ztk' zcells' zFG' zF' zN' zY' zB' zX' zT' zl1; (try k_lt zl1); k_cells zY'; (try simp only [List.cons_append, List.nil_append] at zN'); (try dsimp only); (try k_fold))
  k_with "call ref" => (k_here; (with_reducible show wpAny _ _ (call (Value.ref 406) [Value.ref _, Value.int _ _]) _ _ _); k_dflt (refine' cast_app ?B ?F ?X ?N ?T ?hk ?hi ?hl ?hm ?U ?k0 ?k1 ?hs ?hs2 ?hne ?hd ?hu ?_; (case B => k_asm); (case F => k_asm); (case X => k_asm); (case N => k_asm); (case T => k_asm); (case hk => first | exact rfl | assumption); (case hi => assumption); (case hl => assumption); (case hm => k_mem); (case U => intro zt'; k_upd)); (case k0 => omega); (case k1 => omega); (case hs => omega); (case hs2 => omega); (case hne => k_ne); (case hd => ktr_room); (case hu => ktr_room); k_whole; intro zh' ztk' zt3' zt4' zv' zF' zN' zv0' zv1'; (try k_sweep); walk_say "CAST")
  k_with "CompSrc" => (refine hold ?_)
  k_with "CompEnd" => (refine hold ?_)
  k_with "exec Raise some none" => (k_dflt (refine Raise_ada (by rfl) ?_))
  k_with "call ref" => (k_here; (with_reducible show wpAny _ _ (call (Value.ref 70) [Value.str _ _, Value.int _ _, Value.str _ _]) _ _ _); k_dflt (refine' call_ada ?B ?F ?X ?N ?T ?hk ?hd ?hu ?_; (case B => k_asm); (case F => k_asm); (case X => k_asm); (case N => k_asm); (case T => k_asm); (case hk => first | exact rfl | assumption)); (case hd => ktr_room); (case hu => ktr_room); k_whole; intro zh' ztk' ze' zed' ztp' zh1' zh2' zh3' zh4' zk1' zk2' zk3' zk4' zv1' zv4' zt2' zt3' zn' zF' zN' zne' zned'; (try k_sweep))
  k_with "RaisA" => (refine ⟨_, _, _, rfl, News.get (by k_asm) (.head _), Frag.In.keeps (by k_asm) (Fr.keep (by k_asm)), ?_⟩)
  k_with "leaving ref" => (k_here; (refine' leave_raiseD ?K ?F ?N ?ne ?_; (case K => assumption); (case F => k_asm); (case N => k_asm); (case ne => assumption)); intro zh' zR' zU')
  trivial


section
variable {w : World} {mean : ExcName → Option Value} {mg mb : Str → Option Value} {A₀ : Around} {base h₀ : Heap} {outer : List Env} {L : Addr} {m : Str → Option Value}
  {s : Shared} {dp un : Nat} {gd : Option (List Code)} {cn : Str} {cs : Scope} {a : Addr} {ccd : Value} {cl : List (Str × Addr)} {Q E : Value → Shared → Prop}
theorem need_unset {news : List (Addr × Obj)} (B : Below A₀ base outer h₀) (F : Fr h₀ L s.heap m) (X : (Mine.KK w.params).In h₀) (N : News h₀ L s.heap news) (T : Top Mine.vw loo mean mg mb h₀) (hk : cs.kind = .function)
    (hd : dp + 5 < 500) (hu : un + 50 < 1000) (hE : ErrD base h₀ L m (envX cn cs L a ccd cl :: outer) (Str.ofString "program_error") news s E) :
    wpAny (model PySem.Challenge.pw_pp0007_01 w) (ktrTop dp un gd cn cs L a ccd cl outer) (call (.ref 194) [.ref 95]) Q E s := by
  w_top off
  refine wpAny_call ?_
  k_dflt k_enter
  k_steps
  rename Fr h₀ L _ _ => kFG
  rename RaisedD _ _ _ _ _ _ _ => kR
  rename Heap.UpToSlots _ _ => kU
  rename ∀ p ∈ news, p.1 ≠ _ => kne
  exact hE _ _ _ _ _ _ kFG kR AdaW.of kne kU
theorem need_int {news : List (Addr × Obj)} {v : Int} {t : Tok} (B : Below A₀ base outer h₀) (F : Fr h₀ L s.heap m) (X : (Mine.KK w.params).In h₀) (N : News h₀ L s.heap news) (T : Top Mine.vw loo mean mg mb h₀) (hk : cs.kind = .function)
    (hd : dp + 5 < 500) (hu : un + 50 < 1000) (hQ : ∀ h' tk, Fr h₀ L h' m → News h₀ L h' news → Q (.int v t) { s with heap := h', toks := tk }) :
    wpAny (model PySem.Challenge.pw_pp0007_01 w) (ktrTop dp un gd cn cs L a ccd cl outer) (call (.ref 194) [.int v t]) Q E s := by
  w_top off
  refine wpAny_call ?_
  k_dflt k_enter
  k_steps
  rename Fr h₀ L _ _ => kF
  rename News h₀ L _ _ => kN
  exact hQ _ _ kF kN
end
end Mine
namespace Mine
theorem rules_T8_1 : True := by
  k_with_none
  k_with "execs cons" => (k_here; (try dsimp only); (with_reducible refine flat ?_); intro ztk'; (with_reducible refine wpAny_execs_cons ?_); (try dsimp only); (try k_fold))
  trivial
theorem rules_T8_2 : True := by
  k_with "my all" => (assumption)
  k_with "my enter" => (refine' code_def ?k1 ?k2 ?k3 ?k4 ?k5 ?kA ?kF ?kK ?k6 ?k7 ?k8 ?k9 ?kB ?_ ?c2 ?c3 ?c4 ?c5; (case kA => exact rfl); (case kF => exact rfl); (case kK => first | assumption | exact rfl); (case k1 => k_asm); (case k2 => k_asm); (case k3 => k_asm); (case k4 => k_asm); (case k5 => k_asm); (case k6 => k_is); (case k7 => k_is); (case k8 => ktr_room); (case k9 => first | exact BindsTo.of_eq rfl | exact binds_K (by k_in) rfl (by k_is) rfl rfl rfl); (case c5 => decide); (case kB => exact locs rfl); (case c2 => exact rfl); (case c3 => exact rfl); (case c4 => exact rfl); k_whole; intro zg' zL' zh' zFG' zF' zN' zB' zX' zT'; (try dsimp only); (try k_fold))
  k_with "my enter" => (refine' code_defC ?k1 ?k2 ?k3 ?k4 ?k5 ?kA ?kF ?kK ?k6 ?k7 ?k8 ?k9 ?kB ?kD ?_ ?c2 ?c3 ?c4; (case kA => exact rfl); (case kF => exact rfl); (case kK => first | assumption | exact rfl); (case k1 => k_asm); (case k2 => k_asm); (case k3 => k_asm); (case k4 => k_asm); (case k5 => k_asm); (case k6 => k_is); (case k7 => k_is); (case k8 => ktr_room); (case k9 => exact BindsTo.of_eq rfl); (case kB => exact rfl); (case kD => decide +kernel); (case c2 => exact rfl); (case c3 => exact rfl); (case c4 => exact rfl); k_whole; intro zg' zL' zh' ztk' zcells' zFG' zF' zN' zY' zB' zX' zT' zl1; (try k_lt zl1); k_cells zY'; (try simp only [List.cons_append, List.nil_append] at zN'); (try dsimp only); (try k_fold))
  k_with "call ref" => (k_here; (with_reducible show wpAny _ _ (call (Value.ref 406) [Value.ref _, Value.int _ _]) _ _ _); k_dflt (refine' cast_app ?B ?F ?X ?N ?T ?hk ?hi ?hl ?hm ?U ?k0 ?k1 ?hs ?hs2 ?hne ?hd ?hu ?_; (case B => k_asm); (case F => k_asm); (case X => k_asm); (case N => k_asm); (case T => k_asm); (case hk => first | exact rfl | assumption); (case hi => assumption); (case hl => assumption); (case hm => k_mem); (case U => intro zt'; k_upd)); (case k0 => omega); (case k1 => omega); (case hs => omega); (case hs2 => omega); (case hne => k_ne); (case hd => ktr_room); (case hu => ktr_room); k_whole; intro zh' ztk' zt3' zt4' zv' zF' zN' zv0' zv1'; (try k_sweep); walk_say "CAST")
  k_with "CompSrc" => (refine hold ?_)
  k_with "CompEnd" => (refine hold ?_)
  k_with "exec Raise some none" => (k_dflt (refine Raise_ada (by rfl) ?_))
  k_with "call ref" => (k_here; (with_reducible show wpAny _ _ (call (Value.ref 70) [Value.str _ _, Value.int _ _, Value.str _ _]) _ _ _); k_dflt (refine' call_ada ?B ?F ?X ?N ?T ?hk ?hd ?hu ?_; (case B => k_asm); (case F => k_asm); (case X => k_asm); (case N => k_asm); (case T => k_asm); (case hk => first | exact rfl | assumption)); (case hd => ktr_room); (case hu => ktr_room); k_whole; intro zh' ztk' ze' zed' ztp' zh1' zh2' zh3' zh4' zk1' zk2' zk3' zk4' zv1' zv4' zt2' zt3' zn' zF' zN' zne' zned'; (try k_sweep))
  k_with "RaisA" => (refine ⟨_, _, _, rfl, News.get (by k_asm) (.head _), Frag.In.keeps (by k_asm) (Fr.keep (by k_asm)), ?_⟩)
  k_with "leaving ref" => (k_here; (refine' leave_raiseD ?K ?F ?N ?ne ?_; (case K => assumption); (case F => k_asm); (case N => k_asm); (case ne => assumption)); intro zh' zR' zU')
  trivial


noncomputable def SignV (y : Value) : Prop := (∃ v t, y = .int v t ∧ 32 ≤ v ∧ v ≤ 126) ∨ y = .ref 95
noncomputable def chs (ps : List Int) : List Str := ps.map fun i => ⟨#[i.toNat]⟩
noncomputable def InR (ps : List Int) : Prop := ∀ i ∈ ps, 32 ≤ i ∧ i ≤ 126
noncomputable def glue (ps : List Int) : Str := Txt.join (Str.ofString "") (chs ps)
theorem chs_len {ps : List Int} : (chs ps).length = ps.length := List.length_map _
theorem glue_len (ps : List Int) : (glue ps).length = ps.length := by
  unfold glue
  rw [KT.join_ones _ (fun a ha => ?_), chs_len]
  obtain ⟨i, _, rfl⟩ := List.mem_map.mp ha
  rfl

theorem chs_sum : ∀ ps : List Int, ((chs ps).map (·.length)).sum = ps.length
  | [] => rfl
  | p :: r => by
    show 1 + ((chs r).map (·.length)).sum = r.length + 1
    rw [chs_sum r]; omega
theorem strs_snoc {zs : List Value} {ss : List Str} {y : Str} {t : Tok} (h : StrsAre zs ss) : StrsAre (zs ++ [.str y t]) (ss ++ [y]) := by
  induction h with
  | nil => exact .cons _ _ .nil
  | cons a b _ ih => exact .cons _ _ ih
theorem ints_len {vs : List Value} {ns : List Int} (h : IntsAre vs ns) : vs.length = ns.length := by
  induction h with
  | nil => rfl
  | cons a b _ ih => simp [ih]
theorem rules_T8_3 : True := by
  k_with "call builtin:chr" => (k_here; (with_reducible show wpAny _ _ (call (Value.builtin "chr") [Value.int _ _]) _ _ _); (refine chr_of_range (by omega) (by omega) ?_))
  k_with "eval ListComp" => (refine hold ?_)
  k_with "call ref" => ((with_reducible show wpAny _ _ (call (Value.ref 194) _) _ _ _); refine hold ?_)
  k_with "leaving ref" => (refine hold ?_)
  k_with "call builtin:str.join" => (refine hold ?_)
  trivial
section
variable {w : World} {mean : ExcName → Option Value} {mg mb : Str → Option Value} {A₀ : Around} {base h₀ : Heap} {outer : List Env} {L : Addr} {m : Str → Option Value}
  {s : Shared} {dp un : Nat} {gd : Option (List Code)} {cn : Str} {cs : Scope} {a : Addr} {ccd : Value} {cl : List (Str × Addr)} {Q E : Value → Shared → Prop}
theorem text_of_in {x dx l b : Addr} {tk1 tk2 : Tok} {n : Nat} {items : List Value} {news : List (Addr × Obj)} (B : Below A₀ base outer h₀) (F : Fr h₀ L s.heap m) (X : (Mine.KK w.params).In h₀) (N : News h₀ L s.heap news) (T : Top Mine.vw loo mean mg mb h₀) (hk : cs.kind = .function)
    (m1 : (x, instObj 162 dx) ∈ news) (m2 : (dx, dictOf [⟨PyData.keyHash w.params (Str.ofString "bounds"), .str (Str.ofString "bounds") tk1, .ref b⟩, ⟨PyData.keyHash w.params (Str.ofString "items"), .str (Str.ofString "items") tk2, .ref l⟩] 2) ∈ news) (m3 : (l, listOf items.toArray n) ∈ news)
    (hi : ∀ y ∈ items, SignV y) (hl : items.length ≤ 5)
    (hd : dp + 8 < 500) (hu : un + 80 < 1000)
    (hQ : ∀ ps, IntsAre items ps → InR ps → ∀ h' tk t, Fr h₀ L h' m → News h₀ L h' news → Q (.str (glue ps) t) { s with heap := h', toks := tk })
    (hE : .ref 95 ∈ items → ErrD base h₀ L m (envX cn cs L a ccd cl :: outer) (Str.ofString "program_error") news s E) :
    wpAny (model PySem.Challenge.pw_pp0007_01 w) (ktrTop dp un gd cn cs L a ccd cl outer) (call (.ref 225) [.ref x]) Q E s := by
  w_top off
  have N2 : News h₀ L s.heap ((x, _) :: (dx, _) :: (l, _) :: news) := News.sub N (fun p hp => by
      simp only [List.mem_cons] at hp
      rcases hp with rfl | rfl | rfl | hp
      · exact m1
      · exact m2
      · exact m3
      · exact hp)
  clear N
  refine wpAny_call ?_
  k_dflt k_enter
  k_steps
  refine unhold ?_
  rename Fr _ _ _ _ => lF'
  rename Below _ _ _ _ => lB'
  refine ListComp_R (base := base) (outer := _ :: outer) (F₀ := lF') (Around.frames_deeper lB'.stack) (by rfl) (by rfl) (by decide) (by rfl) (by decide) (by rfl) ?_
  k_steps
  rename News _ _ _ _ => lN'
  refine ⟨.ref 95 ∈ items, l, items, n, _, Str.ofString "program_error", rfl, rfl, lF', lN', by k_mem, ?len, ?err, ?rest⟩
  case len =>
    have : sizeLine = 16777216 := by decide +kernel
    omega
  case err =>
    intro hbad G e ed od h' tk FG R aw hne U
    k_steps
    refine unhold ?_
    rename Fr h₀ L _ _ => kFG
    refine leave_onD lB' FG R U (fun h2 R2 U2 => ?_)
    dsimp only
    exact hE hbad _ _ _ _ _ _ kFG (R2.sub fun p hp => by
      rcases List.mem_cons.mp hp with rfl | hp
      · exact .head _
      · exact .tail _ (.tail _ (.tail _ (.tail _ hp)))) aw (fun p hp => hne p (.tail _ (.tail _ (.tail _ hp)))) U2
  case rest =>
    intro s2 hs2
    obtain ⟨g2, rfl⟩ := hs2
    refine RestR.ind (fun r zs => ∃ pre ps, items = pre ++ r ∧ IntsAre pre ps ∧ InR ps ∧ StrsAre zs (chs ps)) ?nil ?cons _ _ ⟨[], [], rfl, .nil, (fun _ h => nomatch h), .nil⟩
    case nil =>
      rintro zs ⟨pre, ps, e, hp, hr, hz⟩
      rw [List.append_nil] at e
      subst e
      unfold LCg.FinE
      intro D3 h3 tk3 F3 N3 o3
      clear lF' lN'
      (try dsimp only)
      k_steps
      refine unhold ?_
      rename News _ _ _ _ => kN
      refine join_listC (items := zs.toArray) (ys := chs ps) (News.isList kN (.head _)) (by simpa using hz) (by decide) ?_ ?_
      · have := ints_len hp
        rw [chs_sum, chs_len]
        omega
      · intro t' k'
        k_steps
        rename Fr h₀ L _ _ => kF
        rename News h₀ L _ _ => kN
        exact hQ ps hp hr _ _ _ kF (News.sub kN fun p hp => by repeat (first | exact hp | apply List.Mem.tail))
    case cons =>
      rintro v r zs ⟨pre, ps, e, hp, hr, hz⟩ I' oI' C' oC' D' m2' h' tk' hC' hx' F' N' off' ne'
      clear lF' lN'
      rcases hi v (e ▸ List.mem_append_right _ (.head _)) with ⟨i, t, rfl, hi1, hi2⟩ | rfl
      · (try k_fold)
        k_steps
        refine unhold ?_
        refine need_int lB' F' (by k_asm) N' (by k_asm) rfl ?_ ?_ ?_
        · show dp + 1 + 5 < 500
          omega
        · show un + 3 + 50 < 1000
          omega
        intro h2 tk2 F2 N2
        clear F' N'
        k_steps
        exact ⟨_, _, rfl, F2, N2, pre ++ [.int i t], ps ++ [i], by rw [e]; simp, IntsAre.append hp (.cons _ _ .nil), fun j hj => (List.mem_append.mp hj).elim (hr j) (fun z => by rw [List.mem_singleton.mp z]; exact ⟨hi1, hi2⟩), by unfold chs; rw [List.map_append]; exact strs_snoc hz⟩
      · (try k_fold)
        k_steps
        refine unhold ?_
        refine need_unset lB' F' (by k_asm) N' (by k_asm) rfl ?_ ?_ (ErrIn.of (e ▸ List.mem_append_right _ (.head _)))
        · show dp + 1 + 5 < 500
          omega
        · show un + 3 + 50 < 1000
          omega
end
end Mine
namespace Mine
theorem rules_TR_1 : True := by
  k_with_none
  k_with "execs cons" => (k_here; (try dsimp only); (with_reducible refine flat ?_); intro ztk'; (with_reducible refine wpAny_execs_cons ?_); (try dsimp only))
  trivial
theorem rules_TR_2 : True := by
  k_with "my all" => (assumption)
  k_with "my enter" => (refine' code_def ?k1 ?k2 ?k3 ?k4 ?k5 ?kA ?kF ?kK ?k6 ?k7 ?k8 ?k9 ?kB ?_ ?c2 ?c3 ?c4 ?c5; (case kA => exact rfl); (case kF => exact rfl); (case kK => first | assumption | exact rfl); (case k1 => k_asm); (case k2 => k_asm); (case k3 => k_asm); (case k4 => k_asm); (case k5 => k_asm); (case k6 => k_is); (case k7 => k_is); (case k8 => ktr_room); (case k9 => first | exact BindsTo.of_eq rfl | exact binds_K (by k_in) rfl (by k_is) rfl rfl rfl); (case c5 => decide); (case kB => exact locs rfl); (case c2 => exact rfl); (case c3 => exact rfl); (case c4 => exact rfl); k_whole; intro zg' zL' zh' zFG' zF' zN' zB' zX' zT'; (try dsimp only); (try k_fold))
  k_with "my enter" => (refine' code_defC ?k1 ?k2 ?k3 ?k4 ?k5 ?kA ?kF ?kK ?k6 ?k7 ?k8 ?k9 ?kB ?kD ?_ ?c2 ?c3 ?c4; (case kA => exact rfl); (case kF => exact rfl); (case kK => first | assumption | exact rfl); (case k1 => k_asm); (case k2 => k_asm); (case k3 => k_asm); (case k4 => k_asm); (case k5 => k_asm); (case k6 => k_is); (case k7 => k_is); (case k8 => ktr_room); (case k9 => exact BindsTo.of_eq rfl); (case kB => exact rfl); (case kD => decide +kernel); (case c2 => exact rfl); (case c3 => exact rfl); (case c4 => exact rfl); k_whole; intro zg' zL' zh' ztk' zcells' zFG' zF' zN' zY' zB' zX' zT' zl1; (try k_lt zl1); k_cells zY'; (try simp only [List.cons_append, List.nil_append] at zN'); (try dsimp only); (try k_fold))
  k_with "call ref" => (k_here; (with_reducible show wpAny _ _ (call (Value.ref 406) [Value.ref _, Value.int _ _]) _ _ _); k_dflt (refine' cast_app ?B ?F ?X ?N ?T ?hk ?hi ?hl ?hm ?U ?k0 ?k1 ?hs ?hs2 ?hne ?hd ?hu ?_; (case B => k_asm); (case F => k_asm); (case X => k_asm); (case N => k_asm); (case T => k_asm); (case hk => first | exact rfl | assumption); (case hi => assumption); (case hl => assumption); (case hm => k_mem); (case U => intro zt'; k_upd)); (case k0 => omega); (case k1 => omega); (case hs => omega); (case hs2 => omega); (case hne => k_ne); (case hd => ktr_room); (case hu => ktr_room); k_whole; intro zh' ztk' zt3' zt4' zv' zF' zN' zv0' zv1'; (try k_sweep); walk_say "CAST")
  k_with "my get" => (assumption)
  trivial
noncomputable def RunE (es : List DictEntry) (wo li ce : Addr) (ln hp : Int) : Prop :=
  getL (Str.ofString "world") es = some (some (.ref wo)) ∧ getL (Str.ofString "limits") es = some (some (.ref li)) ∧ getL (Str.ofString "cells") es = some (some (.ref ce)) ∧
    (∃ t, getL (Str.ofString "line") es = some (some (.int ln t))) ∧ (∃ t, getL (Str.ofString "heaped") es = some (some (.int hp t))) ∧ es.length ≤ 100
theorem rules_TR_9 : True := by
  k_with "execs cons" => (refine hold ?_)
  k_with "STMT" => (refine unhold ?_; (try dsimp only); (with_reducible refine flat ?_); intro ztk'; (with_reducible refine wpAny_execs_cons ?_); (try dsimp only))
  k_with "setAttr ref" => (k_here; (with_reducible show wpAny _ _ (setAttr (Value.ref _) _ _) _ _ _); k_dflt (refine' set_add (C := 277) ?F ?X ?N ?m1 ?U ?D ?hz (by k_is) (by k_is) (by k_is) (by k_is) (by kernel_rfl) ?_; (case F => k_asm); (case X => k_asm); (case N => k_asm); (case m1 => k_mem); (case U => intro zes' zn'; k_upd); (case D => assumption); (case hz => decide)); k_whole; intro zh' zes' zn' zF' zN' zD'; (try k_sweep))
  trivial
section
variable {w : World} {mean : ExcName → Option Value} {mg mb : Str → Option Value} {A₀ : Around} {base h₀ : Heap} {outer : List Env} {L : Addr} {m : Str → Option Value}
  {s : Shared} {dp un : Nat} {gd : Option (List Code)} {cn : Str} {cs : Scope} {a : Addr} {ccd : Value} {cl : List (Str × Addr)} {Q E : Value → Shared → Prop}
theorem mk_run {wo li : Addr} {news : List (Addr × Obj)} (B : Below A₀ base outer h₀) (F : Fr h₀ L s.heap m) (X : (Mine.KK w.params).In h₀) (N : News h₀ L s.heap news) (T : Top Mine.vw loo mean mg mb h₀) (hk : cs.kind = .function)
    (hd : dp + 5 < 500) (hu : un + 50 < 1000)
    (hQ : ∀ h' tk x dx es n ce dce tk2 t2, Fr h₀ L h' m → News h₀ L h' ((ce, instObj 141 dce) :: (dce, dictOf [⟨PyData.keyHash w.params (Str.ofString "last"), .str (Str.ofString "last") tk2, .int 0 t2⟩] 1) :: (x, instObj 277 dx) :: (dx, dictOf es n) :: news) → RunE es wo li ce 0 0 →
      @LT.lt Nat _ dx x → @LT.lt Nat _ x dce → @LT.lt Nat _ dce ce → AllLt dx news → Q (.ref x) { s with heap := h', toks := tk }) :
    wpAny (model PySem.Challenge.pw_pp0007_01 w) (ktrTop dp un gd cn cs L a ccd cl outer) (call (.ref 277) [.ref wo, .ref li]) Q E s := by
  w_top off
  have D0 := DOk.nil
  k_steps
  walk_at "STMT"
  k_steps
  walk_at "STMT"
  k_steps
  refine unhold ?_
  (try dsimp only)
  refine' plain_go 3 (C := 277) ?F ?X ?N ?m1 ?U ?D ?hz rfl rfl rfl ?hm (by k_is) (by k_is) (by k_is) ?pl ?_
  case F => k_asm
  case hm => exact rfl
  case X => k_asm
  case N => k_asm
  case m1 => k_mem
  case U => (intro es' n'; k_upd)
  case D => assumption
  case hz => decide
  case pl => kernel_rfl
  intro h' tk' es' n' F' N' D'
  (try k_sweep)
  (try dsimp only [List.drop])
  k_steps
  walk_at "STMT"
  k_steps
  walk_at "STMT"
  k_steps
  refine unhold ?_
  (try dsimp only)
  refine' plain_go 2 (C := 277) ?F ?X ?N ?m1 ?U ?D ?hz rfl rfl rfl ?hm (by k_is) (by k_is) (by k_is) ?pl ?_
  case F => k_asm
  case hm => exact rfl
  case X => k_asm
  case N => k_asm
  case m1 => k_mem
  case U => (intro es' n'; k_upd)
  case D => assumption
  case hz => decide
  case pl => kernel_rfl
  intro h' tk' es' n' F' N' D'
  (try k_sweep)
  (try dsimp only [List.drop])
  k_steps
  walk_at "STMT"
  k_steps
  refine unhold ?_
  (try dsimp only)
  refine' plain_go 3 (C := 277) ?F ?X ?N ?m1 ?U ?D ?hz rfl rfl rfl ?hm (by k_is) (by k_is) (by k_is) ?pl ?_
  case F => k_asm
  case hm => exact rfl
  case X => k_asm
  case N => k_asm
  case m1 => k_mem
  case U => (intro es' n'; k_upd)
  case D => assumption
  case hz => decide
  case pl => kernel_rfl
  intro h' tk' es' n' F' N' D'
  (try k_sweep)
  (try dsimp only [List.drop])
  k_steps
  walk_at "STMT"
  k_steps
  refine unhold ?_
  (try dsimp only)
  refine' plain_go 18 (C := 277) ?F ?X ?N ?m1 ?U ?D ?hz rfl rfl rfl ?hm (by k_is) (by k_is) (by k_is) ?pl ?_
  case F => k_asm
  case hm => exact rfl
  case X => k_asm
  case N => k_asm
  case m1 => k_mem
  case U => (intro es' n'; k_upd)
  case D => assumption
  case hz => decide
  case pl => kernel_rfl
  intro h' tk' es' n' F' N' D'
  (try k_sweep)
  (try dsimp only [List.drop])
  k_steps
  rename News h₀ L _ _ => kN
  rename Fr h₀ L _ _ => kF
  rename DOk _ _ _ => kD
  rename ∀ p ∈ news, p.1 < _ => kA
  repeat (with_reducible rename _ ∧ _ => hcj; cases hcj)
  refine hQ _ _ _ _ _ _ _ _ _ _ kF kN ⟨kD.get (by simp), kD.get (by simp), kD.get (by simp), ⟨_, kD.get (.tail _ (.head _))⟩, ⟨_, kD.get (.head _)⟩, Nat.le_trans kD.2.2 (by decide)⟩ ?_ ?_ ?_ ?_
  · assumption
  · omega
  · assumption
  · exact allLt_of kA
end

section
variable {w : World} {A : Around} {E : Value → Shared → Prop} {s : Shared} {h₀ : Heap} {L : Addr} {m : Str → Option Value} {news : List (Addr × Obj)} {Q : Unit → Shared → Prop}
theorem set_line {x dx wo li ce : Addr} {es : List DictEntry} {n : Nat} {ln hp z : Int} {t : Tok} {news' : List DictEntry → Nat → List (Addr × Obj)} (F : Fr h₀ L s.heap m) (X : (Mine.KK w.params).In h₀) (N : News h₀ L s.heap news)
    (m1 : (x, instObj 277 dx) ∈ news) (U : ∀ es' n', Upd dx (dictOf es n) (dictOf es' n') news (news' es' n')) (R : RunE es wo li ce ln hp)
    (h : ∀ h' es' n', Fr h₀ L h' m → News h₀ L h' (news' es' n') → RunE es' wo li ce z hp → Q () { s with heap := h', toks := s.toks + 2 }) :
    wpAny (model PySem.Challenge.pw_pp0007_01 w) A (setAttr (.ref x) (Str.ofString "line") (.int z t)) Q E s := by
  obtain ⟨r1, r2, r3, ⟨t4, r4⟩, ⟨t5, r5⟩, r6⟩ := R
  obtain ⟨pre, post, e1, _, _, _⟩ := (U [] 0).split
  have m2 : (dx, dictOf es n) ∈ news := e1 ▸ List.mem_append_right _ (.head _)
  refine set_dict (C := 277) (dx := dx) (es := es) (n := n) F X N (InstAt.of_news N m1 m2) rfl (by k_is) (by k_is) (by k_is) (by k_is) (by rw [r4]; rfl) rfl (U _ _) ?_ fun h' F' N' => h h' _ _ F' N' ⟨getL_other (by decide) (by simp [Value.isStr]) r1, getL_other (by decide) (by simp [Value.isStr]) r2, getL_other (by decide) (by simp [Value.isStr]) r3, ⟨t, getL_same r4⟩, ⟨t5, getL_other (by decide) (by simp [Value.isStr]) r5⟩, ?_⟩
  · rw [putL_len_same r4]; omega
  · rw [putL_len_same r4]; exact r6
theorem set_heaped {x dx wo li ce : Addr} {es : List DictEntry} {n : Nat} {ln hp z : Int} {t : Tok} {news' : List DictEntry → Nat → List (Addr × Obj)} (F : Fr h₀ L s.heap m) (X : (Mine.KK w.params).In h₀) (N : News h₀ L s.heap news)
    (m1 : (x, instObj 277 dx) ∈ news) (U : ∀ es' n', Upd dx (dictOf es n) (dictOf es' n') news (news' es' n')) (R : RunE es wo li ce ln hp)
    (h : ∀ h' es' n', Fr h₀ L h' m → News h₀ L h' (news' es' n') → RunE es' wo li ce ln z → Q () { s with heap := h', toks := s.toks + 2 }) :
    wpAny (model PySem.Challenge.pw_pp0007_01 w) A (setAttr (.ref x) (Str.ofString "heaped") (.int z t)) Q E s := by
  obtain ⟨r1, r2, r3, ⟨t4, r4⟩, ⟨t5, r5⟩, r6⟩ := R
  obtain ⟨pre, post, e1, _, _, _⟩ := (U [] 0).split
  have m2 : (dx, dictOf es n) ∈ news := e1 ▸ List.mem_append_right _ (.head _)
  refine set_dict (C := 277) (dx := dx) (es := es) (n := n) F X N (InstAt.of_news N m1 m2) rfl (by k_is) (by k_is) (by k_is) (by k_is) (by rw [r5]; rfl) rfl (U _ _) ?_ fun h' F' N' => h h' _ _ F' N' ⟨getL_other (by decide) (by simp [Value.isStr]) r1, getL_other (by decide) (by simp [Value.isStr]) r2, getL_other (by decide) (by simp [Value.isStr]) r3, ⟨t4, getL_other (by decide) (by simp [Value.isStr]) r4⟩, ⟨t, getL_same r5⟩, ?_⟩
  · rw [putL_len_same r5]; omega
  · rw [putL_len_same r5]; exact r6
end
end Mine
namespace Mine
theorem rules_T9_1 : True := by
  k_with_none
  k_with "execs cons" => (k_here; (try dsimp only); (with_reducible refine flat ?_); intro ztk'; (with_reducible refine wpAny_execs_cons ?_); (try dsimp only); (try k_fold))
  trivial
theorem rules_T9_2 : True := by
  k_with "my all" => (assumption)
  k_with "my enter" => (refine' code_def ?k1 ?k2 ?k3 ?k4 ?k5 ?kA ?kF ?kK ?k6 ?k7 ?k8 ?k9 ?kB ?_ ?c2 ?c3 ?c4 ?c5; (case kA => exact rfl); (case kF => exact rfl); (case kK => first | assumption | exact rfl); (case k1 => k_asm); (case k2 => k_asm); (case k3 => k_asm); (case k4 => k_asm); (case k5 => k_asm); (case k6 => k_is); (case k7 => k_is); (case k8 => ktr_room); (case k9 => first | exact BindsTo.of_eq rfl | exact binds_K (by k_in) rfl (by k_is) rfl rfl rfl); (case c5 => decide); (case kB => exact locs rfl); (case c2 => exact rfl); (case c3 => exact rfl); (case c4 => exact rfl); k_whole; intro zg' zL' zh' zFG' zF' zN' zB' zX' zT'; (try dsimp only); (try k_fold))
  k_with "my enter" => (refine' code_defC ?k1 ?k2 ?k3 ?k4 ?k5 ?kA ?kF ?kK ?k6 ?k7 ?k8 ?k9 ?kB ?kD ?_ ?c2 ?c3 ?c4; (case kA => exact rfl); (case kF => exact rfl); (case kK => first | assumption | exact rfl); (case k1 => k_asm); (case k2 => k_asm); (case k3 => k_asm); (case k4 => k_asm); (case k5 => k_asm); (case k6 => k_is); (case k7 => k_is); (case k8 => ktr_room); (case k9 => exact BindsTo.of_eq rfl); (case kB => exact rfl); (case kD => decide +kernel); (case c2 => exact rfl); (case c3 => exact rfl); (case c4 => exact rfl); k_whole; intro zg' zL' zh' ztk' zcells' zFG' zF' zN' zY' zB' zX' zT' zl1; (try k_lt zl1); k_cells zY'; (try simp only [List.cons_append, List.nil_append] at zN'); (try dsimp only); (try k_fold))
  k_with "call ref" => (k_here; (with_reducible show wpAny _ _ (call (Value.ref 406) [Value.ref _, Value.int _ _]) _ _ _); k_dflt (refine' cast_app ?B ?F ?X ?N ?T ?hk ?hi ?hl ?hm ?U ?k0 ?k1 ?hs ?hs2 ?hne ?hd ?hu ?_; (case B => k_asm); (case F => k_asm); (case X => k_asm); (case N => k_asm); (case T => k_asm); (case hk => first | exact rfl | assumption); (case hi => assumption); (case hl => assumption); (case hm => k_mem); (case U => intro zt'; k_upd)); (case k0 => omega); (case k1 => omega); (case hs => omega); (case hs2 => omega); (case hne => k_ne); (case hd => ktr_room); (case hu => ktr_room); k_whole; intro zh' ztk' zt3' zt4' zv' zF' zN' zv0' zv1'; (try k_sweep); walk_say "CAST")
  k_with "CompSrc" => (refine hold ?_)
  k_with "CompEnd" => (refine hold ?_)
  k_with "exec Raise some none" => (k_dflt (refine Raise_ada (by rfl) ?_))
  k_with "call ref" => (k_here; (with_reducible show wpAny _ _ (call (Value.ref 70) [Value.str _ _, Value.int _ _, Value.str _ _]) _ _ _); k_dflt (refine' call_ada ?B ?F ?X ?N ?T ?hk ?hd ?hu ?_; (case B => k_asm); (case F => k_asm); (case X => k_asm); (case N => k_asm); (case T => k_asm); (case hk => first | exact rfl | assumption)); (case hd => ktr_room); (case hu => ktr_room); k_whole; intro zh' ztk' ze' zed' ztp' zh1' zh2' zh3' zh4' zk1' zk2' zk3' zk4' zv1' zv4' zt2' zt3' zn' zF' zN' zne' zned'; (try k_sweep))
  k_with "RaisA" => (refine ⟨_, _, _, rfl, News.get (by k_asm) (.head _), Frag.In.keeps (by k_asm) (Fr.keep (by k_asm)), ?_⟩)
  k_with "leaving ref" => (k_here; (refine' leave_raiseD ?K ?F ?N ?ne ?_; (case K => assumption); (case F => k_asm); (case N => k_asm); (case ne => assumption)); intro zh' zR' zU')
  k_with "my get" => (assumption)
  k_with "call ref" => (k_here; (with_reducible show wpAny _ _ (call (Value.ref 277) [Value.ref _, Value.ref _]) _ _ _); k_dflt (refine' mk_run ?B ?F ?X ?N ?T ?hk ?hd ?hu ?_; (case B => k_asm); (case F => k_asm); (case X => k_asm); (case N => k_asm); (case T => k_asm); (case hk => first | exact rfl | assumption)); (case hd => ktr_room); (case hu => ktr_room); k_whole; intro zh' ztk' zx' zdx' zes' zn' zce' zdce' ztk2' zt2' zF' zN' zhR' zl1 zl2 zl3 zl4; (try simp only [AllLt, and_true] at zl4); (try k_sweep))
  k_with "setAttr ref" => (k_here; (with_reducible show wpAny _ _ (setAttr (Value.ref _) (Str.ofString "line") (Value.int _ _)) _ _ _); k_dflt (refine' set_line ?F ?X ?N ?m1 ?U ?R ?_; (case F => k_asm); (case X => k_asm); (case N => k_asm); (case R => assumption); (case m1 => k_mem); (case U => intro zes' zn'; k_upd)); k_whole; intro zh' zes' zn' zF' zN' zhR'; (try k_sweep))
  trivial

noncomputable def LimE (ls : List DictEntry) (signs many room : Int) : Prop :=
  (∃ t, getL (Str.ofString "text") ls = some (some (.int signs t))) ∧ (∃ t, getL (Str.ofString "members") ls = some (some (.int many t))) ∧ (∃ t, getL (Str.ofString "heap") ls = some (some (.int room t)))
abbrev worldD (w : World) (tk1 tk2 : Tok) (ol : Addr) (row : Str) (tr : Tok) : Obj :=
  dictOf [⟨PyData.keyHash w.params (Str.ofString "out"), .str (Str.ofString "out") tk1, .ref ol⟩, ⟨PyData.keyHash w.params (Str.ofString "row"), .str (Str.ofString "row") tk2, .str row tr⟩] 2
theorem ErrD.sub {base h₀ : Heap} {L : Addr} {m : Str → Option Value} {l : List Env} {wd : Str} {news news' : List (Addr × Obj)} {s : Shared} {E : Value → Shared → Prop} (h : ErrD base h₀ L m l wd news s E) (hs : ∀ p ∈ news, p ∈ news') : ErrD base h₀ L m l wd news' s E :=
  fun G e ed od h' tk FG R W ne U => h G e ed od h' tk FG (R.sub fun p hp => by
    rcases List.mem_cons.mp hp with rfl | hp
    · exact .head _
    · exact .tail _ (hs p hp)) W (fun p hp => ne p (hs p hp)) U
theorem News.ins5 {h₀ h : Heap} {L : Addr} {z a b c d e : Addr × Obj} {r : List (Addr × Obj)} (N : News h₀ L h (z :: a :: b :: c :: d :: e :: r)) : News h₀ L h (z :: r) := News.sub N fun p hp => by
  rcases List.mem_cons.mp hp with rfl | hp
  · exact .head _
  · exact .tail _ (.tail _ (.tail _ (.tail _ (.tail _ (.tail _ hp)))))
section
variable {w : World} {mean : ExcName → Option Value} {mg mb : Str → Option Value} {A₀ : Around} {base h₀ : Heap} {outer : List Env} {L : Addr} {m : Str → Option Value}
  {s : Shared} {dp un : Nat} {gd : Option (List Code)} {cn : Str} {cs : Scope} {a : Addr} {ccd : Value} {cl : List (Str × Addr)} {Q E : Value → Shared → Prop}
theorem add_text_in {x dx wo dwo li dli ol ce : Addr} {es ls : List DictEntry} {n nl : Nat} {ln hp signs many room : Int} {row text : Str} {tt tr tk1 tk2 : Tok} {rest : List (Addr × Obj)}
    (B : Below A₀ base outer h₀) (F : Fr h₀ L s.heap m) (X : (Mine.KK w.params).In h₀) (N : News h₀ L s.heap ((dwo, worldD w tk1 tk2 ol row tr) :: rest))
    (T : Top Mine.vw loo mean mg mb h₀) (hk : cs.kind = .function)
    (m1 : (x, instObj 277 dx) ∈ rest) (m2 : (dx, dictOf es n) ∈ rest) (R : RunE es wo li ce ln hp) (m3 : (wo, instObj 216 dwo) ∈ rest) (m4 : (li, instObj 299 dli) ∈ rest) (m5 : (dli, dictOf ls nl) ∈ rest) (G : LimE ls signs many room)
    (hr : ∀ p ∈ rest, p.1 ≠ dwo) (hrl : row.length ≤ 100) (htl : text.length ≤ 100)
    (hd : dp + 8 < 500) (hu : un + 80 < 1000)
    (hQ : (row.length : Int) + text.length ≤ signs → ∀ h' tk t', Fr h₀ L h' m → News h₀ L h' ((dwo, worldD w tk1 tk2 ol (row ++ text) t') :: rest) → Q .none { s with heap := h', toks := tk })
    (hE : signs < (row.length : Int) + text.length → ErrD base h₀ L m (envX cn cs L a ccd cl :: outer) (Str.ofString "storage_error") ((dwo, worldD w tk1 tk2 ol row tr) :: rest) s E) :
    wpAny (model PySem.Challenge.pw_pp0007_01 w) (ktrTop dp un gd cn cs L a ccd cl outer) (call (.ref 232) [.ref x, .str text tt]) Q E s := by
  w_top off
  obtain ⟨r1, r2, r3, ⟨t4, r4⟩, ⟨t5, r5⟩, r6⟩ := R
  obtain ⟨⟨g1t, g1⟩, ⟨g2t, g2⟩, ⟨g3t, g3⟩⟩ := G
  have N2 : News h₀ L s.heap ((dwo, worldD w tk1 tk2 ol row tr) :: (x, _) :: (dx, _) :: (wo, _) :: (li, _) :: (dli, _) :: rest) := News.sub N (fun p hp => by
      simp only [List.mem_cons] at hp ⊢
      rcases hp with rfl | rfl | rfl | rfl | rfl | rfl | hp
      · exact .inl rfl
      · exact .inr m1
      · exact .inr m2
      · exact .inr m3
      · exact .inr m4
      · exact .inr m5
      · exact .inr hp)
  have n1 := hr _ m1
  have n2 := hr _ m2
  have n3 := hr _ m3
  have n4 := hr _ m4
  have n5 := hr _ m5
  clear N
  refine wpAny_call ?_
  k_dflt k_enter
  k_steps
  · rename Fr h₀ L _ _ => kFG
    rename RaisedD _ _ _ _ _ _ _ => kR
    rename Heap.UpToSlots _ _ => kU
    refine ((hE (by omega)).sub fun p hp => ?_) _ _ _ _ _ _ kFG kR AdaW.of (by assumption) kU
    rcases List.mem_cons.mp hp with rfl | hp
    · exact .head _
    · exact .tail _ (.tail _ (.tail _ (.tail _ (.tail _ (.tail _ hp)))))
  · rename Fr h₀ L _ _ => kF
    rename News h₀ L _ _ => kN
    refine hQ (by omega) _ _ _ kF (News.ins5 kN)

/-- what a call of put_sign, end_row, put_text, _law_line gives -/
noncomputable def WorkSpec (w : World) (mean : ExcName → Option Value) (mg mb : Str → Option Value) (d u : Nat) (f x av dwo ol : Addr) (tk1 tk2 : Tok) (row : Str) (rows : List Value) (rest : List (Addr × Obj)) (P : Option Str → Str → List Value → Prop) : Prop :=
  ∀ (A₀ : Around) (base h₀ : Heap) (outer : List Env) (L : Addr) (m : Str → Option Value) (s : Shared) (dp un : Nat) (gd : Option (List Code)) (cn : Str) (cs : Scope) (a : Addr) (ccd : Value) (cl : List (Str × Addr)) (Q E : Value → Shared → Prop) (tr : Tok) (no : Nat),
    Below A₀ base outer h₀ → Fr h₀ L s.heap m → (Mine.KK w.params).In h₀ →
    News h₀ L s.heap ((dwo, worldD w tk1 tk2 ol row tr) :: (ol, listOf rows.toArray no) :: rest) →
    Top Mine.vw loo mean mg mb h₀ → cs.kind = .function → dp + d < 500 → un + u < 1000 →
    (∀ h' tk row' t' rows' no', P none row' rows' → Fr h₀ L h' m → News h₀ L h' ((dwo, worldD w tk1 tk2 ol row' t') :: (ol, listOf rows'.toArray no') :: rest) → Q .none { s with heap := h', toks := tk }) →
    (∀ wd row' t' rows' no', P (some wd) row' rows' → ErrD base h₀ L m (envX cn cs L a ccd cl :: outer) wd ((dwo, worldD w tk1 tk2 ol row' t') :: (ol, listOf rows'.toArray no') :: rest) s E) →
    wpAny (model PySem.Challenge.pw_pp0007_01 w) (ktrTop dp un gd cn cs L a ccd cl outer) (call (.ref f) [.ref x, .ref av]) Q E s
end
end Mine
namespace Mine
theorem rules_T10_1 : True := by
  k_with_none
  k_with "execs cons" => (k_here; (try dsimp only); (with_reducible refine flat ?_); intro ztk'; (with_reducible refine wpAny_execs_cons ?_); (try dsimp only); (try k_fold))
  trivial
theorem rules_T10_2 : True := by
  k_with "my all" => (assumption)
  k_with "my enter" => (refine' code_def ?k1 ?k2 ?k3 ?k4 ?k5 ?kA ?kF ?kK ?k6 ?k7 ?k8 ?k9 ?kB ?_ ?c2 ?c3 ?c4 ?c5; (case kA => exact rfl); (case kF => exact rfl); (case kK => first | assumption | exact rfl); (case k1 => k_asm); (case k2 => k_asm); (case k3 => k_asm); (case k4 => k_asm); (case k5 => k_asm); (case k6 => k_is); (case k7 => k_is); (case k8 => ktr_room); (case k9 => first | exact BindsTo.of_eq rfl | exact binds_K (by k_in) rfl (by k_is) rfl rfl rfl); (case c5 => decide); (case kB => exact locs rfl); (case c2 => exact rfl); (case c3 => exact rfl); (case c4 => exact rfl); k_whole; intro zg' zL' zh' zFG' zF' zN' zB' zX' zT'; (try dsimp only); (try k_fold))
  k_with "my enter" => (refine' code_defC ?k1 ?k2 ?k3 ?k4 ?k5 ?kA ?kF ?kK ?k6 ?k7 ?k8 ?k9 ?kB ?kD ?_ ?c2 ?c3 ?c4; (case kA => exact rfl); (case kF => exact rfl); (case kK => first | assumption | exact rfl); (case k1 => k_asm); (case k2 => k_asm); (case k3 => k_asm); (case k4 => k_asm); (case k5 => k_asm); (case k6 => k_is); (case k7 => k_is); (case k8 => ktr_room); (case k9 => exact BindsTo.of_eq rfl); (case kB => exact rfl); (case kD => decide +kernel); (case c2 => exact rfl); (case c3 => exact rfl); (case c4 => exact rfl); k_whole; intro zg' zL' zh' ztk' zcells' zFG' zF' zN' zY' zB' zX' zT' zl1; (try k_lt zl1); k_cells zY'; (try simp only [List.cons_append, List.nil_append] at zN'); (try dsimp only); (try k_fold))
  k_with "call ref" => (k_here; (with_reducible show wpAny _ _ (call (Value.ref 406) [Value.ref _, Value.int _ _]) _ _ _); k_dflt (refine' cast_app ?B ?F ?X ?N ?T ?hk ?hi ?hl ?hm ?U ?k0 ?k1 ?hs ?hs2 ?hne ?hd ?hu ?_; (case B => k_asm); (case F => k_asm); (case X => k_asm); (case N => k_asm); (case T => k_asm); (case hk => first | exact rfl | assumption); (case hi => assumption); (case hl => assumption); (case hm => k_mem); (case U => intro zt'; k_upd)); (case k0 => omega); (case k1 => omega); (case hs => omega); (case hs2 => omega); (case hne => k_ne); (case hd => ktr_room); (case hu => ktr_room); k_whole; intro zh' ztk' zt3' zt4' zv' zF' zN' zv0' zv1'; (try k_sweep); walk_say "CAST")
  k_with "CompSrc" => (refine hold ?_)
  k_with "CompEnd" => (refine hold ?_)
  k_with "exec Raise some none" => (k_dflt (refine Raise_ada (by rfl) ?_))
  k_with "call ref" => (k_here; (with_reducible show wpAny _ _ (call (Value.ref 70) [Value.str _ _, Value.int _ _, Value.str _ _]) _ _ _); k_dflt (refine' call_ada ?B ?F ?X ?N ?T ?hk ?hd ?hu ?_; (case B => k_asm); (case F => k_asm); (case X => k_asm); (case N => k_asm); (case T => k_asm); (case hk => first | exact rfl | assumption)); (case hd => ktr_room); (case hu => ktr_room); k_whole; intro zh' ztk' ze' zed' ztp' zh1' zh2' zh3' zh4' zk1' zk2' zk3' zk4' zv1' zv4' zt2' zt3' zn' zF' zN' zne' zned'; (try k_sweep))
  k_with "RaisA" => (refine ⟨_, _, _, rfl, News.get (by k_asm) (.head _), Frag.In.keeps (by k_asm) (Fr.keep (by k_asm)), ?_⟩)
  k_with "leaving ref" => (k_here; (refine' leave_raiseD ?K ?F ?N ?ne ?_; (case K => assumption); (case F => k_asm); (case N => k_asm); (case ne => assumption)); intro zh' zR' zU')
  k_with "my get" => (assumption)
  k_with "call ref" => (k_here; (with_reducible show wpAny _ _ (call (Value.ref 277) [Value.ref _, Value.ref _]) _ _ _); k_dflt (refine' mk_run ?B ?F ?X ?N ?T ?hk ?hd ?hu ?_; (case B => k_asm); (case F => k_asm); (case X => k_asm); (case N => k_asm); (case T => k_asm); (case hk => first | exact rfl | assumption)); (case hd => ktr_room); (case hu => ktr_room); k_whole; intro zh' ztk' zx' zdx' zes' zn' zce' zdce' ztk2' zt2' zF' zN' zhR' zl1 zl2 zl3 zl4; (try simp only [AllLt, and_true] at zl4); (try k_sweep))
  k_with "setAttr ref" => (k_here; (with_reducible show wpAny _ _ (setAttr (Value.ref _) (Str.ofString "line") (Value.int _ _)) _ _ _); k_dflt (refine' set_line ?F ?X ?N ?m1 ?U ?R ?_; (case F => k_asm); (case X => k_asm); (case N => k_asm); (case R => assumption); (case m1 => k_mem); (case U => intro zes' zn'; k_upd)); k_whole; intro zh' zes' zn' zF' zN' zhR'; (try k_sweep))
  k_with "call builtin:len" => (k_here; (with_reducible show wpAny _ _ (call (Value.builtin "len") [Value.ref _]) _ _ _); (refine len_any (by k_asm) (by k_mem) (by rfl) (by rfl) (by omega) ?_))
  k_with "leaving ref" => (k_here; (refine' leave_onD ?K ?F ?R ?U ?_; (case K => assumption); (case R => assumption); (case F => assumption); (case U => assumption)); intro zh' zR' zU')
  trivial
structure RunAt (w : World) (rest : List (Addr × Obj)) (x dx wo dwo li dli ol ce : Addr) (es ls : List DictEntry) (n nl : Nat) (ln hp signs many room : Int) : Prop where
  m1 : (x, instObj 277 dx) ∈ rest
  m2 : (dx, dictOf es n) ∈ rest
  R : RunE es wo li ce ln hp
  m3 : (wo, instObj 216 dwo) ∈ rest
  m4 : (li, instObj 299 dli) ∈ rest
  m5 : (dli, dictOf ls nl) ∈ rest
  G : LimE ls signs many room
  hr : ∀ p ∈ rest, p.1 ≠ dwo
  hr2 : ∀ p ∈ rest, p.1 ≠ ol
  hdo : @Ne Nat dwo ol
noncomputable def addP (signs : Int) (row : Str) (rows : List Value) (text : Str) (o : Option Str) (row' : Str) (rows' : List Value) : Prop :=
  rows' = rows ∧ ((o = none ∧ (row.length : Int) + text.length ≤ signs ∧ row' = row ++ text) ∨ (o = some (Str.ofString "storage_error") ∧ signs < (row.length : Int) + text.length ∧ row' = row))
noncomputable def endP (many : Int) (row : Str) (rows : List Value) (o : Option Str) (row' : Str) (rows' : List Value) : Prop :=
  (o = none ∧ (rows.length : Int) < many ∧ row' = Str.ofString "" ∧ ∃ t, rows' = rows ++ [.str row t]) ∨ (o = some (Str.ofString "storage_error") ∧ many ≤ (rows.length : Int) ∧ row' = row ∧ rows' = rows)
noncomputable def putP (signs : Int) (row : Str) (rows items : List Value) (o : Option Str) (row' : Str) (rows' : List Value) : Prop :=
  (∃ ps, IntsAre items ps ∧ InR ps ∧ addP signs row rows (glue ps) o row' rows') ∨ (.ref 95 ∈ items ∧ o = some (Str.ofString "program_error") ∧ row' = row ∧ rows' = rows)
noncomputable def lineP (signs many : Int) (row : Str) (rows items : List Value) (o : Option Str) (row' : Str) (rows' : List Value) : Prop :=
  (o.isSome = true ∧ putP signs row rows items o row' rows') ∨ ∃ row1 rows1, putP signs row rows items none row1 rows1 ∧ endP many row1 rows1 o row' rows'
theorem News.ins7 {h₀ h : Heap} {L : Addr} {y z a b c d e : Addr × Obj} {r : List (Addr × Obj)} (N : News h₀ L h (y :: z :: a :: b :: c :: d :: e :: r)) : News h₀ L h (y :: z :: r) := News.sub N fun p hp => by
  rcases List.mem_cons.mp hp with rfl | hp
  · exact .head _
  · rcases List.mem_cons.mp hp with rfl | hp
    · exact .tail _ (.head _)
    · exact .tail _ (.tail _ (.tail _ (.tail _ (.tail _ (.tail _ (.tail _ hp))))))
section
variable {w : World} {mean : ExcName → Option Value} {mg mb : Str → Option Value} {x dx wo dwo li dli ol ce : Addr} {es ls : List DictEntry} {n nl : Nat} {ln hp signs many room : Int} {row : Str} {rows : List Value} {tk1 tk2 : Tok} {rest : List (Addr × Obj)}
theorem end_row_spec {av : Addr} (RA : RunAt w rest x dx wo dwo li dli ol ce es ls n nl ln hp signs many room) (hrl : row.length ≤ 100) (hrs : rows.length ≤ 100) :
    WorkSpec w mean mg mb 30 200 253 x av dwo ol tk1 tk2 row rows rest (endP many row rows) := by
  w_top off
  intro A₀ base h₀ outer L m s dp un gd cn cs a ccd cl Q E tr no B F X N T hk hd hu hQ hE
  obtain ⟨m1, m2, ⟨r1, r2, r3, ⟨t4, r4⟩, ⟨t5, r5⟩, r6⟩, m3, m4, m5, ⟨⟨g1t, g1⟩, ⟨g2t, g2⟩, ⟨g3t, g3⟩⟩, hr, hr2, hdo⟩ := RA
  have N2 : News h₀ L s.heap ((dwo, worldD w tk1 tk2 ol row tr) :: (ol, listOf rows.toArray no) :: (x, _) :: (dx, _) :: (wo, _) :: (li, _) :: (dli, _) :: rest) := News.sub N (fun p hp => by
      simp only [List.mem_cons] at hp ⊢
      rcases hp with rfl | rfl | rfl | rfl | rfl | rfl | rfl | hp
      · exact .inl rfl
      · exact .inr (.inl rfl)
      · exact .inr (.inr m1)
      · exact .inr (.inr m2)
      · exact .inr (.inr m3)
      · exact .inr (.inr m4)
      · exact .inr (.inr m5)
      · exact .inr (.inr hp))
  have n1 := hr _ m1
  have n2 := hr _ m2
  have n3 := hr _ m3
  have n4 := hr _ m4
  have n5 := hr _ m5
  have n6 := hr2 _ m1
  have n7 := hr2 _ m2
  have n8 := hr2 _ m3
  have n9 := hr2 _ m4
  have n10 := hr2 _ m5
  clear N
  refine wpAny_call ?_
  k_dflt k_enter
  k_steps
  · rename Fr h₀ L _ _ => kFG
    rename RaisedD _ _ _ _ _ _ _ => kR
    rename Heap.UpToSlots _ _ => kU
    refine ((hE _ _ tr _ no (.inr ⟨rfl, by omega, rfl, rfl⟩)).sub fun p hp => ?_) _ _ _ _ _ _ kFG kR AdaW.of (by assumption) kU
    rcases List.mem_cons.mp hp with rfl | hp
    · exact .head _
    · rcases List.mem_cons.mp hp with rfl | hp
      · exact .tail _ (.head _)
      · exact .tail _ (.tail _ (.tail _ (.tail _ (.tail _ (.tail _ (.tail _ hp))))))
  · rename Fr h₀ L _ _ => kF
    rename News h₀ L _ _ => kN
    (try simp only [List.push_toArray] at kN)
    exact hQ _ _ _ _ _ _ (.inl ⟨rfl, by omega, rfl, _, rfl⟩) kF (News.ins7 kN)

theorem rules_T10_3 : True := by
  k_with "call ref" => ((with_reducible show wpAny _ _ (call (Value.ref 232) _) _ _ _); refine hold ?_)
  k_with "call ref" => ((with_reducible show wpAny _ _ (call (Value.ref 225) _) _ _ _); refine hold ?_)
  k_with "call ref" => ((with_reducible show wpAny _ _ (call (Value.ref 239) _) _ _ _); refine hold ?_)
  k_with "call ref" => ((with_reducible show wpAny _ _ (call (Value.ref 253) _) _ _ _); refine hold ?_)
  k_with "call ref" => ((with_reducible show wpAny _ _ (call (Value.ref 260) _) _ _ _); refine hold ?_)
  k_with "call builtin:chr" => (k_here; (with_reducible show wpAny _ _ (call (Value.builtin "chr") [Value.int _ _]) _ _ _); (refine chr_of_range (by first | omega | (simp; omega)) (by first | omega | (simp; omega)) ?_))
  trivial
theorem News.skip1 {h₀ h : Heap} {L : Addr} {a : Addr × Obj} {r : List (Addr × Obj)} (N : News h₀ L h (a :: r)) : News h₀ L h r := News.sub N fun p hp => .tail _ hp
theorem mem_mid {z a y : Addr × Obj} {r : List (Addr × Obj)} : ∀ p ∈ z :: y :: r, p ∈ z :: a :: y :: r := fun p hp => by
  rcases List.mem_cons.mp hp with rfl | hp
  · exact .head _
  · exact .tail _ (.tail _ hp)
theorem chs_one (i : Int) : glue [i] = ⟨#[i.toNat]⟩ := by
  unfold glue chs
  rfl
theorem put_sign_spec {av : Addr} {place : Int} {tp : Tok} {na : Nat} (RA : RunAt w rest x dx wo dwo li dli ol ce es ls n nl ln hp signs many room) (hrl : row.length ≤ 99)
    (m6 : (av, listOf #[.int place tp] na) ∈ rest) (hp1 : 32 ≤ place) (hp2 : place ≤ 126) :
    WorkSpec w mean mg mb 30 200 246 x av dwo ol tk1 tk2 row rows rest (addP signs row rows (glue [place])) := by
  w_top off
  intro A₀ base h₀ outer L m s dp un gd cn cs a ccd cl Q E tr no B F X N T hk hd hu hQ hE
  obtain ⟨m1, m2, R, m3, m4, m5, G, hr, hr2, hdo⟩ := RA
  have N2 : News h₀ L s.heap ((dwo, worldD w tk1 tk2 ol row tr) :: (av, listOf #[.int place tp] na) :: (ol, listOf rows.toArray no) :: rest) := News.sub N (fun p hp => by
      simp only [List.mem_cons] at hp ⊢
      rcases hp with rfl | rfl | rfl | hp
      · exact .inl rfl
      · exact .inr (.inr m6)
      · exact .inr (.inl rfl)
      · exact .inr (.inr hp))
  clear N
  refine wpAny_call ?_
  k_dflt k_enter
  k_steps
  refine unhold ?_
  rename Fr _ _ _ _ => lF'
  rename Below _ _ _ _ => lB'
  rename News _ _ _ _ => lN'
  rename Top _ _ _ _ _ _ => lT'
  rename (Mine.KK w.params).In _ => lX'
  rw [chs_one] at hQ hE
  show wpAny _ _ (call (.ref 232) [.ref x, .str ⟨#[place.toNat]⟩ _]) _ _ _
  refine add_text_in (text := ⟨#[place.toNat]⟩) lB' lF' lX' lN' lT' ?hk (.tail _ (.tail _ m1)) (.tail _ (.tail _ m2)) R (.tail _ (.tail _ m3)) (.tail _ (.tail _ m4)) (.tail _ (.tail _ m5)) G ?_ ?_ ?_ ?_ ?_ ?_ ?_
  case hk => rfl
  · intro p hp
    rcases List.mem_cons.mp hp with rfl | hp
    · exact hr _ m6
    · rcases List.mem_cons.mp hp with rfl | hp
      · exact hdo.symm
      · exact hr p hp
  · omega
  · show 1 ≤ 100
    omega
  · show dp + 1 + 8 < 500
    omega
  · show un + 3 + 80 < 1000
    omega
  · intro hle h' tk t' F' N'
    clear lN' lF'
    k_steps
    rename Fr h₀ L _ _ => kF
    rename News h₀ L _ _ => kN
    exact hQ _ _ _ _ _ _ ⟨rfl, .inl ⟨rfl, hle, rfl⟩⟩ kF (News.sub kN mem_mid)
  · intro hlt G' e ed od h' tk FG R' aw hne U
    k_steps
    rename Fr h₀ L _ _ => kFG
    rename RaisedD _ _ _ _ _ _ _ => kR
    rename Heap.UpToSlots _ _ => kU
    refine ((hE _ _ _ _ no ⟨rfl, .inr ⟨rfl, hlt, rfl⟩⟩).sub mem_mid) _ _ _ _ _ _ kFG kR aw hne kU

theorem put_text_spec {av tx dtx it b : Addr} {items : List Value} {ni na : Nat} {k1 k2 : Tok} (RA : RunAt w rest x dx wo dwo li dli ol ce es ls n nl ln hp signs many room) (hrl : row.length ≤ 90)
    (m6 : (av, listOf #[.ref tx] na) ∈ rest) (m7 : (tx, instObj 162 dtx) ∈ rest)
    (m8 : (dtx, dictOf [⟨PyData.keyHash w.params (Str.ofString "bounds"), .str (Str.ofString "bounds") k1, .ref b⟩, ⟨PyData.keyHash w.params (Str.ofString "items"), .str (Str.ofString "items") k2, .ref it⟩] 2) ∈ rest) (m9 : (it, listOf items.toArray ni) ∈ rest)
    (hi : ∀ y ∈ items, SignV y) (hl : items.length ≤ 5) :
    WorkSpec w mean mg mb 30 200 239 x av dwo ol tk1 tk2 row rows rest (putP signs row rows items) := by
  w_top off
  intro A₀ base h₀ outer L m s dp un gd cn cs a ccd cl Q E tr no B F X N T hk hd hu hQ hE
  obtain ⟨m1, m2, R, m3, m4, m5, G, hr, hr2, hdo⟩ := RA
  have N2 : News h₀ L s.heap ((dwo, worldD w tk1 tk2 ol row tr) :: (av, listOf #[.ref tx] na) :: (ol, listOf rows.toArray no) :: rest) := News.sub N (fun p hp => by
      simp only [List.mem_cons] at hp ⊢
      rcases hp with rfl | rfl | rfl | hp
      · exact .inl rfl
      · exact .inr (.inr m6)
      · exact .inr (.inl rfl)
      · exact .inr (.inr hp))
  clear N
  refine wpAny_call ?_
  k_dflt k_enter
  k_steps
  refine unhold ?_
  rename Fr _ _ _ _ => lF'
  rename Below _ _ _ _ => lB'
  rename News _ _ _ _ => lN'
  rename Top _ _ _ _ _ _ => lT'
  rename (Mine.KK w.params).In _ => lX'
  refine text_of_in lB' lF' lX' lN' lT' rfl (.tail _ (.tail _ (.tail _ m7))) (.tail _ (.tail _ (.tail _ m8))) (.tail _ (.tail _ (.tail _ m9))) hi hl ?_ ?_ ?_ ?_
  · show dp + 1 + 8 < 500
    omega
  · show un + 3 + 80 < 1000
    omega
  · intro ps hps hin h' tk t F' N'
    clear lF' lN'
    k_steps
    refine unhold ?_
    have hgl := glue_len ps
    have hpl := ints_len hps
    rename Fr _ _ _ _ => lF'
    rename News _ _ _ _ => lN'
    refine add_text_in lB' lF' lX' lN' lT' rfl (.tail _ (.tail _ m1)) (.tail _ (.tail _ m2)) R (.tail _ (.tail _ m3)) (.tail _ (.tail _ m4)) (.tail _ (.tail _ m5)) G ?_ ?_ ?_ ?_ ?_ ?_ ?_
    · intro p hp
      rcases List.mem_cons.mp hp with rfl | hp
      · exact hr _ m6
      · rcases List.mem_cons.mp hp with rfl | hp
        · exact hdo.symm
        · exact hr p hp
    · omega
    · omega
    · show dp + 1 + 8 < 500
      omega
    · show un + 3 + 80 < 1000
      omega
    · intro hle h' tk t' F' N'
      clear lN' lF'
      k_steps
      rename Fr h₀ L _ _ => kF
      rename News h₀ L _ _ => kN
      exact hQ _ _ _ _ _ _ (.inl ⟨ps, hps, hin, rfl, .inl ⟨rfl, hle, rfl⟩⟩) kF (News.sub kN mem_mid)
    · intro hlt G' e ed od h' tk FG R' aw hne U
      k_steps
      rename Fr h₀ L _ _ => kFG
      rename RaisedD _ _ _ _ _ _ _ => kR
      rename Heap.UpToSlots _ _ => kU
      refine ((hE _ _ _ _ no (.inl ⟨ps, hps, hin, rfl, .inr ⟨rfl, hlt, rfl⟩⟩)).sub mem_mid) _ _ _ _ _ _ kFG kR aw hne kU
  · intro hbad G' e ed od h' tk FG R' aw hne U
    k_steps
    rename Fr h₀ L _ _ => kFG
    rename RaisedD _ _ _ _ _ _ _ => kR
    rename Heap.UpToSlots _ _ => kU
    refine ((hE _ _ _ _ no (.inr ⟨hbad, rfl, rfl, rfl⟩)).sub mem_mid) _ _ _ _ _ _ kFG kR aw hne kU
theorem WorkSpec.use {d u : Nat} {f x av dwo ol : Addr} {tk1 tk2 : Tok} {row : Str} {rows : List Value} {rest : List (Addr × Obj)} {P : Option Str → Str → List Value → Prop} {A₀ : Around} {base h₀ : Heap} {outer : List Env} {L : Addr} {m : Str → Option Value} {s : Shared} {dp un : Nat} {gd : Option (List Code)} {cn : Str} {cs : Scope} {a : Addr} {ccd : Value} {cl : List (Str × Addr)} {Q E : Value → Shared → Prop} {tr : Tok} {no : Nat}
    (C : WorkSpec w mean mg mb d u f x av dwo ol tk1 tk2 row rows rest P) (B : Below A₀ base outer h₀) (F : Fr h₀ L s.heap m) (X : (Mine.KK w.params).In h₀) (N : News h₀ L s.heap ((dwo, worldD w tk1 tk2 ol row tr) :: (ol, listOf rows.toArray no) :: rest))
    (T : Top Mine.vw loo mean mg mb h₀) (hk : cs.kind = .function) (hd : dp + d < 500) (hu : un + u < 1000)
    (hQ : ∀ h' tk row' t' rows' no', P none row' rows' → Fr h₀ L h' m → News h₀ L h' ((dwo, worldD w tk1 tk2 ol row' t') :: (ol, listOf rows'.toArray no') :: rest) → Q .none { s with heap := h', toks := tk })
    (hE : ∀ wd row' t' rows' no', P (some wd) row' rows' → ErrD base h₀ L m (envX cn cs L a ccd cl :: outer) wd ((dwo, worldD w tk1 tk2 ol row' t') :: (ol, listOf rows'.toArray no') :: rest) s E) :
    wpAny (model PySem.Challenge.pw_pp0007_01 w) (ktrTop dp un gd cn cs L a ccd cl outer) (call (.ref f) [.ref x, .ref av]) Q E s :=
  C _ _ _ _ _ _ _ _ _ _ _ _ _ _ _ _ _ _ _ B F X N T hk hd hu hQ hE

theorem put_row_spec {av tx dtx it b : Addr} {items : List Value} {ni na : Nat} {k1 k2 : Tok} (RA : RunAt w rest x dx wo dwo li dli ol ce es ls n nl ln hp signs many room) (hrl : row.length ≤ 90) (hrs : rows.length ≤ 90)
    (m6 : (av, listOf #[.ref tx] na) ∈ rest) (m7 : (tx, instObj 162 dtx) ∈ rest)
    (m8 : (dtx, dictOf [⟨PyData.keyHash w.params (Str.ofString "bounds"), .str (Str.ofString "bounds") k1, .ref b⟩, ⟨PyData.keyHash w.params (Str.ofString "items"), .str (Str.ofString "items") k2, .ref it⟩] 2) ∈ rest) (m9 : (it, listOf items.toArray ni) ∈ rest)
    (hi : ∀ y ∈ items, SignV y) (hl : items.length ≤ 5) :
    WorkSpec w mean mg mb 31 210 260 x av dwo ol tk1 tk2 row rows rest (lineP signs many row rows items) := by
  w_top off
  intro A₀ base h₀ outer L m s dp un gd cn cs a ccd cl Q E tr no B F X N T hk hd hu hQ hE
  refine wpAny_call ?_
  k_dflt k_enter
  k_steps
  refine unhold ?_
  rename Fr _ _ _ _ => lF'
  rename Below _ _ (_ :: _) _ => lB'
  rename News _ _ _ _ => lN'
  rename Top _ _ _ _ _ _ => lT'
  rename (Mine.KK w.params).In _ => lX'
  refine (put_text_spec RA hrl m6 m7 m8 m9 hi hl).use lB' lF' lX' lN' lT' rfl ?_ ?_ ?_ ?_
  · show dp + 1 + 30 < 500
    omega
  · show un + 3 + 200 < 1000
    omega
  · intro h' tk row' t' rows' no' hP F' N'
    clear lF' lN'
    k_steps
    refine unhold ?_
    rename Fr _ _ _ _ => lF'
    rename News _ _ _ _ => lN'
    have hP2 := hP
    have hz : row'.length ≤ 100 ∧ rows' = rows := by
      rcases hP with ⟨ps, hps, hin, rfl, ⟨_, hle, rfl⟩ | ⟨ho, _⟩⟩ | ⟨_, ho, _⟩
      · have hgl := glue_len ps
        have hpl := ints_len hps
        refine ⟨?_, rfl⟩
        rw [Str.length_append]
        omega
      · cases ho
      · cases ho
    refine (end_row_spec RA hz.1 (by rw [hz.2]; omega)).use lB' lF' lX' lN' lT' rfl ?_ ?_ ?_ ?_
    · show dp + 1 + 30 < 500
      omega
    · show un + 3 + 200 < 1000
      omega
    · intro h' tk row2 t' rows2 no' hP3 F' N'
      clear lF' lN'
      k_steps
      rename Fr h₀ L _ _ => kF
      rename News h₀ L _ _ => kN
      exact hQ _ _ _ _ _ _ (.inr ⟨_, _, hP2, hP3⟩) kF kN
    · intro wd row2 t' rows2 no' hP3 G' e ed od h' tk FG R' aw hne U
      k_steps
      rename Fr h₀ L _ _ => kFG
      rename RaisedD _ _ _ _ _ _ _ => kR
      rename Heap.UpToSlots _ _ => kU
      exact (hE _ _ _ _ _ (.inr ⟨_, _, hP2, hP3⟩)) _ _ _ _ _ _ kFG kR aw hne kU
  · intro wd row2 t' rows2 no' hP3 G' e ed od h' tk FG R' aw hne U
    k_steps
    rename Fr h₀ L _ _ => kFG
    rename RaisedD _ _ _ _ _ _ _ => kR
    rename Heap.UpToSlots _ _ => kU
    exact (hE _ _ _ _ _ (.inl ⟨rfl, hP3⟩)) _ _ _ _ _ _ kFG kR aw hne kU
theorem law_line_spec {av : Addr} {P : Option Str → Str → List Value → Prop} (C : WorkSpec w mean mg mb 31 210 260 x av dwo ol tk1 tk2 row rows rest P) :
    WorkSpec w mean mg mb 32 220 444 x av dwo ol tk1 tk2 row rows rest P := by
  w_top off
  intro A₀ base h₀ outer L m s dp un gd cn cs a ccd cl Q E tr no B F X N T hk hd hu hQ hE
  refine wpAny_call ?_
  k_dflt k_enter
  k_steps
  refine unhold ?_
  rename Fr _ _ _ _ => lF'
  rename Below _ _ (_ :: _) _ => lB'
  rename News _ _ _ _ => lN'
  rename Top _ _ _ _ _ _ => lT'
  rename (Mine.KK w.params).In _ => lX'
  refine C.use lB' lF' lX' lN' lT' rfl ?_ ?_ ?_ ?_
  · show dp + 1 + 31 < 500
    omega
  · show un + 3 + 210 < 1000
    omega
  · intro h' tk row2 t' rows2 no' hP3 F' N'
    clear lF' lN'
    k_steps
    rename Fr h₀ L _ _ => kF
    rename News h₀ L _ _ => kN
    exact hQ _ _ _ _ _ _ hP3 kF kN
  · intro wd row2 t' rows2 no' hP3 G' e ed od h' tk FG R' aw hne U
    k_steps
    rename Fr h₀ L _ _ => kFG
    rename RaisedD _ _ _ _ _ _ _ => kR
    rename Heap.UpToSlots _ _ => kU
    exact (hE _ _ _ _ _ hP3) _ _ _ _ _ _ kFG kR aw hne kU
theorem WorkSpec.mono {d u d' u' : Nat} {f x av dwo ol : Addr} {tk1 tk2 : Tok} {row : Str} {rows : List Value} {rest : List (Addr × Obj)} {P : Option Str → Str → List Value → Prop} (C : WorkSpec w mean mg mb d u f x av dwo ol tk1 tk2 row rows rest P) (h1 : d ≤ d') (h2 : u ≤ u') :
    WorkSpec w mean mg mb d' u' f x av dwo ol tk1 tk2 row rows rest P :=
  fun A₀ base h₀ outer L m s dp un gd cn cs a ccd cl Q E tr no B F X N T hk hd hu hQ hE => C A₀ base h₀ outer L m s dp un gd cn cs a ccd cl Q E tr no B F X N T hk (by omega) (by omega) hQ hE
end
end Mine
namespace Mine
theorem fi1 (w : World) : findIn (Mine.KK w.params) (.ref 70) "__getattribute__" = some (some (.builtin "BaseException.__getattribute__")) := by k_is
theorem fi2 (w : World) : findIn (Mine.KK w.params) (.ref 70) "__getattr__" = some none := by k_is
theorem fi3 (w : World) {h1 h2 h3 h4 : Int} {k1 k2 k3 k4 : Tok} {v1 v4 : Value} {wd : Str} {t2 t3 : Tok} {n : Nat} : findObj (Mine.KK w.params) 70 (some (adaDict h1 h2 h3 h4 k1 k2 k3 k4 v1 v4 wd t2 t3 n)) (Str.ofString "word") = some (.value (.str wd t3)) := findObj_own (attr := none) (by k_is) (by k_is) rfl (by rfl)
theorem bind_ga (e : Addr) : bindSpecial (.builtin "BaseException.__getattribute__") (.ref e) = pure (.builtin "BaseException.__getattribute__", [.ref e]) := by kernel_rfl
theorem get_word {w : World} {A : Around} {s : Shared} {Q E : Value → Shared → Prop} {e ed : Addr} {vs : Array Value} {oe : Obj} {b : Bool} {h1 h2 h3 h4 : Int} {k1 k2 k3 k4 : Tok} {v1 v4 : Value} {wd : Str} {t2 t3 : Tok} {n : Nat} (X : (Mine.KK w.params).In s.heap)
    (he : s.heap.get? e = some oe) (hc : oe.cls = .ref 70) (hdd : oe.dict = some ed) (hda : oe.data = .fields vs) (hd : s.heap.get? ed = some (adaDict h1 h2 h3 h4 k1 k2 k3 k4 v1 v4 wd t2 t3 n)) (h : Q (.str wd t3) { s with toks := s.toks + 1 }) :
   wpAny (model PySem.Challenge.pw_pp0007_01 w) A (getAttr (.ref e) (Str.ofString "word") b) Q E s := by
  have I : InstAt s.heap e oe 70 (some (adaDict h1 h2 h3 h4 k1 k2 k3 k4 v1 v4 wd t2 t3 n)) := ⟨he, hc, by unfold notCls; rw [hda], by rw [hdd]; exact hd⟩
  obtain ⟨nm, q', N, bs, bm, hdct, sn, sub, ab, col, dd, k0, k1, k2, k3, k5, newId, hC, hbase, hbT⟩ := kts_cls X (kts70 w)
  have hcB : (Value.ref 70 :: bm).contains (.type "BaseException") = true := by rw [List.contains_cons, hbase, Bool.or_true]
  obtain ⟨hh, g, d, t, os⟩ := s
  have L0 := I.type (M := model PySem.Challenge.pw_pp0007_01 w)
  have L1 := looks_findIn (M := model PySem.Challenge.pw_pp0007_01 w) X (fi1 w)
  have L2 := looks_findIn (M := model PySem.Challenge.pw_pp0007_01 w) X (fi2 w)
  have L3 := looks_find (M := model PySem.Challenge.pw_pp0007_01 w) X I (fi3 w)
  unfold getAttr getAttrBy
  refine wpAny_bind (wpAny_mkText (wpAny_holding (wpAny_bind (L0.at (wpAny_bind (L1.at ?_))))))
  have hx2 : (Value.builtin "BaseException.__getattribute__" == Value.builtin "object.__getattribute__") = false := by decide +kernel
  have hx1 : (onTheHeap (Value.ref 70) && Value.builtin "BaseException.__getattribute__" == Value.builtin "object.__getattribute__") = false := by rw [hx2]; rfl
  simp only [hx1, Bool.false_eq_true, if_false]
  unfold getAttrByItsOwn hookBefore callGetattribute boundAndCalled
  have hx0 : (b && onTheHeap (Value.builtin "BaseException.__getattribute__")) = false := by cases b <;> rfl
  refine wpAny_bind ?_
  show wpAny _ _ (typeLookup (.ref 70) "__getattr__") _ _ _
  refine L2.at ?_
  refine wpAny_bind (wpAny_attempt (wpAny_holding ?_))
  simp only [hx0, Bool.false_eq_true, if_false]
  refine wpAny_bind (wpAny_of_eq (bind_ga e) ?_)
  refine wpAny_mono (Q := fun v s' => v = .str wd t3 ∧ s' = ⟨hh, g, d, t + 1, os⟩) (E := fun _ _ => False) ?_ (fun v s' hv => ?_) fun _ _ z => z.elim
  · refine wpAny_call ?_
    refine codeAny_call_builtin F.attrBase_ValueError.ga.plain F.entry_bexc_ga ?_
    have hk : builtinKind "BaseException.__getattribute__" = some .slot := by decide +kernel
    have hsplit : splitId "BaseException.__getattribute__" = some ("BaseException", "__getattribute__") := by decide +kernel
    have ha := F.args_bexc_ga (.ref e) (.str (Str.ofString "word") t)
    simp only [List.cons_append, List.nil_append]
    simp only [checkBuiltinCall, hk, hsplit]
    refine wpAny_bind ?_
    unfold isInstance
    repeat (any_goals first | assumption | with_reducible refine L3.at ?_ | (with_reducible refine wpAny_loadPart_at he ?_; rw [hc]) | (with_reducible refine wpAny_isSubtype_exc hC ?_; rw [hcB]) | wp_step)
    all_goals exact ⟨rfl, rfl⟩
  · obtain ⟨rfl, rfl⟩ := hv
    exact wpAny_pure h
end Mine
namespace Mine
theorem rules_T11_1 : True := by
  k_with_none
  k_with "execs cons" => (k_here; (try dsimp only); (with_reducible refine flat ?_); intro ztk'; (with_reducible refine wpAny_execs_cons ?_); (try dsimp only); (try k_fold))
  trivial
theorem rules_T11_2 : True := by
  k_with "my all" => (assumption)
  k_with "my enter" => (refine' code_def ?k1 ?k2 ?k3 ?k4 ?k5 ?kA ?kF ?kK ?k6 ?k7 ?k8 ?k9 ?kB ?_ ?c2 ?c3 ?c4 ?c5; (case kA => exact rfl); (case kF => exact rfl); (case kK => first | assumption | exact rfl); (case k1 => k_asm); (case k2 => k_asm); (case k3 => k_asm); (case k4 => k_asm); (case k5 => k_asm); (case k6 => k_is); (case k7 => k_is); (case k8 => ktr_room); (case k9 => first | exact BindsTo.of_eq rfl | exact binds_K (by k_in) rfl (by k_is) rfl rfl rfl); (case c5 => decide); (case kB => exact locs rfl); (case c2 => exact rfl); (case c3 => exact rfl); (case c4 => exact rfl); k_whole; intro zg' zL' zh' zFG' zF' zN' zB' zX' zT'; (try dsimp only); (try k_fold))
  k_with "my enter" => (refine' code_defC ?k1 ?k2 ?k3 ?k4 ?k5 ?kA ?kF ?kK ?k6 ?k7 ?k8 ?k9 ?kB ?kD ?_ ?c2 ?c3 ?c4; (case kA => exact rfl); (case kF => exact rfl); (case kK => first | assumption | exact rfl); (case k1 => k_asm); (case k2 => k_asm); (case k3 => k_asm); (case k4 => k_asm); (case k5 => k_asm); (case k6 => k_is); (case k7 => k_is); (case k8 => ktr_room); (case k9 => exact BindsTo.of_eq rfl); (case kB => exact rfl); (case kD => decide +kernel); (case c2 => exact rfl); (case c3 => exact rfl); (case c4 => exact rfl); k_whole; intro zg' zL' zh' ztk' zcells' zFG' zF' zN' zY' zB' zX' zT' zl1; (try k_lt zl1); k_cells zY'; (try simp only [List.cons_append, List.nil_append] at zN'); (try dsimp only); (try k_fold))
  k_with "call ref" => (k_here; (with_reducible show wpAny _ _ (call (Value.ref 406) [Value.ref _, Value.int _ _]) _ _ _); k_dflt (refine' cast_app ?B ?F ?X ?N ?T ?hk ?hi ?hl ?hm ?U ?k0 ?k1 ?hs ?hs2 ?hne ?hd ?hu ?_; (case B => k_asm); (case F => k_asm); (case X => k_asm); (case N => k_asm); (case T => k_asm); (case hk => first | exact rfl | assumption); (case hi => assumption); (case hl => assumption); (case hm => k_mem); (case U => intro zt'; k_upd)); (case k0 => omega); (case k1 => omega); (case hs => omega); (case hs2 => omega); (case hne => k_ne); (case hd => ktr_room); (case hu => ktr_room); k_whole; intro zh' ztk' zt3' zt4' zv' zF' zN' zv0' zv1'; (try k_sweep); walk_say "CAST")
  k_with "CompSrc" => (refine hold ?_)
  k_with "CompEnd" => (refine hold ?_)
  k_with "exec Raise some none" => (k_dflt (refine Raise_ada (by rfl) ?_))
  k_with "call ref" => (k_here; (with_reducible show wpAny _ _ (call (Value.ref 70) [Value.str _ _, Value.int _ _, Value.str _ _]) _ _ _); k_dflt (refine' call_ada ?B ?F ?X ?N ?T ?hk ?hd ?hu ?_; (case B => k_asm); (case F => k_asm); (case X => k_asm); (case N => k_asm); (case T => k_asm); (case hk => first | exact rfl | assumption)); (case hd => ktr_room); (case hu => ktr_room); k_whole; intro zh' ztk' ze' zed' ztp' zh1' zh2' zh3' zh4' zk1' zk2' zk3' zk4' zv1' zv4' zt2' zt3' zn' zF' zN' zne' zned'; (try k_sweep))
  k_with "RaisA" => (refine ⟨_, _, _, rfl, News.get (by k_asm) (.head _), Frag.In.keeps (by k_asm) (Fr.keep (by k_asm)), ?_⟩)
  k_with "leaving ref" => (k_here; (refine' leave_raiseD ?K ?F ?N ?ne ?_; (case K => assumption); (case F => k_asm); (case N => k_asm); (case ne => assumption)); intro zh' zR' zU')
  k_with "my get" => (assumption)
  k_with "call ref" => (k_here; (with_reducible show wpAny _ _ (call (Value.ref 277) [Value.ref _, Value.ref _]) _ _ _); k_dflt (refine' mk_run ?B ?F ?X ?N ?T ?hk ?hd ?hu ?_; (case B => k_asm); (case F => k_asm); (case X => k_asm); (case N => k_asm); (case T => k_asm); (case hk => first | exact rfl | assumption)); (case hd => ktr_room); (case hu => ktr_room); k_whole; intro zh' ztk' zx' zdx' zes' zn' zce' zdce' ztk2' zt2' zF' zN' zhR' zl1 zl2 zl3 zl4; (try simp only [AllLt, and_true] at zl4); (try k_sweep))
  k_with "setAttr ref" => (k_here; (with_reducible show wpAny _ _ (setAttr (Value.ref _) (Str.ofString "line") (Value.int _ _)) _ _ _); k_dflt (refine' set_line ?F ?X ?N ?m1 ?U ?R ?_; (case F => k_asm); (case X => k_asm); (case N => k_asm); (case R => assumption); (case m1 => k_mem); (case U => intro zes' zn'; k_upd)); k_whole; intro zh' zes' zn' zF' zN' zhR'; (try k_sweep))
  k_with "call ref" => ((with_reducible show wpAny _ _ (call (Value.ref _) [Value.ref _, Value.ref _]) _ _ _); refine hold ?_)
  k_with "my caught" => (refine hold ?_)
  k_with "getAttr ref" => ((with_reducible show wpAny _ _ (getAttr _ (Str.ofString "word") _) _ _ _); refine hold ?_)
  trivial
section
variable {w : World} {mean : ExcName → Option Value} {mg mb : Str → Option Value} {x dx wo dwo li dli ol ce : Addr} {row : Str} {rows : List Value} {tk1 tk2 : Tok} {rest : List (Addr × Obj)}
theorem law_word_in {f av : Addr} {P : Option Str → Str → List Value → Prop} {A₀ : Around} {base h₀ : Heap} {outer : List Env} {L : Addr} {m : Str → Option Value} {s : Shared} {dp un : Nat} {gd : Option (List Code)} {cn : Str} {cs : Scope} {a : Addr} {ccd : Value} {Q E : Value → Shared → Prop} {tr : Tok} {no : Nat}
    (C : WorkSpec w mean mg mb 40 300 f x av dwo ol tk1 tk2 row rows rest P) (B : Below A₀ base outer h₀) (F : Fr h₀ L s.heap m) (X : (Mine.KK w.params).In h₀) (N : News h₀ L s.heap ((dwo, worldD w tk1 tk2 ol row tr) :: (ol, listOf rows.toArray no) :: rest))
    (T : Top Mine.vw loo mean mg mb h₀) (XB : (Mine.KK w.params).In base) (TB : Top Mine.vw loo mean mg mb base) (D : KtsDicts (outer.filterMap (·.frame)) h₀) (hk : cs.kind = .function) (hf : f = 253 ∨ f = 246 ∨ f = 239 ∨ f = 444) (hd : dp + 45 < 500) (hu : un + 350 < 1000)
    (hQ : ∀ g h' tk o t row' t' rows' no', P o row' rows' → KtsTurn (outer.filterMap (·.frame)) h₀ g → Fr g L h' m → News g L h' ((dwo, worldD w tk1 tk2 ol row' t') :: (ol, listOf rows'.toArray no') :: rest) → Below A₀ base outer g → (Mine.KK w.params).In g → Top Mine.vw loo mean mg mb g → KtsDicts (outer.filterMap (·.frame)) g →
      Q (.str (o.getD (Str.ofString "")) t) { s with heap := h', toks := tk }) :
    wpAny (model PySem.Challenge.pw_pp0007_01 w) (ktrTop dp un gd cn cs L a ccd [] outer) (call (.ref 437) [.ref f, .ref x, .ref av]) Q E s := by
  w_top off
  refine wpAny_call ?_
  k_dflt (refine' code_defS ?k1 ?k2 ?k3 ?k4 ?k5 XB TB D KtsTurn.refl ?kA ?k6 ?k7 ?k8 ?k9 ?kB ?_ ?cK ?c2 ?c3 ?c4 ?c5)
  case kA => exact rfl
  case k2 => k_asm
  case k1 => k_asm
  case k3 => k_asm
  case k4 => k_asm
  case k5 => k_asm
  case k6 => k_is
  case k7 => k_is
  case k8 => ktr_room
  case k9 => exact BindsTo.of_eq rfl
  case kB => exact locs rfl
  case cK => exact hk
  case c2 => exact rfl
  case c3 => exact rfl
  case c4 => exact rfl
  case c5 => decide
  k_whole
  intro g' L' h' FG' F' N' B' X' T' D'
  (try dsimp only)
  (try k_fold)
  k_steps
  (rcases hf with rfl | rfl | rfl | rfl) <;> (
  k_steps
  refine unhold ?_
  refine C.use B' F' X' N' T' ?_ ?_ ?_ ?_ ?_
  · rfl
  · show dp + 1 + 40 < 500
    omega
  · show un + 3 + 300 < 1000
    omega
  · intro h2 tk2 row' t' rows' no' hP F2 N2
    clear F' N'
    k_steps
    rename Fr h₀ L _ _ => kF
    rename News h₀ L _ _ => kN
    exact hQ _ _ _ none _ _ _ _ _ hP KtsTurn.refl kF kN B X T D
  · intro wd row' t' rows' no' hP G e ed od h2 tk2 FG R aw hne U
    k_steps
    refine caughtD (x := Str.ofString "AdaRaise") R FG B' U XB TB D' KtsTurn.refl (by k_is) (kts70 w) ?_
    clear F' N' FG R U X' T' B' D'
    intro h3 g3 oe vs tk3 T3 F3 c3 d3 v3 N3 ne3 B3 X3 P3 D3
    obtain ⟨h1', h2', h3', h4', k1', k2', k3', k4', v1', v4', t2', t3', n', rfl⟩ := aw
    k_steps
    refine unhold ?_
    refine get_word (Frag.In.keeps X3 F3.keep) (N3 _ (.head _)).1 c3 d3 v3 (N3 _ (.tail _ (.head _))).1 ?_
    k_steps
    rename KtsTurn _ h₀ _ => kT
    rename Fr _ L _ _ => kF
    rename News _ L _ _ => kN
    rename Below A₀ _ _ _ => kB
    rename (Mine.KK w.params).In _ => kX
    rename Top _ _ _ _ _ _ => kP
    rename KtsDicts _ _ => kD
    exact hQ _ _ _ (some wd) _ _ _ _ _ hP kT kF (News.skip1 (News.skip1 kN)) kB kX kP kD)
end
end Mine
namespace Mine
theorem rules_T12_1 : True := by
  k_with_none
  k_with "execs cons" => (k_here; (try dsimp only); (with_reducible refine flat ?_); intro ztk'; (with_reducible refine wpAny_execs_cons ?_); (try dsimp only); (try k_fold))
  trivial
theorem rules_T12_2 : True := by
  k_with "my all" => (assumption)
  k_with "my enter" => (refine' code_def ?k1 ?k2 ?k3 ?k4 ?k5 ?kA ?kF ?kK ?k6 ?k7 ?k8 ?k9 ?kB ?_ ?c2 ?c3 ?c4 ?c5; (case kA => exact rfl); (case kF => exact rfl); (case kK => first | assumption | exact rfl); (case k1 => k_asm); (case k2 => k_asm); (case k3 => k_asm); (case k4 => k_asm); (case k5 => k_asm); (case k6 => k_is); (case k7 => k_is); (case k8 => ktr_room); (case k9 => first | exact BindsTo.of_eq rfl | exact binds_K (by k_in) rfl (by k_is) rfl rfl rfl); (case c5 => decide); (case kB => exact locs rfl); (case c2 => exact rfl); (case c3 => exact rfl); (case c4 => exact rfl); k_whole; intro zg' zL' zh' zFG' zF' zN' zB' zX' zT'; (try dsimp only); (try k_fold))
  k_with "my enter" => (refine' code_defC ?k1 ?k2 ?k3 ?k4 ?k5 ?kA ?kF ?kK ?k6 ?k7 ?k8 ?k9 ?kB ?kD ?_ ?c2 ?c3 ?c4; (case kA => exact rfl); (case kF => exact rfl); (case kK => first | assumption | exact rfl); (case k1 => k_asm); (case k2 => k_asm); (case k3 => k_asm); (case k4 => k_asm); (case k5 => k_asm); (case k6 => k_is); (case k7 => k_is); (case k8 => ktr_room); (case k9 => exact BindsTo.of_eq rfl); (case kB => exact rfl); (case kD => decide +kernel); (case c2 => exact rfl); (case c3 => exact rfl); (case c4 => exact rfl); k_whole; intro zg' zL' zh' ztk' zcells' zFG' zF' zN' zY' zB' zX' zT' zl1; (try k_lt zl1); k_cells zY'; (try simp only [List.cons_append, List.nil_append] at zN'); (try dsimp only); (try k_fold))
  k_with "call ref" => (k_here; (with_reducible show wpAny _ _ (call (Value.ref 406) [Value.ref _, Value.int _ _]) _ _ _); k_dflt (refine' cast_app ?B ?F ?X ?N ?T ?hk ?hi ?hl ?hm ?U ?k0 ?k1 ?hs ?hs2 ?hne ?hd ?hu ?_; (case B => k_asm); (case F => k_asm); (case X => k_asm); (case N => k_asm); (case T => k_asm); (case hk => first | exact rfl | assumption); (case hi => assumption); (case hl => assumption); (case hm => k_mem); (case U => intro zt'; k_upd)); (case k0 => omega); (case k1 => omega); (case hs => omega); (case hs2 => omega); (case hne => k_ne); (case hd => ktr_room); (case hu => ktr_room); k_whole; intro zh' ztk' zt3' zt4' zv' zF' zN' zv0' zv1'; (try k_sweep); walk_say "CAST")
  k_with "CompSrc" => (refine hold ?_)
  k_with "CompEnd" => (refine hold ?_)
  k_with "call builtin:len" => (k_here; (with_reducible show wpAny _ _ (call (Value.builtin "len") [Value.ref _]) _ _ _); (refine len_any (by k_asm) (by k_mem) (by rfl) (by rfl) (by omega) ?_))
  trivial
abbrev ownK (row : Str) (tr : Tok) (rl : Addr) (signs many room taken cells : Int) (ts tm tq tt tc : Tok) : List (Str × Value) :=
  [(Str.ofString "row", .str row tr), (Str.ofString "rows", .ref rl), (Str.ofString "signs", .int signs ts), (Str.ofString "many", .int many tm), (Str.ofString "room", .int room tq), (Str.ofString "taken", .int taken tt), (Str.ofString "cells", .int cells tc)]
section
variable {w : World} {mean : ExcName → Option Value} {mg mb : Str → Option Value} {A₀ : Around} {base h₀ : Heap} {outer : List Env} {L : Addr} {m : Str → Option Value}
  {s : Shared} {dp un : Nat} {gd : Option (List Code)} {cn : Str} {cs : Scope} {a : Addr} {ccd : Value} {cl : List (Str × Addr)} {Q E : Value → Shared → Prop}
theorem law_said_in {od rl : Addr} {o : Obj} {row text : Str} {tx tr ts tm tq tt tc : Tok} {signs many room taken cells : Int} {rest : List (Addr × Obj)}
    (B : Below A₀ base outer h₀) (F : Fr h₀ L s.heap m) (X : (Mine.KK w.params).In h₀) (N : News h₀ L s.heap ((od, o) :: rest))
    (T : Top Mine.vw loo mean mg mb h₀) (hk : cs.kind = .function)
    (hs : o.IsDictOf (PySem.strKind PySem.Challenge.pw_pp0007_01 w) (ownK row tr rl signs many room taken cells ts tm tq tt tc)) (lo : (od == sysModules) = false)
    (hr : ∀ p ∈ rest, p.1 ≠ od) (hrl : row.length ≤ 100) (htl : text.length ≤ 100)
    (hd : dp + 8 < 500) (hu : un + 80 < 1000)
    (hQ : ∀ r row', (((row.length : Int) + text.length ≤ signs ∧ row' = row ++ text ∧ r = Str.ofString "") ∨ (signs < (row.length : Int) + text.length ∧ row' = row ∧ r = Str.ofString "storage_error")) → ∀ h' tk t o' tr', Fr h₀ L h' m → News h₀ L h' ((od, o') :: rest) →
      o'.IsDictOf (PySem.strKind PySem.Challenge.pw_pp0007_01 w) (ownK row' tr' rl signs many room taken cells ts tm tq tt tc) → Q (.str r t) { s with heap := h', toks := tk }) :
    wpAny (model PySem.Challenge.pw_pp0007_01 w) (ktrTop dp un gd cn cs L a ccd cl outer) (call (.ref 423) [.ref od, .str text tx]) Q E s := by
  w_top off
  refine wpAny_call ?_
  k_dflt k_enter
  k_steps
  all_goals (rename Fr h₀ L _ _ => kF; rename News h₀ L _ _ => kN; rename Obj.IsDictOf _ _ _ => hs')
  · exact hQ _ _ (.inr ⟨by omega, rfl, rfl⟩) _ _ _ _ _ kF kN hs'
  · exact hQ _ _ (.inl ⟨by omega, rfl, rfl⟩) _ _ _ _ _ kF kN hs'
theorem law_ended_in {od rl : Addr} {o : Obj} {row : Str} {rows : List Value} {nr : Nat} {tr ts tm tq tt tc : Tok} {signs many room taken cells : Int} {rest : List (Addr × Obj)}
    (B : Below A₀ base outer h₀) (F : Fr h₀ L s.heap m) (X : (Mine.KK w.params).In h₀) (N : News h₀ L s.heap ((od, o) :: (rl, listOf rows.toArray nr) :: rest))
    (T : Top Mine.vw loo mean mg mb h₀) (hk : cs.kind = .function)
    (hs : o.IsDictOf (PySem.strKind PySem.Challenge.pw_pp0007_01 w) (ownK row tr rl signs many room taken cells ts tm tq tt tc)) (lo : (od == sysModules) = false)
    (hr : ∀ p ∈ rest, p.1 ≠ od) (hr2 : ∀ p ∈ rest, p.1 ≠ rl) (hor : @Ne Nat od rl) (hrs : rows.length ≤ 100)
    (hd : dp + 8 < 500) (hu : un + 80 < 1000)
    (hQ : ∀ r row' rows', (((rows.length : Int) ≠ many ∧ row' = Str.ofString "" ∧ r = Str.ofString "" ∧ rows' = rows ++ [.str row tr]) ∨ ((rows.length : Int) = many ∧ row' = row ∧ rows' = rows ∧ r = Str.ofString "storage_error")) → ∀ h' tk t o' tr' nr', Fr h₀ L h' m → News h₀ L h' ((od, o') :: (rl, listOf rows'.toArray nr') :: rest) →
      o'.IsDictOf (PySem.strKind PySem.Challenge.pw_pp0007_01 w) (ownK row' tr' rl signs many room taken cells ts tm tq tt tc) → Q (.str r t) { s with heap := h', toks := tk }) :
    wpAny (model PySem.Challenge.pw_pp0007_01 w) (ktrTop dp un gd cn cs L a ccd cl outer) (call (.ref 430) [.ref od]) Q E s := by
  w_top off
  refine wpAny_call ?_
  k_dflt k_enter
  k_steps
  all_goals (rename Fr h₀ L _ _ => kF; rename News h₀ L _ _ => kN; rename Obj.IsDictOf _ _ _ => hs')
  · exact hQ _ _ _ (.inr ⟨by omega, rfl, rfl, rfl⟩) _ _ _ _ _ _ kF kN hs'
  · (try simp only [List.push_toArray] at kN)
    exact hQ _ _ _ (.inl ⟨by omega, rfl, rfl, rfl⟩) _ _ _ _ _ _ kF kN hs'
end
end Mine
namespace Mine
theorem rules_T13_1 : True := by
  k_with_none
  k_with "eval Call" => (k_fold; walk1)
  k_with "eval Compare" => (k_fold; walk1)
  k_with "eval BinOp" => (k_fold; walk1)
  k_with "eval Subscript" => (k_fold; walk1)
  k_with "eval IfExp" => (k_fold; walk1)
  k_with "eval Tuple" => (k_fold; walk1)
  k_with "eval List" => (k_fold; walk1)
  k_with "eval BoolOp" => (k_fold; walk1)
  k_with "execs cons" => (k_here; (try dsimp only); (with_reducible refine flat ?_); intro ztk'; (with_reducible refine wpAny_execs_cons ?_); (try dsimp only); (try k_fold))
  trivial
theorem rules_T13_2 : True := by
  k_with "my all" => (assumption)
  k_with "my enter" => (refine' code_def ?k1 ?k2 ?k3 ?k4 ?k5 ?kA ?kF ?kK ?k6 ?k7 ?k8 ?k9 ?kB ?_ ?c2 ?c3 ?c4 ?c5; (case kA => exact rfl); (case kF => exact rfl); (case kK => first | assumption | exact rfl); (case k1 => k_asm); (case k2 => k_asm); (case k3 => k_asm); (case k4 => k_asm); (case k5 => k_asm); (case k6 => k_is); (case k7 => k_is); (case k8 => ktr_room); (case k9 => first | exact BindsTo.of_eq rfl | exact binds_K (by k_in) rfl (by k_is) rfl rfl rfl); (case c5 => decide); (case kB => exact locs rfl); (case c2 => exact rfl); (case c3 => exact rfl); (case c4 => exact rfl); k_whole; intro zg' zL' zh' zFG' zF' zN' zB' zX' zT'; (try dsimp only); (try k_fold))
  k_with "my enter" => (refine' code_defC ?k1 ?k2 ?k3 ?k4 ?k5 ?kA ?kF ?kK ?k6 ?k7 ?k8 ?k9 ?kB ?kD ?_ ?c2 ?c3 ?c4; (case kA => exact rfl); (case kF => exact rfl); (case kK => first | assumption | exact rfl); (case k1 => k_asm); (case k2 => k_asm); (case k3 => k_asm); (case k4 => k_asm); (case k5 => k_asm); (case k6 => k_is); (case k7 => k_is); (case k8 => ktr_room); (case k9 => exact BindsTo.of_eq rfl); (case kB => exact rfl); (case kD => decide +kernel); (case c2 => exact rfl); (case c3 => exact rfl); (case c4 => exact rfl); k_whole; intro zg' zL' zh' ztk' zcells' zFG' zF' zN' zY' zB' zX' zT' zl1; (try k_lt zl1); k_cells zY'; (try simp only [List.cons_append, List.nil_append] at zN'); (try dsimp only); (try k_fold))
  k_with "call ref" => (k_here; (with_reducible show wpAny _ _ (call (Value.ref 406) [Value.ref _, Value.int _ _]) _ _ _); k_dflt (refine' cast_app ?B ?F ?X ?N ?T ?hk ?hi ?hl ?hm ?U ?k0 ?k1 ?hs ?hs2 ?hne ?hd ?hu ?_; (case B => k_asm); (case F => k_asm); (case X => k_asm); (case N => k_asm); (case T => k_asm); (case hk => first | exact rfl | assumption); (case hi => assumption); (case hl => assumption); (case hm => k_mem); (case U => intro zt'; k_upd)); (case k0 => omega); (case k1 => omega); (case hs => omega); (case hs2 => omega); (case hne => k_ne); (case hd => ktr_room); (case hu => ktr_room); k_whole; intro zh' ztk' zt3' zt4' zv' zF' zN' zv0' zv1'; (try k_sweep); walk_say "CAST")
  k_with "CompSrc" => (refine hold ?_)
  k_with "CompEnd" => (refine hold ?_)
  k_with "exec Raise some none" => (k_dflt (refine Raise_ada (by rfl) ?_))
  k_with "call ref" => (k_here; (with_reducible show wpAny _ _ (call (Value.ref 70) [Value.str _ _, Value.int _ _, Value.str _ _]) _ _ _); k_dflt (refine' call_ada ?B ?F ?X ?N ?T ?hk ?hd ?hu ?_; (case B => k_asm); (case F => k_asm); (case X => k_asm); (case N => k_asm); (case T => k_asm); (case hk => first | exact rfl | assumption)); (case hd => ktr_room); (case hu => ktr_room); k_whole; intro zh' ztk' ze' zed' ztp' zh1' zh2' zh3' zh4' zk1' zk2' zk3' zk4' zv1' zv4' zt2' zt3' zn' zF' zN' zne' zned'; (try k_sweep))
  k_with "RaisA" => (refine ⟨_, _, _, rfl, News.get (by k_asm) (.head _), Frag.In.keeps (by k_asm) (Fr.keep (by k_asm)), ?_⟩)
  k_with "leaving ref" => (k_here; (refine' leave_raiseD ?K ?F ?N ?ne ?_; (case K => assumption); (case F => k_asm); (case N => k_asm); (case ne => assumption)); intro zh' zR' zU')
  k_with "my get" => (assumption)
  k_with "call ref" => ((with_reducible show wpAny _ _ (call (Value.ref 199) _) _ _ _); refine hold ?_)
  k_with "setAttr ref" => ((with_reducible show wpAny _ _ (setAttr (Value.ref _) (Str.ofString "heaped") (Value.int _ _)) _ _ _); (refine hold ?_))
  trivial
abbrev cellsD (w : World) (tk : Tok) (last : Int) (t : Tok) : Obj := dictOf [⟨PyData.keyHash w.params (Str.ofString "last"), .str (Str.ofString "last") tk, .int last t⟩] 1
abbrev subD (w : World) (k1 k2 : Tok) (ty : Addr) (cv : Value) : Obj := dictOf [⟨PyData.keyHash w.params (Str.ofString "type"), .str (Str.ofString "type") k1, .ref ty⟩, ⟨PyData.keyHash w.params (Str.ofString "constraint"), .str (Str.ofString "constraint") k2, cv⟩] 2
abbrev cellD (w : World) (k1 k2 k3 : Tok) (v : Value) (z : Int) (t : Tok) (su : Addr) : Obj := dictOf [⟨PyData.keyHash w.params (Str.ofString "value"), .str (Str.ofString "value") k1, v⟩, ⟨PyData.keyHash w.params (Str.ofString "number"), .str (Str.ofString "number") k2, .int z t⟩, ⟨PyData.keyHash w.params (Str.ofString "subtype"), .str (Str.ofString "subtype") k3, .ref su⟩] 3
theorem News.fin13 {h₀ h : Heap} {L : Addr} {z c d a b y1 y2 y3 y4 y5 y6 y7 y8 : Addr × Obj} {r : List (Addr × Obj)} (N : News h₀ L h (z :: c :: d :: a :: b :: y1 :: y2 :: y3 :: y4 :: y5 :: y6 :: y7 :: y8 :: r)) : News h₀ L h (c :: d :: a :: b :: r) := News.sub N fun p hp => by
  iterate 4 (rcases List.mem_cons.mp hp with rfl | hp; (· repeat (first | exact .head _ | apply List.Mem.tail)))
  repeat (first | exact hp | apply List.Mem.tail)
section
variable {w : World} {mean : ExcName → Option Value} {mg mb : Str → Option Value} {A₀ : Around} {base h₀ : Heap} {outer : List Env} {L : Addr} {m : Str → Option Value}
  {s : Shared} {dp un : Nat} {gd : Option (List Code)} {cn : Str} {cs : Scope} {a : Addr} {ccd : Value} {cl : List (Str × Addr)} {Q E : Value → Shared → Prop}
theorem heap_cell_in {d : Nat} {x dx wo li dli ce dce su dsu ty dty : Addr} {es ls tes : List DictEntry} {n nl nt : Nat} {ln hp signs many room last wt : Int} {tc1 tc2 s1 s2 tkk : Tok} {v cv : Value} {tl rest : List (Addr × Obj)}
    (B : Below A₀ base outer h₀) (F : Fr h₀ L s.heap m) (X : (Mine.KK w.params).In h₀) (N : News h₀ L s.heap ((dx, dictOf es n) :: (dce, cellsD w tc1 last tc2) :: rest))
    (T : Top Mine.vw loo mean mg mb h₀) (hk : cs.kind = .function)
    (m1 : (x, instObj 277 dx) ∈ rest) (R : RunE es wo li ce ln hp) (m4 : (li, instObj 299 dli) ∈ rest) (m5 : (dli, dictOf ls nl) ∈ rest) (G : LimE ls signs many room) (m6 : (ce, instObj 141 dce) ∈ rest)
    (m7 : (su, instObj 341 dsu) ∈ rest) (m8 : (dsu, subD w s1 s2 ty cv) ∈ rest) (m9 : (ty, instObj 320 dty) ∈ rest) (m10 : (dty, dictOf tes nt) ∈ rest) (hkd : getL (Str.ofString "kind") tes = some (some (.str (Str.ofString "int") tkk)))
    (IH : WeightSpec w mean mg mb d) (hd2 : d ≤ 2) (hth : ThAt w d tl v wt) (htl : ∀ p ∈ tl, p ∈ rest)
    (hr : ∀ p ∈ rest, p.1 ≠ dx) (hr2 : ∀ p ∈ rest, p.1 ≠ dce) (hdd : @Ne Nat dx dce) (h0 : 0 ≤ hp) (h1 : hp ≤ 1000) (h2 : 0 ≤ last) (h3 : last ≤ 1000)
    (hd : dp + 20 < 500) (hu : un + 120 < 1000)
    (hQ : hp + wt ≤ room → ∀ h' tk cell dcell es' n' k1 k2 k3 t tc2', Fr h₀ L h' m → RunE es' wo li ce ln (hp + wt) → @LT.lt Nat _ dcell cell → AllLt dcell rest →
      News h₀ L h' ((cell, instObj 113 dcell) :: (dcell, cellD w k1 k2 k3 v (last + 1) t su) :: (dx, dictOf es' n') :: (dce, cellsD w tc1 (last + 1) tc2') :: rest) → Q (.ref cell) { s with heap := h', toks := tk })
    (hE : room < hp + wt → ErrD base h₀ L m (envX cn cs L a ccd cl :: outer) (Str.ofString "storage_error") ((dx, dictOf es n) :: (dce, cellsD w tc1 last tc2) :: rest) s E) :
    wpAny (model PySem.Challenge.pw_pp0007_01 w) (ktrTop dp un gd cn cs L a ccd cl outer) (call (.ref 399) [.ref x, .ref su, v]) Q E s := by
  w_top off
  have hwb := hth.bound
  have hRE := R
  obtain ⟨r1, r2, r3, ⟨t4, r4⟩, ⟨t5, r5⟩, r6⟩ := R
  obtain ⟨⟨g1t, g1⟩, ⟨g2t, g2⟩, ⟨g3t, g3⟩⟩ := G
  have N2 : News h₀ L s.heap ((dx, dictOf es n) :: (dce, cellsD w tc1 last tc2) :: (x, _) :: (li, _) :: (dli, _) :: (ce, _) :: (su, _) :: (dsu, _) :: (ty, _) :: (dty, _) :: rest) := News.sub N (fun p hp => by
      simp only [List.mem_cons] at hp ⊢
      rcases hp with rfl | rfl | rfl | rfl | rfl | rfl | rfl | rfl | rfl | rfl | hp
      · exact .inl rfl
      · exact .inr (.inl rfl)
      · exact .inr (.inr m1)
      · exact .inr (.inr m4)
      · exact .inr (.inr m5)
      · exact .inr (.inr m6)
      · exact .inr (.inr m7)
      · exact .inr (.inr m8)
      · exact .inr (.inr m9)
      · exact .inr (.inr m10)
      · exact .inr (.inr hp))
  have n1 := hr _ m1
  have n2 := hr _ m4
  have n3 := hr _ m5
  have n4 := hr _ m6
  have n5 := hr _ m7
  have n6 := hr _ m8
  have n7 := hr _ m9
  have n8 := hr _ m10
  have p1 := hr2 _ m1
  have p2 := hr2 _ m4
  have p3 := hr2 _ m5
  have p4 := hr2 _ m6
  have p5 := hr2 _ m7
  have p6 := hr2 _ m8
  have p7 := hr2 _ m9
  have p8 := hr2 _ m10
  clear N
  refine wpAny_call ?_
  k_dflt k_enter
  k_steps
  refine unhold ?_
  rename Fr _ _ _ _ => lF'
  rename Below _ _ (_ :: _) _ => lB'
  rename News _ _ _ _ => lN'
  rename Top _ _ _ _ _ _ => lT'
  rename (Mine.KK w.params).In _ => lX'
  refine IH.use lB' lF' lX' lN' lT' ?_ hth (fun p hp => .tail _ (.tail _ (.tail _ (.tail _ (.tail _ (.tail _ (.tail _ (.tail _ (.tail _ (.tail _ (htl p hp))))))))))) ?_ ?_ ?_
  · rfl
  · show dp + 1 + 2 * (d + 1) < 500
    omega
  · show un + 3 + 16 * (d + 1) < 1000
    omega
  intro hh2 tk2 t2 F2 N2
  clear lF' lN'
  k_steps
  · rename Fr h₀ L _ _ => kFG
    rename RaisedD _ _ _ _ _ _ _ => kR
    rename Heap.UpToSlots _ _ => kU
    refine ((hE (by omega)).sub fun p hp => ?_) _ _ _ _ _ _ kFG kR AdaW.of (by assumption) kU
    rcases List.mem_cons.mp hp with rfl | hp
    · exact .head _
    · rcases List.mem_cons.mp hp with rfl | hp
      · exact .tail _ (.head _)
      · exact .tail _ (.tail _ (.tail _ (.tail _ (.tail _ (.tail _ (.tail _ (.tail _ (.tail _ (.tail _ hp)))))))))
  · refine unhold ?_
    rename Fr _ _ _ _ => lF'
    rename News _ _ _ _ => lN'
    refine' set_heaped ?F ?X ?N ?m1 ?U ?R ?_
    case F => exact lF'
    case X => exact lX'
    case N => exact lN'
    case R => exact hRE
    case m1 => k_mem
    case U => (intro es' n'; k_upd)
    intro hh3 es' n' F3 N3 hR'
    have hR2 := hR'
    obtain ⟨q1, q2, q3, ⟨u4, q4⟩, ⟨u5, q5⟩, q6⟩ := hR'
    clear lF' lN'
    k_steps
    rename Fr h₀ L _ _ => kF
    rename News h₀ L _ _ => kN
    refine hQ (by omega) _ _ _ _ _ _ _ _ _ _ _ kF hR2 ?_ ?_ (News.fin13 kN)
    · repeat (rename _ ∧ _ => hcj; cases hcj)
      omega
    · repeat (rename _ ∧ _ => hcj; cases hcj)
      assumption
end
end Mine
namespace Mine
theorem rules_TT_1 : True := by
  k_with_none
  k_with "execs cons" => (k_here; (try dsimp only); (with_reducible refine flat ?_); intro ztk'; (with_reducible refine wpAny_execs_cons ?_); (try dsimp only))
  trivial
theorem rules_TT_2 : True := by
  k_with "my all" => (assumption)
  k_with "my enter" => (refine' code_def ?k1 ?k2 ?k3 ?k4 ?k5 ?kA ?kF ?kK ?k6 ?k7 ?k8 ?k9 ?kB ?_ ?c2 ?c3 ?c4 ?c5; (case kA => exact rfl); (case kF => exact rfl); (case kK => first | assumption | exact rfl); (case k1 => k_asm); (case k2 => k_asm); (case k3 => k_asm); (case k4 => k_asm); (case k5 => k_asm); (case k6 => k_is); (case k7 => k_is); (case k8 => ktr_room); (case k9 => first | exact BindsTo.of_eq rfl | exact binds_K (by k_in) rfl (by k_is) rfl rfl rfl); (case c5 => decide); (case kB => exact locs rfl); (case c2 => exact rfl); (case c3 => exact rfl); (case c4 => exact rfl); k_whole; intro zg' zL' zh' zFG' zF' zN' zB' zX' zT'; (try dsimp only); (try k_fold))
  k_with "my enter" => (refine' code_defC ?k1 ?k2 ?k3 ?k4 ?k5 ?kA ?kF ?kK ?k6 ?k7 ?k8 ?k9 ?kB ?kD ?_ ?c2 ?c3 ?c4; (case kA => exact rfl); (case kF => exact rfl); (case kK => first | assumption | exact rfl); (case k1 => k_asm); (case k2 => k_asm); (case k3 => k_asm); (case k4 => k_asm); (case k5 => k_asm); (case k6 => k_is); (case k7 => k_is); (case k8 => ktr_room); (case k9 => exact BindsTo.of_eq rfl); (case kB => exact rfl); (case kD => decide +kernel); (case c2 => exact rfl); (case c3 => exact rfl); (case c4 => exact rfl); k_whole; intro zg' zL' zh' ztk' zcells' zFG' zF' zN' zY' zB' zX' zT' zl1; (try k_lt zl1); k_cells zY'; (try simp only [List.cons_append, List.nil_append] at zN'); (try dsimp only); (try k_fold))
  k_with "CompSrc" => (refine hold ?_)
  k_with "CompEnd" => (refine hold ?_)
  trivial

theorem rules_TT_9 : True := by
  k_with "execs cons" => (refine hold ?_)
  k_with "STMT" => (refine unhold ?_; (try dsimp only); (with_reducible refine flat ?_); intro ztk'; (with_reducible refine wpAny_execs_cons ?_); (try dsimp only))
  k_with "setAttr ref" => (k_here; (with_reducible show wpAny _ _ (setAttr (Value.ref _) _ _) _ _ _); k_dflt (refine' set_drop (C := 320) ?F ?X ?N ?m1 ?U ?D ?hz (by k_is) (by k_is) (by k_is) (by k_is) ?hI ?_; (case F => k_asm); (case X => k_asm); (case N => k_asm); (case m1 => k_mem); (case U => intro zes' zn'; k_upd); (case D => assumption); (case hz => decide); (case hI => kernel_rfl)); k_whole; intro zh' zes' zn' zF' zN' zD'; (try k_sweep))
  k_with "setAttr ref" => (k_here; (with_reducible show wpAny _ _ (setAttr (Value.ref _) (Str.ofString "kind") _) _ _ _); k_dflt (refine' set_add (C := 320) ?F ?X ?N ?m1 ?U ?D ?hz (by k_is) (by k_is) (by k_is) (by k_is) (by kernel_rfl) ?_; (case F => k_asm); (case X => k_asm); (case N => k_asm); (case m1 => k_mem); (case U => intro zes' zn'; k_upd); (case D => assumption); (case hz => decide)); k_whole; intro zh' zes' zn' zF' zN' zD'; (try k_sweep))
  trivial
theorem News.typ {h₀ h : Heap} {L : Addr} {a1 c dc t : Addr × Obj} {r : List (Addr × Obj)} (N : News h₀ L h (a1 :: c :: dc :: t :: r)) : News h₀ L h (c :: dc :: r) :=
  fun p hp => N p (by
    rcases List.mem_cons.mp hp with rfl | hp
    · exact .tail _ (.head _)
    · rcases List.mem_cons.mp hp with rfl | hp
      · exact .tail _ (.tail _ (.head _))
      · exact .tail _ (.tail _ (.tail _ (.tail _ hp))))
section
variable {w : World} {mean : ExcName → Option Value} {mg mb : Str → Option Value} {A₀ : Around} {base h₀ : Heap} {outer : List Env} {L : Addr} {m : Str → Option Value}
  {s : Shared} {dp un : Nat} {gd : Option (List Code)} {cn : Str} {cs : Scope} {a : Addr} {ccd : Value} {cl : List (Str × Addr)} {Q E : Value → Shared → Prop}
theorem mk_type {t0 : Tok} {news : List (Addr × Obj)} (B : Below A₀ base outer h₀) (F : Fr h₀ L s.heap m) (X : (Mine.KK w.params).In h₀) (N : News h₀ L s.heap news) (T : Top Mine.vw loo mean mg mb h₀) (hk : cs.kind = .function)
    (hd : dp + 8 < 500) (hu : un + 80 < 1000)
    (hQ : ∀ h' tk ty dty tes nt tkk, Fr h₀ L h' m → News h₀ L h' ((ty, instObj 320 dty) :: (dty, dictOf tes nt) :: news) → getL (Str.ofString "kind") tes = some (some (.str (Str.ofString "int") tkk)) → @LT.lt Nat _ dty ty → AllLt dty news → Q (.ref ty) { s with heap := h', toks := tk }) :
    wpAny (model PySem.Challenge.pw_pp0007_01 w) (ktrTop dp un gd cn cs L a ccd cl outer) (call (.ref 373) [.int 16 t0]) Q E s := by
  w_top off
  refine wpAny_call ?_
  k_dflt k_enter
  have D0 := DOk.nil
  k_steps
  walk_at "STMT"
  k_steps
  walk_at "STMT"
  k_steps
  walk_at "STMT"
  k_steps
  walk_at "STMT"
  k_steps
  walk_at "STMT"
  k_steps
  walk_at "STMT"
  k_steps
  refine unhold ?_
  (try dsimp only)
  refine' plain_go 6 (C := 320) ?F ?X ?N ?m1 ?U ?D ?hz rfl rfl rfl ?hm (by k_is) (by k_is) (by k_is) ?pl ?_
  case F => k_asm
  case hm => exact rfl
  case X => k_asm
  case N => k_asm
  case m1 => k_mem
  case U => (intro es' n'; k_upd)
  case D => assumption
  case hz => decide
  case pl => kernel_rfl
  intro h' tk' es' n' F' N' D'
  (try k_sweep)
  (try dsimp only [List.drop])
  k_steps
  walk_at "STMT"
  k_steps
  refine unhold ?_
  (try dsimp only)
  refine' plain_go 15 (C := 320) ?F ?X ?N ?m1 ?U ?D ?hz rfl rfl rfl ?hm (by k_is) (by k_is) (by k_is) ?pl ?_
  case F => k_asm
  case hm => exact rfl
  case X => k_asm
  case N => k_asm
  case m1 => k_mem
  case U => (intro es' n'; k_upd)
  case D => assumption
  case hz => decide
  case pl => kernel_rfl
  intro h' tk' es' n' F' N' D'
  (try k_sweep)
  (try dsimp only [List.drop])
  k_steps
  walk_at "STMT"
  k_steps
  walk_at "STMT"
  k_steps
  walk_at "STMT"
  k_steps
  walk_at "STMT"
  k_steps
  walk_at "STMT"
  k_steps
  rename News h₀ L _ _ => kN
  rename Fr h₀ L _ _ => kF
  rename DOk _ _ _ => kD
  repeat (with_reducible rename _ ∧ _ => hcj; cases hcj)
  refine hQ _ _ _ _ _ _ _ kF (News.typ kN) (kD.get (.head _)) ?_ ?_
  · omega
  · assumption
end
end Mine
namespace Mine
theorem rules_T14_1 : True := by
  k_with_none
  k_with "eval Call" => (k_fold; walk1)
  k_with "eval Compare" => (k_fold; walk1)
  k_with "eval BinOp" => (k_fold; walk1)
  k_with "eval Subscript" => (k_fold; walk1)
  k_with "eval IfExp" => (k_fold; walk1)
  k_with "eval Tuple" => (k_fold; walk1)
  k_with "eval List" => (k_fold; walk1)
  k_with "eval BoolOp" => (k_fold; walk1)
  k_with "execs cons" => (k_here; (try dsimp only); (with_reducible refine flat ?_); intro ztk'; (with_reducible refine wpAny_execs_cons ?_); (try dsimp only); (try k_fold))
  trivial
theorem rules_T14_2 : True := by
  k_with "my all" => (assumption)
  k_with "my enter" => (refine' code_def ?k1 ?k2 ?k3 ?k4 ?k5 ?kA ?kF ?kK ?k6 ?k7 ?k8 ?k9 ?kB ?_ ?c2 ?c3 ?c4 ?c5; (case kA => exact rfl); (case kF => exact rfl); (case kK => first | assumption | exact rfl); (case k1 => k_asm); (case k2 => k_asm); (case k3 => k_asm); (case k4 => k_asm); (case k5 => k_asm); (case k6 => k_is); (case k7 => k_is); (case k8 => ktr_room); (case k9 => first | exact BindsTo.of_eq rfl | exact binds_K (by k_in) rfl (by k_is) rfl rfl rfl); (case c5 => decide); (case kB => exact locs rfl); (case c2 => exact rfl); (case c3 => exact rfl); (case c4 => exact rfl); k_whole; intro zg' zL' zh' zFG' zF' zN' zB' zX' zT'; (try dsimp only); (try k_fold))
  k_with "my enter" => (refine' code_defC ?k1 ?k2 ?k3 ?k4 ?k5 ?kA ?kF ?kK ?k6 ?k7 ?k8 ?k9 ?kB ?kD ?_ ?c2 ?c3 ?c4; (case kA => exact rfl); (case kF => exact rfl); (case kK => first | assumption | exact rfl); (case k1 => k_asm); (case k2 => k_asm); (case k3 => k_asm); (case k4 => k_asm); (case k5 => k_asm); (case k6 => k_is); (case k7 => k_is); (case k8 => ktr_room); (case k9 => exact BindsTo.of_eq rfl); (case kB => exact rfl); (case kD => decide +kernel); (case c2 => exact rfl); (case c3 => exact rfl); (case c4 => exact rfl); k_whole; intro zg' zL' zh' ztk' zcells' zFG' zF' zN' zY' zB' zX' zT' zl1; (try k_lt zl1); k_cells zY'; (try simp only [List.cons_append, List.nil_append] at zN'); (try dsimp only); (try k_fold))
  k_with "call ref" => (k_here; (with_reducible show wpAny _ _ (call (Value.ref 406) [Value.ref _, Value.int _ _]) _ _ _); k_dflt (refine' cast_app ?B ?F ?X ?N ?T ?hk ?hi ?hl ?hm ?U ?k0 ?k1 ?hs ?hs2 ?hne ?hd ?hu ?_; (case B => k_asm); (case F => k_asm); (case X => k_asm); (case N => k_asm); (case T => k_asm); (case hk => first | exact rfl | assumption); (case hi => assumption); (case hl => assumption); (case hm => k_mem); (case U => intro zt'; k_upd)); (case k0 => omega); (case k1 => omega); (case hs => omega); (case hs2 => omega); (case hne => k_ne); (case hd => ktr_room); (case hu => ktr_room); k_whole; intro zh' ztk' zt3' zt4' zv' zF' zN' zv0' zv1'; (try k_sweep); walk_say "CAST")
  k_with "CompSrc" => (refine hold ?_)
  k_with "CompEnd" => (refine hold ?_)
  k_with "exec Raise some none" => (k_dflt (refine Raise_ada (by rfl) ?_))
  k_with "call ref" => (k_here; (with_reducible show wpAny _ _ (call (Value.ref 70) [Value.str _ _, Value.int _ _, Value.str _ _]) _ _ _); k_dflt (refine' call_ada ?B ?F ?X ?N ?T ?hk ?hd ?hu ?_; (case B => k_asm); (case F => k_asm); (case X => k_asm); (case N => k_asm); (case T => k_asm); (case hk => first | exact rfl | assumption)); (case hd => ktr_room); (case hu => ktr_room); k_whole; intro zh' ztk' ze' zed' ztp' zh1' zh2' zh3' zh4' zk1' zk2' zk3' zk4' zv1' zv4' zt2' zt3' zn' zF' zN' zne' zned'; (try k_sweep))
  k_with "RaisA" => (refine ⟨_, _, _, rfl, News.get (by k_asm) (.head _), Frag.In.keeps (by k_asm) (Fr.keep (by k_asm)), ?_⟩)
  k_with "leaving ref" => (k_here; (refine' leave_raiseD ?K ?F ?N ?ne ?_; (case K => assumption); (case F => k_asm); (case N => k_asm); (case ne => assumption)); intro zh' zR' zU')
  k_with "compareOp Eq ref ref" => ((with_reducible show wpAny _ _ (compareOp CmpOp.Eq (Value.ref _) (Value.ref _)) _ _ _); refine hold ?_)
  k_with "setItem ref str" => (refine hold ?_)
  k_with "my get" => (assumption)
  k_with "call ref" => ((with_reducible show wpAny _ _ (call (Value.ref 411) _) _ _ _); refine hold ?_)
  k_with "call ref" => ((with_reducible show wpAny _ _ (call (Value.ref 373) _) _ _ _); refine hold ?_)
  k_with "call ref" => ((with_reducible show wpAny _ _ (call (Value.ref 399) _) _ _ _); refine hold ?_)
  k_with "my caught" => (refine hold ?_)
  k_with "getAttr ref" => ((with_reducible show wpAny _ _ (getAttr _ (Str.ofString "word") _) _ _ _); refine hold ?_)
  trivial
theorem News.bring {h₀ h : Heap} {L : Addr} {a1 a2 a3 a4 a5 a6 a7 b1 b2 : Addr × Obj} {r : List (Addr × Obj)} (N : News h₀ L h (a1 :: a2 :: a3 :: a4 :: a5 :: a6 :: a7 :: b1 :: b2 :: r)) : News h₀ L h (b1 :: b2 :: a1 :: a2 :: a3 :: a4 :: a5 :: a6 :: a7 :: r) := News.sub N fun p hp => by
  simp only [List.mem_cons] at hp ⊢
  rcases hp with hp | hp | hp | hp | hp | hp | hp | hp | hp | hp
  all_goals simp only [hp, true_or, or_true]
theorem off5 {b su dsu D ty dty : Addr} {o1 o2 o3 o4 o5 : Obj} {olds : List (Addr × Obj)} (hb : @LT.lt Nat _ b dty) (hty : @LT.lt Nat _ dty ty) (hD : @LT.lt Nat _ ty D) (hdsu : @LT.lt Nat _ D dsu) (hsu : @LT.lt Nat _ dsu su) (ho : ∀ p ∈ olds, p.1 ≠ b) :
    ∀ p ∈ (su, o1) :: (dsu, o2) :: (D, o3) :: (ty, o4) :: (dty, o5) :: olds, p.1 ≠ b := fun p hp => by
  simp only [List.mem_cons] at hp
  rcases hp with rfl | rfl | rfl | rfl | rfl | hp
  all_goals first | exact ho p hp | (show @Ne Nat _ _; omega)
theorem off8 {b a1 a2 a3 a4 a5 a6 a7 a8 : Addr} {o1 o2 o3 o4 o5 o6 o7 o8 : Obj} {R2 : List (Addr × Obj)} (h1 : @Ne Nat a1 b) (h2 : @Ne Nat a2 b) (h3 : @Ne Nat a3 b) (h4 : @Ne Nat a4 b) (h5 : @Ne Nat a5 b) (h6 : @Ne Nat a6 b) (h7 : @Ne Nat a7 b) (h8 : @Ne Nat a8 b) (ho : ∀ p ∈ R2, p.1 ≠ b) :
    ∀ p ∈ (a1, o1) :: (a2, o2) :: (a3, o3) :: (a4, o4) :: (a5, o5) :: (a6, o6) :: (a7, o7) :: (a8, o8) :: R2, p.1 ≠ b := fun p hp => by
  simp only [List.mem_cons] at hp
  rcases hp with rfl | rfl | rfl | rfl | rfl | rfl | rfl | rfl | hp
  all_goals first | exact ho p hp | assumption
theorem shrinkA {g h : Heap} {L cell dcell dx dce su dsu D ty dty r od x li dli ce dice sc : Addr} {b1 b2 b3 b4 b5 b6 b7 b8 b9 b10 b11 b12 b13 b14 b15 b16 b17 : Obj} {R2 : List (Addr × Obj)}
    (N : News g L h ((cell, b1) :: (dcell, b2) :: (dx, b3) :: (dce, b4) :: (su, b5) :: (dsu, b6) :: (D, b7) :: (ty, b8) :: (dty, b9) :: (r, b10) :: (od, b11) :: (x, b12) :: (li, b13) :: (dli, b14) :: (ce, b15) :: (dice, b16) :: (sc, b17) :: R2))
    (f1 : @LT.lt Nat _ od dcell) (f2 : @LT.lt Nat _ dcell cell) (f3 : @LT.lt Nat _ od D) (f4 : @LT.lt Nat _ od dsu) (f5 : @LT.lt Nat _ dsu su) :
    News g L h ((cell, b1) :: (dcell, b2) :: (su, b5) :: (dsu, b6) :: (D, b7) :: (od, b11) :: (dx, b3) :: (dce, b4) :: (dice, b16) :: (sc, b17) :: R2) ∧ @Ne Nat cell od ∧ @Ne Nat dcell od ∧ @Ne Nat su od ∧ @Ne Nat dsu od ∧ @Ne Nat D od := by
  refine ⟨News.sub N fun p hp => ?_, by omega, by omega, by omega, by omega, by omega⟩
  iterate 10 (rcases List.mem_cons.mp hp with rfl | hp; (· repeat (first | exact .head _ | apply List.Mem.tail)))
  repeat (first | exact hp | apply List.Mem.tail)
theorem mem_fin {cell dcell su dsu D od dx dce dice sc : Addr × Obj} {rest R2 : List (Addr × Obj)} (hre : ∀ p ∈ rest, p ∈ R2) : ∀ p ∈ dice :: sc :: od :: dx :: dce :: rest, p ∈ cell :: dcell :: su :: dsu :: D :: od :: dx :: dce :: dice :: sc :: R2 := fun p hp => by
  iterate 5 (rcases List.mem_cons.mp hp with rfl | hp; (· repeat (first | exact .head _ | apply List.Mem.tail)))
  repeat (first | exact hre p hp | apply List.Mem.tail)
theorem mem_rai {ed od dx dce su dsu D ty dty r x li dli ce dice sc : Addr × Obj} {R2 : List (Addr × Obj)} : ∀ p ∈ ed :: od :: dx :: dce :: dice :: sc :: R2, p ∈ ed :: dx :: dce :: su :: dsu :: D :: ty :: dty :: r :: od :: x :: li :: dli :: ce :: dice :: sc :: R2 := fun p hp => by
  iterate 6 (rcases List.mem_cons.mp hp with rfl | hp; (· repeat (first | exact .head _ | apply List.Mem.tail)))
  repeat (first | exact hp | apply List.Mem.tail)
theorem mem_fin2 {e ed od dx dce dice sc : Addr × Obj} {rest R2 : List (Addr × Obj)} (hre : ∀ p ∈ rest, p ∈ R2) : ∀ p ∈ dice :: sc :: od :: dx :: dce :: rest, p ∈ e :: ed :: od :: dx :: dce :: dice :: sc :: R2 := fun p hp => by
  iterate 5 (rcases List.mem_cons.mp hp with rfl | hp; (· repeat (first | exact .head _ | apply List.Mem.tail)))
  repeat (first | exact hre p hp | apply List.Mem.tail)
theorem mem_fin3 {z cell dcell su dsu D od dx dce dice sc : Addr × Obj} {rest R2 : List (Addr × Obj)} (hre : ∀ p ∈ rest, p ∈ R2) : ∀ p ∈ dice :: sc :: od :: dx :: dce :: rest, p ∈ z :: cell :: dcell :: su :: dsu :: D :: od :: dx :: dce :: dice :: sc :: R2 := fun p hp => .tail _ (mem_fin hre p hp)
section
variable {w : World} {mean : ExcName → Option Value} {mg mb : Str → Option Value}
theorem law_object_in {A₀ : Around} {base h₀ : Heap} {outer : List Env} {L : Addr} {m : Str → Option Value} {s : Shared} {dp un : Nat} {gd : Option (List Code)} {cn : Str} {cs : Scope} {a : Addr} {ccd : Value} {Q E : Value → Shared → Prop}
    {x dx wo li dli ce dce od rl dice sc : Addr} {es ls : List DictEntry} {n nl nd1 nd2 : Nat} {ln hp signs many room last k : Int} {tc1 tc2 t1 tr ts tm tq tt tc : Tok} {o : Obj} {row : Str} {items : List Value} {ns : List Int} {rest : List (Addr × Obj)}
    (B : Below A₀ base outer h₀) (F : Fr h₀ L s.heap m) (X : (Mine.KK w.params).In h₀)
    (N : News h₀ L s.heap ((dice, listOf #[.ref sc, .int k t1] nd1) :: (sc, listOf items.toArray nd2) :: (od, o) :: (dx, dictOf es n) :: (dce, cellsD w tc1 last tc2) :: rest))
    (T : Top Mine.vw loo mean mg mb h₀) (XB : (Mine.KK w.params).In base) (TB : Top Mine.vw loo mean mg mb base) (D : KtsDicts (outer.filterMap (·.frame)) h₀) (hk : cs.kind = .function)
    (hs : o.IsDictOf (PySem.strKind PySem.Challenge.pw_pp0007_01 w) (ownK row tr rl signs many room hp last ts tm tq tt tc)) (lo : (od == sysModules) = false)
    (hi : IntsAre items ns) (hl : ns.length ≤ 63) (k0 : 0 ≤ k) (k1 : k < 80000)
    (m1 : (x, instObj 277 dx) ∈ rest) (R : RunE es wo li ce ln hp) (m4 : (li, instObj 299 dli) ∈ rest) (m5 : (dli, dictOf ls nl) ∈ rest) (G : LimE ls signs many room) (m6 : (ce, instObj 141 dce) ∈ rest)
    (hr1 : ∀ p ∈ rest, p.1 ≠ od) (hr2 : ∀ p ∈ rest, p.1 ≠ dice) (hr3 : ∀ p ∈ rest, p.1 ≠ dx) (hr4 : ∀ p ∈ rest, p.1 ≠ dce)
    (e1 : @Ne Nat sc dice) (e2 : @Ne Nat od dice) (e3 : @Ne Nat dx dice) (e4 : @Ne Nat dce dice) (e5 : @Ne Nat sc od) (e6 : @Ne Nat sc dx) (e7 : @Ne Nat sc dce) (e8 : @Ne Nat od dx) (e9 : @Ne Nat od dce) (e10 : @Ne Nat dx dce)
    (h0 : 0 ≤ last) (h1 : last ≤ hp) (h2 : hp ≤ room) (h3 : room ≤ 100)
    (hd : dp + 60 < 500) (hu : un + 350 < 1000)
    (hQ : ∀ g h' tk t hp' last' k' t1' o' es' n' tc2' tt' tc', 0 ≤ last' → last' ≤ hp' → hp' ≤ room → k ≤ k' → k' ≤ k + 20 → KtsTurn (outer.filterMap (·.frame)) h₀ g → Fr g L h' m →
      News g L h' ((dice, listOf #[.ref sc, .int k' t1'] nd1) :: (sc, listOf items.toArray nd2) :: (od, o') :: (dx, dictOf es' n') :: (dce, cellsD w tc1 last' tc2') :: rest) →
      o'.IsDictOf (PySem.strKind PySem.Challenge.pw_pp0007_01 w) (ownK row tr rl signs many room hp' last' ts tm tq tt' tc') → RunE es' wo li ce ln hp' →
      Below A₀ base outer g → (Mine.KK w.params).In g → Top Mine.vw loo mean mg mb g → KtsDicts (outer.filterMap (·.frame)) g → t = true →
      Q (.bool t) { s with heap := h', toks := tk }) :
    wpAny (model PySem.Challenge.pw_pp0007_01 w) (ktrTop dp un gd cn cs L a ccd [] outer) (call (.ref 451) [.ref x, .ref od, .ref dice]) Q E s := by
  w_top off
  have hu2 : ¬ 1000 ≤ un + 350 := by omega
  refine wpAny_call ?_
  k_dflt (refine' code_defS ?k1 ?k2 ?k3 ?k4 ?k5 XB TB D KtsTurn.refl ?kA ?k6 ?k7 ?k8 ?k9 ?kB ?_ ?cK ?c2 ?c3 ?c4 ?c5)
  case kA => exact rfl
  case k2 => k_asm
  case k1 => k_asm
  case k3 => k_asm
  case k4 => k_asm
  case k5 => k_asm
  case k6 => k_is
  case k7 => k_is
  case k8 => ktr_room
  case k9 => exact BindsTo.of_eq rfl
  case kB => exact locs rfl
  case cK => exact hk
  case c2 => exact rfl
  case c3 => exact rfl
  case c4 => exact rfl
  case c5 => decide
  k_whole
  intro g' L' h' FG' F' N' B' X' T' D'
  (try dsimp only)
  (try k_fold)
  k_steps
  refine unhold ?_
  refine (thingS w mean mg mb 1 (by decide) (thingS w mean mg mb 0 (by decide) (thing0 w mean mg mb))).use (z := 2) B' F' X' N' T' ?_ hi hl k0 ?_ ?_ e1 ?_ ?_ ?_ ?_
  · rfl
  · show k + 17 < 90000
    omega
  · rfl
  · intro p hp
    simp only [List.mem_cons] at hp
    rcases hp with rfl | rfl | rfl | hp
    · exact e2
    · exact e3
    · exact e4
    · exact hr2 p hp
  · show dp + 1 + 6 < 500
    omega
  · show un + 3 + 48 < 1000
    omega
  intro hh2 tk2 t3 k' r v wt t tl F2 N2 hk1 hk2 hm hth hap
  have hk2' : k' ≤ k + 17 := hk2
  clear F' N'
  have hap2 : ∀ p ∈ tl, @Ne Nat p.1 od ∧ @Ne Nat p.1 dx ∧ @Ne Nat p.1 dce ∧ @Ne Nat p.1 dice := fun p hp =>
    ⟨hap p hp _ (.tail _ (.tail _ (.head _))), hap p hp _ (.tail _ (.tail _ (.tail _ (.head _)))), hap p hp _ (.tail _ (.tail _ (.tail _ (.tail _ (.head _))))), hap p hp _ (.head _)⟩
  obtain ⟨R2, hR2⟩ : ∃ R2, R2 = tl ++ rest := ⟨_, rfl⟩
  have N3 : News g' L' hh2 ((r, tupO [v, .int wt t]) :: (od, o) :: (dx, dictOf es n) :: (dce, cellsD w tc1 last tc2) :: (x, instObj 277 dx) :: (li, instObj 299 dli) :: (dli, dictOf ls nl) :: (ce, instObj 141 dce) :: (dice, listOf #[.ref sc, .int k' t3] nd1) :: (sc, listOf items.toArray nd2) :: R2) := News.sub N2 fun p hp => by
    subst hR2
    simp only [List.mem_cons, List.mem_append] at hp ⊢
    rcases hp with rfl | rfl | rfl | rfl | rfl | rfl | rfl | rfl | rfl | rfl | hp | hp
    · exact .inl hm
    · exact .inr (.inr (.inr (.inl rfl)))
    · exact .inr (.inr (.inr (.inr (.inl rfl))))
    · exact .inr (.inr (.inr (.inr (.inr (.inl rfl)))))
    · exact .inr (.inr (.inr (.inr (.inr (.inr m1)))))
    · exact .inr (.inr (.inr (.inr (.inr (.inr m4)))))
    · exact .inr (.inr (.inr (.inr (.inr (.inr m5)))))
    · exact .inr (.inr (.inr (.inr (.inr (.inr m6)))))
    · exact .inr (.inl rfl)
    · exact .inr (.inr (.inl rfl))
    · exact .inl hp
    · exact .inr (.inr (.inr (.inr (.inr (.inr hp)))))
  have hr1' : ∀ p ∈ R2, p.1 ≠ od := fun p hp => by
    rcases List.mem_append.mp (hR2 ▸ hp) with hp | hp
    · exact (hap2 p hp).1
    · exact hr1 p hp
  have hr3' : ∀ p ∈ R2, p.1 ≠ dx := fun p hp => by
    rcases List.mem_append.mp (hR2 ▸ hp) with hp | hp
    · exact (hap2 p hp).2.1
    · exact hr3 p hp
  have hr4' : ∀ p ∈ R2, p.1 ≠ dce := fun p hp => by
    rcases List.mem_append.mp (hR2 ▸ hp) with hp | hp
    · exact (hap2 p hp).2.2.1
    · exact hr4 p hp
  have htl2 : ∀ p ∈ tl, p ∈ R2 := fun p hp => hR2 ▸ List.mem_append_left _ hp
  have hre2 : ∀ p ∈ rest, p ∈ R2 := fun p hp => hR2 ▸ List.mem_append_right _ hp
  have q1 : @Ne Nat r od := (hap2 _ hm).1
  have q2 : @Ne Nat r dx := (hap2 _ hm).2.1
  have q3 : @Ne Nat r dce := (hap2 _ hm).2.2.1
  have n1 : @Ne Nat x od := hr1 _ m1
  have n2 : @Ne Nat li od := hr1 _ m4
  have n3 : @Ne Nat dli od := hr1 _ m5
  have n4 : @Ne Nat ce od := hr1 _ m6
  have n5 : @Ne Nat x dx := hr3 _ m1
  have n6 : @Ne Nat li dx := hr3 _ m4
  have n7 : @Ne Nat dli dx := hr3 _ m5
  have n8 : @Ne Nat ce dx := hr3 _ m6
  have n9 : @Ne Nat x dce := hr4 _ m1
  have n10 : @Ne Nat li dce := hr4 _ m4
  have n11 : @Ne Nat dli dce := hr4 _ m5
  have n12 : @Ne Nat ce dce := hr4 _ m6
  clear N2 hR2 hap hap2
  k_steps
  refine unhold ?_
  rename Fr _ _ _ _ => lF'
  rename News _ _ _ _ => lN'
  refine mk_type B' lF' X' lN' T' ?_ ?_ ?_ ?_
  · rfl
  · show dp + 1 + 8 < 500
    omega
  · show un + 3 + 80 < 1000
    omega
  intro hh3 tk3 ty dty tes nt tkk F3 N3 hkd hty hal
  clear lF' lN'
  (try simp only [AllLt] at hal)
  k_steps
  refine unhold ?_
  rename Fr _ _ _ _ => lF'
  rename News _ _ _ _ => lN'
  repeat (with_reducible rename _ ∧ _ => hcj; cases hcj)
  refine' heap_cell_in B' lF' X' (News.bring lN') T' ?hkk (by repeat (first | exact List.Mem.head _ | apply List.Mem.tail)) R (by repeat (first | exact List.Mem.head _ | apply List.Mem.tail)) (by repeat (first | exact List.Mem.head _ | apply List.Mem.tail)) G (by repeat (first | exact List.Mem.head _ | apply List.Mem.tail)) (by repeat (first | exact List.Mem.head _ | apply List.Mem.tail)) (by repeat (first | exact List.Mem.head _ | apply List.Mem.tail)) (by repeat (first | exact List.Mem.head _ | apply List.Mem.tail)) (by repeat (first | exact List.Mem.head _ | apply List.Mem.tail)) hkd (weightS w mean mg mb 1 (by decide) (weightS w mean mg mb 0 (by decide) (weight0 w mean mg mb))) (by decide) hth ?htl ?hr1 ?hr2 e10 ?h0 ?h1 h0 ?h3 ?hdd ?huu ?hQQ ?hEE
  case hkk => rfl
  case htl => exact fun p hp => by repeat (first | exact htl2 p hp | apply List.Mem.tail)
  case hr1 => exact off5 (by with_reducible assumption) (by with_reducible assumption) (by with_reducible assumption) (by with_reducible assumption) (by with_reducible assumption) (off8 q2 e8 n5 n6 n7 n8 (Ne.symm e3) e6 hr3')
  case hr2 => exact off5 (by with_reducible assumption) (by with_reducible assumption) (by with_reducible assumption) (by with_reducible assumption) (by with_reducible assumption) (off8 q3 e9 n9 n10 n11 n12 (Ne.symm e4) e7 hr4')
  case h0 => omega
  case h1 => omega
  case h3 => omega
  case hdd =>
    show dp + 1 + 20 < 500
    omega
  case huu =>
    show un + 3 + 120 < 1000
    omega
  case hQQ =>
    intro hfit h4 tk4 cell dcell es' n' ka kb kc tcell tc2' F4 hR4 hcc hal4 N4
    clear lF' lN'
    (try simp only [AllLt] at hal4)
    repeat (with_reducible rename _ ∧ _ => hcj; cases hcj)
    obtain ⟨N5, c1, c2, c3, c4, c5⟩ := shrinkA N4 (by with_reducible assumption) hcc (by with_reducible assumption) (by with_reducible assumption) (by with_reducible assumption)
    clear N4
    repeat (with_reducible rename @LT.lt Nat _ _ _ => hz; clear hz)
    repeat (with_reducible rename AllLt _ _ => hz; clear hz)
    have hap0 := hth.bound
    have hh : ∀ p ∈ (dx, dictOf es' n') :: (dce, cellsD w tc1 (last + 1) tc2') :: (dice, listOf #[.ref sc, .int k' t3] nd1) :: (sc, listOf items.toArray nd2) :: R2, p.1 ≠ od := fun p hp => by
      rcases List.mem_cons.mp hp with rfl | hp; (· exact Ne.symm e8)
      rcases List.mem_cons.mp hp with rfl | hp; (· exact Ne.symm e9)
      rcases List.mem_cons.mp hp with rfl | hp; (· exact Ne.symm e2)
      rcases List.mem_cons.mp hp with rfl | hp; (· exact e5)
      exact hr1' _ hp
    clear hr1 hr2 hr3 hr4 e1 e3 e4 e6 e7 e10 n1 n2 n3 n4 n5 n6 n7 n8 n9 n10 n11 n12 q1 q2 q3
    k_steps
    refine unhold ?_
    rename Fr _ L' _ _ => lF'
    rename News _ L' _ _ => lN'
    rename Obj.IsDictOf _ _ _ => hds
    k_dflt (refine' kda_set (knd := PySem.strKind _ _) lF' lN' (UpdF.tail c1 (UpdF.tail c2 (UpdF.tail c3 (UpdF.tail c4 (UpdF.tail c5 (UpdF.head hh)))))) hds (strKind_is _ _ _ _) (by rw [sizeLine_eq]; exact Nat.le_of_ble_eq_true (by with_unfolding_all rfl)) ?_)
    clear lF' lN' hds
    intro hX oX FX NX dX
    (try dsimp only at NX)
    replace dX : oX.IsDictOf (PySem.strKind PySem.Challenge.pw_pp0007_01 w) (ownK row tr rl signs many room (hp + wt) last ts tm tq _ tc) := dX
    k_steps
    refine unhold ?_
    rename Fr _ L' _ _ => lF'
    rename News _ L' _ _ => lN'
    rename Obj.IsDictOf _ _ _ => hds
    k_dflt (refine' kda_set (knd := PySem.strKind _ _) lF' lN' (UpdF.tail c1 (UpdF.tail c2 (UpdF.tail c3 (UpdF.tail c4 (UpdF.tail c5 (UpdF.head hh)))))) hds (strKind_is _ _ _ _) (by rw [sizeLine_eq]; exact Nat.le_of_ble_eq_true (by with_unfolding_all rfl)) ?_)
    clear lF' lN' hds
    intro hX oX FX NX dX
    (try dsimp only at NX)
    replace dX : oX.IsDictOf (PySem.strKind PySem.Challenge.pw_pp0007_01 w) (ownK row tr rl signs many room (hp + wt) (last + 1) ts tm tq _ _) := dX
    k_steps
    · refine unhold ?_
      have hcl := cLine_is
      refine eq_dataH (by ke_read) (by ke_read) (by ke_shaped) (by ke_shaped) (by show un + 3 + 64 < cLine; omega) ?_
      ke_norm
      k_steps
      rename Fr h₀ L _ _ => kF
      rename News h₀ L _ _ => kN
      exact hQ _ _ _ _ (hp + wt) (last + 1) k' _ _ _ _ _ _ _ (by omega) (by omega) hfit hk1 (by omega) KtsTurn.refl kF (News.sub kN (mem_fin3 hre2)) dX hR4 B X T D rfl
    all_goals (exact absurd rfl (by assumption))
  case hEE =>
    intro hbig G1 e ed od1 h4 tk4 FG R1 aw hne U
    have R5 := R1.sub mem_rai
    clear lF' lN' R1
    repeat (with_reducible rename @LT.lt Nat _ _ _ => hz; clear hz)
    repeat (with_reducible rename AllLt _ _ => hz; clear hz)
    k_steps
    refine caughtD (x := Str.ofString "AdaRaise") R5 FG B' U XB TB D' KtsTurn.refl (by k_is) (kts70 w) ?_
    clear FG R5 U X' T' B' D'
    intro h5 g5 oe vs tk5 T5 F5 c5 d5 v5 N5 ne5 B5 X5 P5 D5
    obtain ⟨h1', h2', h3', h4', k1', k2', k3', k4', v1', v4', t2', t3', n', rfl⟩ := aw
    have N6 := N5
    k_steps
    refine unhold ?_
    refine get_word (Frag.In.keeps X5 F5.keep) (N6 _ (.head _)).1 c5 d5 v5 (N6 _ (.tail _ (.head _))).1 ?_
    clear N6
    k_steps
    rename KtsTurn _ h₀ _ => kT
    rename Fr _ L _ _ => kF
    rename News _ L _ _ => kN
    rename Below A₀ _ _ _ => kB
    rename (Mine.KK w.params).In _ => kX
    rename Top _ _ _ _ _ _ => kP
    rename KtsDicts _ _ => kD
    exact hQ _ _ _ _ hp last k' _ _ _ _ _ _ _ h0 h1 h2 hk1 (by omega) kT kF (News.sub kN (mem_fin2 hre2)) hs R kB kX kP kD (by simpa using hbig)
end
end Mine
namespace Mine
theorem strOk_app {a b : Str} (h1 : PyData.strOk a = true) (h2 : PyData.strOk b = true) : PyData.strOk (a ++ b) = true := by
  show ((a.cps ++ b.cps).all (· < 0x110000)) = true
  rw [Array.all_append]
  unfold PyData.strOk at h1 h2
  rw [h1, h2]; rfl
theorem strOk_nil : PyData.strOk (Str.ofString "") = true := by decide +kernel
theorem strOk_join : ∀ ps : List Int, InR ps → PyData.strOk (Str.join (Str.ofString "") (chs ps)) = true
  | [], _ => by decide +kernel
  | [p], h => by
    have := h p (.head _)
    show ((#[p.toNat] : Array Nat).all (· < 0x110000)) = true
    simp; omega
  | p :: q :: r, h => by
    have := h p (.head _)
    have hr := strOk_join (q :: r) (fun i hi => h i (.tail _ hi))
    show PyData.strOk ((⟨#[p.toNat]⟩ ++ Str.ofString "") ++ Str.join (Str.ofString "") (chs (q :: r))) = true
    refine strOk_app (strOk_app ?_ strOk_nil) hr
    show ((#[p.toNat] : Array Nat).all (· < 0x110000)) = true
    simp; omega
theorem strOk_glue {ps : List Int} (h : InR ps) : PyData.strOk (glue ps) = true := by
  unfold glue
  show PyData.strOk (Builtin.Str.glued (Str.ofString "") (chs ps)) = true
  rw [StrLaws.glued_eq_join]
  exact strOk_join ps h
theorem reads_strs {h : Heap} {vs : List Value} {ss : List Str} (hs : StrsAre vs ss) : ReadsAll h vs (ss.map PyData.str) [] := by
  induction hs with
  | nil => exact .nil
  | cons a b _ ih => exact ReadsAll.cons (Reads.str _ _) ih
theorem lay_strs : ∀ {ss : List Str}, (∀ x ∈ ss, PyData.strOk x = true) → PyData.canLayAll0 (ss.map PyData.str) = true ∧ PyData.depthAll (ss.map PyData.str) = 0
  | [], _ => ⟨rfl, rfl⟩
  | x :: r, h => by
    have := lay_strs (ss := r) (fun y hy => h y (.tail _ hy))
    simp only [List.map_cons, PyData.canLayAll0, PyData.canLay0, PyData.depthAll, PyData.depth, h x (.head _), this.1, this.2]
    exact ⟨rfl, rfl⟩
theorem eqv_strs : ∀ ss : List Str, PyData.eqvAll (ss.map PyData.str) (ss.map PyData.str) = true
  | [] => rfl
  | x :: r => by
    simp only [List.map_cons, PyData.eqvAll, PyData.eqv, eqv_strs r, beq_self_eq_true, Bool.and_true]
theorem shaped_strs {ss : List Str} (h : ∀ x ∈ ss, PyData.strOk x = true) : SeqAt.shaped (.list (ss.map PyData.str)) = true := by
  have := lay_strs h
  simp only [SeqAt.shaped, PyData.canLay0, PyData.depth, this.1, this.2, Bool.true_and]
  decide
theorem eq_strsN {prog : Program} {w : World} {A : Around} {E : Value → Shared → Prop} {s : Shared} {h₀ : Heap} {L : Addr} {news : List (Addr × Obj)} {a b : Addr} {xs ys : List Value} {ss : List Str} {n1 n2 : Nat} {Q : Value → Shared → Prop}
    (N : News h₀ L s.heap news) (m1 : (a, listOf xs.toArray n1) ∈ news) (m2 : (b, listOf ys.toArray n2) ∈ news) (h1 : StrsAre xs ss) (h2 : StrsAre ys ss) (hok : ∀ x ∈ ss, PyData.strOk x = true) (hu : A.units + 64 < cLine) (h : Q (.bool true) s) :
    wpAny (model prog w) A (compareOp .Eq (.ref a) (.ref b)) Q E s := by
  refine eq_dataH (reads_list_at (N.get m1) rfl rfl (reads_strs h1)) (reads_list_at (N.get m2) rfl rfl (reads_strs h2)) (shaped_strs hok) (shaped_strs hok) hu ?_
  simp only [PyData.eqv, eqv_strs]
  exact h
end Mine
namespace Mine
noncomputable def conv : Value → Value
  | .int v t => if v < 0 then .ref 95 else .int v t
  | y => y
theorem conv_ok {y : Value} (h : OkSign y) : SignV (conv y) := by
  obtain ⟨v, t, rfl, rfl | ⟨h1, h2⟩⟩ := h
  · exact .inr rfl
  · refine .inl ⟨v, t, ?_, h1, h2⟩
    show (if v < 0 then _ else _) = _
    rw [if_neg (by omega)]
theorem signs_ints : ∀ {ys : List Value}, (∀ y ∈ ys, OkSign y) → kf_ints ys = true
  | [], _ => rfl
  | y :: r, h => by
    obtain ⟨v, t, rfl, _⟩ := h y (.head _)
    show kf_ints r = true
    exact signs_ints (fun z hz => h z (.tail _ hz))
theorem signs_bad : ∀ {ys : List Value}, (∀ y ∈ ys, OkSign y) → ys.any (isInt (-1)) = true → .ref 95 ∈ ys.map conv
  | [], _, h => by simp at h
  | y :: r, h, hb => by
    obtain ⟨v, t, rfl, hv⟩ := h y (.head _)
    by_cases q : v = -1
    · subst q
      exact .head _
    · refine .tail _ (signs_bad (fun z hz => h z (.tail _ hz)) ?_)
      rw [List.any_cons] at hb
      have : isInt (-1) (.int v t) = false := by simp [isInt, q]
      rwa [this, Bool.false_or] at hb
theorem signs_good : ∀ {ys : List Value}, (∀ y ∈ ys, OkSign y) → ys.any (isInt (-1)) = false → ∃ ps, IntsAre ys ps ∧ InR ps ∧ ys.map conv = ys
  | [], _, _ => ⟨[], .nil, (fun _ h => nomatch h), rfl⟩
  | y :: r, h, hb => by
    obtain ⟨v, t, rfl, hv⟩ := h y (.head _)
    rw [List.any_cons, Bool.or_eq_false_iff] at hb
    have q : v ≠ -1 := by simpa [isInt] using hb.1
    obtain ⟨ps, h1, h2, h3⟩ := signs_good (fun z hz => h z (.tail _ hz)) hb.2
    refine ⟨v :: ps, .cons _ _ h1, fun i hi => ?_, ?_⟩
    · rcases List.mem_cons.mp hi with rfl | hi
      · omega
      · exact h2 i hi
    · rw [List.map_cons, h3]
      show (if v < 0 then _ else _) :: _ = _
      rw [if_neg (by omega)]
theorem ints_uniq {ys : List Value} {ps qs : List Int} (h1 : IntsAre ys ps) (h2 : IntsAre ys qs) : ps = qs := by
  induction h1 generalizing qs with
  | nil => cases h2; rfl
  | cons a b _ ih => cases h2 with | cons _ _ h => rw [ih h]
theorem ints_noref {ys : List Value} {ps : List Int} (h1 : IntsAre ys ps) {a : Addr} (h : .ref a ∈ ys) : False := by
  induction h1 with
  | nil => cases h
  | cons v t _ ih =>
    rcases List.mem_cons.mp h with h | h
    · cases h
    · exact ih h
theorem put_bad {signs : Int} {row row' : Str} {rows items rows' : List Value} {o : Option Str} (hb : .ref 95 ∈ items) (h : putP signs row rows items o row' rows') : o = some (Str.ofString "program_error") ∧ row' = row ∧ rows' = rows := by
  rcases h with ⟨ps, h1, _⟩ | ⟨_, h2⟩
  · exact (ints_noref h1 hb).elim
  · exact h2
theorem put_good {signs : Int} {row row' : Str} {rows items rows' : List Value} {o : Option Str} {ps : List Int} (hi : IntsAre items ps) (h : putP signs row rows items o row' rows') : addP signs row rows (glue ps) o row' rows' := by
  rcases h with ⟨qs, h1, _, h2⟩ | ⟨h1, _⟩
  · rw [ints_uniq hi h1]; exact h2
  · exact (ints_noref hi h1).elim
theorem agree_said {signs : Int} {row text : Str} {rows : List Value} (r1 : (row.length : Int) ≤ signs) (okr : PyData.strOk row = true) (okt : PyData.strOk text = true) {r row' : Str}
    (hc : ((row.length : Int) + text.length ≤ signs ∧ row' = row ++ text ∧ r = Str.ofString "") ∨ (signs < (row.length : Int) + text.length ∧ row' = row ∧ r = Str.ofString "storage_error"))
    {o : Option Str} {row3 : Str} {rows3 : List Value} (hP : addP signs row rows text o row3 rows3) :
    row' = row3 ∧ r = o.getD (Str.ofString "") ∧ rows3 = rows ∧ PyData.strOk row3 = true ∧ (row3.length : Int) ≤ signs := by
  rcases hP with ⟨rfl, ⟨rfl, h1, rfl⟩ | ⟨rfl, h1, rfl⟩⟩
  · rcases hc with ⟨c1, rfl, rfl⟩ | ⟨c1, _⟩
    · refine ⟨rfl, rfl, rfl, strOk_app okr okt, ?_⟩
      rw [Str.length_append]
      omega
    · omega
  · rcases hc with ⟨c1, _⟩ | ⟨c1, rfl, rfl⟩
    · omega
    · exact ⟨rfl, rfl, rfl, okr, r1⟩
end Mine
namespace Mine
theorem rules_T15_1 : True := by
  k_with_none
  k_with "my all" => (assumption)
  k_with "my enter" => (refine' code_def ?k1 ?k2 ?k3 ?k4 ?k5 ?kA ?kF ?kK ?k6 ?k7 ?k8 ?k9 ?kB ?_ ?c2 ?c3 ?c4 ?c5; (case kA => exact rfl); (case kF => exact rfl); (case kK => first | assumption | exact rfl); (case k1 => k_asm); (case k2 => k_asm); (case k3 => k_asm); (case k4 => k_asm); (case k5 => k_asm); (case k6 => k_is); (case k7 => k_is); (case k8 => ktr_room); (case k9 => first | exact BindsTo.of_eq rfl | exact binds_K (by k_in) rfl (by k_is) rfl rfl rfl); (case c5 => decide); (case kB => exact locs rfl); (case c2 => exact rfl); (case c3 => exact rfl); (case c4 => exact rfl); k_whole; intro zg' zL' zh' zFG' zF' zN' zB' zX' zT'; (try dsimp only); (try k_fold))
  k_with "my enter" => (refine' code_defC ?k1 ?k2 ?k3 ?k4 ?k5 ?kA ?kF ?kK ?k6 ?k7 ?k8 ?k9 ?kB ?kD ?_ ?c2 ?c3 ?c4; (case kA => exact rfl); (case kF => exact rfl); (case kK => first | assumption | exact rfl); (case k1 => k_asm); (case k2 => k_asm); (case k3 => k_asm); (case k4 => k_asm); (case k5 => k_asm); (case k6 => k_is); (case k7 => k_is); (case k8 => ktr_room); (case k9 => exact BindsTo.of_eq rfl); (case kB => exact rfl); (case kD => decide +kernel); (case c2 => exact rfl); (case c3 => exact rfl); (case c4 => exact rfl); k_whole; intro zg' zL' zh' ztk' zcells' zFG' zF' zN' zY' zB' zX' zT' zl1; (try k_lt zl1); k_cells zY'; (try simp only [List.cons_append, List.nil_append] at zN'); (try dsimp only); (try k_fold))
  k_with "call ref" => (k_here; (with_reducible show wpAny _ _ (call (Value.ref 406) [Value.ref _, Value.int _ _]) _ _ _); k_dflt (refine' cast_app ?B ?F ?X ?N ?T ?hk ?hi ?hl ?hm ?U ?k0 ?k1 ?hs ?hs2 ?hne ?hd ?hu ?_; (case B => k_asm); (case F => k_asm); (case X => k_asm); (case N => k_asm); (case T => k_asm); (case hk => first | exact rfl | assumption); (case hi => assumption); (case hl => assumption); (case hm => k_mem); (case U => intro zt'; k_upd)); (case k0 => omega); (case k1 => omega); (case hs => omega); (case hs2 => omega); (case hne => k_ne); (case hd => ktr_room); (case hu => ktr_room); k_whole; intro zh' ztk' zt3' zt4' zv' zF' zN' zv0' zv1'; (try k_sweep); walk_say "CAST")
  k_with "CompSrc" => (refine hold ?_)
  k_with "CompEnd" => (refine hold ?_)
  trivial

structure Fixed where
  (dwo ol od rl dice sc dx dce x wo li dli ce : Addr)
  (ls : List DictEntry) (nl : Nat) (items : List Value) (ns : List Int) (n1 n2 : Nat) (ln signs many room : Int) (tk1 tk2 tc1 ts tm tq : Tok)
structure State where
  (row : Str) (trw tro : Tok) (rows rows2 : List Value) (no nr : Nat) (ss : List Str) (k : Int) (t1 : Tok) (es : List DictEntry) (n : Nat) (hp last : Int) (tc2 tt tc : Tok) (o : Obj)
abbrev led (w : World) (X : Fixed) (S : State) (rest : List (Addr × Obj)) : List (Addr × Obj) :=
  (X.dwo, worldD w X.tk1 X.tk2 X.ol S.row S.trw) :: (X.ol, listOf S.rows.toArray S.no) :: (X.od, S.o) :: (X.rl, listOf S.rows2.toArray S.nr) :: (X.dice, listOf #[.ref X.sc, .int S.k S.t1] X.n1) :: (X.sc, listOf X.items.toArray X.n2) :: (X.dx, dictOf S.es S.n) :: (X.dce, cellsD w X.tc1 S.last S.tc2) :: rest
structure FixOk (X : Fixed) (rest : List (Addr × Obj)) : Prop where
  m1 : (X.x, instObj 277 X.dx) ∈ rest
  m3 : (X.wo, instObj 216 X.dwo) ∈ rest
  m4 : (X.li, instObj 299 X.dli) ∈ rest
  m5 : (X.dli, dictOf X.ls X.nl) ∈ rest
  m6 : (X.ce, instObj 141 X.dce) ∈ rest
  G : LimE X.ls X.signs X.many X.room
  hi : IntsAre X.items X.ns
  hl : X.ns.length ≤ 63
  lo : (X.od == sysModules) = false
  off : ∀ a ∈ [X.dwo, X.ol, X.od, X.rl, X.dice, X.dx, X.dce], ∀ p ∈ rest, p.1 ≠ a
  nd : [X.dwo, X.ol, X.od, X.rl, X.dice, X.sc, X.dx, X.dce].Pairwise (@Ne Nat)
  b1 : X.signs ≤ 50
  b2 : X.many ≤ 50
  b3 : X.room ≤ 100
  sd : @LT.lt Nat _ X.sc X.dice
structure StOk (w : World) (X : Fixed) (S : State) : Prop where
  sa : StrsAre S.rows S.ss
  sb : StrsAre S.rows2 S.ss
  R : RunE S.es X.wo X.li X.ce X.ln S.hp
  D : S.o.IsDictOf (PySem.strKind PySem.Challenge.pw_pp0007_01 w) (ownK S.row S.tro X.rl X.signs X.many X.room S.hp S.last X.ts X.tm X.tq S.tt S.tc)
  h0 : 0 ≤ S.last
  h1 : S.last ≤ S.hp
  h2 : S.hp ≤ X.room
  k0 : 0 ≤ S.k
  r1 : (S.row.length : Int) ≤ X.signs
  r2 : (S.ss.length : Int) ≤ X.many
  okr : PyData.strOk S.row = true
  oks : ∀ x ∈ S.ss, PyData.strOk x = true
theorem pw_ne {l : List Addr} (h : l.Pairwise (@Ne Nat)) {a b : Addr} (i j : Nat) (ha : l[i]? = some a) (hb : l[j]? = some b) (hij : i < j) : @Ne Nat a b := by
  obtain ⟨h1, e1⟩ := List.getElem?_eq_some_iff.mp ha
  obtain ⟨h2, e2⟩ := List.getElem?_eq_some_iff.mp hb
  have := List.pairwise_iff_getElem.mp h i j h1 h2 hij
  rwa [e1, e2] at this
/-- what a call of _law_deed gives, by the way -/
noncomputable def DeedSpec (w : World) (mean : ExcName → Option Value) (mg mb : Str → Option Value) (way : Int) : Prop :=
  ∀ (A₀ : Around) (base h₀ : Heap) (L : Addr) (m : Str → Option Value) (s : Shared) (dp un : Nat) (gd : Option (List Code)) (cn : Str) (cs : Scope) (a : Addr) (ccd : Value) (Q E : Value → Shared → Prop) (X : Fixed) (S : State) (rest : List (Addr × Obj)) (tw : Tok),
    Below A₀ base [] h₀ → Fr h₀ L s.heap m → (Mine.KK w.params).In h₀ → News h₀ L s.heap (led w X S rest) → Top Mine.vw loo mean mg mb h₀ →
    (Mine.KK w.params).In base → Top Mine.vw loo mean mg mb base → cs.kind = .function → FixOk X rest → StOk w X S → S.k < 70000 → dp + 80 < 500 → un + 450 < 1000 →
    (∀ h' tk S', StOk w X S' → S'.k ≤ S.k + 30 → Fr h₀ L h' m → News h₀ L h' (led w X S' rest) → Q (.bool true) { s with heap := h', toks := tk }) →
    wpAny (model PySem.Challenge.pw_pp0007_01 w) (ktrTop dp un gd cn cs L a ccd [] []) (call (.ref 456) [.ref X.x, .ref X.od, .ref X.dice, .int way tw]) Q E s
end Mine
namespace Mine
theorem rules_T16_1 : True := by
  k_with_none
  k_with "eval Call" => (k_fold; walk1)
  k_with "eval Compare" => (k_fold; walk1)
  k_with "eval BinOp" => (k_fold; walk1)
  k_with "eval Subscript" => (k_fold; walk1)
  k_with "eval IfExp" => (k_fold; walk1)
  k_with "eval Tuple" => (k_fold; walk1)
  k_with "eval List" => (k_fold; walk1)
  k_with "eval BoolOp" => (k_fold; walk1)
  k_with "execs cons" => (k_here; (try dsimp only); (with_reducible refine flat ?_); intro ztk'; (with_reducible refine wpAny_execs_cons ?_); (try dsimp only); (try k_fold))
  trivial
theorem rules_T16_2 : True := by
  k_with "my all" => (assumption)
  k_with "my enter" => (refine' code_def ?k1 ?k2 ?k3 ?k4 ?k5 ?kA ?kF ?kK ?k6 ?k7 ?k8 ?k9 ?kB ?_ ?c2 ?c3 ?c4 ?c5; (case kA => exact rfl); (case kF => exact rfl); (case kK => first | assumption | exact rfl); (case k1 => k_asm); (case k2 => k_asm); (case k3 => k_asm); (case k4 => k_asm); (case k5 => k_asm); (case k6 => k_is); (case k7 => k_is); (case k8 => ktr_room); (case k9 => first | exact BindsTo.of_eq rfl | exact binds_K (by k_in) rfl (by k_is) rfl rfl rfl); (case c5 => decide); (case kB => exact locs rfl); (case c2 => exact rfl); (case c3 => exact rfl); (case c4 => exact rfl); k_whole; intro zg' zL' zh' zFG' zF' zN' zB' zX' zT'; (try dsimp only); (try k_fold))
  k_with "my enter" => (refine' code_defC ?k1 ?k2 ?k3 ?k4 ?k5 ?kA ?kF ?kK ?k6 ?k7 ?k8 ?k9 ?kB ?kD ?_ ?c2 ?c3 ?c4; (case kA => exact rfl); (case kF => exact rfl); (case kK => first | assumption | exact rfl); (case k1 => k_asm); (case k2 => k_asm); (case k3 => k_asm); (case k4 => k_asm); (case k5 => k_asm); (case k6 => k_is); (case k7 => k_is); (case k8 => ktr_room); (case k9 => exact BindsTo.of_eq rfl); (case kB => exact rfl); (case kD => decide +kernel); (case c2 => exact rfl); (case c3 => exact rfl); (case c4 => exact rfl); k_whole; intro zg' zL' zh' ztk' zcells' zFG' zF' zN' zY' zB' zX' zT' zl1; (try k_lt zl1); k_cells zY'; (try simp only [List.cons_append, List.nil_append] at zN'); (try dsimp only); (try k_fold))
  k_with "call ref" => (k_here; (with_reducible show wpAny _ _ (call (Value.ref 406) [Value.ref _, Value.int _ _]) _ _ _); k_dflt (refine' cast_app ?B ?F ?X ?N ?T ?hk ?hi ?hl ?hm ?U ?k0 ?k1 ?hs ?hs2 ?hne ?hd ?hu ?_; (case B => k_asm); (case F => k_asm); (case X => k_asm); (case N => k_asm); (case T => k_asm); (case hk => first | exact rfl | assumption); (case hi => assumption); (case hl => assumption); (case hm => k_mem); (case U => intro zt'; k_upd)); (case k0 => omega); (case k1 => omega); (case hs => omega); (case hs2 => omega); (case hne => k_ne); (case hd => ktr_room); (case hu => ktr_room); k_whole; intro zh' ztk' zt3' zt4' zv' zF' zN' zv0' zv1'; (try k_sweep); walk_say "CAST")
  k_with "CompSrc" => (refine hold ?_)
  k_with "CompEnd" => (refine hold ?_)
  k_with "my get" => (assumption)
  k_with "call ref" => ((with_reducible show wpAny _ _ (call (Value.ref 451) _) _ _ _); refine hold ?_)
  trivial
theorem perm4 {w : World} {X : Fixed} {S : State} {rest : List (Addr × Obj)} {g h : Heap} {L : Addr} (N : News g L h (led w X S rest)) :
    News g L h ((X.dice, listOf #[.ref X.sc, .int S.k S.t1] X.n1) :: (X.sc, listOf X.items.toArray X.n2) :: (X.od, S.o) :: (X.dx, dictOf S.es S.n) :: (X.dce, cellsD w X.tc1 S.last S.tc2) :: (X.dwo, worldD w X.tk1 X.tk2 X.ol S.row S.trw) :: (X.ol, listOf S.rows.toArray S.no) :: (X.rl, listOf S.rows2.toArray S.nr) :: rest) := News.sub N fun p hp => by
  iterate 8 (rcases List.mem_cons.mp hp with rfl | hp; (· repeat (first | exact .head _ | apply List.Mem.tail)))
  repeat (first | exact hp | apply List.Mem.tail)
theorem perm4' {w : World} {X : Fixed} {S : State} {rest : List (Addr × Obj)} {g h : Heap} {L : Addr}
    (N : News g L h ((X.dice, listOf #[.ref X.sc, .int S.k S.t1] X.n1) :: (X.sc, listOf X.items.toArray X.n2) :: (X.od, S.o) :: (X.dx, dictOf S.es S.n) :: (X.dce, cellsD w X.tc1 S.last S.tc2) :: (X.dwo, worldD w X.tk1 X.tk2 X.ol S.row S.trw) :: (X.ol, listOf S.rows.toArray S.no) :: (X.rl, listOf S.rows2.toArray S.nr) :: rest)) : News g L h (led w X S rest) := News.sub N fun p hp => by
  iterate 8 (rcases List.mem_cons.mp hp with rfl | hp; (· repeat (first | exact .head _ | apply List.Mem.tail)))
  repeat (first | exact hp | apply List.Mem.tail)
theorem off3 {b a1 a2 a3 : Addr} {o1 o2 o3 : Obj} {R2 : List (Addr × Obj)} (h1 : @Ne Nat a1 b) (h2 : @Ne Nat a2 b) (h3 : @Ne Nat a3 b) (ho : ∀ p ∈ R2, p.1 ≠ b) :
    ∀ p ∈ (a1, o1) :: (a2, o2) :: (a3, o3) :: R2, p.1 ≠ b := fun p hp => by
  simp only [List.mem_cons] at hp
  rcases hp with rfl | rfl | rfl | hp
  all_goals first | exact ho p hp | assumption
theorem deed4 (w : World) (mean : ExcName → Option Value) (mg mb : Str → Option Value) : DeedSpec w mean mg mb 4 := by
  w_top off
  intro A₀ base h₀ L m s dp un gd cn cs a ccd Q E X S rest tw B F X0 N T XB TB hk FO SO k1 hd hu hQ
  obtain ⟨m1, m3, m4, m5, m6, G, hi, hl, lo, off, nd, b1, b2, b3, sd⟩ := FO
  obtain ⟨sa, sb, R, DS, h0, h1, h2, k0, r1, r2, okr, oks⟩ := SO
  refine wpAny_call ?_
  k_dflt (refine' code_defS0 ?k1 ?k2 ?k3 ?k4 ?k5 ?kA ?k6 ?k7 ?k8 ?k9 ?kB ?_ ?cK ?c2 ?c3 ?c4 ?c5)
  case kA => exact rfl
  case k2 => k_asm
  case k1 => k_asm
  case k3 => k_asm
  case k4 => k_asm
  case k5 => k_asm
  case k6 => k_is
  case k7 => k_is
  case k8 => ktr_room
  case k9 => exact BindsTo.of_eq rfl
  case kB => exact locs rfl
  case cK => exact hk
  case c2 => exact rfl
  case c3 => exact rfl
  case c4 => exact rfl
  case c5 => decide
  k_whole
  intro g' L' h' FG' F' N' B' X' T' D'
  (try dsimp only)
  (try k_fold)
  k_steps
  refine unhold ?_
  refine' law_object_in B' F' X' (perm4 N') T' XB TB D' ?kk DS lo hi hl k0 ?ka (.tail _ (.tail _ (.tail _ m1))) R (.tail _ (.tail _ (.tail _ m4))) (.tail _ (.tail _ (.tail _ m5))) G (.tail _ (.tail _ (.tail _ m6)))
    (off3 (pw_ne nd 0 2 rfl rfl (by decide)) (pw_ne nd 1 2 rfl rfl (by decide)) (Ne.symm (pw_ne nd 2 3 rfl rfl (by decide))) (off _ (by simp)))
    (off3 (pw_ne nd 0 4 rfl rfl (by decide)) (pw_ne nd 1 4 rfl rfl (by decide)) (pw_ne nd 3 4 rfl rfl (by decide)) (off _ (by simp)))
    (off3 (pw_ne nd 0 6 rfl rfl (by decide)) (pw_ne nd 1 6 rfl rfl (by decide)) (pw_ne nd 3 6 rfl rfl (by decide)) (off _ (by simp)))
    (off3 (pw_ne nd 0 7 rfl rfl (by decide)) (pw_ne nd 1 7 rfl rfl (by decide)) (pw_ne nd 3 7 rfl rfl (by decide)) (off _ (by simp)))
    (Ne.symm (pw_ne nd 4 5 rfl rfl (by decide))) (pw_ne nd 2 4 rfl rfl (by decide)) (Ne.symm (pw_ne nd 4 6 rfl rfl (by decide))) (Ne.symm (pw_ne nd 4 7 rfl rfl (by decide)))
    (Ne.symm (pw_ne nd 2 5 rfl rfl (by decide))) (pw_ne nd 5 6 rfl rfl (by decide)) (pw_ne nd 5 7 rfl rfl (by decide)) (pw_ne nd 2 6 rfl rfl (by decide)) (pw_ne nd 2 7 rfl rfl (by decide)) (pw_ne nd 6 7 rfl rfl (by decide))
    h0 h1 h2 b3 ?da ?ua ?qq
  case kk => rfl
  case ka => omega
  case da =>
    show dp + 1 + 60 < 500
    omega
  case ua =>
    show un + 3 + 350 < 1000
    omega
  case qq =>
    intro g2 h2 tk2 t hp' last' k' t1' o' es' n' tc2' tt' tc' a0 a1 a2 a3 a4 T2 F2 N2 D2 R2 B2 X2 P2 Q2 ht
    subst ht
    clear F' N' B' X' T' D'
    obtain ⟨S', hS'⟩ : ∃ S' : State, S' = { S with k := k', t1 := t1', es := es', n := n', hp := hp', last := last', tc2 := tc2', tt := tt', tc := tc', o := o' } := ⟨_, rfl⟩
    have N4 : News g2 L' h2 (led w X S' rest) := by rw [hS']; exact perm4' N2
    have SO' : StOk w X S' := by rw [hS']; exact ⟨sa, sb, R2, D2, a0, a1, a2, by show 0 ≤ k'; omega, r1, r2, okr, oks⟩
    have hk' : S'.k ≤ S.k + 30 := by rw [hS']; show k' ≤ S.k + 30; omega
    have N3 : News g2 L' h2 ((X.x, instObj 277 X.dx) :: (X.dx, dictOf es' n') :: (X.wo, instObj 216 X.dwo) :: (X.dwo, worldD w X.tk1 X.tk2 X.ol S.row S.trw) :: (X.od, o') :: led w X S' rest) := fun p hp => by
      rcases List.mem_cons.mp hp with rfl | hp
      · exact N2 _ (by repeat (first | exact m1 | apply List.Mem.tail))
      rcases List.mem_cons.mp hp with rfl | hp
      · exact N2 _ (by repeat (first | exact .head _ | apply List.Mem.tail))
      rcases List.mem_cons.mp hp with rfl | hp
      · exact N2 _ (by repeat (first | exact m3 | apply List.Mem.tail))
      rcases List.mem_cons.mp hp with rfl | hp
      · exact N2 _ (by repeat (first | exact .head _ | apply List.Mem.tail))
      rcases List.mem_cons.mp hp with rfl | hp
      · exact N2 _ (by repeat (first | exact .head _ | apply List.Mem.tail))
      · exact N4 p hp
    clear N4
    have R3 := R2
    obtain ⟨q1, q2, q3, ⟨u4, q4⟩, ⟨u5, q5⟩, q6⟩ := R2
    clear N2 hS'
    k_steps
    rename Fr h₀ L _ _ => kF
    rename News h₀ L _ _ => kN
    rw [beq_self_eq_true]
    exact hQ _ _ S' SO' hk' kF (News.skip1 (News.skip1 (News.skip1 (News.skip1 (News.skip1 kN)))))
end Mine
namespace Mine
theorem rules_T17_1 : True := by
  k_with_none
  k_with "eval Call" => (k_fold; walk1)
  k_with "eval Compare" => (k_fold; walk1)
  k_with "eval BinOp" => (k_fold; walk1)
  k_with "eval Subscript" => (k_fold; walk1)
  k_with "eval IfExp" => (k_fold; walk1)
  k_with "eval Tuple" => (k_fold; walk1)
  k_with "eval List" => (k_fold; walk1)
  k_with "eval BoolOp" => (k_fold; walk1)
  k_with "execs cons" => (k_here; (try dsimp only); (with_reducible refine flat ?_); intro ztk'; (with_reducible refine wpAny_execs_cons ?_); (try dsimp only); (try k_fold))
  trivial
theorem rules_T17_2 : True := by
  k_with "my all" => (assumption)
  k_with "my enter" => (refine' code_def ?k1 ?k2 ?k3 ?k4 ?k5 ?kA ?kF ?kK ?k6 ?k7 ?k8 ?k9 ?kB ?_ ?c2 ?c3 ?c4 ?c5; (case kA => exact rfl); (case kF => exact rfl); (case kK => first | assumption | exact rfl); (case k1 => k_asm); (case k2 => k_asm); (case k3 => k_asm); (case k4 => k_asm); (case k5 => k_asm); (case k6 => k_is); (case k7 => k_is); (case k8 => ktr_room); (case k9 => first | exact BindsTo.of_eq rfl | exact binds_K (by k_in) rfl (by k_is) rfl rfl rfl); (case c5 => decide); (case kB => exact locs rfl); (case c2 => exact rfl); (case c3 => exact rfl); (case c4 => exact rfl); k_whole; intro zg' zL' zh' zFG' zF' zN' zB' zX' zT'; (try dsimp only); (try k_fold))
  k_with "my enter" => (refine' code_defC ?k1 ?k2 ?k3 ?k4 ?k5 ?kA ?kF ?kK ?k6 ?k7 ?k8 ?k9 ?kB ?kD ?_ ?c2 ?c3 ?c4; (case kA => exact rfl); (case kF => exact rfl); (case kK => first | assumption | exact rfl); (case k1 => k_asm); (case k2 => k_asm); (case k3 => k_asm); (case k4 => k_asm); (case k5 => k_asm); (case k6 => k_is); (case k7 => k_is); (case k8 => ktr_room); (case k9 => exact BindsTo.of_eq rfl); (case kB => exact rfl); (case kD => decide +kernel); (case c2 => exact rfl); (case c3 => exact rfl); (case c4 => exact rfl); k_whole; intro zg' zL' zh' ztk' zcells' zFG' zF' zN' zY' zB' zX' zT' zl1; (try k_lt zl1); k_cells zY'; (try simp only [List.cons_append, List.nil_append] at zN'); (try dsimp only); (try k_fold))
  k_with "call ref" => (k_here; (with_reducible show wpAny _ _ (call (Value.ref 406) [Value.ref _, Value.int _ _]) _ _ _); k_dflt (refine' cast_app ?B ?F ?X ?N ?T ?hk ?hi ?hl ?hm ?U ?k0 ?k1 ?hs ?hs2 ?hne ?hd ?hu ?_; (case B => k_asm); (case F => k_asm); (case X => k_asm); (case N => k_asm); (case T => k_asm); (case hk => first | exact rfl | assumption); (case hi => assumption); (case hl => assumption); (case hm => k_mem); (case U => intro zt'; k_upd)); (case k0 => omega); (case k1 => omega); (case hs => omega); (case hs2 => omega); (case hne => k_ne); (case hd => ktr_room); (case hu => ktr_room); k_whole; intro zh' ztk' zt3' zt4' zv' zF' zN' zv0' zv1'; (try k_sweep); walk_say "CAST")
  k_with "CompSrc" => (refine hold ?_)
  k_with "CompEnd" => (refine hold ?_)
  k_with "my get" => (assumption)
  k_with "call ref" => ((with_reducible show wpAny _ _ (call (Value.ref 430) _) _ _ _); refine hold ?_)
  k_with "call ref" => ((with_reducible show wpAny _ _ (call (Value.ref 437) _) _ _ _); refine hold ?_)
  k_with "compareOp Eq ref ref" => ((with_reducible show wpAny _ _ (compareOp CmpOp.Eq (Value.ref _) (Value.ref _)) _ _ _); refine hold ?_)
  trivial
theorem perm3 {w : World} {X : Fixed} {S : State} {rest : List (Addr × Obj)} {g h : Heap} {L : Addr} (N : News g L h (led w X S rest)) :
    News g L h ((X.od, S.o) :: (X.rl, listOf S.rows2.toArray S.nr) :: (X.dwo, worldD w X.tk1 X.tk2 X.ol S.row S.trw) :: (X.ol, listOf S.rows.toArray S.no) :: (X.dice, listOf #[.ref X.sc, .int S.k S.t1] X.n1) :: (X.sc, listOf X.items.toArray X.n2) :: (X.dx, dictOf S.es S.n) :: (X.dce, cellsD w X.tc1 S.last S.tc2) :: rest) := News.sub N fun p hp => by
  iterate 8 (rcases List.mem_cons.mp hp with rfl | hp; (· repeat (first | exact .head _ | apply List.Mem.tail)))
  repeat (first | exact hp | apply List.Mem.tail)
theorem off6 {b a1 a2 a3 a4 a5 a6 : Addr} {o1 o2 o3 o4 o5 o6 : Obj} {R2 : List (Addr × Obj)} (h1 : @Ne Nat a1 b) (h2 : @Ne Nat a2 b) (h3 : @Ne Nat a3 b) (h4 : @Ne Nat a4 b) (h5 : @Ne Nat a5 b) (h6 : @Ne Nat a6 b) (ho : ∀ p ∈ R2, p.1 ≠ b) :
    ∀ p ∈ (a1, o1) :: (a2, o2) :: (a3, o3) :: (a4, o4) :: (a5, o5) :: (a6, o6) :: R2, p.1 ≠ b := fun p hp => by
  simp only [List.mem_cons] at hp
  rcases hp with rfl | rfl | rfl | rfl | rfl | rfl | hp
  all_goals first | exact ho p hp | assumption
theorem agree_end {many : Int} {row : Str} {tr : Tok} {rows rows2 : List Value} {ss : List Str} (sa : StrsAre rows ss) (sb : StrsAre rows2 ss) (r2 : (ss.length : Int) ≤ many) (okr : PyData.strOk row = true) (oks : ∀ x ∈ ss, PyData.strOk x = true) {r row' : Str} {rows' : List Value}
    (hc : ((rows2.length : Int) ≠ many ∧ row' = Str.ofString "" ∧ r = Str.ofString "" ∧ rows' = rows2 ++ [.str row tr]) ∨ ((rows2.length : Int) = many ∧ row' = row ∧ rows' = rows2 ∧ r = Str.ofString "storage_error"))
    {o : Option Str} {row3 : Str} {rows3 : List Value} (hP : endP many row rows o row3 rows3) :
    row' = row3 ∧ r = o.getD (Str.ofString "") ∧ ∃ ss', StrsAre rows3 ss' ∧ StrsAre rows' ss' ∧ (ss'.length : Int) ≤ many ∧ (∀ x ∈ ss', PyData.strOk x = true) ∧ PyData.strOk row3 = true ∧ row3.length ≤ row.length := by
  have l1 := StrsAre.len_eq sa
  have l2 := StrsAre.len_eq sb
  rcases hP with ⟨rfl, h1, rfl, t, rfl⟩ | ⟨rfl, h1, rfl, rfl⟩
  · rcases hc with ⟨c1, rfl, rfl, rfl⟩ | ⟨c1, _⟩
    · refine ⟨rfl, rfl, ss ++ [row], strs_snoc sa, strs_snoc sb, ?_, ?_, strOk_nil, Nat.zero_le _⟩
      · rw [List.length_append]
        simp only [List.length_cons, List.length_nil]
        omega
      · intro x hx
        rcases List.mem_append.mp hx with hx | hx
        · exact oks x hx
        · rw [List.mem_singleton.mp hx]; exact okr
    · omega
  · rcases hc with ⟨c1, _⟩ | ⟨c1, rfl, rfl, rfl⟩
    · omega
    · exact ⟨rfl, rfl, ss, sa, sb, r2, oks, okr, Nat.le_refl _⟩
theorem way3_at {w : World} {X : Fixed} {S : State} {rest : List (Addr × Obj)} (FO : FixOk X rest) (R : RunE S.es X.wo X.li X.ce X.ln S.hp) {g h : Heap} {L av : Addr} {oa o2 or2 : Obj}
    (N : News g L h ((av, oa) :: (X.od, o2) :: (X.rl, or2) :: (X.dwo, worldD w X.tk1 X.tk2 X.ol S.row S.trw) :: (X.ol, listOf S.rows.toArray S.no) :: (X.dice, listOf #[.ref X.sc, .int S.k S.t1] X.n1) :: (X.sc, listOf X.items.toArray X.n2) :: (X.dx, dictOf S.es S.n) :: (X.dce, cellsD w X.tc1 S.last S.tc2) :: rest))
    (hav : X.od < av ∧ X.rl < av ∧ X.dwo < av ∧ X.ol < av ∧ X.dice < av ∧ X.sc < av ∧ X.dx < av ∧ X.dce < av ∧ AllLt av rest) :
    News g L h ((X.dwo, worldD w X.tk1 X.tk2 X.ol S.row S.trw) :: (X.ol, listOf S.rows.toArray S.no) :: (av, oa) :: (X.od, o2) :: (X.rl, or2) :: (X.dice, listOf #[.ref X.sc, .int S.k S.t1] X.n1) :: (X.sc, listOf X.items.toArray X.n2) :: (X.dx, dictOf S.es S.n) :: (X.dce, cellsD w X.tc1 S.last S.tc2) :: rest) ∧
      RunAt w ((av, oa) :: (X.od, o2) :: (X.rl, or2) :: (X.dice, listOf #[.ref X.sc, .int S.k S.t1] X.n1) :: (X.sc, listOf X.items.toArray X.n2) :: (X.dx, dictOf S.es S.n) :: (X.dce, cellsD w X.tc1 S.last S.tc2) :: rest) X.x X.dx X.wo X.dwo X.li X.dli X.ol X.ce S.es X.ls S.n X.nl X.ln S.hp X.signs X.many X.room := by
  obtain ⟨m1, m3, m4, m5, m6, G, hi, hl, lo, off, nd, b1, b2, b3, sd⟩ := FO
  have a1 : @LT.lt Nat _ X.dwo av := hav.2.2.1
  have a2 : @LT.lt Nat _ X.ol av := hav.2.2.2.1
  refine ⟨News.sub N fun p hp => ?_, ⟨?_, ?_, R, ?_, ?_, ?_, G, ?_, ?_, pw_ne nd 0 1 rfl rfl (by decide)⟩⟩
  · iterate 9 (rcases List.mem_cons.mp hp with rfl | hp; (· repeat (first | exact .head _ | apply List.Mem.tail)))
    repeat (first | exact hp | apply List.Mem.tail)
  · repeat (first | exact m1 | apply List.Mem.tail)
  · repeat (first | exact .head _ | apply List.Mem.tail)
  · repeat (first | exact m3 | apply List.Mem.tail)
  · repeat (first | exact m4 | apply List.Mem.tail)
  · repeat (first | exact m5 | apply List.Mem.tail)
  · intro p hp
    rcases List.mem_cons.mp hp with rfl | hp
    · exact Nat.ne_of_gt a1
    · exact off6 (Ne.symm (pw_ne nd 0 2 rfl rfl (by decide))) (Ne.symm (pw_ne nd 0 3 rfl rfl (by decide))) (Ne.symm (pw_ne nd 0 4 rfl rfl (by decide))) (Ne.symm (pw_ne nd 0 5 rfl rfl (by decide))) (Ne.symm (pw_ne nd 0 6 rfl rfl (by decide))) (Ne.symm (pw_ne nd 0 7 rfl rfl (by decide))) (off _ (by simp)) p hp
  · intro p hp
    rcases List.mem_cons.mp hp with rfl | hp
    · exact Nat.ne_of_gt a2
    · exact off6 (Ne.symm (pw_ne nd 1 2 rfl rfl (by decide))) (Ne.symm (pw_ne nd 1 3 rfl rfl (by decide))) (Ne.symm (pw_ne nd 1 4 rfl rfl (by decide))) (Ne.symm (pw_ne nd 1 5 rfl rfl (by decide))) (Ne.symm (pw_ne nd 1 6 rfl rfl (by decide))) (Ne.symm (pw_ne nd 1 7 rfl rfl (by decide))) (off _ (by simp)) p hp
theorem perm_end {w : World} {X : Fixed} {S : State} {rest : List (Addr × Obj)} {g h : Heap} {L : Addr} {x wo av : Addr × Obj}
    (N : News g L h (x :: wo :: (X.dwo, worldD w X.tk1 X.tk2 X.ol S.row S.trw) :: (X.ol, listOf S.rows.toArray S.no) :: av :: (X.od, S.o) :: (X.rl, listOf S.rows2.toArray S.nr) :: (X.dice, listOf #[.ref X.sc, .int S.k S.t1] X.n1) :: (X.sc, listOf X.items.toArray X.n2) :: (X.dx, dictOf S.es S.n) :: (X.dce, cellsD w X.tc1 S.last S.tc2) :: rest)) :
    News g L h (led w X S rest) := News.sub N fun p hp => by
  iterate 8 (rcases List.mem_cons.mp hp with rfl | hp; (· repeat (first | exact .head _ | apply List.Mem.tail)))
  repeat (first | exact hp | apply List.Mem.tail)
theorem deed3 (w : World) (mean : ExcName → Option Value) (mg mb : Str → Option Value) : DeedSpec w mean mg mb 3 := by
  w_top off
  intro A₀ base h₀ L m s dp un gd cn cs a ccd Q E X S rest tw B F X0 N T XB TB hk FO SO k1 hd hu hQ
  obtain ⟨m1, m3, m4, m5, m6, G, hi, hl, lo, off, nd, b1, b2, b3, sd⟩ := id FO
  obtain ⟨sa, sb, R, DS, h0, h1, h2, k0, r1, r2, okr, oks⟩ := SO
  refine wpAny_call ?_
  k_dflt (refine' code_defS0 ?k1 ?k2 ?k3 ?k4 ?k5 ?kA ?k6 ?k7 ?k8 ?k9 ?kB ?_ ?cK ?c2 ?c3 ?c4 ?c5)
  case kA => exact rfl
  case k2 => k_asm
  case k1 => k_asm
  case k3 => k_asm
  case k4 => k_asm
  case k5 => k_asm
  case k6 => k_is
  case k7 => k_is
  case k8 => ktr_room
  case k9 => exact BindsTo.of_eq rfl
  case kB => exact locs rfl
  case cK => exact hk
  case c2 => exact rfl
  case c3 => exact rfl
  case c4 => exact rfl
  case c5 => decide
  k_whole
  intro g' L' h' FG' F' N' B' X' T' D'
  (try dsimp only)
  (try k_fold)
  k_steps
  refine unhold ?_
  refine' law_ended_in B' F' X' (perm3 N') T' ?kk DS lo
    (off6 (pw_ne nd 0 2 rfl rfl (by decide)) (pw_ne nd 1 2 rfl rfl (by decide)) (Ne.symm (pw_ne nd 2 4 rfl rfl (by decide))) (Ne.symm (pw_ne nd 2 5 rfl rfl (by decide))) (Ne.symm (pw_ne nd 2 6 rfl rfl (by decide))) (Ne.symm (pw_ne nd 2 7 rfl rfl (by decide))) (off _ (by simp)))
    (off6 (pw_ne nd 0 3 rfl rfl (by decide)) (pw_ne nd 1 3 rfl rfl (by decide)) (Ne.symm (pw_ne nd 3 4 rfl rfl (by decide))) (Ne.symm (pw_ne nd 3 5 rfl rfl (by decide))) (Ne.symm (pw_ne nd 3 6 rfl rfl (by decide))) (Ne.symm (pw_ne nd 3 7 rfl rfl (by decide))) (off _ (by simp)))
    (pw_ne nd 2 3 rfl rfl (by decide)) ?ka ?da ?ua ?qq
  case kk => rfl
  case ka =>
    have := StrsAre.len_eq sb
    omega
  case da =>
    show dp + 1 + 8 < 500
    omega
  case ua =>
    show un + 3 + 80 < 1000
    omega
  case qq =>
    intro r row' rows' hcase hh2 tk2 t2 o2 tro2 nr2 F2 N2 D2
    clear F' N'
    k_steps
    refine unhold ?_
    rename Fr g' L' _ _ => lF'
    rename News g' L' _ _ => lN'
    obtain ⟨N3, RA⟩ := way3_at (S := S) FO R lN' (by with_reducible assumption)
    have hlr := StrsAre.len_eq sa
    refine' law_word_in (w := w) ((end_row_spec RA ?ra ?rb).mono (d' := 40) (u' := 300) (by decide) (by decide)) B' lF' X' N3 T' XB TB D' ?kk (.inl rfl) ?da ?ua ?qq
    case ra => omega
    case rb => omega
    case kk => rfl
    case da =>
      show dp + 1 + 45 < 500
      omega
    case ua =>
      show un + 3 + 350 < 1000
      omega
    case qq =>
      intro g3 h3 tk3 o t3 row3 tt3 rows3 no3 hP KT F3 N3' B3 X3 P3 D3
      obtain ⟨e1, e2, ss', sa', sb', r2', oks', okr', hl'⟩ := agree_end sa sb r2 okr oks hcase hP
      subst e1
      subst e2
      clear lF' lN' B' X' T' D'
      have N4 : News g3 L' h3 ((X.x, instObj 277 X.dx) :: (X.wo, instObj 216 X.dwo) :: (X.dwo, worldD w X.tk1 X.tk2 X.ol row' tt3) :: (X.ol, listOf rows3.toArray no3) :: _ :: (X.od, o2) :: (X.rl, listOf rows'.toArray nr2) :: (X.dice, listOf #[.ref X.sc, .int S.k S.t1] X.n1) :: (X.sc, listOf X.items.toArray X.n2) :: (X.dx, dictOf S.es S.n) :: (X.dce, cellsD w X.tc1 S.last S.tc2) :: rest) := fun p hp => by
        rcases List.mem_cons.mp hp with rfl | hp
        · exact N3' _ (by repeat (first | exact m1 | apply List.Mem.tail))
        rcases List.mem_cons.mp hp with rfl | hp
        · exact N3' _ (by repeat (first | exact m3 | apply List.Mem.tail))
        · exact N3' p hp
      clear N3' N3 RA
      obtain ⟨q1, q2, q3, ⟨u4, q4⟩, ⟨u5, q5⟩, q6⟩ := id R
      k_steps
      · refine unhold ?_
        rename News g3 L' _ _ => lN'
        refine eq_strsN lN' (by k_mem) (by k_mem) sa' sb' oks' (by show un + 3 + 64 < 9900; omega) ?_
        k_steps
        rename Fr h₀ L _ _ => kF
        rename News h₀ L _ _ => kN
        rw [beq_self_eq_true]
        refine hQ _ _ { S with row := row', trw := tt3, tro := tro2, rows := rows3, rows2 := rows', no := no3, nr := nr2, ss := ss', o := o2 } ⟨sa', sb', R, D2, h0, h1, h2, k0, ?_, r2', okr', oks'⟩ ?_ kF (perm_end (S := { S with row := row', trw := tt3, tro := tro2, rows := rows3, rows2 := rows', no := no3, nr := nr2, ss := ss', o := o2 }) (News.skip1 kN))
        · show (row'.length : Int) ≤ X.signs
          omega
        · show S.k ≤ S.k + 30
          omega
      · rename Fr h₀ L _ _ => kF
        rename News h₀ L _ _ => kN
        rw [beq_self_eq_true]
        refine hQ _ _ { S with row := row', trw := tt3, tro := tro2, rows := rows3, rows2 := rows', no := no3, nr := nr2, ss := ss', o := o2 } ⟨sa', sb', R, D2, h0, h1, h2, k0, ?_, r2', okr', oks'⟩ ?_ kF (perm_end (S := { S with row := row', trw := tt3, tro := tro2, rows := rows3, rows2 := rows', no := no3, nr := nr2, ss := ss', o := o2 }) (News.skip1 kN))
        · show (row'.length : Int) ≤ X.signs
          omega
        · show S.k ≤ S.k + 30
          omega
end Mine
namespace Mine
theorem rules_T18_1 : True := by
  k_with_none
  k_with "eval Call" => (k_fold; walk1)
  k_with "eval Compare" => (k_fold; walk1)
  k_with "eval BinOp" => (k_fold; walk1)
  k_with "eval Subscript" => (k_fold; walk1)
  k_with "eval IfExp" => (k_fold; walk1)
  k_with "eval Tuple" => (k_fold; walk1)
  k_with "eval List" => (k_fold; walk1)
  k_with "eval BoolOp" => (k_fold; walk1)
  k_with "execs cons" => (k_here; (try dsimp only); (with_reducible refine flat ?_); intro ztk'; (with_reducible refine wpAny_execs_cons ?_); (try dsimp only); (try k_fold))
  trivial
theorem rules_T18_2 : True := by
  k_with "my all" => (assumption)
  k_with "my enter" => (refine' code_def ?k1 ?k2 ?k3 ?k4 ?k5 ?kA ?kF ?kK ?k6 ?k7 ?k8 ?k9 ?kB ?_ ?c2 ?c3 ?c4 ?c5; (case kA => exact rfl); (case kF => exact rfl); (case kK => first | assumption | exact rfl); (case k1 => k_asm); (case k2 => k_asm); (case k3 => k_asm); (case k4 => k_asm); (case k5 => k_asm); (case k6 => k_is); (case k7 => k_is); (case k8 => ktr_room); (case k9 => first | exact BindsTo.of_eq rfl | exact binds_K (by k_in) rfl (by k_is) rfl rfl rfl); (case c5 => decide); (case kB => exact locs rfl); (case c2 => exact rfl); (case c3 => exact rfl); (case c4 => exact rfl); k_whole; intro zg' zL' zh' zFG' zF' zN' zB' zX' zT'; (try dsimp only); (try k_fold))
  k_with "my enter" => (refine' code_defC ?k1 ?k2 ?k3 ?k4 ?k5 ?kA ?kF ?kK ?k6 ?k7 ?k8 ?k9 ?kB ?kD ?_ ?c2 ?c3 ?c4; (case kA => exact rfl); (case kF => exact rfl); (case kK => first | assumption | exact rfl); (case k1 => k_asm); (case k2 => k_asm); (case k3 => k_asm); (case k4 => k_asm); (case k5 => k_asm); (case k6 => k_is); (case k7 => k_is); (case k8 => ktr_room); (case k9 => exact BindsTo.of_eq rfl); (case kB => exact rfl); (case kD => decide +kernel); (case c2 => exact rfl); (case c3 => exact rfl); (case c4 => exact rfl); k_whole; intro zg' zL' zh' ztk' zcells' zFG' zF' zN' zY' zB' zX' zT' zl1; (try k_lt zl1); k_cells zY'; (try simp only [List.cons_append, List.nil_append] at zN'); (try dsimp only); (try k_fold))
  k_with "call ref" => (k_here; (with_reducible show wpAny _ _ (call (Value.ref 406) [Value.ref _, Value.int _ _]) _ _ _); k_dflt (refine' cast_app ?B ?F ?X ?N ?T ?hk ?hi ?hl ?hm ?U ?k0 ?k1 ?hs ?hs2 ?hne ?hd ?hu ?_; (case B => k_asm); (case F => k_asm); (case X => k_asm); (case N => k_asm); (case T => k_asm); (case hk => first | exact rfl | assumption); (case hi => assumption); (case hl => assumption); (case hm => k_mem); (case U => intro zt'; k_upd)); (case k0 => omega); (case k1 => omega); (case hs => omega); (case hs2 => omega); (case hne => k_ne); (case hd => ktr_room); (case hu => ktr_room); k_whole; intro zh' ztk' zt3' zt4' zv' zF' zN' zv0' zv1'; (try k_sweep); walk_say "CAST")
  k_with "CompSrc" => (refine hold ?_)
  k_with "CompEnd" => (refine hold ?_)
  k_with "my get" => (assumption)
  k_with "call ref" => ((with_reducible show wpAny _ _ (call (Value.ref 406) _) _ _ _); refine hold ?_)
  k_with "call ref" => ((with_reducible show wpAny _ _ (call (Value.ref 423) _) _ _ _); refine hold ?_)
  k_with "call ref" => ((with_reducible show wpAny _ _ (call (Value.ref 437) _) _ _ _); refine hold ?_)
  k_with "compareOp Eq ref ref" => ((with_reducible show wpAny _ _ (compareOp CmpOp.Eq (Value.ref _) (Value.ref _)) _ _ _); refine hold ?_)
  k_with "call builtin:chr" => (k_here; (with_reducible show wpAny _ _ (call (Value.builtin "chr") [Value.int _ _]) _ _ _); (refine chr_of_range (by omega) (by omega) ?_))
  trivial
theorem updD {w : World} {X : Fixed} {S : State} {rest : List (Addr × Obj)} (FO : FixOk X rest) (t : Tok) : Upd X.dice (listOf #[.ref X.sc, .int S.k S.t1] X.n1) (listOf #[.ref X.sc, .int (S.k + 1) t] X.n1) (led w X S rest) (led w X { S with k := S.k + 1, t1 := t } rest) := by
  obtain ⟨m1, m3, m4, m5, m6, G, hi, hl, lo, off, nd, b1, b2, b3, sd⟩ := FO
  refine .tail (pw_ne nd 0 4 rfl rfl (by decide)) (.tail (pw_ne nd 1 4 rfl rfl (by decide)) (.tail (pw_ne nd 2 4 rfl rfl (by decide)) (.tail (pw_ne nd 3 4 rfl rfl (by decide)) (.head ?_))))
  exact off3 (Ne.symm (pw_ne nd 4 5 rfl rfl (by decide))) (Ne.symm (pw_ne nd 4 6 rfl rfl (by decide))) (Ne.symm (pw_ne nd 4 7 rfl rfl (by decide))) (off _ (by simp))
theorem off7 {b a1 a2 a3 a4 a5 a6 a7 : Addr} {o1 o2 o3 o4 o5 o6 o7 : Obj} {R2 : List (Addr × Obj)} (h1 : @Ne Nat a1 b) (h2 : @Ne Nat a2 b) (h3 : @Ne Nat a3 b) (h4 : @Ne Nat a4 b) (h5 : @Ne Nat a5 b) (h6 : @Ne Nat a6 b) (h7 : @Ne Nat a7 b) (ho : ∀ p ∈ R2, p.1 ≠ b) :
    ∀ p ∈ (a1, o1) :: (a2, o2) :: (a3, o3) :: (a4, o4) :: (a5, o5) :: (a6, o6) :: (a7, o7) :: R2, p.1 ≠ b := fun p hp => by
  simp only [List.mem_cons] at hp
  rcases hp with rfl | rfl | rfl | rfl | rfl | rfl | rfl | hp
  all_goals first | exact ho p hp | assumption
theorem deed2 (w : World) (mean : ExcName → Option Value) (mg mb : Str → Option Value) : DeedSpec w mean mg mb 2 := by
  w_top off
  intro A₀ base h₀ L m s dp un gd cn cs a ccd Q E X S0 rest tw B F X0 N T XB TB hk FO SO k1 hd hu hQ
  obtain ⟨m1, m3, m4, m5, m6, G, hi, hl, lo, off, nd, b1, b2, b3, sd⟩ := id FO
  obtain ⟨sa, sb, R, DS, h0, h1, h2, k0, r1, r2, okr, oks⟩ := SO
  refine wpAny_call ?_
  k_dflt (refine' code_defS0 ?k1 ?k2 ?k3 ?k4 ?k5 ?kA ?k6 ?k7 ?k8 ?k9 ?kB ?_ ?cK ?c2 ?c3 ?c4 ?c5)
  case kA => exact rfl
  case k2 => k_asm
  case k1 => k_asm
  case k3 => k_asm
  case k4 => k_asm
  case k5 => k_asm
  case k6 => k_is
  case k7 => k_is
  case k8 => ktr_room
  case k9 => exact BindsTo.of_eq rfl
  case kB => exact locs rfl
  case cK => exact hk
  case c2 => exact rfl
  case c3 => exact rfl
  case c4 => exact rfl
  case c5 => decide
  k_whole
  intro g' L' h' FG' F' N' B' X' T' D'
  (try dsimp only)
  (try k_fold)
  k_steps
  refine unhold ?_
  refine' cast_app B' F' X' N' T' ?kk hi hl ?hm (updD FO) k0 ?k1 ?s1 ?s2 ?ne ?da ?ua ?qq
  case kk => rfl
  case hm => repeat (first | exact .head _ | apply List.Mem.tail)
  case k1 => omega
  case s1 => omega
  case s2 => omega
  case ne => exact Ne.symm (pw_ne nd 4 5 rfl rfl (by decide))
  case da =>
    show dp + 1 + 1 < 500
    omega
  case ua =>
    show un + 3 + 8 < 1000
    omega
  case qq =>
  intro hh1 tk1 t3 t4 v F1 N1 v0 v1
  clear F' N'
  obtain ⟨S, hS⟩ : ∃ S : State, S = { S0 with k := S0.k + 1, t1 := t3 } := ⟨_, rfl⟩
  have hSk : S.k = S0.k + 1 := by rw [hS]
  have N1' : News g' L' hh1 (led w X S rest) := by rw [hS]; exact N1
  replace sa : StrsAre S.rows S.ss := by rw [hS]; exact sa
  replace sb : StrsAre S.rows2 S.ss := by rw [hS]; exact sb
  replace R : RunE S.es X.wo X.li X.ce X.ln S.hp := by rw [hS]; exact R
  replace DS : S.o.IsDictOf (PySem.strKind PySem.Challenge.pw_pp0007_01 w) (ownK S.row S.tro X.rl X.signs X.many X.room S.hp S.last X.ts X.tm X.tq S.tt S.tc) := by rw [hS]; exact DS
  replace h0 : 0 ≤ S.last := by rw [hS]; exact h0
  replace h1 : S.last ≤ S.hp := by rw [hS]; exact h1
  replace h2 : S.hp ≤ X.room := by rw [hS]; exact h2
  replace r1 : (S.row.length : Int) ≤ X.signs := by rw [hS]; exact r1
  replace r2 : (S.ss.length : Int) ≤ X.many := by rw [hS]; exact r2
  replace okr : PyData.strOk S.row = true := by rw [hS]; exact okr
  replace oks : ∀ x ∈ S.ss, PyData.strOk x = true := by rw [hS]; exact oks
  replace k0 : 0 ≤ S.k := by omega
  have k2 : S.k ≤ S0.k + 1 := by omega
  have N2 := perm3 N1'
  clear N1 N1' N hS hSk
  k_steps
  refine unhold ?_
  rename Fr g' L' _ _ => lF'
  rename News g' L' _ _ => lN'
  refine' law_said_in (text := ⟨#[(32 + v).toNat]⟩) B' lF' X' lN' T' ?kk DS lo
    (off7 (Ne.symm (pw_ne nd 2 3 rfl rfl (by decide))) (pw_ne nd 0 2 rfl rfl (by decide)) (pw_ne nd 1 2 rfl rfl (by decide)) (Ne.symm (pw_ne nd 2 4 rfl rfl (by decide))) (Ne.symm (pw_ne nd 2 5 rfl rfl (by decide))) (Ne.symm (pw_ne nd 2 6 rfl rfl (by decide))) (Ne.symm (pw_ne nd 2 7 rfl rfl (by decide))) (off _ (by simp)))
    ?ra ?rb ?da ?ua ?qq
  case kk => rfl
  case ra => omega
  case rb =>
    show 1 ≤ 100
    omega
  case da =>
    show dp + 1 + 8 < 500
    omega
  case ua =>
    show un + 3 + 80 < 1000
    omega
  case qq =>
    intro r row' hcase hh2 tk2 t2 o2 tro2 F2 N2 D2
    clear lF' lN'
    k_steps
    refine unhold ?_
    rename Fr g' L' _ _ => lF'
    rename News g' L' _ _ => lN'
    obtain ⟨N3, RA⟩ := way3_at (S := S) FO R lN' (by with_reducible assumption)
    clear lN'
    have lN' := N3
    have hok : PyData.strOk (glue [32 + v]) = true := strOk_glue (fun i hi => by rw [List.mem_singleton.mp hi]; omega)
    refine' law_word_in (w := w) ((put_sign_spec RA ?ra (.head _) ?rb ?rc).mono (d' := 40) (u' := 300) (by decide) (by decide)) B' lF' X' N3 T' XB TB D' ?kk (.inr (.inl rfl)) ?da ?ua ?qq
    case ra => omega
    case rb => omega
    case rc => omega
    case kk => rfl
    case da =>
      show dp + 1 + 45 < 500
      omega
    case ua =>
      show un + 3 + 350 < 1000
      omega
    case qq =>
      intro g3 h3 tk3 o t3 row3 tt3 rows3 no3 hP KT F3 N3' B3 X3 P3 D3
      rw [← chs_one] at hcase
      obtain ⟨e1, e2, e3, okr', hl'⟩ := agree_said r1 okr hok hcase hP
      subst e1
      subst e2
      subst e3
      clear lN' B' X' T' D'
      have N4 : News g3 L' h3 ((X.x, instObj 277 X.dx) :: (X.wo, instObj 216 X.dwo) :: (X.dwo, worldD w X.tk1 X.tk2 X.ol row' tt3) :: (X.ol, listOf S.rows.toArray no3) :: _ :: (X.od, o2) :: (X.rl, listOf S.rows2.toArray S.nr) :: (X.dice, listOf #[.ref X.sc, .int S.k S.t1] X.n1) :: (X.sc, listOf X.items.toArray X.n2) :: (X.dx, dictOf S.es S.n) :: (X.dce, cellsD w X.tc1 S.last S.tc2) :: rest) := fun p hp => by
        rcases List.mem_cons.mp hp with rfl | hp
        · exact N3' _ (by repeat (first | exact m1 | apply List.Mem.tail))
        rcases List.mem_cons.mp hp with rfl | hp
        · exact N3' _ (by repeat (first | exact m3 | apply List.Mem.tail))
        · exact N3' p hp
      clear N3' N3 RA
      obtain ⟨q1, q2, q3, ⟨u4, q4⟩, ⟨u5, q5⟩, q6⟩ := id R
      k_steps
      · refine unhold ?_
        rename News g3 L' _ _ => lN'
        refine eq_strsN lN' (by k_mem) (by k_mem) sa sb oks (by show un + 3 + 64 < 9900; omega) ?_
        k_steps
        rename Fr h₀ L _ _ => kF
        rename News h₀ L _ _ => kN
        rw [beq_self_eq_true]
        refine hQ _ _ { S with row := row', trw := tt3, tro := tro2, no := no3, o := o2 } ⟨sa, sb, R, D2, h0, h1, h2, k0, ?_, r2, okr', oks⟩ ?_ kF (perm_end (S := { S with row := row', trw := tt3, tro := tro2, no := no3, o := o2 }) (News.skip1 kN))
        · exact hl'
        · show S.k ≤ S0.k + 30
          omega
      · rename Fr h₀ L _ _ => kF
        rename News h₀ L _ _ => kN
        rw [beq_self_eq_true]
        refine hQ _ _ { S with row := row', trw := tt3, tro := tro2, no := no3, o := o2 } ⟨sa, sb, R, D2, h0, h1, h2, k0, ?_, r2, okr', oks⟩ ?_ kF (perm_end (S := { S with row := row', trw := tt3, tro := tro2, no := no3, o := o2 }) (News.skip1 kN))
        · exact hl'
        · show S.k ≤ S0.k + 30
          omega
end Mine
namespace Mine
theorem rules_T19_1 : True := by
  k_with_none
  k_with "execs cons" => (k_here; (try dsimp only); (with_reducible refine flat ?_); intro ztk'; (with_reducible refine wpAny_execs_cons ?_); (try dsimp only); (try k_fold))
  trivial
theorem rules_T19_2 : True := by
  k_with "my all" => (assumption)
  k_with "my enter" => (refine' code_def ?k1 ?k2 ?k3 ?k4 ?k5 ?kA ?kF ?kK ?k6 ?k7 ?k8 ?k9 ?kB ?_ ?c2 ?c3 ?c4 ?c5; (case kA => exact rfl); (case kF => exact rfl); (case kK => first | assumption | exact rfl); (case k1 => k_asm); (case k2 => k_asm); (case k3 => k_asm); (case k4 => k_asm); (case k5 => k_asm); (case k6 => k_is); (case k7 => k_is); (case k8 => ktr_room); (case k9 => first | exact BindsTo.of_eq rfl | exact binds_K (by k_in) rfl (by k_is) rfl rfl rfl); (case c5 => decide); (case kB => exact locs rfl); (case c2 => exact rfl); (case c3 => exact rfl); (case c4 => exact rfl); k_whole; intro zg' zL' zh' zFG' zF' zN' zB' zX' zT'; (try dsimp only); (try k_fold))
  k_with "my enter" => (refine' code_defC ?k1 ?k2 ?k3 ?k4 ?k5 ?kA ?kF ?kK ?k6 ?k7 ?k8 ?k9 ?kB ?kD ?_ ?c2 ?c3 ?c4; (case kA => exact rfl); (case kF => exact rfl); (case kK => first | assumption | exact rfl); (case k1 => k_asm); (case k2 => k_asm); (case k3 => k_asm); (case k4 => k_asm); (case k5 => k_asm); (case k6 => k_is); (case k7 => k_is); (case k8 => ktr_room); (case k9 => exact BindsTo.of_eq rfl); (case kB => exact rfl); (case kD => decide +kernel); (case c2 => exact rfl); (case c3 => exact rfl); (case c4 => exact rfl); k_whole; intro zg' zL' zh' ztk' zcells' zFG' zF' zN' zY' zB' zX' zT' zl1; (try k_lt zl1); k_cells zY'; (try simp only [List.cons_append, List.nil_append] at zN'); (try dsimp only); (try k_fold))
  k_with "call ref" => (k_here; (with_reducible show wpAny _ _ (call (Value.ref 406) [Value.ref _, Value.int _ _]) _ _ _); k_dflt (refine' cast_app ?B ?F ?X ?N ?T ?hk ?hi ?hl ?hm ?U ?k0 ?k1 ?hs ?hs2 ?hne ?hd ?hu ?_; (case B => k_asm); (case F => k_asm); (case X => k_asm); (case N => k_asm); (case T => k_asm); (case hk => first | exact rfl | assumption); (case hi => assumption); (case hl => assumption); (case hm => k_mem); (case U => intro zt'; k_upd)); (case k0 => omega); (case k1 => omega); (case hs => omega); (case hs2 => omega); (case hne => k_ne); (case hd => ktr_room); (case hu => ktr_room); k_whole; intro zh' ztk' zt3' zt4' zv' zF' zN' zv0' zv1'; (try k_sweep); walk_say "CAST")
  k_with "CompSrc" => (refine hold ?_)
  k_with "CompEnd" => (refine hold ?_)
  k_with "my get" => (assumption)
  k_with "call builtin:len" => (k_here; (with_reducible show wpAny _ _ (call (Value.builtin "len") [Value.ref _]) _ _ _); (refine len_any (by k_asm) (by k_mem) (by rfl) (by rfl) (by omega) ?_))
  k_with "call ref" => ((with_reducible show wpAny _ _ (call (Value.ref 416) _) _ _ _); refine hold ?_)
  k_with "call ref" => ((with_reducible show wpAny _ _ (call (Value.ref 423) _) _ _ _); refine hold ?_)
  k_with "call ref" => ((with_reducible show wpAny _ _ (call (Value.ref 430) _) _ _ _); refine hold ?_)
  k_with "call ref" => ((with_reducible show wpAny _ _ (call (Value.ref 437) _) _ _ _); refine hold ?_)
  k_with "compareOp In int ref" => (refine hold ?_)
  k_with "call builtin:str.join" => (refine hold ?_)
  k_with "compareOp Eq ref ref" => ((with_reducible show wpAny _ _ (compareOp CmpOp.Eq (Value.ref _) (Value.ref _)) _ _ _); refine hold ?_)
  k_with "call builtin:chr" => (k_here; (with_reducible show wpAny _ _ (call (Value.builtin "chr") [Value.int _ _]) _ _ _); (refine chr_of_range (by omega) (by omega) ?_))
  trivial
theorem permT {w : World} {X : Fixed} {S : State} {rest : List (Addr × Obj)} {g h : Heap} {L : Addr} (N : News g L h (led w X S rest)) :
    News g L h ((X.dice, listOf #[.ref X.sc, .int S.k S.t1] X.n1) :: (X.sc, listOf X.items.toArray X.n2) :: (X.od, S.o) :: (X.rl, listOf S.rows2.toArray S.nr) :: (X.dwo, worldD w X.tk1 X.tk2 X.ol S.row S.trw) :: (X.ol, listOf S.rows.toArray S.no) :: (X.dx, dictOf S.es S.n) :: (X.dce, cellsD w X.tc1 S.last S.tc2) :: rest) := News.sub N fun p hp => by
  iterate 8 (rcases List.mem_cons.mp hp with rfl | hp; (· repeat (first | exact .head _ | apply List.Mem.tail)))
  repeat (first | exact hp | apply List.Mem.tail)
theorem permT' {w : World} {X : Fixed} {S : State} {rest : List (Addr × Obj)} {g h : Heap} {L : Addr} {l : Addr × Obj}
    (N : News g L h (l :: (X.dice, listOf #[.ref X.sc, .int S.k S.t1] X.n1) :: (X.sc, listOf X.items.toArray X.n2) :: (X.od, S.o) :: (X.rl, listOf S.rows2.toArray S.nr) :: (X.dwo, worldD w X.tk1 X.tk2 X.ol S.row S.trw) :: (X.ol, listOf S.rows.toArray S.no) :: (X.dx, dictOf S.es S.n) :: (X.dce, cellsD w X.tc1 S.last S.tc2) :: rest)) :
    News g L h (l :: (X.od, S.o) :: (X.rl, listOf S.rows2.toArray S.nr) :: (X.dwo, worldD w X.tk1 X.tk2 X.ol S.row S.trw) :: (X.ol, listOf S.rows.toArray S.no) :: (X.dice, listOf #[.ref X.sc, .int S.k S.t1] X.n1) :: (X.sc, listOf X.items.toArray X.n2) :: (X.dx, dictOf S.es S.n) :: (X.dce, cellsD w X.tc1 S.last S.tc2) :: rest) := News.sub N fun p hp => by
  iterate 9 (rcases List.mem_cons.mp hp with rfl | hp; (· repeat (first | exact .head _ | apply List.Mem.tail)))
  repeat (first | exact hp | apply List.Mem.tail)
theorem lt_all {d : Nat} {l : List (Addr × Obj)} (h : AllLt d l) {p : Addr × Obj} (hp : p ∈ l) : @Ne Nat d p.1 := ne_of_allLt h p hp
theorem text_ext {w : World} {X : Fixed} {S : State} {rest : List (Addr × Obj)} (FO : FixOk X rest) {g h : Heap} {L tx dtx D3 l2 D2 l : Addr} {b1 b2 b3 b4 b5 b6 : Obj}
    (N : News g L h ((tx, b1) :: (dtx, b2) :: (D3, b3) :: (l2, b4) :: (D2, b5) :: (l, b6) :: (X.od, S.o) :: (X.rl, listOf S.rows2.toArray S.nr) :: (X.dwo, worldD w X.tk1 X.tk2 X.ol S.row S.trw) :: (X.ol, listOf S.rows.toArray S.no) :: (X.dice, listOf #[.ref X.sc, .int S.k S.t1] X.n1) :: (X.sc, listOf X.items.toArray X.n2) :: (X.dx, dictOf S.es S.n) :: (X.dce, cellsD w X.tc1 S.last S.tc2) :: rest))
    (hD : AllLt D2 ((l, b6) :: (X.od, S.o) :: (X.rl, listOf S.rows2.toArray S.nr) :: (X.dwo, worldD w X.tk1 X.tk2 X.ol S.row S.trw) :: (X.ol, listOf S.rows.toArray S.no) :: (X.dice, listOf #[.ref X.sc, .int S.k S.t1] X.n1) :: (X.sc, listOf X.items.toArray X.n2) :: (X.dx, dictOf S.es S.n) :: (X.dce, cellsD w X.tc1 S.last S.tc2) :: rest))
    (hl2 : AllLt l2 ((D2, b5) :: (l, b6) :: (X.od, S.o) :: (X.rl, listOf S.rows2.toArray S.nr) :: (X.dwo, worldD w X.tk1 X.tk2 X.ol S.row S.trw) :: (X.ol, listOf S.rows.toArray S.no) :: (X.dice, listOf #[.ref X.sc, .int S.k S.t1] X.n1) :: (X.sc, listOf X.items.toArray X.n2) :: (X.dx, dictOf S.es S.n) :: (X.dce, cellsD w X.tc1 S.last S.tc2) :: rest))
    (h3 : ∀ p ∈ (l2, b4) :: (D2, b5) :: (l, b6) :: (X.od, S.o) :: (X.rl, listOf S.rows2.toArray S.nr) :: (X.dwo, worldD w X.tk1 X.tk2 X.ol S.row S.trw) :: (X.ol, listOf S.rows.toArray S.no) :: (X.dice, listOf #[.ref X.sc, .int S.k S.t1] X.n1) :: (X.sc, listOf X.items.toArray X.n2) :: (X.dx, dictOf S.es S.n) :: (X.dce, cellsD w X.tc1 S.last S.tc2) :: rest, @Ne Nat p.1 D3)
    (hd : AllLt dtx ((D3, b3) :: (l2, b4) :: (D2, b5) :: (l, b6) :: (X.od, S.o) :: (X.rl, listOf S.rows2.toArray S.nr) :: (X.dwo, worldD w X.tk1 X.tk2 X.ol S.row S.trw) :: (X.ol, listOf S.rows.toArray S.no) :: (X.dice, listOf #[.ref X.sc, .int S.k S.t1] X.n1) :: (X.sc, listOf X.items.toArray X.n2) :: (X.dx, dictOf S.es S.n) :: (X.dce, cellsD w X.tc1 S.last S.tc2) :: rest))
    (hx : @LT.lt Nat _ dtx tx)
    (hl : ∀ p ∈ (X.dice, listOf #[.ref X.sc, .int S.k S.t1] X.n1) :: (X.sc, listOf X.items.toArray X.n2) :: (X.od, S.o) :: (X.rl, listOf S.rows2.toArray S.nr) :: (X.dwo, worldD w X.tk1 X.tk2 X.ol S.row S.trw) :: (X.ol, listOf S.rows.toArray S.no) :: (X.dx, dictOf S.es S.n) :: (X.dce, cellsD w X.tc1 S.last S.tc2) :: rest, @Ne Nat p.1 l) :
    ∃ rest2, FixOk X rest2 ∧ News g L h ((l, b6) :: (X.od, S.o) :: (X.rl, listOf S.rows2.toArray S.nr) :: (X.dwo, worldD w X.tk1 X.tk2 X.ol S.row S.trw) :: (X.ol, listOf S.rows.toArray S.no) :: (X.dice, listOf #[.ref X.sc, .int S.k S.t1] X.n1) :: (X.sc, listOf X.items.toArray X.n2) :: (X.dx, dictOf S.es S.n) :: (X.dce, cellsD w X.tc1 S.last S.tc2) :: rest2) ∧
      (tx, b1) ∈ rest2 ∧ (dtx, b2) ∈ rest2 ∧ (D3, b3) ∈ rest2 ∧ (∀ p ∈ rest, p ∈ rest2) := by
  obtain ⟨m1, m3, m4, m5, m6, G, hi, hll, lo, off, nd, c1, c2, c3, sd⟩ := FO
  refine ⟨(tx, b1) :: (dtx, b2) :: (D3, b3) :: (l2, b4) :: (D2, b5) :: (l, b6) :: rest, ⟨?_, ?_, ?_, ?_, ?_, G, hi, hll, lo, ?_, nd, c1, c2, c3, sd⟩, News.sub N fun p hp => ?_, .head _, .tail _ (.head _), .tail _ (.tail _ (.head _)), fun p hp => by repeat (first | exact hp | apply List.Mem.tail)⟩
  · repeat (first | exact m1 | apply List.Mem.tail)
  · repeat (first | exact m3 | apply List.Mem.tail)
  · repeat (first | exact m4 | apply List.Mem.tail)
  · repeat (first | exact m5 | apply List.Mem.tail)
  · repeat (first | exact m6 | apply List.Mem.tail)
  · have key : ∀ a ∈ [X.dwo, X.ol, X.od, X.rl, X.dice, X.dx, X.dce], ∃ b, (a, b) ∈ (X.od, S.o) :: (X.rl, listOf S.rows2.toArray S.nr) :: (X.dwo, worldD w X.tk1 X.tk2 X.ol S.row S.trw) :: (X.ol, listOf S.rows.toArray S.no) :: (X.dice, listOf #[.ref X.sc, .int S.k S.t1] X.n1) :: (X.sc, listOf X.items.toArray X.n2) :: (X.dx, dictOf S.es S.n) :: (X.dce, cellsD w X.tc1 S.last S.tc2) :: rest := fun a ha => by
      simp only [List.mem_cons, List.not_mem_nil, or_false] at ha
      rcases ha with rfl | rfl | rfl | rfl | rfl | rfl | rfl
      all_goals exact ⟨_, by repeat (first | exact .head _ | apply List.Mem.tail)⟩
    intro a ha p hp
    obtain ⟨b, hb⟩ := key a ha
    have hb' : (a, b) ∈ (X.dice, listOf #[.ref X.sc, .int S.k S.t1] X.n1) :: (X.sc, listOf X.items.toArray X.n2) :: (X.od, S.o) :: (X.rl, listOf S.rows2.toArray S.nr) :: (X.dwo, worldD w X.tk1 X.tk2 X.ol S.row S.trw) :: (X.ol, listOf S.rows.toArray S.no) :: (X.dx, dictOf S.es S.n) :: (X.dce, cellsD w X.tc1 S.last S.tc2) :: rest := by
      simp only [List.mem_cons] at hb ⊢
      rcases hb with h | h | h | h | h | h | h | h | h
      all_goals simp only [h, true_or, or_true]
    have q5 := lt_all hd (.tail _ (.tail _ (.tail _ (.tail _ hb))))
    have q6 := lt_of_allLt hd _ (.tail _ (.tail _ (.tail _ (.tail _ hb))))
    rcases List.mem_cons.mp hp with rfl | hp
    · exact Nat.ne_of_gt (Nat.lt_trans q6 hx)
    rcases List.mem_cons.mp hp with rfl | hp
    · exact q5
    rcases List.mem_cons.mp hp with rfl | hp
    · exact Ne.symm (h3 _ (.tail _ (.tail _ (.tail _ hb))))
    rcases List.mem_cons.mp hp with rfl | hp
    · exact lt_all hl2 (.tail _ (.tail _ hb))
    rcases List.mem_cons.mp hp with rfl | hp
    · exact lt_all hD (.tail _ hb)
    rcases List.mem_cons.mp hp with rfl | hp
    · exact Ne.symm (hl _ hb')
    · exact off a ha p hp
  · iterate 9 (rcases List.mem_cons.mp hp with rfl | hp; (· repeat (first | exact .head _ | apply List.Mem.tail)))
    iterate 6 (rcases List.mem_cons.mp hp with rfl | hp; (· repeat (first | exact .head _ | apply List.Mem.tail)))
    repeat (first | exact hp | apply List.Mem.tail)
theorem led_sub {w : World} {X : Fixed} {S : State} {rest rest2 : List (Addr × Obj)} (hs : ∀ p ∈ rest, p ∈ rest2) {g h : Heap} {L : Addr} (N : News g L h (led w X S rest2)) : News g L h (led w X S rest) := News.sub N fun p hp => by
  iterate 8 (rcases List.mem_cons.mp hp with rfl | hp; (· repeat (first | exact .head _ | apply List.Mem.tail)))
  repeat (first | exact hs p hp | apply List.Mem.tail)
theorem News.drop2nd {h₀ h : Heap} {L : Addr} {a b : Addr × Obj} {r : List (Addr × Obj)} (N : News h₀ L h (a :: b :: r)) : News h₀ L h (a :: r) := News.sub N fun p hp => by
  rcases List.mem_cons.mp hp with rfl | hp
  · exact .head _
  · exact .tail _ (.tail _ hp)
theorem ints_get {ys : List Value} {ps : List Int} (h : IntsAre ys ps) : ∀ {i : Nat} {y : Value}, ys[i]? = some y → ∃ v t, y = .int v t ∧ ps[i]? = some v := by
  induction h with
  | nil => intro i y hy; simp at hy
  | cons v t _ ih =>
    intro i y hy
    cases i with
    | zero => simp at hy; subst hy; exact ⟨v, t, rfl, by simp⟩
    | succ i => simp at hy; obtain ⟨v', t', e1, e2⟩ := ih hy; exact ⟨v', t', e1, by simpa using e2⟩
theorem chs_snoc {ps : List Int} {i : Nat} {v : Int} {zs : List Value} {t : Tok} (h : ps[i]? = some v) (hz : StrsAre zs (chs (ps.take i))) : StrsAre (zs ++ [.str ⟨#[v.toNat]⟩ t]) (chs (ps.take (i + 1))) := by
  obtain ⟨hi, e⟩ := List.getElem?_eq_some_iff.mp h
  rw [List.take_succ_eq_append_getElem hi, e]
  unfold chs at hz ⊢
  rw [List.map_append]
  exact strs_snoc hz
theorem deed1 (w : World) (mean : ExcName → Option Value) (mg mb : Str → Option Value) : DeedSpec w mean mg mb 1 := by
  w_top off
  intro A₀ base h₀ L m s dp un gd cn cs a ccd Q E X S0 rest tw B F X0 N T XB TB hk FO SO k1 hd hu hQ
  obtain ⟨m1, m3, m4, m5, m6, G, hi, hl, lo, off, nd, b1, b2, b3, sd⟩ := id FO
  obtain ⟨sa, sb, R, DS, h0, h1, h2, k0, r1, r2, okr, oks⟩ := SO
  refine wpAny_call ?_
  k_dflt (refine' code_defS0 ?k1 ?k2 ?k3 ?k4 ?k5 ?kA ?k6 ?k7 ?k8 ?k9 ?kB ?_ ?cK ?c2 ?c3 ?c4 ?c5)
  case kA => exact rfl
  case k2 => k_asm
  case k1 => k_asm
  case k3 => k_asm
  case k4 => k_asm
  case k5 => k_asm
  case k6 => k_is
  case k7 => k_is
  case k8 => ktr_room
  case k9 => exact BindsTo.of_eq rfl
  case kB => exact locs rfl
  case cK => exact hk
  case c2 => exact rfl
  case c3 => exact rfl
  case c4 => exact rfl
  case c5 => decide
  k_whole
  intro g' L' h' FG' F' N' B' X' T' D'
  (try dsimp only)
  (try k_fold)
  k_steps
  refine unhold ?_
  refine' text_in B' F' X' (permT N') T' ?kk hi hl k0 ?k1 sd
    (off6 (pw_ne nd 2 4 rfl rfl (by decide)) (pw_ne nd 3 4 rfl rfl (by decide)) (pw_ne nd 0 4 rfl rfl (by decide)) (pw_ne nd 1 4 rfl rfl (by decide)) (Ne.symm (pw_ne nd 4 6 rfl rfl (by decide))) (Ne.symm (pw_ne nd 4 7 rfl rfl (by decide))) (off _ (by simp)))
    ?da ?ua ?qq
  case kk => rfl
  case k1 => omega
  case da =>
    show dp + 1 + 2 < 500
    omega
  case ua =>
    show un + 3 + 16 < 1000
    omega
  case qq =>
  intro hh1 tk1 t3 k' l ys F1 N1 ho1 hk1 hk2 hyl hys
  clear F' N'
  have ho1' := off1_mem ho1
  clear ho1
  obtain ⟨S, hS⟩ : ∃ S : State, S = { S0 with k := k', t1 := t3 } := ⟨_, rfl⟩
  have hSk : S.k = k' := by rw [hS]
  have N1' := permT' (X := X) (S := { S0 with k := k', t1 := t3 }) N1
  rw [← hS] at N1'
  replace sa : StrsAre S.rows S.ss := by rw [hS]; exact sa
  replace sb : StrsAre S.rows2 S.ss := by rw [hS]; exact sb
  replace R : RunE S.es X.wo X.li X.ce X.ln S.hp := by rw [hS]; exact R
  replace DS : S.o.IsDictOf (PySem.strKind PySem.Challenge.pw_pp0007_01 w) (ownK S.row S.tro X.rl X.signs X.many X.room S.hp S.last X.ts X.tm X.tq S.tt S.tc) := by rw [hS]; exact DS
  replace h0 : 0 ≤ S.last := by rw [hS]; exact h0
  replace h1 : S.last ≤ S.hp := by rw [hS]; exact h1
  replace h2 : S.hp ≤ X.room := by rw [hS]; exact h2
  replace r1 : (S.row.length : Int) ≤ X.signs := by rw [hS]; exact r1
  replace r2 : (S.ss.length : Int) ≤ X.many := by rw [hS]; exact r2
  replace okr : PyData.strOk S.row = true := by rw [hS]; exact okr
  replace oks : ∀ x ∈ S.ss, PyData.strOk x = true := by rw [hS]; exact oks
  replace k0 : 0 ≤ S.k := by omega
  have k2 : S.k ≤ S0.k + 12 := by omega
  have hlod : @Ne Nat X.od l := ho1' _ (.tail _ (.tail _ (.head _)))
  have hlrl : @Ne Nat X.rl l := ho1' _ (.tail _ (.tail _ (.tail _ (.head _))))
  have hldw : @Ne Nat X.dwo l := ho1' _ (.tail _ (.tail _ (.tail _ (.tail _ (.head _)))))
  have hlol : @Ne Nat X.ol l := ho1' _ (.tail _ (.tail _ (.tail _ (.tail _ (.tail _ (.head _))))))
  clear N1 N hk1 hk2
  k_steps
  refine unhold ?_
  rename Fr g' L' _ _ => lF'
  rename News g' L' _ _ => lN'
  refine src_list (fun i zs => zs = (ys.take i).map conv) rfl lF' lN' (by k_mem) (by omega) rfl ?step ?fin
  case step =>
    intro i' zs' v' I' oI' C' oC' D2' m2' h' tk' E' s2' hv' hP' hC' hx' F' N'
    obtain ⟨hil, hiv⟩ := List.getElem?_eq_some_iff.mp hv'
    obtain ⟨v, t, rfl, hvv⟩ := hys v' (List.mem_of_getElem? hv')
    have hcv : zs' ++ [conv (.int v t)] = (ys.take (i' + 1)).map conv := by
      rw [List.take_succ_eq_append_getElem hil, List.map_append, ← hP', hiv]; rfl
    clear lF' lN'
    (try k_fold)
    k_steps
    all_goals first | exact F' | exact N' | (rw [← hcv]; show _ ++ [_] = _ ++ [if v < 0 then _ else _]; first | rw [if_pos (by omega)] | rw [if_neg (by omega)])
  case fin =>
    intro zs s2 hs2 hP'
    obtain ⟨g3, rfl⟩ := hs2
    rw [List.take_length] at hP'
    unfold LCg.FinE
    intro D3 h3 tk3 F3 N3 o3
    clear lF' lN'
    have o3' := off1_mem o3
    clear o3
    subst hP'
    (try dsimp only)
    k_steps
    refine unhold ?_
    rename Fr g' L' _ _ => lF'
    rename News g' L' _ _ => lN'
    rename (@LT.lt Nat _ l _ ∧ _) => hD
    rename (@LT.lt Nat _ _ _ ∧ @LT.lt Nat _ l _ ∧ _) => hl2
    rename (@LT.lt Nat _ D3 _ ∧ _) => hdt
    obtain ⟨rest2, FO2, N2, mt1, mt2, mt3, hre⟩ := text_ext (S := S) FO lN' hD hl2 o3' hdt (by with_reducible assumption) (by rw [hS]; exact ho1')
    clear hD hl2 hdt o3' lN' FO m1 m3 m4 m5 m6 off G hlod hlrl hldw hlol ho1' hS hSk
    have hd2 : ¬ 500 ≤ dp + 80 := by omega
    have hu2 : ¬ 1000 ≤ un + 450 := by omega
    repeat (with_reducible rename @LT.lt Nat _ _ _ => hz; clear hz)
    obtain ⟨m1, m3, m4, m5, m6, G, hi, hl, lo, off, nd, b1, b2, b3, sd⟩ := id FO2
    have hQ2 : ∀ h' tk S', StOk w X S' → S'.k ≤ S0.k + 30 → Fr h₀ L h' m → News h₀ L h' (led w X S' rest2) → Q (.bool true) { s with heap := h', toks := tk } := fun h' tk S' a b c N => hQ h' tk S' a b c (led_sub hre N)
    clear hQ
    have hsg : ∀ y ∈ ys.map conv, SignV y := fun y hy => by
      obtain ⟨z, hz, rfl⟩ := List.mem_map.mp hy
      exact conv_ok (hys z hz)
    have hvl : (ys.map conv).length ≤ 5 := by rw [List.length_map]; exact hyl
    have hlr := StrsAre.len_eq sa
    cases hb : ys.any (isInt (-1)) with
    | true =>
      refine kf_in (b := true) N2 (.head _) (by simpa using signs_ints hys) (by simpa using hb) ?_
      have hbad := signs_bad hys hb
      k_steps
      refine unhold ?_
      rename Fr g' L' _ _ => lF'
      rename News g' L' _ _ => lN'
      rename (@LT.lt Nat _ l _ ∧ _) => hav
      obtain ⟨N3, RA⟩ := way3_at (S := S) FO2 R (News.drop2nd lN') hav.2
      clear lN' hav
      have lN' := N3
      refine' law_word_in (w := w) ((put_text_spec RA ?ra (.head _) (by repeat (first | exact mt1 | apply List.Mem.tail)) (by repeat (first | exact mt2 | apply List.Mem.tail)) (by repeat (first | exact mt3 | apply List.Mem.tail)) hsg hvl).mono (d' := 40) (u' := 300) (by decide) (by decide)) B' lF' X' N3 T' XB TB D' ?kk (.inr (.inr (.inl rfl))) ?da ?ua ?qq
      case ra => omega
      case kk => rfl
      case da =>
        show dp + 1 + 45 < 500
        omega
      case ua =>
        show un + 3 + 350 < 1000
        omega
      case qq =>
      intro g3 h3 tk3 o t3 row3 tt3 rows3 no3 hP KT F3 N3' B3 X3 P3 D3
      obtain ⟨e1, e2, e3⟩ := put_bad hbad hP
      subst e1
      subst e2
      subst e3
      dsimp only [Option.getD]
      have D2 := DS
      have okr' := okr
      have hl' := r1
      clear lN' B' X' T' D'
      have N4 : News g3 L' h3 ((X.x, instObj 277 X.dx) :: (X.wo, instObj 216 X.dwo) :: (X.dwo, worldD w X.tk1 X.tk2 X.ol S.row tt3) :: (X.ol, listOf S.rows.toArray no3) :: _ :: (X.od, S.o) :: (X.rl, listOf S.rows2.toArray S.nr) :: (X.dice, listOf #[.ref X.sc, .int S.k S.t1] X.n1) :: (X.sc, listOf X.items.toArray X.n2) :: (X.dx, dictOf S.es S.n) :: (X.dce, cellsD w X.tc1 S.last S.tc2) :: rest2) := fun p hp => by
        rcases List.mem_cons.mp hp with rfl | hp
        · exact N3' _ (by repeat (first | exact m1 | apply List.Mem.tail))
        rcases List.mem_cons.mp hp with rfl | hp
        · exact N3' _ (by repeat (first | exact m3 | apply List.Mem.tail))
        · exact N3' p hp
      clear N3' N3 RA
      obtain ⟨q1, q2, q3, ⟨u4, q4⟩, ⟨u5, q5⟩, q6⟩ := id R
      k_steps
      · refine unhold ?_
        rename News g3 L' _ _ => lN'
        refine eq_strsN lN' (by k_mem) (by k_mem) sa sb oks (by show un + 3 + 64 < 9900; omega) ?_
        k_steps
        rename Fr h₀ L _ _ => kF
        rename News h₀ L _ _ => kN
        rw [beq_self_eq_true]
        refine hQ2 _ _ { S with row := S.row, trw := tt3, no := no3 } ⟨sa, sb, R, D2, h0, h1, h2, k0, ?_, r2, okr', oks⟩ ?_ kF (perm_end (S := { S with row := S.row, trw := tt3, no := no3 }) kN)
        · exact hl'
        · show S.k ≤ S0.k + 30
          omega
    | false =>
      refine kf_in (b := false) N2 (.head _) (by simpa using signs_ints hys) (by simpa using hb) ?_
      obtain ⟨ps, hps, hin, hcv⟩ := signs_good hys hb
      rw [hcv] at hsg hvl mt3
      have hpl := ints_len hps
      have hgl := glue_len ps
      k_steps
      refine unhold ?_
      rename Fr g' L' _ _ => lF'
      rename News g' L' _ _ => lN'
      refine src_list (fun i zs => StrsAre zs (chs (ps.take i))) rfl lF' lN' (by k_mem) (by omega) .nil ?step2 ?fin2
      case step2 =>
        intro i' zs' v' I' oI' C' oC' D2' m2' h' tk' E' s2' hv' hP' hC' hx' F' N'
        obtain ⟨v, t, rfl, hvv⟩ := ints_get hps hv'
        have hr := hin v (List.mem_of_getElem? hvv)
        clear lF' lN'
        (try k_fold)
        k_steps
        all_goals first | exact F' | exact N' | exact chs_snoc hvv hP'
      case fin2 =>
        intro zs s2 hs2 hP'
        obtain ⟨g4, rfl⟩ := hs2
        have hzl : ps.take ys.length = ps := by rw [hpl]; exact List.take_length
        rw [hzl] at hP'
        unfold LCg.FinE
        intro D4 h4 tk4 F4 N4 o4
        clear lF' lN'
        (try dsimp only)
        k_steps
        refine unhold ?_
        rename News g' L' _ _ => lN'
        refine join_listC (items := zs.toArray) (ys := chs ps) (News.isList lN' (.head _)) (by simpa using hP') (by decide) ?_ ?_
        · rw [chs_sum, chs_len]
          omega
        · intro t' k9
          k_steps
          refine unhold ?_
          rename Fr g' L' _ _ => lF'
          rename News g' L' _ _ => lN'
          refine' law_said_in (text := glue ps) B' lF' X' (News.skip1 (News.skip1 lN')) T' ?kk DS lo
            (off7 (Ne.symm (pw_ne nd 2 3 rfl rfl (by decide))) (pw_ne nd 0 2 rfl rfl (by decide)) (pw_ne nd 1 2 rfl rfl (by decide)) (Ne.symm (pw_ne nd 2 4 rfl rfl (by decide))) (Ne.symm (pw_ne nd 2 5 rfl rfl (by decide))) (Ne.symm (pw_ne nd 2 6 rfl rfl (by decide))) (Ne.symm (pw_ne nd 2 7 rfl rfl (by decide))) (off _ (by simp)))
            ?ra ?rb ?da ?ua ?qq
          case kk => rfl
          case ra => omega
          case rb => omega
          case da =>
            show dp + 1 + 8 < 500
            omega
          case ua =>
            show un + 3 + 80 < 1000
            omega
          case qq =>
            intro r row' hcase hh2 tk2 t2 o2 tro2 F2 N2 D2
            clear lF' lN'
            have hok := strOk_glue hin
            k_steps
            refine unhold ?_
            rename Fr g' L' _ _ => lF'
            rename News g' L' _ _ => lN'
            obtain ⟨N3, RA⟩ := way3_at (S := S) FO2 R lN' (by with_reducible assumption)
            clear lN'
            have lN' := N3
            refine' law_word_in (w := w) ((put_text_spec RA ?ra (.head _) (by repeat (first | exact mt1 | apply List.Mem.tail)) (by repeat (first | exact mt2 | apply List.Mem.tail)) (by repeat (first | exact mt3 | apply List.Mem.tail)) hsg hvl).mono (d' := 40) (u' := 300) (by decide) (by decide)) B' lF' X' N3 T' XB TB D' ?kk (.inr (.inr (.inl rfl))) ?da ?ua ?qq
            case ra => omega
            case kk => rfl
            case da =>
              show dp + 1 + 45 < 500
              omega
            case ua =>
              show un + 3 + 350 < 1000
              omega
            case qq =>
            intro g3 h3 tk3 o t3 row3 tt3 rows3 no3 hP KT F3 N3' B3 X3 P3 D3
            obtain ⟨e1, e2, e3, okr', hl'⟩ := agree_said r1 okr hok hcase (put_good hps hP)
            subst e1
            subst e2
            subst e3
            clear lN' B' X' T' D'
            have N4 : News g3 L' h3 ((X.x, instObj 277 X.dx) :: (X.wo, instObj 216 X.dwo) :: (X.dwo, worldD w X.tk1 X.tk2 X.ol row' tt3) :: (X.ol, listOf S.rows.toArray no3) :: _ :: (X.od, o2) :: (X.rl, listOf S.rows2.toArray S.nr) :: (X.dice, listOf #[.ref X.sc, .int S.k S.t1] X.n1) :: (X.sc, listOf X.items.toArray X.n2) :: (X.dx, dictOf S.es S.n) :: (X.dce, cellsD w X.tc1 S.last S.tc2) :: rest2) := fun p hp => by
              rcases List.mem_cons.mp hp with rfl | hp
              · exact N3' _ (by repeat (first | exact m1 | apply List.Mem.tail))
              rcases List.mem_cons.mp hp with rfl | hp
              · exact N3' _ (by repeat (first | exact m3 | apply List.Mem.tail))
              · exact N3' p hp
            clear N3' N3 RA
            obtain ⟨q1, q2, q3, ⟨u4, q4⟩, ⟨u5, q5⟩, q6⟩ := id R
            k_steps
            · refine unhold ?_
              rename News g3 L' _ _ => lN'
              refine eq_strsN lN' (by k_mem) (by k_mem) sa sb oks (by show un + 3 + 64 < 9900; omega) ?_
              k_steps
              rename Fr h₀ L _ _ => kF
              rename News h₀ L _ _ => kN
              rw [beq_self_eq_true]
              refine hQ2 _ _ { S with row := row', trw := tt3, tro := tro2, no := no3, o := o2 } ⟨sa, sb, R, D2, h0, h1, h2, k0, ?_, r2, okr', oks⟩ ?_ kF (perm_end (S := { S with row := row', trw := tt3, tro := tro2, no := no3, o := o2 }) kN)
              · exact hl'
              · show S.k ≤ S0.k + 30
                omega
            · rename Fr h₀ L _ _ => kF
              rename News h₀ L _ _ => kN
              rw [beq_self_eq_true]
              refine hQ2 _ _ { S with row := row', trw := tt3, tro := tro2, no := no3, o := o2 } ⟨sa, sb, R, D2, h0, h1, h2, k0, ?_, r2, okr', oks⟩ ?_ kF (perm_end (S := { S with row := row', trw := tt3, tro := tro2, no := no3, o := o2 }) kN)
              · exact hl'
              · show S.k ≤ S0.k + 30
                omega
end Mine
namespace Mine
theorem rules_T20_1 : True := by
  k_with_none
  k_with "execs cons" => (k_here; (try dsimp only); (with_reducible refine flat ?_); intro ztk'; (with_reducible refine wpAny_execs_cons ?_); (try dsimp only); (try k_fold))
  trivial
theorem rules_T20_2 : True := by
  k_with "my all" => (assumption)
  k_with "my enter" => (refine' code_def ?k1 ?k2 ?k3 ?k4 ?k5 ?kA ?kF ?kK ?k6 ?k7 ?k8 ?k9 ?kB ?_ ?c2 ?c3 ?c4 ?c5; (case kA => exact rfl); (case kF => exact rfl); (case kK => first | assumption | exact rfl); (case k1 => k_asm); (case k2 => k_asm); (case k3 => k_asm); (case k4 => k_asm); (case k5 => k_asm); (case k6 => k_is); (case k7 => k_is); (case k8 => ktr_room); (case k9 => first | exact BindsTo.of_eq rfl | exact binds_K (by k_in) rfl (by k_is) rfl rfl rfl); (case c5 => decide); (case kB => exact locs rfl); (case c2 => exact rfl); (case c3 => exact rfl); (case c4 => exact rfl); k_whole; intro zg' zL' zh' zFG' zF' zN' zB' zX' zT'; (try dsimp only); (try k_fold))
  k_with "my enter" => (refine' code_defC ?k1 ?k2 ?k3 ?k4 ?k5 ?kA ?kF ?kK ?k6 ?k7 ?k8 ?k9 ?kB ?kD ?_ ?c2 ?c3 ?c4; (case kA => exact rfl); (case kF => exact rfl); (case kK => first | assumption | exact rfl); (case k1 => k_asm); (case k2 => k_asm); (case k3 => k_asm); (case k4 => k_asm); (case k5 => k_asm); (case k6 => k_is); (case k7 => k_is); (case k8 => ktr_room); (case k9 => exact BindsTo.of_eq rfl); (case kB => exact rfl); (case kD => decide +kernel); (case c2 => exact rfl); (case c3 => exact rfl); (case c4 => exact rfl); k_whole; intro zg' zL' zh' ztk' zcells' zFG' zF' zN' zY' zB' zX' zT' zl1; (try k_lt zl1); k_cells zY'; (try simp only [List.cons_append, List.nil_append] at zN'); (try dsimp only); (try k_fold))
  k_with "call ref" => (k_here; (with_reducible show wpAny _ _ (call (Value.ref 406) [Value.ref _, Value.int _ _]) _ _ _); k_dflt (refine' cast_app ?B ?F ?X ?N ?T ?hk ?hi ?hl ?hm ?U ?k0 ?k1 ?hs ?hs2 ?hne ?hd ?hu ?_; (case B => k_asm); (case F => k_asm); (case X => k_asm); (case N => k_asm); (case T => k_asm); (case hk => first | exact rfl | assumption); (case hi => assumption); (case hl => assumption); (case hm => k_mem); (case U => intro zt'; k_upd)); (case k0 => omega); (case k1 => omega); (case hs => omega); (case hs2 => omega); (case hne => k_ne); (case hd => ktr_room); (case hu => ktr_room); k_whole; intro zh' ztk' zt3' zt4' zv' zF' zN' zv0' zv1'; (try k_sweep); walk_say "CAST")
  k_with "CompSrc" => (refine hold ?_)
  k_with "CompEnd" => (refine hold ?_)
  k_with "my get" => (assumption)
  k_with "call builtin:len" => (k_here; (with_reducible show wpAny _ _ (call (Value.builtin "len") [Value.ref _]) _ _ _); (refine len_any (by k_asm) (by k_mem) (by rfl) (by rfl) (by omega) ?_))
  k_with "call ref" => ((with_reducible show wpAny _ _ (call (Value.ref 416) _) _ _ _); refine hold ?_)
  k_with "call ref" => ((with_reducible show wpAny _ _ (call (Value.ref 423) _) _ _ _); refine hold ?_)
  k_with "call ref" => ((with_reducible show wpAny _ _ (call (Value.ref 430) _) _ _ _); refine hold ?_)
  k_with "call ref" => ((with_reducible show wpAny _ _ (call (Value.ref 437) _) _ _ _); refine hold ?_)
  k_with "compareOp In int ref" => (refine hold ?_)
  k_with "call builtin:str.join" => (refine hold ?_)
  k_with "compareOp Eq ref ref" => ((with_reducible show wpAny _ _ (compareOp CmpOp.Eq (Value.ref _) (Value.ref _)) _ _ _); refine hold ?_)
  k_with "call builtin:chr" => (k_here; (with_reducible show wpAny _ _ (call (Value.builtin "chr") [Value.int _ _]) _ _ _); (refine chr_of_range (by omega) (by omega) ?_))
  trivial
theorem line_bad {signs many : Int} {row row' : Str} {rows items rows' : List Value} {o : Option Str} (hb : .ref 95 ∈ items) (h : lineP signs many row rows items o row' rows') : o = some (Str.ofString "program_error") ∧ row' = row ∧ rows' = rows := by
  rcases h with ⟨_, h⟩ | ⟨row1, rows1, h1, _⟩
  · exact put_bad hb h
  · have := (put_bad hb h1).1
    cases this
theorem line_full {signs many : Int} {row row' : Str} {rows items rows' : List Value} {o : Option Str} {ps : List Int} (hi : IntsAre items ps) (hf : signs < (row.length : Int) + (glue ps).length) (h : lineP signs many row rows items o row' rows') : o = some (Str.ofString "storage_error") ∧ row' = row ∧ rows' = rows := by
  rcases h with ⟨hs, h⟩ | ⟨row1, rows1, h1, _⟩
  · obtain ⟨rfl, ⟨rfl, h1, rfl⟩ | ⟨rfl, h1, rfl⟩⟩ := put_good hi h
    · cases hs
    · exact ⟨rfl, rfl, rfl⟩
  · obtain ⟨rfl, ⟨_, h1, rfl⟩ | ⟨h0, _⟩⟩ := put_good hi h1
    · omega
    · cases h0
theorem line_fit {signs many : Int} {row row' : Str} {rows items rows' : List Value} {o : Option Str} {ps : List Int} (hi : IntsAre items ps) (hf : (row.length : Int) + (glue ps).length ≤ signs) (h : lineP signs many row rows items o row' rows') : endP many (row ++ glue ps) rows o row' rows' := by
  rcases h with ⟨hs, h⟩ | ⟨row1, rows1, h1, h2⟩
  · obtain ⟨rfl, ⟨rfl, h1, rfl⟩ | ⟨rfl, h1, rfl⟩⟩ := put_good hi h
    · cases hs
    · omega
  · obtain ⟨rfl, ⟨_, h1, rfl⟩ | ⟨h0, _⟩⟩ := put_good hi h1
    · exact h2
    · cases h0
theorem deed0 (w : World) (mean : ExcName → Option Value) (mg mb : Str → Option Value) : DeedSpec w mean mg mb 0 := by
  w_top off
  intro A₀ base h₀ L m s dp un gd cn cs a ccd Q E X S0 rest tw B F X0 N T XB TB hk FO SO k1 hd hu hQ
  obtain ⟨m1, m3, m4, m5, m6, G, hi, hl, lo, off, nd, b1, b2, b3, sd⟩ := id FO
  obtain ⟨sa, sb, R, DS, h0, h1, h2, k0, r1, r2, okr, oks⟩ := SO
  refine wpAny_call ?_
  k_dflt (refine' code_defS0 ?k1 ?k2 ?k3 ?k4 ?k5 ?kA ?k6 ?k7 ?k8 ?k9 ?kB ?_ ?cK ?c2 ?c3 ?c4 ?c5)
  case kA => exact rfl
  case k2 => k_asm
  case k1 => k_asm
  case k3 => k_asm
  case k4 => k_asm
  case k5 => k_asm
  case k6 => k_is
  case k7 => k_is
  case k8 => ktr_room
  case k9 => exact BindsTo.of_eq rfl
  case kB => exact locs rfl
  case cK => exact hk
  case c2 => exact rfl
  case c3 => exact rfl
  case c4 => exact rfl
  case c5 => decide
  k_whole
  intro g' L' h' FG' F' N' B' X' T' D'
  (try dsimp only)
  (try k_fold)
  k_steps
  refine unhold ?_
  refine' text_in B' F' X' (permT N') T' ?kk hi hl k0 ?k1 sd
    (off6 (pw_ne nd 2 4 rfl rfl (by decide)) (pw_ne nd 3 4 rfl rfl (by decide)) (pw_ne nd 0 4 rfl rfl (by decide)) (pw_ne nd 1 4 rfl rfl (by decide)) (Ne.symm (pw_ne nd 4 6 rfl rfl (by decide))) (Ne.symm (pw_ne nd 4 7 rfl rfl (by decide))) (off _ (by simp)))
    ?da ?ua ?qq
  case kk => rfl
  case k1 => omega
  case da =>
    show dp + 1 + 2 < 500
    omega
  case ua =>
    show un + 3 + 16 < 1000
    omega
  case qq =>
  intro hh1 tk1 t3 k' l ys F1 N1 ho1 hk1 hk2 hyl hys
  clear F' N'
  have ho1' := off1_mem ho1
  clear ho1
  obtain ⟨S, hS⟩ : ∃ S : State, S = { S0 with k := k', t1 := t3 } := ⟨_, rfl⟩
  have hSk : S.k = k' := by rw [hS]
  have N1' := permT' (X := X) (S := { S0 with k := k', t1 := t3 }) N1
  rw [← hS] at N1'
  replace sa : StrsAre S.rows S.ss := by rw [hS]; exact sa
  replace sb : StrsAre S.rows2 S.ss := by rw [hS]; exact sb
  replace R : RunE S.es X.wo X.li X.ce X.ln S.hp := by rw [hS]; exact R
  replace DS : S.o.IsDictOf (PySem.strKind PySem.Challenge.pw_pp0007_01 w) (ownK S.row S.tro X.rl X.signs X.many X.room S.hp S.last X.ts X.tm X.tq S.tt S.tc) := by rw [hS]; exact DS
  replace h0 : 0 ≤ S.last := by rw [hS]; exact h0
  replace h1 : S.last ≤ S.hp := by rw [hS]; exact h1
  replace h2 : S.hp ≤ X.room := by rw [hS]; exact h2
  replace r1 : (S.row.length : Int) ≤ X.signs := by rw [hS]; exact r1
  replace r2 : (S.ss.length : Int) ≤ X.many := by rw [hS]; exact r2
  replace okr : PyData.strOk S.row = true := by rw [hS]; exact okr
  replace oks : ∀ x ∈ S.ss, PyData.strOk x = true := by rw [hS]; exact oks
  replace k0 : 0 ≤ S.k := by omega
  have k2 : S.k ≤ S0.k + 12 := by omega
  have hlod : @Ne Nat X.od l := ho1' _ (.tail _ (.tail _ (.head _)))
  have hlrl : @Ne Nat X.rl l := ho1' _ (.tail _ (.tail _ (.tail _ (.head _))))
  have hldw : @Ne Nat X.dwo l := ho1' _ (.tail _ (.tail _ (.tail _ (.tail _ (.head _)))))
  have hlol : @Ne Nat X.ol l := ho1' _ (.tail _ (.tail _ (.tail _ (.tail _ (.tail _ (.head _))))))
  clear N1 N hk1 hk2
  k_steps
  refine unhold ?_
  rename Fr g' L' _ _ => lF'
  rename News g' L' _ _ => lN'
  refine src_list (fun i zs => zs = (ys.take i).map conv) rfl lF' lN' (by k_mem) (by omega) rfl ?step ?fin
  case step =>
    intro i' zs' v' I' oI' C' oC' D2' m2' h' tk' E' s2' hv' hP' hC' hx' F' N'
    obtain ⟨hil, hiv⟩ := List.getElem?_eq_some_iff.mp hv'
    obtain ⟨v, t, rfl, hvv⟩ := hys v' (List.mem_of_getElem? hv')
    have hcv : zs' ++ [conv (.int v t)] = (ys.take (i' + 1)).map conv := by
      rw [List.take_succ_eq_append_getElem hil, List.map_append, ← hP', hiv]; rfl
    clear lF' lN'
    (try k_fold)
    k_steps
    all_goals first | exact F' | exact N' | (rw [← hcv]; show _ ++ [_] = _ ++ [if v < 0 then _ else _]; first | rw [if_pos (by omega)] | rw [if_neg (by omega)])
  case fin =>
    intro zs s2 hs2 hP'
    obtain ⟨g3, rfl⟩ := hs2
    rw [List.take_length] at hP'
    unfold LCg.FinE
    intro D3 h3 tk3 F3 N3 o3
    clear lF' lN'
    have o3' := off1_mem o3
    clear o3
    subst hP'
    (try dsimp only)
    k_steps
    refine unhold ?_
    rename Fr g' L' _ _ => lF'
    rename News g' L' _ _ => lN'
    rename (@LT.lt Nat _ l _ ∧ _) => hD
    rename (@LT.lt Nat _ _ _ ∧ @LT.lt Nat _ l _ ∧ _) => hl2
    rename (@LT.lt Nat _ D3 _ ∧ _) => hdt
    obtain ⟨rest2, FO2, N2, mt1, mt2, mt3, hre⟩ := text_ext (S := S) FO lN' hD hl2 o3' hdt (by with_reducible assumption) (by rw [hS]; exact ho1')
    clear hD hl2 hdt o3' lN' FO m1 m3 m4 m5 m6 off G hlod hlrl hldw hlol ho1' hS hSk
    have hd2 : ¬ 500 ≤ dp + 80 := by omega
    have hu2 : ¬ 1000 ≤ un + 450 := by omega
    repeat (with_reducible rename @LT.lt Nat _ _ _ => hz; clear hz)
    obtain ⟨m1, m3, m4, m5, m6, G, hi, hl, lo, off, nd, b1, b2, b3, sd⟩ := id FO2
    have hQ2 : ∀ h' tk S', StOk w X S' → S'.k ≤ S0.k + 30 → Fr h₀ L h' m → News h₀ L h' (led w X S' rest2) → Q (.bool true) { s with heap := h', toks := tk } := fun h' tk S' a b c N => hQ h' tk S' a b c (led_sub hre N)
    clear hQ
    have hsg : ∀ y ∈ ys.map conv, SignV y := fun y hy => by
      obtain ⟨z, hz, rfl⟩ := List.mem_map.mp hy
      exact conv_ok (hys z hz)
    have hvl : (ys.map conv).length ≤ 5 := by rw [List.length_map]; exact hyl
    have hlr := StrsAre.len_eq sa
    cases hb : ys.any (isInt (-1)) with
    | true =>
      refine kf_in (b := true) N2 (.head _) (by simpa using signs_ints hys) (by simpa using hb) ?_
      have hbad := signs_bad hys hb
      k_steps
      refine unhold ?_
      rename Fr g' L' _ _ => lF'
      rename News g' L' _ _ => lN'
      rename (@LT.lt Nat _ l _ ∧ _) => hav
      obtain ⟨N3, RA⟩ := way3_at (S := S) FO2 R (News.drop2nd lN') hav.2
      clear lN' hav
      have lN' := N3
      refine' law_word_in (w := w) ((law_line_spec (put_row_spec RA ?ra ?rc (.head _) (by repeat (first | exact mt1 | apply List.Mem.tail)) (by repeat (first | exact mt2 | apply List.Mem.tail)) (by repeat (first | exact mt3 | apply List.Mem.tail)) hsg hvl)).mono (d' := 40) (u' := 300) (by decide) (by decide)) B' lF' X' N3 T' XB TB D' ?kk (.inr (.inr (.inr rfl))) ?da ?ua ?qq
      case ra => omega
      case rc => omega
      case kk => rfl
      case da =>
        show dp + 1 + 45 < 500
        omega
      case ua =>
        show un + 3 + 350 < 1000
        omega
      case qq =>
      intro g3 h3 tk3 o t3 row3 tt3 rows3 no3 hP KT F3 N3' B3 X3 P3 D3
      obtain ⟨e1, e2, e3⟩ := line_bad hbad hP
      subst e1
      subst e2
      subst e3
      dsimp only [Option.getD]
      have D2 := DS
      have okr' := okr
      have hl' := r1
      clear lN' B' X' T' D'
      have N4 : News g3 L' h3 ((X.x, instObj 277 X.dx) :: (X.wo, instObj 216 X.dwo) :: (X.dwo, worldD w X.tk1 X.tk2 X.ol S.row tt3) :: (X.ol, listOf S.rows.toArray no3) :: _ :: (X.od, S.o) :: (X.rl, listOf S.rows2.toArray S.nr) :: (X.dice, listOf #[.ref X.sc, .int S.k S.t1] X.n1) :: (X.sc, listOf X.items.toArray X.n2) :: (X.dx, dictOf S.es S.n) :: (X.dce, cellsD w X.tc1 S.last S.tc2) :: rest2) := fun p hp => by
        rcases List.mem_cons.mp hp with rfl | hp
        · exact N3' _ (by repeat (first | exact m1 | apply List.Mem.tail))
        rcases List.mem_cons.mp hp with rfl | hp
        · exact N3' _ (by repeat (first | exact m3 | apply List.Mem.tail))
        · exact N3' p hp
      clear N3' N3 RA
      obtain ⟨q1, q2, q3, ⟨u4, q4⟩, ⟨u5, q5⟩, q6⟩ := id R
      k_steps
      · refine unhold ?_
        rename News g3 L' _ _ => lN'
        refine eq_strsN lN' (by k_mem) (by k_mem) sa sb oks (by show un + 3 + 64 < 9900; omega) ?_
        k_steps
        rename Fr h₀ L _ _ => kF
        rename News h₀ L _ _ => kN
        rw [beq_self_eq_true]
        refine hQ2 _ _ { S with row := S.row, trw := tt3, no := no3 } ⟨sa, sb, R, D2, h0, h1, h2, k0, ?_, r2, okr', oks⟩ ?_ kF (perm_end (S := { S with row := S.row, trw := tt3, no := no3 }) kN)
        · exact hl'
        · show S.k ≤ S0.k + 30
          omega
    | false =>
      refine kf_in (b := false) N2 (.head _) (by simpa using signs_ints hys) (by simpa using hb) ?_
      obtain ⟨ps, hps, hin, hcv⟩ := signs_good hys hb
      rw [hcv] at hsg hvl mt3
      have hpl := ints_len hps
      have hgl := glue_len ps
      k_steps
      refine unhold ?_
      rename Fr g' L' _ _ => lF'
      rename News g' L' _ _ => lN'
      refine src_list (fun i zs => StrsAre zs (chs (ps.take i))) rfl lF' lN' (by k_mem) (by omega) .nil ?step2 ?fin2
      case step2 =>
        intro i' zs' v' I' oI' C' oC' D2' m2' h' tk' E' s2' hv' hP' hC' hx' F' N'
        obtain ⟨v, t, rfl, hvv⟩ := ints_get hps hv'
        have hr := hin v (List.mem_of_getElem? hvv)
        clear lF' lN'
        (try k_fold)
        k_steps
        all_goals first | exact F' | exact N' | exact chs_snoc hvv hP'
      case fin2 =>
        intro zs s2 hs2 hP'
        obtain ⟨g4, rfl⟩ := hs2
        have hzl : ps.take ys.length = ps := by rw [hpl]; exact List.take_length
        rw [hzl] at hP'
        unfold LCg.FinE
        intro D4 h4 tk4 F4 N4 o4
        clear lF' lN'
        (try dsimp only)
        k_steps
        refine unhold ?_
        rename News g' L' _ _ => lN'
        refine join_listC (items := zs.toArray) (ys := chs ps) (News.isList lN' (.head _)) (by simpa using hP') (by decide) ?_ ?_
        · rw [chs_sum, chs_len]
          omega
        · intro t' k9
          k_steps
          refine unhold ?_
          rename Fr g' L' _ _ => lF'
          rename News g' L' _ _ => lN'
          refine' law_said_in (text := glue ps) B' lF' X' (News.skip1 (News.skip1 lN')) T' ?kk DS lo
            (off7 (Ne.symm (pw_ne nd 2 3 rfl rfl (by decide))) (pw_ne nd 0 2 rfl rfl (by decide)) (pw_ne nd 1 2 rfl rfl (by decide)) (Ne.symm (pw_ne nd 2 4 rfl rfl (by decide))) (Ne.symm (pw_ne nd 2 5 rfl rfl (by decide))) (Ne.symm (pw_ne nd 2 6 rfl rfl (by decide))) (Ne.symm (pw_ne nd 2 7 rfl rfl (by decide))) (off _ (by simp)))
            ?ra ?rb ?da ?ua ?qq
          case kk => rfl
          case ra => omega
          case rb => omega
          case da =>
            show dp + 1 + 8 < 500
            omega
          case ua =>
            show un + 3 + 80 < 1000
            omega
          case qq =>
            intro r row' hcase hh2 tk2 t2 o2 tro2 F2 N2 D2
            clear lF' lN'
            have hok := strOk_glue hin
            rcases hcase with ⟨c1, rfl, rfl⟩ | ⟨c1, rfl, rfl⟩
            · k_steps
              refine unhold ?_
              rename Fr g' L' _ _ => lF'
              rename News g' L' _ _ => lN'
              refine' law_ended_in B' lF' X' lN' T' ?kk D2 lo
                (off6 (pw_ne nd 0 2 rfl rfl (by decide)) (pw_ne nd 1 2 rfl rfl (by decide)) (Ne.symm (pw_ne nd 2 4 rfl rfl (by decide))) (Ne.symm (pw_ne nd 2 5 rfl rfl (by decide))) (Ne.symm (pw_ne nd 2 6 rfl rfl (by decide))) (Ne.symm (pw_ne nd 2 7 rfl rfl (by decide))) (off _ (by simp)))
                (off6 (pw_ne nd 0 3 rfl rfl (by decide)) (pw_ne nd 1 3 rfl rfl (by decide)) (Ne.symm (pw_ne nd 3 4 rfl rfl (by decide))) (Ne.symm (pw_ne nd 3 5 rfl rfl (by decide))) (Ne.symm (pw_ne nd 3 6 rfl rfl (by decide))) (Ne.symm (pw_ne nd 3 7 rfl rfl (by decide))) (off _ (by simp)))
                (pw_ne nd 2 3 rfl rfl (by decide)) ?ka ?da ?ua ?qq
              case kk => rfl
              case ka =>
                have := StrsAre.len_eq sb
                omega
              case da =>
                show dp + 1 + 8 < 500
                omega
              case ua =>
                show un + 3 + 80 < 1000
                omega
              case qq =>
              intro r row' rows' hcase2 hh5 tk5 t5 o5 tro5 nr2 F5 N5 D5
              clear lF' lN' D2
              have D2 := D5
              clear D5
              k_steps
              refine unhold ?_
              rename Fr g' L' _ _ => lF'
              rename News g' L' _ _ => lN'
              obtain ⟨N3, RA⟩ := way3_at (S := S) FO2 R lN' (by with_reducible assumption)
              clear lN'
              have lN' := N3
              refine' law_word_in (w := w) ((law_line_spec (put_row_spec RA ?ra ?rc (.head _) (by repeat (first | exact mt1 | apply List.Mem.tail)) (by repeat (first | exact mt2 | apply List.Mem.tail)) (by repeat (first | exact mt3 | apply List.Mem.tail)) hsg hvl)).mono (d' := 40) (u' := 300) (by decide) (by decide)) B' lF' X' N3 T' XB TB D' ?kk (.inr (.inr (.inr rfl))) ?da ?ua ?qq
              case ra => omega
              case rc => omega
              case kk => rfl
              case da =>
                show dp + 1 + 45 < 500
                omega
              case ua =>
                show un + 3 + 350 < 1000
                omega
              case qq =>
              intro g3 h3 tk3 o t3 row3 tt3 rows3 no3 hP KT F3 N3' B3 X3 P3 D3
              obtain ⟨e1, e2, ss', sa', sb', r2', oks', okr', hl'⟩ := agree_end sa sb r2 (strOk_app okr hok) oks hcase2 (line_fit hps c1 hP)
              subst e1
              subst e2
              rw [Str.length_append] at hl'
              clear lN' B' X' T' D'
              have N4 : News g3 L' h3 ((X.x, instObj 277 X.dx) :: (X.wo, instObj 216 X.dwo) :: (X.dwo, worldD w X.tk1 X.tk2 X.ol row' tt3) :: (X.ol, listOf rows3.toArray no3) :: _ :: (X.od, o5) :: (X.rl, listOf rows'.toArray nr2) :: (X.dice, listOf #[.ref X.sc, .int S.k S.t1] X.n1) :: (X.sc, listOf X.items.toArray X.n2) :: (X.dx, dictOf S.es S.n) :: (X.dce, cellsD w X.tc1 S.last S.tc2) :: rest2) := fun p hp => by
                rcases List.mem_cons.mp hp with rfl | hp
                · exact N3' _ (by repeat (first | exact m1 | apply List.Mem.tail))
                rcases List.mem_cons.mp hp with rfl | hp
                · exact N3' _ (by repeat (first | exact m3 | apply List.Mem.tail))
                · exact N3' p hp
              clear N3' N3 RA
              obtain ⟨q1, q2, q3, ⟨u4, q4⟩, ⟨u5, q5⟩, q6⟩ := id R
              k_steps
              · refine unhold ?_
                rename News g3 L' _ _ => lN'
                refine eq_strsN lN' (by k_mem) (by k_mem) sa' sb' oks' (by show un + 3 + 64 < 9900; omega) ?_
                k_steps
                rename Fr h₀ L _ _ => kF
                rename News h₀ L _ _ => kN
                rw [beq_self_eq_true]
                refine hQ2 _ _ { S with row := row', trw := tt3, tro := tro5, rows := rows3, rows2 := rows', no := no3, nr := nr2, ss := ss', o := o5 } ⟨sa', sb', R, D2, h0, h1, h2, k0, ?_, r2', okr', oks'⟩ ?_ kF (perm_end (S := { S with row := row', trw := tt3, tro := tro5, rows := rows3, rows2 := rows', no := no3, nr := nr2, ss := ss', o := o5 }) kN)
                · show (row'.length : Int) ≤ X.signs
                  omega
                · show S.k ≤ S0.k + 30
                  omega
              · rename Fr h₀ L _ _ => kF
                rename News h₀ L _ _ => kN
                rw [beq_self_eq_true]
                refine hQ2 _ _ { S with row := row', trw := tt3, tro := tro5, rows := rows3, rows2 := rows', no := no3, nr := nr2, ss := ss', o := o5 } ⟨sa', sb', R, D2, h0, h1, h2, k0, ?_, r2', okr', oks'⟩ ?_ kF (perm_end (S := { S with row := row', trw := tt3, tro := tro5, rows := rows3, rows2 := rows', no := no3, nr := nr2, ss := ss', o := o5 }) kN)
                · show (row'.length : Int) ≤ X.signs
                  omega
                · show S.k ≤ S0.k + 30
                  omega
            · k_steps
              refine unhold ?_
              rename Fr g' L' _ _ => lF'
              rename News g' L' _ _ => lN'
              obtain ⟨N3, RA⟩ := way3_at (S := S) FO2 R lN' (by with_reducible assumption)
              clear lN'
              have lN' := N3
              refine' law_word_in (w := w) ((law_line_spec (put_row_spec RA ?ra ?rc (.head _) (by repeat (first | exact mt1 | apply List.Mem.tail)) (by repeat (first | exact mt2 | apply List.Mem.tail)) (by repeat (first | exact mt3 | apply List.Mem.tail)) hsg hvl)).mono (d' := 40) (u' := 300) (by decide) (by decide)) B' lF' X' N3 T' XB TB D' ?kk (.inr (.inr (.inr rfl))) ?da ?ua ?qq
              case ra => omega
              case rc => omega
              case kk => rfl
              case da =>
                show dp + 1 + 45 < 500
                omega
              case ua =>
                show un + 3 + 350 < 1000
                omega
              case qq =>
              intro g3 h3 tk3 o t3 row3 tt3 rows3 no3 hP KT F3 N3' B3 X3 P3 D3
              obtain ⟨e1, e2, e3⟩ := line_full hps c1 hP
              subst e1
              subst e2
              subst e3
              dsimp only [Option.getD]
              have okr' := okr
              have hl' := r1
              clear lN' B' X' T' D'
              have N4 : News g3 L' h3 ((X.x, instObj 277 X.dx) :: (X.wo, instObj 216 X.dwo) :: (X.dwo, worldD w X.tk1 X.tk2 X.ol S.row tt3) :: (X.ol, listOf S.rows.toArray no3) :: _ :: (X.od, o2) :: (X.rl, listOf S.rows2.toArray S.nr) :: (X.dice, listOf #[.ref X.sc, .int S.k S.t1] X.n1) :: (X.sc, listOf X.items.toArray X.n2) :: (X.dx, dictOf S.es S.n) :: (X.dce, cellsD w X.tc1 S.last S.tc2) :: rest2) := fun p hp => by
                rcases List.mem_cons.mp hp with rfl | hp
                · exact N3' _ (by repeat (first | exact m1 | apply List.Mem.tail))
                rcases List.mem_cons.mp hp with rfl | hp
                · exact N3' _ (by repeat (first | exact m3 | apply List.Mem.tail))
                · exact N3' p hp
              clear N3' N3 RA
              obtain ⟨q1, q2, q3, ⟨u4, q4⟩, ⟨u5, q5⟩, q6⟩ := id R
              k_steps
              · refine unhold ?_
                rename News g3 L' _ _ => lN'
                refine eq_strsN lN' (by k_mem) (by k_mem) sa sb oks (by show un + 3 + 64 < 9900; omega) ?_
                k_steps
                rename Fr h₀ L _ _ => kF
                rename News h₀ L _ _ => kN
                rw [beq_self_eq_true]
                refine hQ2 _ _ { S with row := S.row, trw := tt3, tro := tro2, no := no3, o := o2 } ⟨sa, sb, R, D2, h0, h1, h2, k0, ?_, r2, okr', oks⟩ ?_ kF (perm_end (S := { S with row := S.row, trw := tt3, tro := tro2, no := no3, o := o2 }) kN)
                · exact hl'
                · show S.k ≤ S0.k + 30
                  omega
end Mine
namespace Mine
section
variable {prog : Program} {w : World} {A : Around} {E : Value → Shared → Prop} {s : Shared} {env : Env} {h₀ : Heap} {x : Str} {body : List Stmt} {Q : Flow → Shared → Prop}
theorem iter_rangeJ {r : Addr} {b₀ : Int} {t₀ u₀ v₀ : Tok} {n : Nat} {m₀ : Str → Option Value} {news : List (Addr × Obj)} (J : Nat → (Str → Option Value) → List (Addr × Obj) → Prop)
    (hh : A.handled = none) (hr : IsRange s.heap r 0 b₀ 1 t₀ u₀ v₀) (hb : b₀ = (n : Int)) (hn100 : n ≤ 100) (F : Fr h₀ env.locals s.heap m₀) (N : News h₀ env.locals s.heap news) (hj : J 0 m₀ news)
    (turn : ∀ i v m₁ nx h tk own, i < n → (∃ t, v = .int (i : Int) t) → nx.map (·.1) = news.map (·.1) → OwnOff own (news.map (·.1)) → J i m₁ nx → Fr h₀ env.locals h (fun y => if y = x then some v else m₁ y) → News h₀ env.locals h (nx ++ own) →
      wpAny (model prog w) A (execs body env) (InvPostN h₀ env.locals (J (i + 1)) own (news.map (·.1)) { s with heap := h, toks := tk } Q) E { s with heap := h, toks := tk })
    (done : ∀ m₁ nx h tk, J n m₁ nx → Fr h₀ env.locals h m₁ → News h₀ env.locals h nx → Q .next { s with heap := h, toks := tk }) :
    wpAny (model prog w) A (pyIter (.ref r)) (fun it s₂ => LoopAtV prog w A h₀ env x body Q E it s₂) E s := by
  subst hb
  have hsm : Builtin.Range.small 0 (n : Int) 1 = true := by
    have : ∀ k : Nat, k ≤ 100 → Builtin.Range.small 0 (k : Int) 1 = true := by decide +kernel
    exact this n hn100
  have hsz : Builtin.Range.rangeSize 0 (n : Int) 1 = ((n : Nat) : Int) := by
    have : ∀ k : Nat, k ≤ 100 → Builtin.Range.rangeSize 0 (k : Int) 1 = ((k : Nat) : Int) := by decide +kernel
    exact this n hn100
  refine wpAny_pyIter_range hr hsm ?_
  have W : Walks prog w A s.heap.objs.size [s.heap.objs.size] [s.heap.objs.size] n (fun i v => i < n ∧ ∃ t, v = .int (0 + i * 1) t)
      (fun i h => IsRangeIter h s.heap.objs.size (0 + (i : Nat) * 1) ((n : Int) - (i : Nat)) 1) := (Walks.range hh _ 0 1 n).bound
  refine loop_invN J W ?_ ?_ ?_ ?_ (by show IsRangeIter _ _ _ _ _; rw [hsz]; simpa using Heap.get?_push_size _ rfl) (F.push _) (fun p hp => ⟨Heap.get?_push_of_some _ (N p hp).1, (N p hp).2⟩) hj ?_ done
  · intro hm
    exact absurd F.ns.lt ((List.mem_singleton.mp hm) ▸ Nat.lt_irrefl _)
  · intro b hb
    rw [List.mem_singleton.mp hb]
    exact next_is_new F
  · intro p hp hI
    exact absurd (Heap.lt_size (N p hp).1) ((List.mem_singleton.mp hI) ▸ Nat.lt_irrefl _)
  · intro p hp hI
    exact absurd (Heap.lt_size (N p hp).1) ((List.mem_singleton.mp hI) ▸ Nat.lt_irrefl _)
  · intro i v m₁ nx h tk own hi hP ha ho hJ F' N'
    obtain ⟨_, t, rfl⟩ := hP
    exact turn i _ m₁ nx h tk own hi ⟨t, by simp⟩ ha ho hJ F' N'
theorem iter_rangeK {r : Addr} {b₀ : Int} {t₀ u₀ v₀ : Tok} {n : Nat} {m₀ : Str → Option Value} {news : List (Addr × Obj)} (J : Nat → List (Addr × Obj) → Prop)
    (hh : A.handled = none) (hr : IsRange s.heap r 0 b₀ 1 t₀ u₀ v₀) (hb : b₀ = (n : Int)) (hn100 : n ≤ 100) (F : Fr h₀ env.locals s.heap m₀) (N : News h₀ env.locals s.heap news) (hj : J 0 news)
    (turn : ∀ i v nx h tk own, i < n → (∃ t, v = .int (i : Int) t) → OwnOff own (news.map (·.1)) → J i nx → Fr h₀ env.locals h (fun y => if y = x then some v else m₀ y) → News h₀ env.locals h (nx ++ own) →
      wpAny (model prog w) A (execs body env) (InvPostN h₀ env.locals (fun m nx => (∀ z, z ≠ x → m z = m₀ z) ∧ J (i + 1) nx) own (news.map (·.1)) { s with heap := h, toks := tk } Q) E { s with heap := h, toks := tk })
    (done : ∀ u nx h tk, J n nx → Fr h₀ env.locals h (fun y => if y = x then u else m₀ y) → News h₀ env.locals h nx → Q .next { s with heap := h, toks := tk }) :
    wpAny (model prog w) A (pyIter (.ref r)) (fun it s₂ => LoopAtV prog w A h₀ env x body Q E it s₂) E s := by
  refine iter_rangeJ (fun i m nx => (∀ z, z ≠ x → m z = m₀ z) ∧ J i nx) hh hr hb hn100 F N ⟨fun _ _ => rfl, hj⟩ ?_ ?_
  · intro i v m₁ nx h tk own hi hP ha ho hJ F' N'
    have e : (fun y => if y = x then some v else m₁ y) = (fun y => if y = x then some v else m₀ y) := by
      funext y
      by_cases q : y = x
      · simp [q]
      · simp only [if_neg q]; exact hJ.1 y q
    rw [e] at F'
    exact turn i v nx h tk own hi hP ho hJ.2 F' N'
  · intro m₁ nx h tk hJ F' N'
    have e : m₁ = (fun y => if y = x then m₁ x else m₀ y) := by
      funext y
      by_cases q : y = x
      · simp [q]
      · simp only [if_neg q]; exact hJ.1 y q
    rw [e] at F'
    exact done _ nx h tk hJ.2 F' N'
end
theorem FixOk.app {X : Fixed} {rest own : List (Addr × Obj)} (FO : FixOk X rest) (ho : ∀ p ∈ own, ∀ a ∈ [X.dwo, X.ol, X.od, X.rl, X.dice, X.dx, X.dce], p.1 ≠ a) : FixOk X (rest ++ own) := by
  obtain ⟨m1, m3, m4, m5, m6, G, hi, hl, lo, off, nd, b1, b2, b3, sd⟩ := FO
  refine ⟨List.mem_append_left _ m1, List.mem_append_left _ m3, List.mem_append_left _ m4, List.mem_append_left _ m5, List.mem_append_left _ m6, G, hi, hl, lo, fun a ha p hp => ?_, nd, b1, b2, b3, sd⟩
  rcases List.mem_append.mp hp with hp | hp
  · exact off a ha p hp
  · exact ho p hp a ha
theorem own_off {w : World} {X : Fixed} {S : State} {rest own : List (Addr × Obj)} (ho : OwnOff own ((led w X S rest).map (·.1))) : ∀ p ∈ own, ∀ a ∈ [X.dwo, X.ol, X.od, X.rl, X.dice, X.dx, X.dce], p.1 ≠ a := fun p hp a ha => ho p hp a (by
  simp only [List.mem_cons, List.not_mem_nil, or_false] at ha
  simp only [List.map_cons, List.mem_cons]
  rcases ha with rfl | rfl | rfl | rfl | rfl | rfl | rfl
  all_goals simp)
theorem StOk.cast {w : World} {X : Fixed} {S : State} {t : Tok} (SO : StOk w X S) : StOk w X { S with k := S.k + 1, t1 := t } := by
  obtain ⟨sa, sb, R, DS, h0, h1, h2, k0, r1, r2, okr, oks⟩ := SO
  exact ⟨sa, sb, R, DS, h0, h1, h2, by show 0 ≤ S.k + 1; omega, r1, r2, okr, oks⟩
section
variable {w : World} {mean : ExcName → Option Value} {mg mb : Str → Option Value} {A₀ : Around} {base h₀ : Heap} {L : Addr} {m : Str → Option Value}
  {s : Shared} {dp un : Nat} {gd : Option (List Code)} {cn : Str} {cs : Scope} {a : Addr} {ccd : Value} {Q E : Value → Shared → Prop}
theorem DeedSpec.use {way : Int} {X : Fixed} {S : State} {rest : List (Addr × Obj)} {tw : Tok} (C : DeedSpec w mean mg mb way) (B : Below A₀ base [] h₀) (F : Fr h₀ L s.heap m) (X0 : (Mine.KK w.params).In h₀) (N : News h₀ L s.heap (led w X S rest)) (T : Top Mine.vw loo mean mg mb h₀)
    (XB : (Mine.KK w.params).In base) (TB : Top Mine.vw loo mean mg mb base) (hk : cs.kind = .function) (FO : FixOk X rest) (SO : StOk w X S) (k1 : S.k < 70000) (hd : dp + 80 < 500) (hu : un + 450 < 1000)
    (hQ : ∀ h' tk S', StOk w X S' → S'.k ≤ S.k + 30 → Fr h₀ L h' m → News h₀ L h' (led w X S' rest) → Q (.bool true) { s with heap := h', toks := tk }) :
    wpAny (model PySem.Challenge.pw_pp0007_01 w) (ktrTop dp un gd cn cs L a ccd [] []) (call (.ref 456) [.ref X.x, .ref X.od, .ref X.dice, .int way tw]) Q E s :=
  C _ _ _ _ _ _ _ _ _ _ _ _ _ _ _ _ _ _ _ B F X0 N T XB TB hk FO SO k1 hd hu hQ
end
theorem law_pack {w : World} {g h : Heap} {L rl od ce dce x dx li dli ol wo dwo D2 dice sc : Addr} {o oD : Obj} {es ls : List DictEntry} {n nl no nr n1 n2 : Nat} {tk1 tk2 tr tro ts tm tq tt tc tc1 tc2 t1 : Tok} {k signs many room : Int} {items : List Value} {ns : List Int}
    (N : News g L h ((rl, listOf #[] nr) :: (od, o) :: (ce, instObj 141 dce) :: (dce, cellsD w tc1 0 tc2) :: (x, instObj 277 dx) :: (dx, dictOf es n) :: (li, instObj 299 dli) :: (dli, dictOf ls nl) :: (ol, listOf #[] no) :: (wo, instObj 216 dwo) :: (dwo, worldD w tk1 tk2 ol (Str.ofString "") tr) :: (D2, oD) :: (dice, listOf #[.ref sc, .int k t1] n1) :: (sc, listOf items.toArray n2) :: []))
    (R : RunE es wo li ce 5 0) (hs : o.IsDictOf (PySem.strKind PySem.Challenge.pw_pp0007_01 w) (ownK (Str.ofString "") tro rl signs many room 0 0 ts tm tq tt tc)) (lo : (od == sysModules) = false) (hi : IntsAre items ns) (hl : ns.length ≤ 63) (G : LimE ls signs many room)
    (f1 : @LT.lt Nat _ sc dice) (f2 : @LT.lt Nat _ dice D2) (f3 : @LT.lt Nat _ D2 dwo) (f4 : @LT.lt Nat _ dwo wo) (f5 : @LT.lt Nat _ wo ol) (f6 : @LT.lt Nat _ ol dli) (f7 : @LT.lt Nat _ dli li) (f8 : @LT.lt Nat _ li dx) (f9 : @LT.lt Nat _ dx x) (f10 : @LT.lt Nat _ x dce) (f11 : @LT.lt Nat _ dce ce) (f12 : @LT.lt Nat _ ce od) (f13 : @LT.lt Nat _ od rl)
    (k0 : 0 ≤ k) (a1 : 0 ≤ signs) (a2 : signs ≤ 50) (a3 : 0 ≤ many) (a4 : many ≤ 50) (a5 : 0 ≤ room) (a6 : room ≤ 100) :
    ∃ (X : Fixed) (S : State) (rest : List (Addr × Obj)), X.x = x ∧ X.od = od ∧ X.dice = dice ∧ S.k = k ∧ FixOk X rest ∧ StOk w X S ∧ News g L h (led w X S rest) := by
  refine ⟨{ dwo := dwo, ol := ol, od := od, rl := rl, dice := dice, sc := sc, dx := dx, dce := dce, x := x, wo := wo, li := li, dli := dli, ce := ce, ls := ls, nl := nl, items := items, ns := ns, n1 := n1, n2 := n2, ln := 5, signs := signs, many := many, room := room, tk1 := tk1, tk2 := tk2, tc1 := tc1, ts := ts, tm := tm, tq := tq },
    { row := Str.ofString "", trw := tr, tro := tro, rows := [], rows2 := [], no := no, nr := nr, ss := [], k := k, t1 := t1, es := es, n := n, hp := 0, last := 0, tc2 := tc2, tt := tt, tc := tc, o := o },
    [(ce, instObj 141 dce), (x, instObj 277 dx), (li, instObj 299 dli), (dli, dictOf ls nl), (wo, instObj 216 dwo)], rfl, rfl, rfl, rfl, ⟨?_, ?_, ?_, ?_, ?_, G, hi, hl, lo, ?_, ?_, a2, a4, a6, f1⟩, ⟨.nil, .nil, R, hs, Int.le_refl _, Int.le_refl _, a5, k0, ?_, ?_, strOk_nil, fun _ h => nomatch h⟩, News.sub N fun p hp => ?_⟩
  · repeat (first | exact .head _ | apply List.Mem.tail)
  · repeat (first | exact .head _ | apply List.Mem.tail)
  · repeat (first | exact .head _ | apply List.Mem.tail)
  · repeat (first | exact .head _ | apply List.Mem.tail)
  · repeat (first | exact .head _ | apply List.Mem.tail)
  · intro a ha p hp
    simp only [List.mem_cons, List.not_mem_nil, or_false] at ha hp
    rcases hp with rfl | rfl | rfl | rfl | rfl <;> rcases ha with rfl | rfl | rfl | rfl | rfl | rfl | rfl <;> (show @Ne Nat _ _; omega)
  · simp only [List.pairwise_cons, List.mem_cons, List.not_mem_nil, or_false]
    refine ⟨?_, ?_, ?_, ?_, ?_, ?_, ?_, ?_, List.Pairwise.nil⟩
    all_goals (intro a ha; (try rcases ha with rfl | rfl | rfl | rfl | rfl | rfl | rfl); (try rcases ha with rfl | rfl | rfl | rfl | rfl | rfl); (try rcases ha with rfl | rfl | rfl | rfl | rfl); (try rcases ha with rfl | rfl | rfl | rfl); (try rcases ha with rfl | rfl | rfl); (try rcases ha with rfl | rfl); (try subst ha))
    all_goals first | (exact False.elim ha) | (show @Ne Nat _ _; omega)
  · exact a1
  · exact a3
  · iterate 8 (rcases List.mem_cons.mp hp with rfl | hp; (· repeat (first | exact .head _ | apply List.Mem.tail)))
    iterate 5 (rcases List.mem_cons.mp hp with rfl | hp; (· repeat (first | exact .head _ | apply List.Mem.tail)))
    cases hp
end Mine
namespace Mine
theorem rules_T21_1 : True := by
  k_with_none
  k_with "eval Call" => (k_fold; walk1)
  k_with "eval Compare" => (k_fold; walk1)
  k_with "eval BinOp" => (k_fold; walk1)
  k_with "eval Subscript" => (k_fold; walk1)
  k_with "eval IfExp" => (k_fold; walk1)
  k_with "eval Tuple" => (k_fold; walk1)
  k_with "eval List" => (k_fold; walk1)
  k_with "eval BoolOp" => (k_fold; walk1)
  k_with "execs cons" => (k_here; (try dsimp only); (with_reducible refine flat ?_); intro ztk'; (with_reducible refine wpAny_execs_cons ?_); (try dsimp only); (try k_fold))
  trivial
theorem rules_T21_2 : True := by
  k_with "my all" => (assumption)
  k_with "my enter" => (refine' code_def ?k1 ?k2 ?k3 ?k4 ?k5 ?kA ?kF ?kK ?k6 ?k7 ?k8 ?k9 ?kB ?_ ?c2 ?c3 ?c4 ?c5; (case kA => exact rfl); (case kF => exact rfl); (case kK => first | assumption | exact rfl); (case k1 => k_asm); (case k2 => k_asm); (case k3 => k_asm); (case k4 => k_asm); (case k5 => k_asm); (case k6 => k_is); (case k7 => k_is); (case k8 => ktr_room); (case k9 => first | exact BindsTo.of_eq rfl | exact binds_K (by k_in) rfl (by k_is) rfl rfl rfl); (case c5 => decide); (case kB => exact locs rfl); (case c2 => exact rfl); (case c3 => exact rfl); (case c4 => exact rfl); k_whole; intro zg' zL' zh' zFG' zF' zN' zB' zX' zT'; (try dsimp only); (try k_fold))
  k_with "my enter" => (refine' code_defC ?k1 ?k2 ?k3 ?k4 ?k5 ?kA ?kF ?kK ?k6 ?k7 ?k8 ?k9 ?kB ?kD ?_ ?c2 ?c3 ?c4; (case kA => exact rfl); (case kF => exact rfl); (case kK => first | assumption | exact rfl); (case k1 => k_asm); (case k2 => k_asm); (case k3 => k_asm); (case k4 => k_asm); (case k5 => k_asm); (case k6 => k_is); (case k7 => k_is); (case k8 => ktr_room); (case k9 => exact BindsTo.of_eq rfl); (case kB => exact rfl); (case kD => decide +kernel); (case c2 => exact rfl); (case c3 => exact rfl); (case c4 => exact rfl); k_whole; intro zg' zL' zh' ztk' zcells' zFG' zF' zN' zY' zB' zX' zT' zl1; (try k_lt zl1); k_cells zY'; (try simp only [List.cons_append, List.nil_append] at zN'); (try dsimp only); (try k_fold))
  k_with "call ref" => (k_here; (with_reducible show wpAny _ _ (call (Value.ref 406) [Value.ref _, Value.int _ _]) _ _ _); k_dflt (refine' cast_app ?B ?F ?X ?N ?T ?hk ?hi ?hl ?hm ?U ?k0 ?k1 ?hs ?hs2 ?hne ?hd ?hu ?_; (case B => k_asm); (case F => k_asm); (case X => k_asm); (case N => k_asm); (case T => k_asm); (case hk => first | exact rfl | assumption); (case hi => assumption); (case hl => assumption); (case hm => k_mem); (case U => intro zt'; k_upd)); (case k0 => omega); (case k1 => omega); (case hs => omega); (case hs2 => omega); (case hne => k_ne); (case hd => ktr_room); (case hu => ktr_room); k_whole; intro zh' ztk' zt3' zt4' zv' zF' zN' zv0' zv1'; (try k_sweep); walk_say "CAST")
  k_with "CompSrc" => (refine hold ?_)
  k_with "CompEnd" => (refine hold ?_)
  k_with "my get" => (assumption)
  k_with "call ref" => (k_here; (with_reducible show wpAny _ _ (call (Value.ref 277) [Value.ref _, Value.ref _]) _ _ _); k_dflt (refine' mk_run ?B ?F ?X ?N ?T ?hk ?hd ?hu ?_; (case B => k_asm); (case F => k_asm); (case X => k_asm); (case N => k_asm); (case T => k_asm); (case hk => first | exact rfl | assumption)); (case hd => ktr_room); (case hu => ktr_room); k_whole; intro zh' ztk' zx' zdx' zes' zn' zce' zdce' ztk2' zt2' zF' zN' zhR' zl1 zl2 zl3 zl4; (try simp only [AllLt, and_true] at zl4); (try k_sweep))
  k_with "setAttr ref" => (k_here; (with_reducible show wpAny _ _ (setAttr (Value.ref _) (Str.ofString "line") (Value.int _ _)) _ _ _); k_dflt (refine' set_line ?F ?X ?N ?m1 ?U ?R ?_; (case F => k_asm); (case X => k_asm); (case N => k_asm); (case R => assumption); (case m1 => k_mem); (case U => intro zes' zn'; k_upd)); k_whole; intro zh' zes' zn' zF' zN' zhR'; (try k_sweep))
  k_with "execs cons" => ((rename Obj.IsDictOf _ _ (strPairs _) => zhq9); refine hold ?_)
  k_with "eval Dict" => (refine hold ?_)
  k_with "KdnMade" => (refine hold ?_)
  k_with "call ref" => ((with_reducible show wpAny _ _ (call (Value.ref 406) [Value.ref _, Value.int _ _]) _ _ _); refine hold ?_)
  k_with "call ref" => ((with_reducible show wpAny _ _ (call (Value.ref 277) _) _ _ _); refine hold ?_)
  k_with "setAttr ref" => ((with_reducible rename RunE _ _ _ _ _ _ => zhR9); refine hold ?_)
  k_with "exec For Name Call cons nil" => (refine hold ?_)
  k_with "LCAST" => (refine unhold ?_; refine' cast_app ?B ?F ?X ?N ?T ?hk ?hi ?hl ?hm ?U ?k0 ?k1 ?hs ?hs2 ?hne ?hd ?hu ?_; (case B => k_asm); (case F => k_asm); (case X => k_asm); (case N => k_asm); (case T => k_asm); (case hk => exact rfl); (case hi => assumption); (case hl => assumption); (case hm => k_mem); (case U => (intro zt'; k_upd)); (case k0 => omega); (case k1 => omega); (case hs => omega); (case hs2 => omega); (case hne => k_ne); (case hd => decide); (case hu => decide); intro zh' ztk' zt3' zt4' zv' zF' zN' zv0' zv1'; (try k_sweep))
  trivial
theorem take63 {vs : List Value} {ns : List Int} (_h : IntsAre vs ns) (hc : ¬ ((63 : Nat) : Int) < (ns.length : Int)) : (List.take 70 ns).length ≤ 63 := by
  have := List.length_take_le 70 ns
  have h2 : (List.take 70 ns).length = min 70 ns.length := List.length_take
  omega
theorem rules_T21_3 : True := by
  k_with "call ref" => ((with_reducible show wpAny _ _ (call (Value.ref 456) _) _ _ _); refine hold ?_)
  k_with "pyIter ref" => (refine hold ?_)
  trivial
theorem deed_any {w : World} {v : Int} (h0 : 0 ≤ v) (h1 : v < 5) (mean : ExcName → Option Value) (mg mb : Str → Option Value) : DeedSpec w mean mg mb v := by
  have hv : v = 0 ∨ v = 1 ∨ v = 2 ∨ v = 3 ∨ v = 4 := by omega
  rcases hv with rfl | rfl | rfl | rfl | rfl
  · exact deed0 _ _ _ _
  · exact deed1 _ _ _ _
  · exact deed2 _ _ _ _
  · exact deed3 _ _ _ _
  · exact deed4 _ _ _ _
theorem lawH : PySem.Challenge.rw_pp0007_01.Holds := by
  w_on
  refine holds_law said0 fun said => ?_
  refine holds_open (q := vw) (loose := ls) (Xt := xt) (XP := XL vw []) (Yf := Hook.obs hk) (Ya := Hook.val hk) (YP := Hook.says hk) (N := 8198) left0 (Hook.of hk) (Hook.keeps hk) (fun s e => xl_of s (Bool.and_eq_true_iff.mp e).1) XL.keeps (by rfl) (by rfl) (by rfl) (fun s e => recFacts_of (Bool.and_eq_true_iff.mp e).2) (by rfl) said (by decide +kernel) ⟨rfl, rfl, rfl, rfl, rfl, by decide +kernel⟩ ?hw ?hc
  case hw => w_witness2
  clear said
  k_go0
  rename IntsAre _ _ => hI0
  rename ¬ _ < _ => hc0
  have hl63 := take63 hI0 hc0
  (all_goals try k_fold)
  k_steps
  walk_at "LCAST"
  k_steps
  walk_at "LCAST"
  k_steps
  walk_at "LCAST"
  k_steps
  refine unhold ?_
  refine' mk_run ?B ?F ?X ?N ?T ?hk ?hd ?hu ?_
  case B => k_asm
  case F => k_asm
  case X => k_asm
  case N => k_asm
  case T => k_asm
  case hk => exact rfl
  case hd => decide
  case hu => decide
  intro h' tk' x' dx' es' n' ce' dce' tk2' t2' F' N' hR' l1 l2 l3 l4
  (try simp only [AllLt, and_true] at l4)
  (try k_sweep)
  repeat (rename Below _ _ (_ :: _) _ => hq; clear hq)
  k_steps
  refine unhold ?_
  refine' set_line ?F ?X ?N ?m1 ?U ?R ?_
  case F => k_asm
  case X => k_asm
  case N => k_asm
  case R => assumption
  case m1 => k_mem
  case U => (intro es' n'; k_upd)
  intro h' es' n' F' N' hR'
  (try k_sweep)
  k_steps
  refine unhold ?_
  refine' kdn_str ?jq ?jF ?jN ?jb ?ja ?jl ?je ?jn ?_
  case jq => rfl
  case jF => k_asm
  case jN => k_asm
  case jb => exact Top.nolimit (by k_asm)
  case ja => rfl
  case jl => rfl
  case je => exact List.cons_ne_nil _ _
  case jn => exact Nat.le_of_ble_eq_true rfl
  intro d' h' o' F' N' l1 lo' hd'
  (try k_lt l1)
  k_steps
  refine unhold ?_
  refine' kdn_made_str ?jF ?jN ?jU ?jd ?jk ?jn ?_
  case jF => k_asm
  case jN => k_asm
  case jU => k_updF
  case jd => k_asm
  case jk => rfl
  case jn =>
    show [Str.ofString "row", Str.ofString "rows", Str.ofString "signs", Str.ofString "many", Str.ofString "room", Str.ofString "taken", Str.ofString "cells"].Nodup
    decide +kernel
  intro h' o' F' N' hd'
  (try dsimp only at N')
  k_steps
  refine unhold ?_
  with_reducible refine wpAny_execs_cons ?_
  (try dsimp only)
  repeat (with_reducible rename _ ∧ _ => hcj; cases hcj)
  rename Obj.IsDictOf _ _ (strPairs _) => hdS
  obtain ⟨X, S, rest, hx, hod, hdi, hSk, FO, SO, NP⟩ := law_pack (by k_asm) hR' hdS (by assumption) (by assumption) hl63 ⟨⟨_, rfl⟩, ⟨_, rfl⟩, ⟨_, rfl⟩⟩ (by with_reducible assumption) (by with_reducible assumption) (by with_reducible assumption) (by with_reducible assumption) (by with_reducible assumption) (by with_reducible assumption) (by with_reducible assumption) (by with_reducible assumption) (by with_reducible assumption) (by with_reducible assumption) (by with_reducible assumption) (by with_reducible assumption) (by with_reducible assumption)
    (by decide) (by omega) (by omega) (by omega) (by omega) (by omega) (by omega)
  subst hx
  subst hod
  subst hdi
  rename Fr _ _ _ _ => lF'
  clear hdS hR'
  repeat (with_reducible rename @LT.lt Nat _ _ _ => hz; clear hz)
  repeat (with_reducible rename @LT.lt Int _ _ _ => hz; clear hz)
  repeat (with_reducible rename @LE.le Int _ _ _ => hz; clear hz)
  clear hl63 hc0 hI0
  (with_unfolding_all refine' For_invVF lF' ?kx1 ?kx2 ?_)
  case kx1 => exact rfl
  case kx2 => exact rfl
  k_whole
  k_steps
  refine unhold ?_
  refine' cast_app ?B ?F ?X NP ?T ?hk FO.hi FO.hl ?hm (updD FO) SO.k0 ?k1 ?hs ?hs2 ?hne ?hd ?hu ?_
  case B => k_asm
  case F => k_asm
  case X => k_asm
  case T => k_asm
  case hk => exact rfl
  case hm => repeat (first | exact .head _ | apply List.Mem.tail)
  case k1 => omega
  case hs => omega
  case hs2 => omega
  case hne => exact Ne.symm (pw_ne FO.nd 4 5 rfl rfl (by decide))
  case hd => decide
  case hu => decide
  intro h' tk' t3' t4' v' F' NP1 v0' v1'
  have SO1 := SO.cast (t := t3')
  have hS1 : S.k + 1 ≤ 4 := by omega
  obtain ⟨S1, hS1e⟩ : ∃ S1 : State, S1 = { S with k := S.k + 1, t1 := t3' } := ⟨_, rfl⟩
  rw [← hS1e] at SO1 NP1
  have hS1k : S1.k ≤ 4 := by rw [hS1e]; exact hS1
  clear hS1e hS1 hSk SO NP lF'
  k_steps
  refine unhold ?_
  rename IsRange _ _ _ _ _ _ _ _ => hRg
  rename Fr _ _ _ _ => lF'
  rename News _ _ _ _ => lN'
  with_unfolding_all refine iter_rangeK (n := v'.toNat) (fun i nx => ∃ S' : State, nx = led _ X S' rest ∧ StOk _ X S' ∧ S'.k ≤ 10 + 40 * (i : Int)) rfl hRg (by omega) (by omega) lF' lN' ⟨S1, rfl, SO1, by omega⟩ ?turn ?done
  case turn =>
    intro i v nx hh tk own hin hiv ho hJ F2 N2
    obtain ⟨S2, rfl, SO2, hk2⟩ := hJ
    have FO2 := FO.app (own_off ho)
    have N3 : News _ _ hh (led _ X S2 (rest ++ own)) := N2
    clear lF' lN' N2
    k_steps
    refine unhold ?_
    refine' cast_app ?B ?F ?X N3 ?T ?hk FO2.hi FO2.hl ?hm (updD FO2) SO2.k0 ?k1 ?hs ?hs2 ?hne ?hd ?hu ?_
    case B => k_asm
    case F => k_asm
    case X => k_asm
    case T => k_asm
    case hk => exact rfl
    case hm => repeat (first | exact .head _ | apply List.Mem.tail)
    case k1 => omega
    case hs => omega
    case hs2 => omega
    case hne => exact Ne.symm (pw_ne FO2.nd 4 5 rfl rfl (by decide))
    case hd => decide
    case hu => decide
    intro h5 tk5 t5 t6 v5 F5 NP5 v50 v51
    have SO5 := SO2.cast (t := t5)
    clear F2 N3
    k_steps
    refine unhold ?_
    rename Fr _ _ _ _ => lF'
    refine' (deed_any v50 v51 _ _ _).use ?B lF' ?X NP5 ?T ?XB ?TB ?hk FO2 SO5 ?k1 ?hd ?hu ?_
    case B => k_asm
    case X => k_asm
    case T => k_asm
    case XB => k_asm
    case TB => k_asm
    case hk => exact rfl
    case k1 =>
      show S2.k + 1 < 70000
      omega
    case hd => decide
    case hu => decide
    intro h6 tk6 S6 SO6 hk6 F6 N6
    have hk6' : S6.k ≤ S2.k + 1 + 30 := hk6
    clear lF' NP5
    k_steps
    rename Fr _ _ _ _ => lF'
    refine ⟨_, _, _, _, led _ X S6 rest, rfl, lF', N6, ?_, ?_, rfl, fun z hz => ?_, S6, rfl, SO6, by omega⟩
    · intro p hp
      iterate 8 (rcases List.mem_cons.mp hp with rfl | hp; (· repeat (first | exact .head _ | apply List.Mem.tail)))
      repeat (first | exact List.mem_append_left _ hp | apply List.Mem.tail)
    · intro p hp
      repeat (first | exact List.mem_append_right _ hp | apply List.Mem.tail)
    · simp only [if_neg hz]
  case done =>
    intro u nx hh tk hJ F2 N2
    obtain ⟨S2, rfl, SO2, hk2⟩ := hJ
    clear lF' lN'
    k_steps
    refine unhold ?_
    rename Fr _ _ _ _ => lF'
    refine' (deed0 _ _ _ _).use ?B lF' ?X N2 ?T ?XB ?TB ?hk FO SO2 ?k1 ?hd ?hu ?_
    case B => k_asm
    case X => k_asm
    case T => k_asm
    case XB => k_asm
    case TB => k_asm
    case hk => exact rfl
    case k1 =>
      omega
    case hd => decide
    case hu => decide
    intro h6 tk6 S6 SO6 hk6 F6 N6
    k_steps
end Mine
theorem PySem.Challenge.cw_pp0007_01_holds : PySem.Challenge.rw_pp0007_01.Holds :=
  Mine.lawH
