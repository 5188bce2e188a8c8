import PyProof.Rows.All
import Wide.All
import OpenK.AllK
import Wide.FinOn
import PySem.Challenge.RW_rg0220_01
open PySem PySem.W PyProof.Rows
section
open PySem PySem.W PyProof.Rows
set_option Elab.async false
namespace Mine
abbrev pw : Program := PySem.Challenge.pw_rg0220_01
def env0 : Env := { scope := pw.main.scope, locals := mainNs, globals := mainNs, cells := [], code := .ref 13, frame := some 14 }
def body0 : List Stmt := behindTheImports pw
def cE : Code := .body body0 env0
def pos0 : Pos := ⟨0, 0, 0, 0⟩
def posL : Pos := ⟨619, 0, 633, 15⟩
def ann0 : Option Value := some (.ref 6)
def o11 : Obj := { cls := .type "tuple", dict := none, data := .seq (List.toArray []) 0, slots := List.toArray [] }
def o12 : Obj := { cls := .none, dict := none, data := .fields (List.toArray []), slots := List.toArray [] }
def o13 : Obj := { cls := .type "code", dict := none, data := .fields (List.toArray [.str (Str.ofString "<module>") 182, .str (Str.ofString "<module>") 183, .str (Str.ofString "/claim/cut.py") 184, .int 1 0, .int 0 0, .int 0 0, .int 0 0, .int 0 0, .ref 11, .bool false, .int 181 0, .ref 12, .none, .none, .none, .none, .int 185 0, .int 1 0, .str (Str.ofString "/claim/cut.py") 186]), slots := List.toArray [] }
def o14 : Obj := { cls := .type "frame", dict := none, data := .plain, slots := List.toArray [some (.ref 13), some (.ref 3), some (.ref 3), none, some (.str (Str.ofString "__main__") 164), none, some (.ref 0)] }
noncomputable def objs0 (P : Params) : List Obj := (boot_heap P).objs.toList ++ [o11, o12, o13, o14]
noncomputable def evens : List Obj → List Obj
  | [] => []
  | [x] => [x]
  | x :: _ :: r => x :: evens r
noncomputable def odds : List Obj → List Obj
  | [] => []
  | [_] => []
  | _ :: y :: r => y :: odds r
noncomputable def btOf : Nat → List Obj → BT
  | 0, _ => .nil
  | _ + 1, [] => .nil
  | n + 1, x :: r => .node x (btOf n (evens r)) (btOf n (odds r))
def life0 : Life := {}
theorem life_ok (P : Params) : (boot_heap P).life = life0 := rfl
noncomputable def tree0 (P : Params) : BT := btOf 8 (objs0 P)
abbrev B0 : List Frame := [topFrame pos0]
noncomputable abbrev S0 (w : World) (os : OsState) : Shared := ⟨boot_heap w.params, Array.mk [], boot_drawn, boot_toks, os⟩
noncomputable abbrev Sa (w : World) (os : OsState) : SharedT := ⟨tree0 w.params, 15, life0, Array.mk [], boot_drawn, 187, os⟩
theorem pre0 : ∀ w : World, (fun os => topGo treeTable pw w 11 ann0 12 (S0 w os) (topStub pw)) = fun os => some ((Sa w os).abs, ⟨denote treeTable cE, cE, pos0, B0⟩) := by
  intro w
  kernel_rfl
end Mine
end
section
open PySem PySem.W PyProof.Rows
set_option Elab.async false
namespace Mine
abbrev litOf {α : Type} {a b : α} (_h : a = b) : α := b
noncomputable def stAt (i : Nat) : Stmt := (pw.main.body[i]?).getD (.Pass pos0)
noncomputable def inCls (i j : Nat) : Stmt := match stAt i with
  | .ClassDef _ _ _ b _ _ _ _ _ _ _ => (b[j]?).getD (.Pass pos0)
  | s => s
def noArgs : Arguments := { posonlyargs := [], args := [], vararg := none, kwonlyargs := [], kw_defaults := [], kwarg := none, defaults := [] }
def fArgs : Stmt → Arguments
  | .FunctionDef _ a _ _ _ _ _ _ _ _ => a
  | _ => noArgs
def fBody : Stmt → List Stmt
  | .FunctionDef _ _ b _ _ _ _ _ _ _ => b
  | _ => []
noncomputable def fScope : Stmt → Scope
  | .FunctionDef _ _ _ _ _ _ s _ _ _ => s
  | _ => pw.main.scope
noncomputable abbrev A35x0 : Arguments := litOf (a := fArgs (inCls 35 0)) (b := _) (by conv => lhs; whnf)
noncomputable abbrev B35x0 : List Stmt := litOf (a := fBody (inCls 35 0)) (b := _) (by conv => lhs; whnf)
noncomputable abbrev S35x0 : Scope := litOf (a := fScope (inCls 35 0)) (b := _) (by conv => lhs; whnf)
noncomputable abbrev A35x2 : Arguments := litOf (a := fArgs (inCls 35 2)) (b := _) (by conv => lhs; whnf)
noncomputable abbrev B35x2 : List Stmt := litOf (a := fBody (inCls 35 2)) (b := _) (by conv => lhs; whnf)
noncomputable abbrev S35x2 : Scope := litOf (a := fScope (inCls 35 2)) (b := _) (by conv => lhs; whnf)
noncomputable abbrev A35x3 : Arguments := litOf (a := fArgs (inCls 35 3)) (b := _) (by conv => lhs; whnf)
noncomputable abbrev B35x3 : List Stmt := litOf (a := fBody (inCls 35 3)) (b := _) (by conv => lhs; whnf)
noncomputable abbrev S35x3 : Scope := litOf (a := fScope (inCls 35 3)) (b := _) (by conv => lhs; whnf)
noncomputable abbrev A35x4 : Arguments := litOf (a := fArgs (inCls 35 4)) (b := _) (by conv => lhs; whnf)
noncomputable abbrev B35x4 : List Stmt := litOf (a := fBody (inCls 35 4)) (b := _) (by conv => lhs; whnf)
noncomputable abbrev S35x4 : Scope := litOf (a := fScope (inCls 35 4)) (b := _) (by conv => lhs; whnf)
noncomputable abbrev A35x19 : Arguments := litOf (a := fArgs (inCls 35 19)) (b := _) (by conv => lhs; whnf)
noncomputable abbrev B35x19 : List Stmt := litOf (a := fBody (inCls 35 19)) (b := _) (by conv => lhs; whnf)
noncomputable abbrev S35x19 : Scope := litOf (a := fScope (inCls 35 19)) (b := _) (by conv => lhs; whnf)
noncomputable abbrev A39x0 : Arguments := litOf (a := fArgs (inCls 39 0)) (b := _) (by conv => lhs; whnf)
noncomputable abbrev B39x0 : List Stmt := litOf (a := fBody (inCls 39 0)) (b := _) (by conv => lhs; whnf)
noncomputable abbrev S39x0 : Scope := litOf (a := fScope (inCls 39 0)) (b := _) (by conv => lhs; whnf)
noncomputable abbrev A39x1 : Arguments := litOf (a := fArgs (inCls 39 1)) (b := _) (by conv => lhs; whnf)
noncomputable abbrev B39x1 : List Stmt := litOf (a := fBody (inCls 39 1)) (b := _) (by conv => lhs; whnf)
noncomputable abbrev S39x1 : Scope := litOf (a := fScope (inCls 39 1)) (b := _) (by conv => lhs; whnf)
noncomputable abbrev A43x0 : Arguments := litOf (a := fArgs (inCls 43 0)) (b := _) (by conv => lhs; whnf)
noncomputable abbrev B43x0 : List Stmt := litOf (a := fBody (inCls 43 0)) (b := _) (by conv => lhs; whnf)
noncomputable abbrev S43x0 : Scope := litOf (a := fScope (inCls 43 0)) (b := _) (by conv => lhs; whnf)
noncomputable abbrev A51x0 : Arguments := litOf (a := fArgs (inCls 51 0)) (b := _) (by conv => lhs; whnf)
noncomputable abbrev B51x0 : List Stmt := litOf (a := fBody (inCls 51 0)) (b := _) (by conv => lhs; whnf)
noncomputable abbrev S51x0 : Scope := litOf (a := fScope (inCls 51 0)) (b := _) (by conv => lhs; whnf)
noncomputable abbrev A51x3 : Arguments := litOf (a := fArgs (inCls 51 3)) (b := _) (by conv => lhs; whnf)
noncomputable abbrev B51x3 : List Stmt := litOf (a := fBody (inCls 51 3)) (b := _) (by conv => lhs; whnf)
noncomputable abbrev S51x3 : Scope := litOf (a := fScope (inCls 51 3)) (b := _) (by conv => lhs; whnf)
noncomputable abbrev A53 : Arguments := litOf (a := fArgs (stAt 53)) (b := _) (by conv => lhs; whnf)
noncomputable abbrev B53 : List Stmt := litOf (a := fBody (stAt 53)) (b := _) (by conv => lhs; whnf)
noncomputable abbrev S53 : Scope := litOf (a := fScope (stAt 53)) (b := _) (by conv => lhs; whnf)
noncomputable abbrev A54 : Arguments := litOf (a := fArgs (stAt 54)) (b := _) (by conv => lhs; whnf)
noncomputable abbrev B54 : List Stmt := litOf (a := fBody (stAt 54)) (b := _) (by conv => lhs; whnf)
noncomputable abbrev S54 : Scope := litOf (a := fScope (stAt 54)) (b := _) (by conv => lhs; whnf)
noncomputable abbrev A55 : Arguments := litOf (a := fArgs (stAt 55)) (b := _) (by conv => lhs; whnf)
noncomputable abbrev B55 : List Stmt := litOf (a := fBody (stAt 55)) (b := _) (by conv => lhs; whnf)
noncomputable abbrev S55 : Scope := litOf (a := fScope (stAt 55)) (b := _) (by conv => lhs; whnf)
noncomputable abbrev A56 : Arguments := litOf (a := fArgs (stAt 56)) (b := _) (by conv => lhs; whnf)
noncomputable abbrev B56 : List Stmt := litOf (a := fBody (stAt 56)) (b := _) (by conv => lhs; whnf)
noncomputable abbrev S56 : Scope := litOf (a := fScope (stAt 56)) (b := _) (by conv => lhs; whnf)
noncomputable abbrev A57 : Arguments := litOf (a := fArgs (stAt 57)) (b := _) (by conv => lhs; whnf)
noncomputable abbrev B57 : List Stmt := litOf (a := fBody (stAt 57)) (b := _) (by conv => lhs; whnf)
noncomputable abbrev S57 : Scope := litOf (a := fScope (stAt 57)) (b := _) (by conv => lhs; whnf)
noncomputable def K (P : Params) : Frag :=
  (nat_lit 2, (Obj.mk Value.none none (Data.dict (List.toArray [(DictEntry.mk (PyData.keyHash P (Str.ofString "type.__subclasses__.Exception.0")) (Value.str (Str.ofString "type.__subclasses__.Exception.0") 230) (Value.int 47 0)), (DictEntry.mk (PyData.keyHash P (Str.ofString "type.__subclasses__.Exception.n")) (Value.str (Str.ofString "type.__subclasses__.Exception.n") 231) (Value.int 1 0))]) 2) (List.toArray []))) ::
  (nat_lit 3, (Obj.mk (Value.type "dict") none (Data.dict (List.toArray [(DictEntry.mk (PyData.keyHash P (Str.ofString "__name__")) (Value.str (Str.ofString "__name__") 165) (Value.str (Str.ofString "law_rg0220_01") 1471)), (DictEntry.mk (PyData.keyHash P (Str.ofString "__doc__")) (Value.str (Str.ofString "__doc__") 166) Value.none), (DictEntry.mk (PyData.keyHash P (Str.ofString "__package__")) (Value.str (Str.ofString "__package__") 167) Value.none), (DictEntry.mk (PyData.keyHash P (Str.ofString "__loader__")) (Value.str (Str.ofString "__loader__") 168) (Value.builtin "__main__.__loader__#opaque")), (DictEntry.mk (PyData.keyHash P (Str.ofString "__spec__")) (Value.str (Str.ofString "__spec__") 169) Value.none), (DictEntry.mk (PyData.keyHash P (Str.ofString "__annotations__")) (Value.str (Str.ofString "__annotations__") 170) (Value.ref 6)), (DictEntry.mk (PyData.keyHash P (Str.ofString "__builtins__")) (Value.str (Str.ofString "__builtins__") 171) (Value.ref 4)), (DictEntry.mk (PyData.keyHash P (Str.ofString "__file__")) (Value.str (Str.ofString "__file__") 173) (Value.str (Str.ofString "/claim/cut.py") 172)), (DictEntry.mk (PyData.keyHash P (Str.ofString "__cached__")) (Value.str (Str.ofString "__cached__") 174) Value.none), (DictEntry.mk (PyData.keyHash P (Str.ofString "_wall")) (Value.str (Str.ofString "_wall") 193) (Value.ref 21)), (DictEntry.mk (PyData.keyHash P (Str.ofString "SmtError")) (Value.str (Str.ofString "SmtError") 233) (Value.ref 47)), (DictEntry.mk (PyData.keyHash P (Str.ofString "SortFault")) (Value.str (Str.ofString "SortFault") 256) (Value.ref 67)), (DictEntry.mk (PyData.keyHash P (Str.ofString "LimitFault")) (Value.str (Str.ofString "LimitFault") 279) (Value.ref 86)), (DictEntry.mk (PyData.keyHash P (Str.ofString "ModelFault")) (Value.str (Str.ofString "ModelFault") 302) (Value.ref 105)), (DictEntry.mk (PyData.keyHash P (Str.ofString "gcd_of")) (Value.str (Str.ofString "gcd_of") 312) (Value.ref 114)), (DictEntry.mk (PyData.keyHash P (Str.ofString "ratio")) (Value.str (Str.ofString "ratio") 321) (Value.ref 121)), (DictEntry.mk (PyData.keyHash P (Str.ofString "add")) (Value.str (Str.ofString "add") 329) (Value.ref 128)), (DictEntry.mk (PyData.keyHash P (Str.ofString "mul")) (Value.str (Str.ofString "mul") 337) (Value.ref 135)), (DictEntry.mk (PyData.keyHash P (Str.ofString "compare")) (Value.str (Str.ofString "compare") 347) (Value.ref 142)), (DictEntry.mk (PyData.keyHash P (Str.ofString "is_whole")) (Value.str (Str.ofString "is_whole") 354) (Value.ref 149)), (DictEntry.mk (PyData.keyHash P (Str.ofString "mask_of")) (Value.str (Str.ofString "mask_of") 363) (Value.ref 156)), (DictEntry.mk (PyData.keyHash P (Str.ofString "signed_of")) (Value.str (Str.ofString "signed_of") 371) (Value.ref 163)), (DictEntry.mk (PyData.keyHash P (Str.ofString "one_value")) (Value.str (Str.ofString "one_value") 380) (Value.ref 170)), (DictEntry.mk (PyData.keyHash P (Str.ofString "divided_value")) (Value.str (Str.ofString "divided_value") 389) (Value.ref 177)), (DictEntry.mk (PyData.keyHash P (Str.ofString "rest_value")) (Value.str (Str.ofString "rest_value") 397) (Value.ref 184)), (DictEntry.mk (PyData.keyHash P (Str.ofString "shifted_value")) (Value.str (Str.ofString "shifted_value") 407) (Value.ref 191)), (DictEntry.mk (PyData.keyHash P (Str.ofString "two_value")) (Value.str (Str.ofString "two_value") 417) (Value.ref 198)), (DictEntry.mk (PyData.keyHash P (Str.ofString "ask_value")) (Value.str (Str.ofString "ask_value") 427) (Value.ref 205)), (DictEntry.mk (PyData.keyHash P (Str.ofString "extract_value")) (Value.str (Str.ofString "extract_value") 436) (Value.ref 212)), (DictEntry.mk (PyData.keyHash P (Str.ofString "concat_value")) (Value.str (Str.ofString "concat_value") 445) (Value.ref 219)), (DictEntry.mk (PyData.keyHash P (Str.ofString "sign_extended")) (Value.str (Str.ofString "sign_extended") 454) (Value.ref 226)), (DictEntry.mk (PyData.keyHash P (Str.ofString "bit_value")) (Value.str (Str.ofString "bit_value") 462) (Value.ref 233)), (DictEntry.mk (PyData.keyHash P (Str.ofString "carry_value")) (Value.str (Str.ofString "carry_value") 473) (Value.ref 240)), (DictEntry.mk (PyData.keyHash P (Str.ofString "below_value")) (Value.str (Str.ofString "below_value") 482) (Value.ref 247)), (DictEntry.mk (PyData.keyHash P (Str.ofString "BOOL")) (Value.str (Str.ofString "BOOL") 484) (Value.int 0 483)), (DictEntry.mk (PyData.keyHash P (Str.ofString "INT")) (Value.str (Str.ofString "INT") 486) (Value.int 1 485)), (DictEntry.mk (PyData.keyHash P (Str.ofString "REAL")) (Value.str (Str.ofString "REAL") 488) (Value.int 2 487)), (DictEntry.mk (PyData.keyHash P (Str.ofString "WIDEST")) (Value.str (Str.ofString "WIDEST") 490) (Value.int 4096 489)), (DictEntry.mk (PyData.keyHash P (Str.ofString "MOST_BITS")) (Value.str (Str.ofString "MOST_BITS") 494) (Value.int 65536 493)), (DictEntry.mk (PyData.keyHash P (Str.ofString "BV_SAME")) (Value.str (Str.ofString "BV_SAME") 505) (Value.ref 248)), (DictEntry.mk (PyData.keyHash P (Str.ofString "BV_ASK")) (Value.str (Str.ofString "BV_ASK") 510) (Value.ref 249)), (DictEntry.mk (PyData.keyHash P (Str.ofString "Bank")) (Value.str (Str.ofString "Bank") 795) (Value.ref 462)), (DictEntry.mk (PyData.keyHash P (Str.ofString "BoolBank")) (Value.str (Str.ofString "BoolBank") 928) (Value.ref 567)), (DictEntry.mk (PyData.keyHash P (Str.ofString "want_small")) (Value.str (Str.ofString "want_small") 935) (Value.ref 576)), (DictEntry.mk (PyData.keyHash P (Str.ofString "NumberBank")) (Value.str (Str.ofString "NumberBank") 1049) (Value.ref 663)), (DictEntry.mk (PyData.keyHash P (Str.ofString "TermBank")) (Value.str (Str.ofString "TermBank") 1204) (Value.ref 782)), (DictEntry.mk (PyData.keyHash P (Str.ofString "NOUGHT")) (Value.str (Str.ofString "NOUGHT") 1209) (Value.ref 785)), (DictEntry.mk (PyData.keyHash P (Str.ofString "plain_value")) (Value.str (Str.ofString "plain_value") 1217) (Value.ref 792)), (DictEntry.mk (PyData.keyHash P (Str.ofString "Model")) (Value.str (Str.ofString "Model") 1317) (Value.ref 865)), (DictEntry.mk (PyData.keyHash P (Str.ofString "bits_worked_out")) (Value.str (Str.ofString "bits_worked_out") 1330) (Value.ref 876)), (DictEntry.mk (PyData.keyHash P (Str.ofString "number_worked_out")) (Value.str (Str.ofString "number_worked_out") 1340) (Value.ref 883)), (DictEntry.mk (PyData.keyHash P (Str.ofString "bits_asked")) (Value.str (Str.ofString "bits_asked") 1352) (Value.ref 890)), (DictEntry.mk (PyData.keyHash P (Str.ofString "connected")) (Value.str (Str.ofString "connected") 1360) (Value.ref 897)), (DictEntry.mk (PyData.keyHash P (Str.ofString "worked_out")) (Value.str (Str.ofString "worked_out") 1366) (Value.ref 902)), (DictEntry.mk (PyData.keyHash P (Str.ofString "evaluate")) (Value.str (Str.ofString "evaluate") 1375) (Value.ref 909)), (DictEntry.mk (PyData.keyHash P (Str.ofString "evaluate_all")) (Value.str (Str.ofString "evaluate_all") 1381) (Value.ref 914)), (DictEntry.mk (PyData.keyHash P (Str.ofString "ModelMaker")) (Value.str (Str.ofString "ModelMaker") 1470) (Value.ref 978)), (DictEntry.mk (PyData.keyHash P (Str.ofString "_law_gulp")) (Value.str (Str.ofString "_law_gulp") 1481) (Value.ref 989)), (DictEntry.mk (PyData.keyHash P (Str.ofString "_law_lowest")) (Value.str (Str.ofString "_law_lowest") 1491) (Value.ref 996)), (DictEntry.mk (PyData.keyHash P (Str.ofString "_law_class")) (Value.str (Str.ofString "_law_class") 1505) (Value.ref 1003)), (DictEntry.mk (PyData.keyHash P (Str.ofString "_law_is_right")) (Value.str (Str.ofString "_law_is_right") 1511) (Value.ref 1008)), (DictEntry.mk (PyData.keyHash P (Str.ofString "law")) (Value.str (Str.ofString "law") 1517) (Value.ref 1013))]) 62) (List.toArray []))) ::
  (nat_lit 262, (Obj.mk (Value.type "code") none (Data.fields (List.toArray [(Value.str (Str.ofString "__init__") 523), (Value.str (Str.ofString "Bank.__init__") 524), (Value.str (Str.ofString "/claim/cut.py") 525), (Value.int 120 0), (Value.int 1 0), (Value.int 0 0), (Value.int 0 0), (Value.int 3 0), (Value.ref 257), (Value.bool true), (Value.int 181 0), (Value.ref 258), Value.none, (Value.ref 259), (Value.ref 260), (Value.ref 261), (Value.int 527 0), (Value.int 120 0), (Value.str (Str.ofString "/claim/cut.py") 528)])) (List.toArray []))) ::
  (nat_lit 263, (Obj.mk (Value.type "function") none (Data.func (FuncData.mk (Str.ofString "__init__") (Str.ofString "Bank.__init__") A35x0 (FuncBody.stmts B35x0) S35x0 3 [] Value.none Value.none Value.none (Value.str (Str.ofString "minismt.terms") 355) none (Value.ref 262) Value.none 0)) (List.toArray []))) ::
  (nat_lit 276, (Obj.mk (Value.type "code") none (Data.fields (List.toArray [(Value.str (Str.ofString "declare_sort") 538), (Value.str (Str.ofString "Bank.declare_sort") 539), (Value.str (Str.ofString "/claim/cut.py") 540), (Value.int 138 0), (Value.int 2 0), (Value.int 0 0), (Value.int 0 0), (Value.int 3 0), (Value.ref 271), (Value.bool true), (Value.int 181 0), (Value.ref 272), Value.none, (Value.ref 273), (Value.ref 274), (Value.ref 275), (Value.int 543 0), (Value.int 138 0), (Value.str (Str.ofString "/claim/cut.py") 544)])) (List.toArray []))) ::
  (nat_lit 277, (Obj.mk (Value.type "function") none (Data.func (FuncData.mk (Str.ofString "declare_sort") (Str.ofString "Bank.declare_sort") A35x2 (FuncBody.stmts B35x2) S35x2 3 [] Value.none Value.none Value.none (Value.str (Str.ofString "minismt.terms") 355) none (Value.ref 276) Value.none 0)) (List.toArray []))) ::
  (nat_lit 283, (Obj.mk (Value.type "code") none (Data.fields (List.toArray [(Value.str (Str.ofString "width_of") 546), (Value.str (Str.ofString "Bank.width_of") 547), (Value.str (Str.ofString "/claim/cut.py") 548), (Value.int 143 0), (Value.int 2 0), (Value.int 0 0), (Value.int 0 0), (Value.int 3 0), (Value.ref 278), (Value.bool true), (Value.int 181 0), (Value.ref 279), Value.none, (Value.ref 280), (Value.ref 281), (Value.ref 282), (Value.int 551 0), (Value.int 143 0), (Value.str (Str.ofString "/claim/cut.py") 552)])) (List.toArray []))) ::
  (nat_lit 284, (Obj.mk (Value.type "function") none (Data.func (FuncData.mk (Str.ofString "width_of") (Str.ofString "Bank.width_of") A35x3 (FuncBody.stmts B35x3) S35x3 3 [] Value.none Value.none Value.none (Value.str (Str.ofString "minismt.terms") 355) none (Value.ref 283) Value.none 0)) (List.toArray []))) ::
  (nat_lit 290, (Obj.mk (Value.type "code") none (Data.fields (List.toArray [(Value.str (Str.ofString "is_number_sort") 554), (Value.str (Str.ofString "Bank.is_number_sort") 555), (Value.str (Str.ofString "/claim/cut.py") 556), (Value.int 146 0), (Value.int 2 0), (Value.int 0 0), (Value.int 0 0), (Value.int 3 0), (Value.ref 285), (Value.bool true), (Value.int 181 0), (Value.ref 286), Value.none, (Value.ref 287), (Value.ref 288), (Value.ref 289), (Value.int 559 0), (Value.int 146 0), (Value.str (Str.ofString "/claim/cut.py") 560)])) (List.toArray []))) ::
  (nat_lit 291, (Obj.mk (Value.type "function") none (Data.func (FuncData.mk (Str.ofString "is_number_sort") (Str.ofString "Bank.is_number_sort") A35x4 (FuncBody.stmts B35x4) S35x4 3 [] Value.none Value.none Value.none (Value.str (Str.ofString "minismt.terms") 355) none (Value.ref 290) Value.none 0)) (List.toArray []))) ::
  (nat_lit 395, (Obj.mk (Value.type "code") none (Data.fields (List.toArray [(Value.str (Str.ofString "make") 677), (Value.str (Str.ofString "Bank.make") 678), (Value.str (Str.ofString "/claim/cut.py") 679), (Value.int 191 0), (Value.int 5 0), (Value.int 0 0), (Value.int 0 0), (Value.int 3 0), (Value.ref 390), (Value.bool true), (Value.int 181 0), (Value.ref 391), Value.none, (Value.ref 392), (Value.ref 393), (Value.ref 394), (Value.int 687 0), (Value.int 191 0), (Value.str (Str.ofString "/claim/cut.py") 688)])) (List.toArray []))) ::
  (nat_lit 396, (Obj.mk (Value.type "function") none (Data.func (FuncData.mk (Str.ofString "make") (Str.ofString "Bank.make") A35x19 (FuncBody.stmts B35x19) S35x19 3 [] Value.none Value.none Value.none (Value.str (Str.ofString "minismt.terms") 355) none (Value.ref 395) Value.none 0)) (List.toArray []))) ::
  (nat_lit 461, (Obj.mk (Value.type "dict") none (Data.dict (List.toArray [(DictEntry.mk (PyData.keyHash P (Str.ofString "__module__")) (Value.str (Str.ofString "__module__") 518) (Value.str (Str.ofString "minismt.terms") 355)), (DictEntry.mk (PyData.keyHash P (Str.ofString "__firstlineno__")) (Value.str (Str.ofString "__firstlineno__") 522) (Value.int 118 521)), (DictEntry.mk (PyData.keyHash P (Str.ofString "__init__")) (Value.str (Str.ofString "__init__") 529) (Value.ref 263)), (DictEntry.mk (PyData.keyHash P (Str.ofString "sort_name")) (Value.str (Str.ofString "sort_name") 537) (Value.ref 270)), (DictEntry.mk (PyData.keyHash P (Str.ofString "declare_sort")) (Value.str (Str.ofString "declare_sort") 545) (Value.ref 277)), (DictEntry.mk (PyData.keyHash P (Str.ofString "width_of")) (Value.str (Str.ofString "width_of") 553) (Value.ref 284)), (DictEntry.mk (PyData.keyHash P (Str.ofString "is_number_sort")) (Value.str (Str.ofString "is_number_sort") 561) (Value.ref 291)), (DictEntry.mk (PyData.keyHash P (Str.ofString "is_free_sort")) (Value.str (Str.ofString "is_free_sort") 569) (Value.ref 298)), (DictEntry.mk (PyData.keyHash P (Str.ofString "declare_fun")) (Value.str (Str.ofString "declare_fun") 579) (Value.ref 305)), (DictEntry.mk (PyData.keyHash P (Str.ofString "fresh_fun")) (Value.str (Str.ofString "fresh_fun") 589) (Value.ref 312)), (DictEntry.mk (PyData.keyHash P (Str.ofString "fresh_const")) (Value.str (Str.ofString "fresh_const") 598) (Value.ref 319)), (DictEntry.mk (PyData.keyHash P (Str.ofString "fun_name")) (Value.str (Str.ofString "fun_name") 606) (Value.ref 326)), (DictEntry.mk (PyData.keyHash P (Str.ofString "fun_arg_sorts")) (Value.str (Str.ofString "fun_arg_sorts") 614) (Value.ref 333)), (DictEntry.mk (PyData.keyHash P (Str.ofString "fun_result")) (Value.str (Str.ofString "fun_result") 622) (Value.ref 340)), (DictEntry.mk (PyData.keyHash P (Str.ofString "fun_count")) (Value.str (Str.ofString "fun_count") 629) (Value.ref 347)), (DictEntry.mk (PyData.keyHash P (Str.ofString "op")) (Value.str (Str.ofString "op") 637) (Value.ref 354)), (DictEntry.mk (PyData.keyHash P (Str.ofString "args")) (Value.str (Str.ofString "args") 645) (Value.ref 361)), (DictEntry.mk (PyData.keyHash P (Str.ofString "sort")) (Value.str (Str.ofString "sort") 653) (Value.ref 368)), (DictEntry.mk (PyData.keyHash P (Str.ofString "data")) (Value.str (Str.ofString "data") 661) (Value.ref 375)), (DictEntry.mk (PyData.keyHash P (Str.ofString "width")) (Value.str (Str.ofString "width") 669) (Value.ref 382)), (DictEntry.mk (PyData.keyHash P (Str.ofString "size")) (Value.str (Str.ofString "size") 676) (Value.ref 389)), (DictEntry.mk (PyData.keyHash P (Str.ofString "make")) (Value.str (Str.ofString "make") 689) (Value.ref 396)), (DictEntry.mk (PyData.keyHash P (Str.ofString "find_made")) (Value.str (Str.ofString "find_made") 700) (Value.ref 403)), (DictEntry.mk (PyData.keyHash P (Str.ofString "is_value")) (Value.str (Str.ofString "is_value") 708) (Value.ref 410)), (DictEntry.mk (PyData.keyHash P (Str.ofString "want")) (Value.str (Str.ofString "want") 718) (Value.ref 417)), (DictEntry.mk (PyData.keyHash P (Str.ofString "want_all")) (Value.str (Str.ofString "want_all") 729) (Value.ref 424)), (DictEntry.mk (PyData.keyHash P (Str.ofString "true_term")) (Value.str (Str.ofString "true_term") 736) (Value.ref 431)), (DictEntry.mk (PyData.keyHash P (Str.ofString "false_term")) (Value.str (Str.ofString "false_term") 743) (Value.ref 438)), (DictEntry.mk (PyData.keyHash P (Str.ofString "bool_term")) (Value.str (Str.ofString "bool_term") 751) (Value.ref 445)), (DictEntry.mk (PyData.keyHash P (Str.ofString "parts")) (Value.str (Str.ofString "parts") 759) (Value.ref 452)), (DictEntry.mk (PyData.keyHash P (Str.ofString "parts_of_all")) (Value.str (Str.ofString "parts_of_all") 774) (Value.ref 459)), (DictEntry.mk (PyData.keyHash P (Str.ofString "__static_attributes__")) (Value.str (Str.ofString "__static_attributes__") 788) (Value.ref 460)), (DictEntry.mk (PyData.keyHash P (Str.ofString "__dict__")) (Value.str (Str.ofString "__dict__") 790) (Value.ref 463)), (DictEntry.mk (PyData.keyHash P (Str.ofString "__weakref__")) (Value.str (Str.ofString "__weakref__") 792) (Value.ref 464)), (DictEntry.mk (PyData.keyHash P (Str.ofString "__doc__")) (Value.str (Str.ofString "__doc__") 793) Value.none)]) 4) (List.toArray []))) ::
  (nat_lit 462, (Obj.mk (Value.type "type") none (Data.cls (ClassData.mk (Str.ofString "Bank") [(Value.type "object")] [(Value.ref 462), (Value.type "object")] 461 (Str.ofString "Bank") true [] [(Value.ref 567)] false none false)) (List.toArray [none, none, (some (Value.str (Str.ofString "Bank") 511)), (some (Value.str (Str.ofString "Bank") 519)), (some (Value.builtin "object.__new__")), (some (Value.bool true))]))) ::
  (nat_lit 566, (Obj.mk (Value.type "dict") none (Data.dict (List.toArray [(DictEntry.mk (PyData.keyHash P (Str.ofString "__module__")) (Value.str (Str.ofString "__module__") 803) (Value.str (Str.ofString "minismt.terms") 355)), (DictEntry.mk (PyData.keyHash P (Str.ofString "__firstlineno__")) (Value.str (Str.ofString "__firstlineno__") 807) (Value.int 246 806)), (DictEntry.mk (PyData.keyHash P (Str.ofString "not_of")) (Value.str (Str.ofString "not_of") 815) (Value.ref 480)), (DictEntry.mk (PyData.keyHash P (Str.ofString "and_of")) (Value.str (Str.ofString "and_of") 823) (Value.ref 487)), (DictEntry.mk (PyData.keyHash P (Str.ofString "or_of")) (Value.str (Str.ofString "or_of") 831) (Value.ref 494)), (DictEntry.mk (PyData.keyHash P (Str.ofString "xor_of")) (Value.str (Str.ofString "xor_of") 840) (Value.ref 501)), (DictEntry.mk (PyData.keyHash P (Str.ofString "implies_of")) (Value.str (Str.ofString "implies_of") 849) (Value.ref 508)), (DictEntry.mk (PyData.keyHash P (Str.ofString "iff")) (Value.str (Str.ofString "iff") 858) (Value.ref 515)), (DictEntry.mk (PyData.keyHash P (Str.ofString "eq")) (Value.str (Str.ofString "eq") 867) (Value.ref 522)), (DictEntry.mk (PyData.keyHash P (Str.ofString "distinct")) (Value.str (Str.ofString "distinct") 875) (Value.ref 529)), (DictEntry.mk (PyData.keyHash P (Str.ofString "ite")) (Value.str (Str.ofString "ite") 885) (Value.ref 536)), (DictEntry.mk (PyData.keyHash P (Str.ofString "app")) (Value.str (Str.ofString "app") 897) (Value.ref 543)), (DictEntry.mk (PyData.keyHash P (Str.ofString "folded")) (Value.str (Str.ofString "folded") 906) (Value.ref 550)), (DictEntry.mk (PyData.keyHash P (Str.ofString "with_args")) (Value.str (Str.ofString "with_args") 915) (Value.ref 557)), (DictEntry.mk (PyData.keyHash P (Str.ofString "replaced")) (Value.str (Str.ofString "replaced") 924) (Value.ref 564)), (DictEntry.mk (PyData.keyHash P (Str.ofString "__static_attributes__")) (Value.str (Str.ofString "__static_attributes__") 925) (Value.ref 565)), (DictEntry.mk (PyData.keyHash P (Str.ofString "__doc__")) (Value.str (Str.ofString "__doc__") 926) Value.none)]) 2) (List.toArray []))) ::
  (nat_lit 567, (Obj.mk (Value.type "type") none (Data.cls (ClassData.mk (Str.ofString "BoolBank") [(Value.ref 462)] [(Value.ref 567), (Value.ref 462), (Value.type "object")] 566 (Str.ofString "BoolBank") true [] [(Value.ref 663)] false none false)) (List.toArray [(some (Value.ref 467)), none, (some (Value.str (Str.ofString "BoolBank") 796)), (some (Value.str (Str.ofString "BoolBank") 804)), (some (Value.builtin "object.__new__")), (some (Value.bool true))]))) ::
  (nat_lit 662, (Obj.mk (Value.type "dict") none (Data.dict (List.toArray [(DictEntry.mk (PyData.keyHash P (Str.ofString "__module__")) (Value.str (Str.ofString "__module__") 943) (Value.str (Str.ofString "minismt.terms") 355)), (DictEntry.mk (PyData.keyHash P (Str.ofString "__firstlineno__")) (Value.str (Str.ofString "__firstlineno__") 947) (Value.int 299 946)), (DictEntry.mk (PyData.keyHash P (Str.ofString "num")) (Value.str (Str.ofString "num") 956) (Value.ref 590)), (DictEntry.mk (PyData.keyHash P (Str.ofString "want_number")) (Value.str (Str.ofString "want_number") 965) (Value.ref 597)), (DictEntry.mk (PyData.keyHash P (Str.ofString "plus")) (Value.str (Str.ofString "plus") 973) (Value.ref 604)), (DictEntry.mk (PyData.keyHash P (Str.ofString "times_num")) (Value.str (Str.ofString "times_num") 983) (Value.ref 611)), (DictEntry.mk (PyData.keyHash P (Str.ofString "times")) (Value.str (Str.ofString "times") 992) (Value.ref 618)), (DictEntry.mk (PyData.keyHash P (Str.ofString "over_num")) (Value.str (Str.ofString "over_num") 1001) (Value.ref 625)), (DictEntry.mk (PyData.keyHash P (Str.ofString "negative")) (Value.str (Str.ofString "negative") 1009) (Value.ref 632)), (DictEntry.mk (PyData.keyHash P (Str.ofString "minus")) (Value.str (Str.ofString "minus") 1018) (Value.ref 639)), (DictEntry.mk (PyData.keyHash P (Str.ofString "le")) (Value.str (Str.ofString "le") 1027) (Value.ref 646)), (DictEntry.mk (PyData.keyHash P (Str.ofString "lt")) (Value.str (Str.ofString "lt") 1036) (Value.ref 653)), (DictEntry.mk (PyData.keyHash P (Str.ofString "with_args")) (Value.str (Str.ofString "with_args") 1045) (Value.ref 660)), (DictEntry.mk (PyData.keyHash P (Str.ofString "__static_attributes__")) (Value.str (Str.ofString "__static_attributes__") 1046) (Value.ref 661)), (DictEntry.mk (PyData.keyHash P (Str.ofString "__doc__")) (Value.str (Str.ofString "__doc__") 1047) Value.none)]) 2) (List.toArray []))) ::
  (nat_lit 663, (Obj.mk (Value.type "type") none (Data.cls (ClassData.mk (Str.ofString "NumberBank") [(Value.ref 567)] [(Value.ref 663), (Value.ref 567), (Value.ref 462), (Value.type "object")] 662 (Str.ofString "NumberBank") true [] [(Value.ref 782)] false none false)) (List.toArray [(some (Value.ref 577)), none, (some (Value.str (Str.ofString "NumberBank") 936)), (some (Value.str (Str.ofString "NumberBank") 944)), (some (Value.builtin "object.__new__")), (some (Value.bool true))]))) ::
  (nat_lit 669, (Obj.mk (Value.type "cell") none (Data.cell (some (Value.ref 782))) (List.toArray []))) ::
  (nat_lit 674, (Obj.mk (Value.type "tuple") none (Data.seq (List.toArray [(Value.ref 669)]) 0) (List.toArray []))) ::
  (nat_lit 680, (Obj.mk (Value.type "code") none (Data.fields (List.toArray [(Value.str (Str.ofString "__init__") 1062), (Value.str (Str.ofString "TermBank.__init__") 1063), (Value.str (Str.ofString "/claim/cut.py") 1064), (Value.int 351 0), (Value.int 1 0), (Value.int 0 0), (Value.int 0 0), (Value.int 3 0), (Value.ref 675), (Value.bool true), (Value.int 181 0), (Value.ref 676), Value.none, (Value.ref 677), (Value.ref 678), (Value.ref 679), (Value.int 1067 0), (Value.int 351 0), (Value.str (Str.ofString "/claim/cut.py") 1068)])) (List.toArray []))) ::
  (nat_lit 681, (Obj.mk (Value.type "function") none (Data.func (FuncData.mk (Str.ofString "__init__") (Str.ofString "TermBank.__init__") A39x0 (FuncBody.stmts B39x0) S39x0 3 [((Str.ofString "__class__"), 669)] Value.none Value.none Value.none (Value.str (Str.ofString "minismt.terms") 355) none (Value.ref 680) (Value.ref 674) 0)) (List.toArray []))) ::
  (nat_lit 687, (Obj.mk (Value.type "code") none (Data.fields (List.toArray [(Value.str (Str.ofString "bv_sort") 1070), (Value.str (Str.ofString "TermBank.bv_sort") 1071), (Value.str (Str.ofString "/claim/cut.py") 1072), (Value.int 355 0), (Value.int 2 0), (Value.int 0 0), (Value.int 0 0), (Value.int 3 0), (Value.ref 682), (Value.bool true), (Value.int 181 0), (Value.ref 683), Value.none, (Value.ref 684), (Value.ref 685), (Value.ref 686), (Value.int 1075 0), (Value.int 355 0), (Value.str (Str.ofString "/claim/cut.py") 1076)])) (List.toArray []))) ::
  (nat_lit 688, (Obj.mk (Value.type "function") none (Data.func (FuncData.mk (Str.ofString "bv_sort") (Str.ofString "TermBank.bv_sort") A39x1 (FuncBody.stmts B39x1) S39x1 3 [] Value.none Value.none Value.none (Value.str (Str.ofString "minismt.terms") 355) none (Value.ref 687) Value.none 0)) (List.toArray []))) ::
  (nat_lit 781, (Obj.mk (Value.type "dict") none (Data.dict (List.toArray [(DictEntry.mk (PyData.keyHash P (Str.ofString "__module__")) (Value.str (Str.ofString "__module__") 1057) (Value.str (Str.ofString "minismt.terms") 355)), (DictEntry.mk (PyData.keyHash P (Str.ofString "__firstlineno__")) (Value.str (Str.ofString "__firstlineno__") 1061) (Value.int 349 1060)), (DictEntry.mk (PyData.keyHash P (Str.ofString "__init__")) (Value.str (Str.ofString "__init__") 1069) (Value.ref 681)), (DictEntry.mk (PyData.keyHash P (Str.ofString "bv_sort")) (Value.str (Str.ofString "bv_sort") 1077) (Value.ref 688)), (DictEntry.mk (PyData.keyHash P (Str.ofString "find_bv_sort")) (Value.str (Str.ofString "find_bv_sort") 1085) (Value.ref 695)), (DictEntry.mk (PyData.keyHash P (Str.ofString "want_bits")) (Value.str (Str.ofString "want_bits") 1094) (Value.ref 702)), (DictEntry.mk (PyData.keyHash P (Str.ofString "bv_num")) (Value.str (Str.ofString "bv_num") 1103) (Value.ref 709)), (DictEntry.mk (PyData.keyHash P (Str.ofString "bv_one")) (Value.str (Str.ofString "bv_one") 1112) (Value.ref 716)), (DictEntry.mk (PyData.keyHash P (Str.ofString "bv_two")) (Value.str (Str.ofString "bv_two") 1122) (Value.ref 723)), (DictEntry.mk (PyData.keyHash P (Str.ofString "concat")) (Value.str (Str.ofString "concat") 1131) (Value.ref 730)), (DictEntry.mk (PyData.keyHash P (Str.ofString "extract")) (Value.str (Str.ofString "extract") 1141) (Value.ref 737)), (DictEntry.mk (PyData.keyHash P (Str.ofString "zero_extend")) (Value.str (Str.ofString "zero_extend") 1150) (Value.ref 744)), (DictEntry.mk (PyData.keyHash P (Str.ofString "sign_extend")) (Value.str (Str.ofString "sign_extend") 1159) (Value.ref 751)), (DictEntry.mk (PyData.keyHash P (Str.ofString "want_place")) (Value.str (Str.ofString "want_place") 1169) (Value.ref 758)), (DictEntry.mk (PyData.keyHash P (Str.ofString "bit")) (Value.str (Str.ofString "bit") 1178) (Value.ref 765)), (DictEntry.mk (PyData.keyHash P (Str.ofString "carry")) (Value.str (Str.ofString "carry") 1188) (Value.ref 772)), (DictEntry.mk (PyData.keyHash P (Str.ofString "below")) (Value.str (Str.ofString "below") 1198) (Value.ref 779)), (DictEntry.mk (PyData.keyHash P (Str.ofString "__static_attributes__")) (Value.str (Str.ofString "__static_attributes__") 1200) (Value.ref 780)), (DictEntry.mk (PyData.keyHash P (Str.ofString "__doc__")) (Value.str (Str.ofString "__doc__") 1202) Value.none)]) 3) (List.toArray []))) ::
  (nat_lit 782, (Obj.mk (Value.type "type") none (Data.cls (ClassData.mk (Str.ofString "TermBank") [(Value.ref 663)] [(Value.ref 782), (Value.ref 663), (Value.ref 567), (Value.ref 462), (Value.type "object")] 781 (Str.ofString "TermBank") true [] [] false none false)) (List.toArray [(some (Value.ref 666)), none, (some (Value.str (Str.ofString "TermBank") 1050)), (some (Value.str (Str.ofString "TermBank") 1058)), (some (Value.builtin "object.__new__")), (some (Value.bool true))]))) ::
  (nat_lit 805, (Obj.mk (Value.type "code") none (Data.fields (List.toArray [(Value.str (Str.ofString "__init__") 1230), (Value.str (Str.ofString "Model.__init__") 1231), (Value.str (Str.ofString "/claim/cut.py") 1232), (Value.int 438 0), (Value.int 2 0), (Value.int 0 0), (Value.int 0 0), (Value.int 3 0), (Value.ref 800), (Value.bool true), (Value.int 181 0), (Value.ref 801), Value.none, (Value.ref 802), (Value.ref 803), (Value.ref 804), (Value.int 1235 0), (Value.int 438 0), (Value.str (Str.ofString "/claim/cut.py") 1236)])) (List.toArray []))) ::
  (nat_lit 806, (Obj.mk (Value.type "function") none (Data.func (FuncData.mk (Str.ofString "__init__") (Str.ofString "Model.__init__") A43x0 (FuncBody.stmts B43x0) S43x0 3 [] Value.none Value.none Value.none (Value.str (Str.ofString "minismt.models") 1205) none (Value.ref 805) Value.none 0)) (List.toArray []))) ::
  (nat_lit 864, (Obj.mk (Value.type "dict") none (Data.dict (List.toArray [(DictEntry.mk (PyData.keyHash P (Str.ofString "__module__")) (Value.str (Str.ofString "__module__") 1225) (Value.str (Str.ofString "minismt.models") 1205)), (DictEntry.mk (PyData.keyHash P (Str.ofString "__firstlineno__")) (Value.str (Str.ofString "__firstlineno__") 1229) (Value.int 436 1228)), (DictEntry.mk (PyData.keyHash P (Str.ofString "__init__")) (Value.str (Str.ofString "__init__") 1237) (Value.ref 806)), (DictEntry.mk (PyData.keyHash P (Str.ofString "set_row")) (Value.str (Str.ofString "set_row") 1247) (Value.ref 813)), (DictEntry.mk (PyData.keyHash P (Str.ofString "has_row")) (Value.str (Str.ofString "has_row") 1256) (Value.ref 820)), (DictEntry.mk (PyData.keyHash P (Str.ofString "rows")) (Value.str (Str.ofString "rows") 1264) (Value.ref 827)), (DictEntry.mk (PyData.keyHash P (Str.ofString "set_other")) (Value.str (Str.ofString "set_other") 1273) (Value.ref 834)), (DictEntry.mk (PyData.keyHash P (Str.ofString "other")) (Value.str (Str.ofString "other") 1281) (Value.ref 841)), (DictEntry.mk (PyData.keyHash P (Str.ofString "call")) (Value.str (Str.ofString "call") 1290) (Value.ref 848)), (DictEntry.mk (PyData.keyHash P (Str.ofString "value")) (Value.str (Str.ofString "value") 1298) (Value.ref 855)), (DictEntry.mk (PyData.keyHash P (Str.ofString "elements")) (Value.str (Str.ofString "elements") 1306) (Value.ref 862)), (DictEntry.mk (PyData.keyHash P (Str.ofString "__static_attributes__")) (Value.str (Str.ofString "__static_attributes__") 1310) (Value.ref 863)), (DictEntry.mk (PyData.keyHash P (Str.ofString "__dict__")) (Value.str (Str.ofString "__dict__") 1312) (Value.ref 866)), (DictEntry.mk (PyData.keyHash P (Str.ofString "__weakref__")) (Value.str (Str.ofString "__weakref__") 1314) (Value.ref 867)), (DictEntry.mk (PyData.keyHash P (Str.ofString "__doc__")) (Value.str (Str.ofString "__doc__") 1315) Value.none)]) 4) (List.toArray []))) ::
  (nat_lit 865, (Obj.mk (Value.type "type") none (Data.cls (ClassData.mk (Str.ofString "Model") [(Value.type "object")] [(Value.ref 865), (Value.type "object")] 864 (Str.ofString "Model") true [] [] false none false)) (List.toArray [none, none, (some (Value.str (Str.ofString "Model") 1218)), (some (Value.str (Str.ofString "Model") 1226)), (some (Value.builtin "object.__new__")), (some (Value.bool true))]))) ::
  (nat_lit 927, (Obj.mk (Value.type "code") none (Data.fields (List.toArray [(Value.str (Str.ofString "__init__") 1394), (Value.str (Str.ofString "ModelMaker.__init__") 1395), (Value.str (Str.ofString "/claim/cut.py") 1396), (Value.int 551 0), (Value.int 3 0), (Value.int 0 0), (Value.int 0 0), (Value.int 3 0), (Value.ref 922), (Value.bool true), (Value.int 181 0), (Value.ref 923), Value.none, (Value.ref 924), (Value.ref 925), (Value.ref 926), (Value.int 1400 0), (Value.int 551 0), (Value.str (Str.ofString "/claim/cut.py") 1401)])) (List.toArray []))) ::
  (nat_lit 928, (Obj.mk (Value.type "function") none (Data.func (FuncData.mk (Str.ofString "__init__") (Str.ofString "ModelMaker.__init__") A51x0 (FuncBody.stmts B51x0) S51x0 3 [] Value.none Value.none Value.none (Value.str (Str.ofString "minismt.models") 1205) none (Value.ref 927) Value.none 0)) (List.toArray []))) ::
  (nat_lit 946, (Obj.mk (Value.type "code") none (Data.fields (List.toArray [(Value.str (Str.ofString "fresh_value") 1419), (Value.str (Str.ofString "ModelMaker.fresh_value") 1420), (Value.str (Str.ofString "/claim/cut.py") 1421), (Value.int 566 0), (Value.int 2 0), (Value.int 0 0), (Value.int 0 0), (Value.int 3 0), (Value.ref 943), (Value.bool true), (Value.int 181 0), (Value.ref 944), Value.none, Value.none, Value.none, (Value.ref 945), (Value.int 1422 0), (Value.int 566 0), (Value.str (Str.ofString "/claim/cut.py") 1423)])) (List.toArray []))) ::
  (nat_lit 947, (Obj.mk (Value.type "function") none (Data.func (FuncData.mk (Str.ofString "fresh_value") (Str.ofString "ModelMaker.fresh_value") A51x3 (FuncBody.stmts B51x3) S51x3 3 [] Value.none Value.none Value.none (Value.str (Str.ofString "minismt.models") 1205) none (Value.ref 946) Value.none 0)) (List.toArray []))) ::
  (nat_lit 977, (Obj.mk (Value.type "dict") none (Data.dict (List.toArray [(DictEntry.mk (PyData.keyHash P (Str.ofString "__module__")) (Value.str (Str.ofString "__module__") 1389) (Value.str (Str.ofString "minismt.models") 1205)), (DictEntry.mk (PyData.keyHash P (Str.ofString "__firstlineno__")) (Value.str (Str.ofString "__firstlineno__") 1393) (Value.int 549 1392)), (DictEntry.mk (PyData.keyHash P (Str.ofString "__init__")) (Value.str (Str.ofString "__init__") 1402) (Value.ref 928)), (DictEntry.mk (PyData.keyHash P (Str.ofString "told_by_theory")) (Value.str (Str.ofString "told_by_theory") 1410) (Value.ref 935)), (DictEntry.mk (PyData.keyHash P (Str.ofString "note_classes")) (Value.str (Str.ofString "note_classes") 1418) (Value.ref 942)), (DictEntry.mk (PyData.keyHash P (Str.ofString "fresh_value")) (Value.str (Str.ofString "fresh_value") 1424) (Value.ref 947)), (DictEntry.mk (PyData.keyHash P (Str.ofString "value_of_call")) (Value.str (Str.ofString "value_of_call") 1432) (Value.ref 954)), (DictEntry.mk (PyData.keyHash P (Str.ofString "note")) (Value.str (Str.ofString "note") 1440) (Value.ref 961)), (DictEntry.mk (PyData.keyHash P (Str.ofString "choose_others")) (Value.str (Str.ofString "choose_others") 1447) (Value.ref 968)), (DictEntry.mk (PyData.keyHash P (Str.ofString "made")) (Value.str (Str.ofString "made") 1455) (Value.ref 975)), (DictEntry.mk (PyData.keyHash P (Str.ofString "__static_attributes__")) (Value.str (Str.ofString "__static_attributes__") 1463) (Value.ref 976)), (DictEntry.mk (PyData.keyHash P (Str.ofString "__dict__")) (Value.str (Str.ofString "__dict__") 1465) (Value.ref 979)), (DictEntry.mk (PyData.keyHash P (Str.ofString "__weakref__")) (Value.str (Str.ofString "__weakref__") 1467) (Value.ref 980)), (DictEntry.mk (PyData.keyHash P (Str.ofString "__doc__")) (Value.str (Str.ofString "__doc__") 1468) Value.none)]) 4) (List.toArray []))) ::
  (nat_lit 978, (Obj.mk (Value.type "type") none (Data.cls (ClassData.mk (Str.ofString "ModelMaker") [(Value.type "object")] [(Value.ref 978), (Value.type "object")] 977 (Str.ofString "ModelMaker") true [] [] false none false)) (List.toArray [none, none, (some (Value.str (Str.ofString "ModelMaker") 1382)), (some (Value.str (Str.ofString "ModelMaker") 1390)), (some (Value.builtin "object.__new__")), (some (Value.bool true))]))) ::
  (nat_lit 988, (Obj.mk (Value.type "code") none (Data.fields (List.toArray [(Value.str (Str.ofString "_law_gulp") 1473), (Value.str (Str.ofString "_law_gulp") 1474), (Value.str (Str.ofString "/claim/cut.py") 1475), (Value.int 592 0), (Value.int 2 0), (Value.int 0 0), (Value.int 0 0), (Value.int 3 0), (Value.ref 983), (Value.bool true), (Value.int 181 0), (Value.ref 984), Value.none, (Value.ref 985), (Value.ref 986), (Value.ref 987), (Value.int 1479 0), (Value.int 592 0), (Value.str (Str.ofString "/claim/cut.py") 1480)])) (List.toArray []))) ::
  (nat_lit 989, (Obj.mk (Value.type "function") none (Data.func (FuncData.mk (Str.ofString "_law_gulp") (Str.ofString "_law_gulp") A53 (FuncBody.stmts B53) S53 3 [] Value.none Value.none Value.none (Value.str (Str.ofString "law_rg0220_01") 1471) none (Value.ref 988) Value.none 0)) (List.toArray []))) ::
  (nat_lit 995, (Obj.mk (Value.type "code") none (Data.fields (List.toArray [(Value.str (Str.ofString "_law_lowest") 1482), (Value.str (Str.ofString "_law_lowest") 1483), (Value.str (Str.ofString "/claim/cut.py") 1484), (Value.int 596 0), (Value.int 2 0), (Value.int 0 0), (Value.int 0 0), (Value.int 3 0), (Value.ref 990), (Value.bool true), (Value.int 181 0), (Value.ref 991), Value.none, (Value.ref 992), (Value.ref 993), (Value.ref 994), (Value.int 1489 0), (Value.int 596 0), (Value.str (Str.ofString "/claim/cut.py") 1490)])) (List.toArray []))) ::
  (nat_lit 996, (Obj.mk (Value.type "function") none (Data.func (FuncData.mk (Str.ofString "_law_lowest") (Str.ofString "_law_lowest") A54 (FuncBody.stmts B54) S54 3 [] Value.none Value.none Value.none (Value.str (Str.ofString "law_rg0220_01") 1471) none (Value.ref 995) Value.none 0)) (List.toArray []))) ::
  (nat_lit 1002, (Obj.mk (Value.type "code") none (Data.fields (List.toArray [(Value.str (Str.ofString "_law_class") 1492), (Value.str (Str.ofString "_law_class") 1493), (Value.str (Str.ofString "/claim/cut.py") 1494), (Value.int 601 0), (Value.int 5 0), (Value.int 0 0), (Value.int 0 0), (Value.int 3 0), (Value.ref 997), (Value.bool true), (Value.int 181 0), (Value.ref 998), Value.none, (Value.ref 999), (Value.ref 1000), (Value.ref 1001), (Value.int 1503 0), (Value.int 601 0), (Value.str (Str.ofString "/claim/cut.py") 1504)])) (List.toArray []))) ::
  (nat_lit 1003, (Obj.mk (Value.type "function") none (Data.func (FuncData.mk (Str.ofString "_law_class") (Str.ofString "_law_class") A55 (FuncBody.stmts B55) S55 3 [] Value.none Value.none Value.none (Value.str (Str.ofString "law_rg0220_01") 1471) none (Value.ref 1002) Value.none 0)) (List.toArray []))) ::
  (nat_lit 1007, (Obj.mk (Value.type "code") none (Data.fields (List.toArray [(Value.str (Str.ofString "_law_is_right") 1506), (Value.str (Str.ofString "_law_is_right") 1507), (Value.str (Str.ofString "/claim/cut.py") 1508), (Value.int 610 0), (Value.int 5 0), (Value.int 0 0), (Value.int 0 0), (Value.int 3 0), (Value.ref 1004), (Value.bool true), (Value.int 181 0), (Value.ref 1005), Value.none, Value.none, Value.none, (Value.ref 1006), (Value.int 1509 0), (Value.int 610 0), (Value.str (Str.ofString "/claim/cut.py") 1510)])) (List.toArray []))) ::
  (nat_lit 1008, (Obj.mk (Value.type "function") none (Data.func (FuncData.mk (Str.ofString "_law_is_right") (Str.ofString "_law_is_right") A56 (FuncBody.stmts B56) S56 3 [] Value.none Value.none Value.none (Value.str (Str.ofString "law_rg0220_01") 1471) none (Value.ref 1007) Value.none 0)) (List.toArray []))) ::
  (nat_lit 1012, (Obj.mk (Value.type "code") none (Data.fields (List.toArray [(Value.str (Str.ofString "law") 1512), (Value.str (Str.ofString "law") 1513), (Value.str (Str.ofString "/claim/cut.py") 1514), (Value.int 619 0), (Value.int 1 0), (Value.int 0 0), (Value.int 0 0), (Value.int 3 0), (Value.ref 1009), (Value.bool true), (Value.int 181 0), (Value.ref 1010), Value.none, Value.none, Value.none, (Value.ref 1011), (Value.int 1515 0), (Value.int 619 0), (Value.str (Str.ofString "/claim/cut.py") 1516)])) (List.toArray []))) ::
  (nat_lit 1013, (Obj.mk (Value.type "function") none (Data.func (FuncData.mk (Str.ofString "law") (Str.ofString "law") A57 (FuncBody.stmts B57) S57 3 [] Value.none Value.none Value.none (Value.str (Str.ofString "law_rg0220_01") 1471) none (Value.ref 1012) Value.none 0)) (List.toArray []))) :: []
def kAs : List Nat := [2, 3, 262, 263, 276, 277, 283, 284, 290, 291, 395, 396, 461, 462, 566, 567, 662, 663, 669, 674, 680, 681, 687, 688, 781, 782, 805, 806, 864, 865, 927, 928, 946, 947, 977, 978, 988, 989, 995, 996, 1002, 1003, 1007, 1008, 1012, 1013]
end Mine
end
section
open PySem PySem.W PyProof.Rows
set_option Elab.async false
namespace Mine
abbrev rw' : OpenLaw := PySem.Challenge.rw_rg0220_01
abbrev rowW : RowW := rw'.row.toRowW
noncomputable abbrev lawSt : Stmt := litOf (a := stAt 57) (b := _) (by conv => lhs; whnf)
noncomputable def Q : Program := { pw with main := { pw.main with body := [lawSt] } }
noncomputable def looseN : List Str := (pw.main.scope.names.map (·.1)).filter fun x => x != Str.ofString "law"
noncomputable abbrev Hk : Hook := kHook K kAs (fun _ => by kernel_rfl)
noncomputable abbrev Xt0 (s : Shared) : Bool := xlAt Q [] s && recOk (RowW.records rowW) s
noncomputable def lookAt (P : Params) (s : Shared) := ((staticsOk (importedModules pw.main.body) (boot_heap P) s.heap && namesBound pw s.heap && gensDone s && laidKept (boot_heap P) s.heap), openSeen Q looseN (importedModules pw.main.body) Xt0 true s, kAs.map s.heap.get?)
end Mine
end
section
open PySem PySem.W PyProof.Rows
set_option Elab.async false
namespace Mine
theorem core : ∀ w : World, (fun os => (segRunT treeTable pw w 11 ann0 1 6300 (Sa w os) (piecesOf body0 env0 cE pos0 B0)).map fun r => (r.1, r.2.2, lookAt w.params r.2.1.abs)) =
    fun _ => some (Flow.next, (cE, posL), (true, openGood Q looseN, (K w.params).map fun p => some p.2)) := by
  intro w
  unfold lookAt
  rw [Fast.te10110043849684766642, Fast.te14364793385576792824, Fast.te5923862056798008813, Fast.te4187177175401517315, R.mapR_eq]
  kernel_rfl
end Mine
end
section
open PySem PySem.W PyProof.Rows
set_option Elab.async false
namespace Mine
theorem said : PySem.Challenge.rw_rg0220_01.wellSaid = true := by
  rw [Fast.te9446332074065402090]
  kernel_rfl
end Mine
end
section
open PySem PySem.W PyProof.Rows
set_option Elab.async false
namespace Mine
theorem block0 (w : World) (os : OsState) : segRun treeTable pw w 11 ann0 1 1 (Sa w os).abs (blockOf body0 env0 cE pos0 B0) = some (Flow.next, (Sa w os).abs, cE, pos0) := by
  kernel_rfl
theorem fin0 (w : World) (s : Shared) : topRun treeTable pw w 11 ann0 2 s ⟨doneF .next, cE, posL, B0⟩ = some s := by
  kernel_rfl
theorem run0 (w : World) (os : OsState) : ∃ s₁, topRun treeTable pw w 11 ann0 (12 + (1 + (6300 + 2))) (S0 w os) (topStub pw) = some s₁ ∧ lookAt w.params s₁ = (true, openGood Q looseN, (K w.params).map fun p => some p.2) := by
  obtain ⟨⟨f, s, c, q⟩, h1, h2⟩ := Option.map_eq_some_iff.mp (congrFun (core w) os)
  obtain ⟨rfl, h3, h4⟩ : f = Flow.next ∧ (c, q) = (cE, posL) ∧ lookAt w.params s.abs = _ := by simpa only [Prod.mk.injEq] using h2
  obtain ⟨rfl, rfl⟩ := Prod.mk.inj h3
  refine ⟨s.abs, ?_, h4⟩
  exact go_top (congrFun (pre0 w) os) (piece_block (block0 w os) (by
    have k := piece_app (rest := []) (segRun_of h1) (piece_nil (fin0 w s.abs))
    rw [List.append_nil] at k
    exact k))
theorem size0 (w : World) : ((boot_heap w.params).isNs mainGlobals && (Array.mk ([] : List GenState)).size == 0, (boot_heap w.params).objs.size, (boot_heap w.params).nsMap mainGlobals "__annotations__") = (true, 11, ann0) := by
  kernel_rfl
theorem open0 : ∀ w : World, (fencedOpening treeTable pw w 12686).map (fun s => (s.heap, s.gens, s.drawn, s.toks)) = some (boot_heap w.params, Array.mk [], boot_drawn, boot_toks) :=
  boot_open (p := pw) (by kernel_rfl) (by decide +kernel) (fun s => by kernel_rfl)
theorem left_of_run {p q : Program} {loose : List Str} {Xt : Shared → Bool} {α : Type} {Yf : Shared → α} {Ya : World → α} {N : Nat} {g0 : Bool} {H₀ : Params → Heap} {gs₀ : Array GenState} {d₀ : Drawn} {k₀ : Nat} {m₀ : Nat} {ann : Option Value} {M : Nat}
    (op : ∀ w : World, (fencedOpening treeTable p w N).map (fun s => (s.heap, s.gens, s.drawn, s.toks)) = some (H₀ w.params, gs₀, d₀, k₀))
    (size : ∀ w : World, ((H₀ w.params).isNs mainGlobals && gs₀.size == 0, (H₀ w.params).objs.size, (H₀ w.params).nsMap mainGlobals "__annotations__") = (true, m₀, ann))
    (run : ∀ (w : World) (os : OsState), ∃ s₁, topRun treeTable p w m₀ ann M ⟨H₀ w.params, gs₀, d₀, k₀, os⟩ (topStub p) = some s₁ ∧
      ((staticsOk (importedModules p.main.body) (H₀ w.params) s₁.heap && namesBound p s₁.heap && gensDone s₁ && laidKept (H₀ w.params) s₁.heap), openSeen q loose (importedModules p.main.body) Xt g0 s₁, Yf s₁) = (true, openGood q loose, Ya w))
    (le : Nat.ble M N = true) : LeftO p q loose Xt Yf Ya N g0 := fun w => by
  obtain ⟨⟨h, gs, d, k, os⟩, e, e'⟩ := Option.map_eq_some_iff.mp (op w)
  obtain ⟨rfl, rfl, rfl, rfl⟩ : h = H₀ w.params ∧ gs = gs₀ ∧ d = d₀ ∧ k = k₀ := by simpa using e'
  obtain ⟨z1, z2, z3⟩ : _ ∧ _ ∧ _ := by simpa only [Prod.mk.injEq] using size w
  obtain ⟨s₁, hr, hl⟩ := run w os
  obtain ⟨l1, l2, l3⟩ : _ ∧ _ ∧ _ := by simpa only [Prod.mk.injEq] using hl
  have r := topRun_mono (N - M) _ _ _ _ hr
  rw [show M + (N - M) = N by have := Nat.le_of_ble_eq_true le; omega] at r
  have t : topFrom treeTable p w N ⟨H₀ w.params, gs, d, k, os⟩ = some s₁ := by
    unfold topFrom
    dsimp only
    rw [z1, z2, z3, r]
    show (match staticsOk (importedModules p.main.body) (H₀ w.params) s₁.heap && namesBound p s₁.heap && gensDone s₁ && laidKept (H₀ w.params) s₁.heap with | true => _ | false => _) = _
    rw [l1]
  unfold openEnds
  rw [e]
  show (topFrom treeTable p w N _).map _ = _
  rw [t]
  exact congrArg some (Prod.ext l2 l3)
theorem left0 : LeftO pw Q looseN Xt0 (Hook.obs Hk) (Hook.val Hk) 12686 := left_of_run open0 size0 run0 (by decide)
end Mine
end
section
open PySem PySem.W PyProof.Rows PySem.Calls
set_option Elab.async false
set_option maxRecDepth 100000
namespace Mine

structure MkKey where
  op : Str
  sort : Int
  data : Int
deriving DecidableEq

def IsMk (h : Heap) (k : MkKey) (a : Addr) : Prop :=
  ∃ o n e oe ne t1 t2 t3, h.get? a = some o ∧ o.cls = .type "tuple" ∧ o.data = .seq #[.str k.op t1, .ref e, .int k.sort t2, .int k.data t3] n ∧
    h.get? e = some oe ∧ oe.cls = .type "tuple" ∧ oe.data = .seq #[] ne

theorem IsMk.inj {h : Heap} {a : Addr} {x y : MkKey} (hx : IsMk h x a) (hy : IsMk h y a) : x = y := by
  obtain ⟨o, n, e, oe, ne, t1, t2, t3, ho, _, hd, _⟩ := hx
  obtain ⟨o', n', e', oe', ne', t1', t2', t3', ho', _, hd', _⟩ := hy
  obtain rfl : o = o' := Option.some.inj (ho.symm.trans ho')
  rw [hd] at hd'
  injection hd' with h1 _
  have h2 := congrArg Array.toList h1
  simp only [List.cons.injEq, Value.str.injEq, Value.int.injEq] at h2
  cases x; cases y
  simp only [MkKey.mk.injEq]
  exact ⟨h2.1.1, h2.2.2.1.1, h2.2.2.2.1.1⟩

theorem IsMk.keeps {h h' : Heap} {k : MkKey} {a d : Addr} {o : Obj} {es ep} (x : IsMk h k a) (ho : h.get? d = some o) (hd : o.data = .dict es ep) (hs : Heap.SameBut d h h') : IsMk h' k a := by
  obtain ⟨o', n, e, oe, ne, t1, t2, t3, ho', hc, hd', hoe, hce, hde⟩ := x
  have hne : a ≠ d := by
    rintro rfl
    obtain rfl : o' = o := Option.some.inj (ho'.symm.trans ho)
    rw [hd] at hd'; exact nomatch hd'
  have hne' : e ≠ d := by
    rintro rfl
    obtain rfl : oe = o := Option.some.inj (hoe.symm.trans ho)
    rw [hd] at hde; exact nomatch hde
  exact ⟨o', n, e, oe, ne, t1, t2, t3, (hs.2 a hne).trans ho', hc, hd', (hs.2 e hne').trans hoe, hce, hde⟩

section
variable {prog : Program} {w : World}

theorem IsMk.typeIs {s : Shared} {k : MkKey} {a : Addr} (x : IsMk s.heap k a) : s.TypeIs (.ref a) "tuple" := by
  obtain ⟨o, _, _, _, _, _, _, _, ho, hc, _⟩ := x
  exact ⟨o, ho, hc⟩

theorem emptyKey {h : Heap} {e : Addr} {oe : Obj} {ne : Nat} (ho : h.get? e = some oe) (hc : oe.cls = .type "tuple") (hd : oe.data = .seq #[] ne) : IsTupleKey (intKind prog w) h [] e :=
  ⟨oe, #[], ne, ho, hc, hd, .nil⟩

def mkHash (prog : Program) (w : World) (k : MkKey) : Int := reduceHash (Builtin.Tuple.tupleHashOf [(PySem.strKind prog w).hash k.op, tupleKeyHash (PySem.intKind prog w) [], (PySem.intKind prog w).hash k.sort, (PySem.intKind prog w).hash k.data])

variable {A : Around} {E : Value → Shared → Prop} {s : Shared}

theorem mk_pyHash {k : MkKey} {a : Addr} {Q : Int → Shared → Prop} (hu : A.units + 1 < cLine) (hk : IsMk s.heap k a) (h : Q (mkHash prog w k) { s with toks := s.toks + 5 }) :
    wpAny (model prog w) A (pyHash (.ref a)) Q E s := by
  have hT := hk.typeIs
  obtain ⟨o, n, e, oe, ne, t1, t2, t3, ho, _, hd, hoe, hce, hde⟩ := hk
  unfold pyHash
  first | unfold pyHashByItsType | skip
  first | refine wpAny_bind (wpAny_cRoomFor_or (.inr (Nat.lt_of_succ_lt hu)) ?_) | skip
  refine wpAny_bind (wpAny_specialOf hT F.slot_tuple_hash.lookup ?_)
  show wpAny _ _ (if (some (Value.builtin "tuple.__hash__") == some Value.none) = true then _ else _) Q E s
  rw [if_neg (by rw [beq_builtin_none]; exact Bool.false_ne_true)]
  refine wpAny_bind (wpAny_specialOf hT F.slot_tuple_hash.lookup ?_)
  show wpAny _ _ (callSpecialIfBoundUnlessNone? (.ref a) "__hash__" _ >>= _) Q E s
  refine wpAny_bind (wpAny_callSpecialIfBoundUnlessNone?_slot hT F.slot_tuple_hash (wpAny_call_entry F.slot_tuple_hash hT F.entry_tuple_hash ?_ (F.args_tuple_hash_1 _)))
  show wpAny _ _ (Builtin.Tuple.tupleItemsOf (.ref a) >>= _) _ _ s
  refine wpAny_bind (wpAny_tupleItemsOf ho hd ?_)
  refine wpAny_bind ?_
  rw [← Array.forIn_toList]
  simp only [List.forIn_cons, List.forIn_nil]
  refine wpAny_bind (wpAny_bind ((PySem.strKind prog w).pyHash (k := k.op) (by simp [PySem.strKind, Value.isStrOf]) ?_))
  refine wpAny_pure ?_
  dsimp only
  refine wpAny_bind (wpAny_bind (wpAny_pyHash_tuple (knd := PySem.intKind prog w) (ks := []) hu (emptyKey (prog := prog) (w := w) hoe hce hde) ?_))
  refine wpAny_pure ?_
  dsimp only
  refine wpAny_bind (wpAny_bind ((PySem.intKind prog w).pyHash (k := k.sort) (by simp [PySem.intKind, Value.isInt]) ?_))
  refine wpAny_pure ?_
  dsimp only
  refine wpAny_bind (wpAny_bind ((PySem.intKind prog w).pyHash (k := k.data) (by simp [PySem.intKind, Value.isInt]) ?_))
  refine wpAny_pure ?_
  dsimp only
  refine wpAny_pure ?_
  refine wpAny_ret_mkInt ?_
  show wpAny _ _ (if (decide (-(2 : Int) ^ 63 ≤ Builtin.Tuple.tupleHashOf [(PySem.strKind prog w).hash k.op, tupleKeyHash (PySem.intKind prog w) [], (PySem.intKind prog w).hash k.sort, (PySem.intKind prog w).hash k.data]) && decide (Builtin.Tuple.tupleHashOf [(PySem.strKind prog w).hash k.op, tupleKeyHash (PySem.intKind prog w) [], (PySem.intKind prog w).hash k.sort, (PySem.intKind prog w).hash k.data] < 2 ^ 63)) = true then _ else _) Q E _
  unfold mkHash reduceHash at h
  by_cases hr : (decide (-(2 : Int) ^ 63 ≤ Builtin.Tuple.tupleHashOf [(PySem.strKind prog w).hash k.op, tupleKeyHash (PySem.intKind prog w) [], (PySem.intKind prog w).hash k.sort, (PySem.intKind prog w).hash k.data]) && decide (Builtin.Tuple.tupleHashOf [(PySem.strKind prog w).hash k.op, tupleKeyHash (PySem.intKind prog w) [], (PySem.intKind prog w).hash k.sort, (PySem.intKind prog w).hash k.data] < 2 ^ 63)) = true
  · rw [if_pos hr]
    rw [if_pos hr] at h
    exact wpAny_pure (by simpa [Nat.add_assoc] using h)
  · rw [if_neg hr]
    rw [if_neg hr] at h
    exact wpAny_bind (wpAny_rule (wpAny_pure (by simpa [Nat.add_assoc] using h)))

theorem mk_eq_tree {x y : MkKey} {a b : Addr} {P : Fin → Shared → Prop} (hu : A.units + 1 < cLine) (hx : IsMk s.heap x a) (hy : IsMk s.heap y b) (h : P (.done (.ret (.bool (decide (x = y))))) s) :
    wpAny (model prog w) A (Builtin.«tuple.__eq__» ⟨[.ref a, .ref b], []⟩) P E s := by
  have hTb := hy.typeIs
  obtain ⟨oa, na, ea, oea, nea, t1, t2, t3, hoa, _, hda, hoea, hcea, hdea⟩ := hx
  obtain ⟨ob, nb, eb, oeb, neb, u1, u2, u3, hob, _, hdb, hoeb, hceb, hdeb⟩ := hy
  show wpAny _ _ (isInstance (.ref b) (.type "tuple") >>= _) _ _ s
  refine wpAny_bind (wpAny_isInstance hTb isSubtype_tuple_tuple ?_)
  simp only [Bool.not_true, Bool.false_eq_true, if_false]
  refine wpAny_bind (wpAny_tupleItemsOf hoa hda ?_)
  refine wpAny_bind (wpAny_tupleItemsOf hob hdb ?_)
  refine wpAny_bind ?_
  simp only [List.zip_cons_cons, List.zip_nil_right, List.forIn_cons, List.forIn_nil]
  refine wpAny_bind (wpAny_bind ((PySem.strKind prog w).eqBool (a := x.op) (b := y.op) (by simp [PySem.strKind, Value.isStrOf]) (by simp [PySem.strKind, Value.isStrOf]) ?_))
  by_cases h1 : x.op = y.op
  · rw [decide_eq_true h1]
    simp only [Bool.not_true, Bool.false_eq_true, if_false]
    refine wpAny_pure ?_
    dsimp only
    refine wpAny_bind (wpAny_bind (wpAny_eqBool_tuple (knd := PySem.intKind prog w) (x := []) (y := []) (Nat.lt_of_succ_lt hu) (emptyKey hoea hcea hdea) (emptyKey hoeb hceb hdeb) ?_))
    rw [decide_eq_true rfl]
    simp only [Bool.not_true, Bool.false_eq_true, if_false]
    refine wpAny_pure ?_
    dsimp only
    refine wpAny_bind (wpAny_bind ((PySem.intKind prog w).eqBool (a := x.sort) (b := y.sort) (by simp [PySem.intKind, Value.isInt]) (by simp [PySem.intKind, Value.isInt]) ?_))
    by_cases h2 : x.sort = y.sort
    · rw [decide_eq_true h2]
      simp only [Bool.not_true, Bool.false_eq_true, if_false]
      refine wpAny_pure ?_
      dsimp only
      refine wpAny_bind (wpAny_bind ((PySem.intKind prog w).eqBool (a := x.data) (b := y.data) (by simp [PySem.intKind, Value.isInt]) (by simp [PySem.intKind, Value.isInt]) ?_))
      by_cases h3 : x.data = y.data
      · rw [decide_eq_true h3]
        simp only [Bool.not_true, Bool.false_eq_true, if_false]
        refine wpAny_pure ?_
        dsimp only
        refine wpAny_pure ?_
        have e : x = y := by cases x; cases y; simp only [MkKey.mk.injEq]; exact ⟨h1, h2, h3⟩
        rw [decide_eq_true e] at h
        exact wpAny_pure h
      · rw [decide_eq_false h3]
        simp only [Bool.not_false, if_true]
        rw [decide_eq_false (fun e => h3 (by rw [e]))] at h
        exact wpAny_bind (wpAny_pure (wpAny_pure (wpAny_pure (wpAny_pure h))))
    · rw [decide_eq_false h2]
      simp only [Bool.not_false, if_true]
      rw [decide_eq_false (fun e => h2 (by rw [e]))] at h
      exact wpAny_bind (wpAny_pure (wpAny_pure (wpAny_pure (wpAny_pure h))))
  · rw [decide_eq_false h1]
    simp only [Bool.not_false, if_true]
    rw [decide_eq_false (fun e => h1 (by rw [e]))] at h
    exact wpAny_bind (wpAny_pure (wpAny_pure (wpAny_pure (wpAny_pure h))))

theorem mk_eqBool {x y : MkKey} {a b : Addr} {Q : Bool → Shared → Prop} (hu : A.units + 3 < cLine) (hx : IsMk s.heap x a) (hy : IsMk s.heap y b) (h : Q (decide (x = y)) s) :
    wpAny (model prog w) A (eqBool (.ref a) (.ref b)) Q E s := by
  unfold eqBool
  try with_reducible refine wpAny_holding ?_
  show wpAny _ _ (if (Value.ref a == Value.ref b) = true then _ else _) Q E s
  by_cases hab : (Value.ref a == Value.ref b) = true
  · rw [if_pos hab]
    have e : a = b := by have := eq_of_beq hab; injection this
    subst e
    obtain rfl := hx.inj hy
    exact wpAny_bind (wpAny_rule (wpAny_pure (by simpa using h)))
  · rw [if_neg hab]
    exact wpAny_bind (wpAny_richCompare_same_room (op := .Eq) hx.typeIs hy.typeIs F.slot_tuple_eq
      (wpAny_call_entry F.slot_tuple_eq hx.typeIs F.entry_tuple_eq (mk_eq_tree (by show A.units + 1 + 1 < cLine; omega) hx hy ⟨_, rfl, (fun e => nomatch e), wpAny_truthy_bool h⟩) (F.args_tuple_eq_2 _ _)) (by omega))

theorem tuple_quiet0 {e : Addr} {oe : Obj} {ne d : Nat} {Q : Bool → Shared → Prop} (ho : s.heap.get? e = some oe) (hc : oe.cls = .type "tuple") (hd : oe.data = .seq #[] ne) (h : Q true s) :
    wpAny (model prog w) A (eqIsQuiet (d + 1) (.ref e)) Q E s := by
  have hT : s.TypeIs (.ref e) "tuple" := ⟨oe, ho, hc⟩
  unfold eqIsQuiet
  refine wpAny_bind (wpAny_specialOf hT F.slot_tuple_eq.lookup ?_)
  show wpAny _ _ (isInstance (.ref e) (.type "tuple") >>= _) _ _ s
  refine wpAny_bind (wpAny_isInstance hT isSubtype_tuple_tuple ?_)
  simp only [Bool.not_true, Bool.false_eq_true, if_false]
  refine wpAny_bind (wpAny_seqItems ho hd ?_)
  refine wpAny_bind ?_
  show wpAny _ _ (forIn (#[] : Array Value) _ _) _ _ s
  rw [← Array.forIn_toList]
  simp only [List.forIn_nil]
  exact wpAny_pure (wpAny_pure h)

theorem mk_quiet {k : MkKey} {a : Addr} {Q : Bool → Shared → Prop} (hk : IsMk s.heap k a) (h : Q true s) : wpAny (model prog w) A (eqIsQuiet 8 (.ref a)) Q E s := by
  have hT := hk.typeIs
  obtain ⟨o, n, e, oe, ne, t1, t2, t3, ho, _, hd, hoe, hce, hde⟩ := hk
  unfold eqIsQuiet
  refine wpAny_bind (wpAny_specialOf hT F.slot_tuple_eq.lookup ?_)
  show wpAny _ _ (isInstance (.ref a) (.type "tuple") >>= _) _ _ s
  refine wpAny_bind (wpAny_isInstance hT isSubtype_tuple_tuple ?_)
  simp only [Bool.not_true, Bool.false_eq_true, if_false]
  refine wpAny_bind (wpAny_seqItems ho hd ?_)
  refine wpAny_bind ?_
  show wpAny _ _ (forIn (#[Value.str k.op t1, Value.ref e, Value.int k.sort t2, Value.int k.data t3] : Array Value) _ _) _ _ s
  rw [← Array.forIn_toList]
  simp only [List.forIn_cons, List.forIn_nil]
  rw [eqIsQuiet_byValue _ (v := Value.str k.op t1) rfl]
  refine wpAny_bind (wpAny_bind (wpAny_pure ?_))
  simp only [Bool.not_true, Bool.false_eq_true, if_false]
  refine wpAny_pure ?_
  dsimp only
  refine wpAny_bind (wpAny_bind (tuple_quiet0 hoe hce hde ?_))
  simp only [Bool.not_true, Bool.false_eq_true, if_false]
  refine wpAny_pure ?_
  dsimp only
  rw [eqIsQuiet_byValue _ (v := Value.int k.sort t2) rfl]
  refine wpAny_bind (wpAny_bind (wpAny_pure ?_))
  simp only [Bool.not_true, Bool.false_eq_true, if_false]
  refine wpAny_pure ?_
  dsimp only
  rw [eqIsQuiet_byValue _ (v := Value.int k.data t3) rfl]
  refine wpAny_bind (wpAny_bind (wpAny_pure ?_))
  simp only [Bool.not_true, Bool.false_eq_true, if_false]
  refine wpAny_pure ?_
  dsimp only
  refine wpAny_pure ?_
  exact wpAny_pure h
end

def mkKind (prog : Program) (w : World) : HeapKind prog w MkKey where
  is := IsMk
  hash := mkHash prog w
  draws := fun _ => 5
  room := fun A => A.units + 3 < cLine
  inj := fun hx hy => hx.inj hy
  keeps := fun x ho hd hs => x.keeps ho hd hs
  pyHash := fun hu hk h => mk_pyHash (by omega) hk h
  eqBool := fun hu hx hy h => mk_eqBool hu hx hy h
  quiet := fun hk h => mk_quiet hk h

end Mine
end
section
open PySem PySem.W PyProof.Rows PySem.Calls
set_option Elab.async false
set_option maxRecDepth 100000
namespace Mine

def MkIn (news : List (Addr × Obj)) (k : MkKey) (a : Addr) : Prop :=
  ∃ t1 e t2 t3 n ne, (a, ({ cls := .type "tuple", data := .seq #[.str k.op t1, .ref e, .int k.sort t2, .int k.data t3] n } : Obj)) ∈ news ∧ (e, ({ cls := .type "tuple", data := .seq #[] ne } : Obj)) ∈ news
theorem MkIn.at {news : List (Addr × Obj)} {k : MkKey} {a : Addr} {h₀ h : Heap} {L : Addr} (x : MkIn news k a) (N : News h₀ L h news) : IsMk h k a := by
  obtain ⟨t1, e, t2, t3, n, ne, h1, h2⟩ := x
  exact ⟨_, n, e, _, ne, t1, t2, t3, (N _ h1).1, rfl, rfl, (N _ h2).1, rfl, rfl⟩

section
variable {prog : Program} {w : World} {A : Around} {E : Value → Shared → Prop} {s : Shared} {h₀ : Heap} {L d a : Addr} {m : Str → Option Value} {news : List (Addr × Obj)} {o : Obj} {k : MkKey} {xs : List (MkKey × Addr × Value)}

def MkD (prog : Program) (w : World) (o : Obj) (xs : List (MkKey × Addr × Value)) : Prop :=
  o.ExactDict ∧ ∃ es ep, o.data = .dict es ep ∧ es.toList = xs.map (entryOfKey (mkKind prog w)) ∧ (xs.map (·.1)).Nodup
theorem mkD_nil (h : o.IsDictOf (PySem.intKind prog w) []) : MkD prog w o [] := by
  obtain ⟨es, ep, hx, hd, _, hp, hn⟩ := h
  refine ⟨hx, es, ep, hd, ?_, List.nodup_nil⟩
  have := hp.length
  exact List.eq_nil_of_length_eq_zero this
theorem mkD_at (N : News h₀ L s.heap news) (hm : (d, o) ∈ news) (hD : MkD prog w o xs) (hx : ∀ x ∈ xs, MkIn news x.1 x.2.1) : s.heap.DictOfH (mkKind prog w) d xs := by
  obtain ⟨hx1, es, ep, hd, he, hn⟩ := hD
  exact ⟨o, es, ep, (N _ hm).1, hx1, hd, he, fun x h => (hx x h).at N, hn⟩

theorem mk_get {dflt : Value} {Q : Value → Shared → Prop} (N : News h₀ L s.heap news) (hm : (d, o) ∈ news) (lo : (d == sysModules) = false) (hD : MkD prog w o xs) (hx : ∀ x ∈ xs, MkIn news x.1 x.2.1) (hk : MkIn news k a)
    (hne : atKey xs k = none) (hu : A.units + 4 < cLine) (h : Q dflt { s with toks := s.toks + 5 }) : wpAny (model prog w) A (call (.builtin "dict.get") [.ref d, .ref a, dflt]) Q E s := by
  have H := mkD_at N hm hD hx
  refine call_meetsIn F.slot_dict_get H.typeIs F.entry_dict_get (F.args_dict_get_3 _ _ _) (meetsH_dict_get_default (mkKind prog w) d a lo dflt) ⟨?_, k, xs, hk.at N, H, ?_⟩
  · show A.units + 1 + 3 < cLine
    omega
  · rw [hne]; exact h

theorem mk_set {v : Value} {Q : Unit → Shared → Prop} {u : Obj → List (Addr × Obj)} (F : Fr h₀ L s.heap m) (N : News h₀ L s.heap news) (U : UpdF d o news u) (hD : MkD prog w o xs) (hx : ∀ x ∈ xs, MkIn news x.1 x.2.1) (hk : MkIn news k a)
    (hne : atKey xs k = none) (hu : A.units + 4 < cLine) (hz : xs.length ≤ 100) (h : ∀ h' o', Fr h₀ L h' m → News h₀ L h' (u o') → MkD prog w o' (xs ++ [(k, a, v)]) → Q () { s with heap := h', toks := s.toks + 5 }) :
    wpAny (model prog w) A (setItem (.ref d) (.ref a) v) Q E s := by
  obtain ⟨pre, post, rfl, hg, h1, h2⟩ := U.split
  have hm : (d, o) ∈ pre ++ (d, o) :: post := List.mem_append_right _ (.head _)
  have hp := N (d, o) hm
  have H := mkD_at N hm hD hx
  refine wpAny_setItem_heap (knd := mkKind prog w) (hsz := by rw [sizeLine_eq]; omega) (by show A.units + 1 + 3 < cLine; omega) (hk.at N) H fun h' hm' hs => ?_
  rw [storedH_new hne] at hm'
  obtain ⟨o', es, ep, ho', hx', hd', he', _, hn'⟩ := hm'
  exact h h' o' (F.change hs hp.2.1 hp.2.2) (hg o' ▸ N.setIn h1 h2 hs ho') ⟨hx', es, ep, hd', he', hn'⟩

theorem ed_method_get {pl : Sem Bool} {Q : Value × List Value → Shared → Prop} (N : News h₀ L s.heap news) (hm : (d, o) ∈ news) (hx : o.ExactDict) (h : Q (.builtin "dict.get", [.ref d]) s) :
    wpAny (model prog w) A (getMethod (.ref d) "get" pl) Q E s :=
  getMethod_builtin (T := "dict") ⟨o, (N _ hm).1, hx.1⟩ PySem.F.plainAttrs_dict PySem.F.slot_dict_get PySem.F.type_dict_get (fun b e => by injection e with e; subst e; exact ⟨o, (N _ hm).1, hx.2.1⟩) h
theorem mk_get' {op : Str} {so da : Int} {dflt : Value} {Q : Value → Shared → Prop} (N : News h₀ L s.heap news) (hm : (d, o) ∈ news) (lo : (d == sysModules) = false) (hD : MkD prog w o xs) (hx : ∀ x ∈ xs, MkIn news x.1 x.2.1) (hk : MkIn news ⟨op, so, da⟩ a)
    (hne : atKey xs ⟨op, so, da⟩ = none) (hu : A.units + 4 < cLine) (h : Q dflt { s with toks := s.toks + 5 }) : wpAny (model prog w) A (call (.builtin "dict.get") [.ref d, .ref a, dflt]) Q E s := mk_get N hm lo hD hx hk hne hu h
theorem mk_set' {op : Str} {so da : Int} {v : Value} {Q : Unit → Shared → Prop} {u : Obj → List (Addr × Obj)} (F : Fr h₀ L s.heap m) (N : News h₀ L s.heap news) (U : UpdF d o news u) (hD : MkD prog w o xs) (hx : ∀ x ∈ xs, MkIn news x.1 x.2.1) (hk : MkIn news ⟨op, so, da⟩ a)
    (hne : atKey xs ⟨op, so, da⟩ = none) (hu : A.units + 4 < cLine) (hz : xs.length ≤ 100) (h : ∀ h' o', Fr h₀ L h' m → News h₀ L h' (u o') → MkD prog w o' (xs ++ [(⟨op, so, da⟩, a, v)]) → Q () { s with heap := h', toks := s.toks + 5 }) :
    wpAny (model prog w) A (setItem (.ref d) (.ref a) v) Q E s := mk_set F N U hD hx hk hne hu hz h
end
end Mine
end
section
open PySem PySem.W PyProof.Rows PySem.Calls
set_option Elab.async false
set_option maxRecDepth 100000
namespace Mine
open LCg
section
variable {prog : Program} {w : World} {A : Around} {E : Value → Shared → Prop} {s : Shared} {h₀ : Heap} {L : Addr} {m : Str → Option Value} {env : Env}

abbrev tupOf (its : Array Value) (n : Nat) : Obj := { cls := .type "tuple", data := .seq its n }

def SrcT (prog : Program) (w : World) (A : Around) (h₀ : Heap) (L : Addr) (m : Str → Option Value) (env : Env) (elt : Expr) (x : Str) (scope : Scope) (cl : List (Str × Addr)) (Fin : Shared → List Value → List (Addr × Obj) → Prop) (xv : Value) (s₁ : Shared) : Prop :=
  ∃ ax its n news, xv = .ref ax ∧ A.handled = none ∧ Fr h₀ L s₁.heap m ∧ News h₀ L s₁.heap news ∧ (ax, tupOf its n) ∈ news ∧ its.size ≤ sizeLine ∧
    ∀ s₂ : Shared, (∃ h, s₂ = { s₁ with heap := h }) → CompRest prog w A h₀ L m env elt x scope cl s₂ (fun nw => (ax, tupOf its n) ∈ nw) (fun i v => its[i]? = some v) (Fin s₂) its.size 0 [] news

theorem SrcT.intro {elt : Expr} {x : Str} {scope : Scope} {cl : List (Str × Addr)} {Fin : Shared → List Value → List (Addr × Obj) → Prop} {ax : Addr} {its : Array Value} {k : Nat} {news : List (Addr × Obj)} {s₁ : Shared}
    (hh : A.handled = none) (F : Fr h₀ L s₁.heap m) (N : News h₀ L s₁.heap news) (hm : (ax, tupOf its k) ∈ news) (hsz : its.size ≤ sizeLine)
    (h : ∀ g, CompRest prog w A h₀ L m env elt x scope cl { s₁ with heap := g } (fun nw => (ax, tupOf its k) ∈ nw) (fun i v => its[i]? = some v) (Fin { s₁ with heap := g }) its.size 0 [] news) :
    SrcT prog w A h₀ L m env elt x scope cl Fin (.ref ax) s₁ := ⟨ax, its, k, news, rfl, hh, F, N, hm, hsz, fun _ ⟨g, e⟩ => e ▸ h g⟩

theorem tup_st {ax I : Addr} {its : Array Value} {k : Nat} : ∀ i (h h' : Heap) (o : Obj) (nw : List (Addr × Obj)), (h.IsTupleIter I ax i ∧ h.IsTuple ax its) → h.get? I = some o → h'.get? I = some o → (∀ b o, h₀.get? b = some o → h'.get? b = some o) → News h₀ L h' nw → (ax, tupOf its k) ∈ nw → (h'.IsTupleIter I ax i ∧ h'.IsTuple ax its) :=
  fun i h h' o nw st e e' _ N hm => ⟨by obtain ⟨o', q, r⟩ := st.1; rw [e] at q; cases q; exact ⟨o, e', r⟩, ⟨_, (N _ hm).1, rfl, _, rfl⟩⟩

theorem Assign_ListComp_T {elt iter : Expr} {x y : Str} {px py : Pos} {scope : Scope} {cl : List (Str × Addr)} {pos spos : Pos} {Q : Flow → Shared → Prop} (F₀ : Fr h₀ L s.heap m) (hLe : env.locals = L)
    (hsw : swapsWith (.ListComp elt [⟨.Name x px, iter, [], 0⟩] scope pos) (some (.Name y py)) spos.line env = pure true)
    (hclos : closureFor scope env = pure cl) (hcell : ∀ z ∈ scope.names, z.2 ≠ .cell) (hkind : scope.kind = .function)
    (hnames : ∀ z ∈ scope.names, z.2 = .local → scope.names.lookup z.1 = some .local) (hx : scope.names.lookup x = some .local)
    (hy : env.kindOf y = some .local) (hp : (env.scope.kind == .class || (env.scope.kind == .module && env.locals != env.globals)) = false)
    (h : wpAny (model prog w) A (eval iter env) (SrcT prog w A h₀ L m env elt x scope cl (fun s₂ => FinA h₀ L m s₂ y Q)) E s)
    (hs : ∀ x, foldedSetIterable iter env x = pure x := by intro _; rfl) :
    wpAny (model prog w) A (exec (.Assign [.Name y py] (.ListComp elt [⟨.Name x px, iter, [], 0⟩] scope pos) spos) env) Q E s := by
  subst hLe
  rw [exec_Assign_Name_used _ _ _ _ hsw]
  refine wpAny_bind (wpAny_standAt (wpAny_bind ?_))
  show wpAny _ A (do let _ ← comprehension (.ListComp elt [⟨.Name x px, iter, [], 0⟩] scope pos) scope env _ (newList []) false (eval iter env) (some (assign (.Name y py) env))) _ _ s
  refine wpAny_bind (wpAny_mono (wpAny_comprehension_free (use := some (assign (.Name y py) env)) (Q := fun _ s' => Q .next s') rfl hs hclos hkind hnames
    (wpAny_mono h (fun xv s₁ h₁ => ?_) fun _ _ e => e)) (fun _ s' hq => wpAny_pure (wpAny_pure hq)) fun _ _ e => e)
  obtain ⟨ax, its, n, news, rfl, hh, F, N, hm, hsz, R⟩ := h₁
  have hl : s₁.heap.IsTuple ax its := ⟨_, (N _ hm).1, rfl, _, rfl⟩
  have hlt : ax < s₁.heap.objs.size := Heap.lt_size (N _ hm).1
  refine wpAny_pyIter_tuple hl ?_
  have up : ∀ b o, s₁.heap.get? b = some o → (s₁.heap.push { cls := .type "tuple_iterator", data := .fields #[.ref ax, .int 0 0] }).get? b = some o := fun b o e => Heap.get?_push_of_some _ e
  refine block_U (Walks.tuple hh s₁.heap.objs.size ax (Nat.ne_of_lt hlt) its) hsz (fun i h st => by obtain ⟨o, e, _⟩ := st.1; exact ⟨o, e⟩) (tup_st (k := n)) hcell hkind hx ⟨⟨_, Heap.get?_push_size _ rfl, rfl, rfl⟩, ⟨_, up _ _ (N _ hm).1, rfl, _, rfl⟩⟩ (fun b hb => ?_)
    (F.keeps up) (N.grown up) (Nat.ne_of_lt F.ns.lt) (next_is_new F) (fun p hp => Nat.ne_of_lt (Heap.lt_size (N p hp).1)) hm (R _ ⟨_, rfl⟩) ?_
  · show b < (s₁.heap.push _).objs.size
    rw [Heap.size_push]
    rcases List.mem_cons.mp hb with rfl | hb
    · exact Nat.lt_succ_self _
    · rw [List.mem_singleton.mp hb]; exact Nat.lt_succ_of_lt hlt
  · intro D C h' tk m' ys news' F' N' o1 hn hC₀ hD₀ hCL hDL hCD offC fin
    show wpAny _ A (assign (.Name y py) env (.ref D)) _ _ _
    refine wpAny_assign_Name (wpAny_storeName_local hy F'.ns (fun h₂ hn₂ hs₂ => ?_) hp)
    have hL₀ : h₀.get? env.locals = none := Heap.get?_none_of_le F'.above
    have F₂ : Fr h₀ env.locals h₂ (fun z => if z = y then some (.ref D) else m z) := ⟨hn₂, fun b o e => hs₂.extBut b o (fun q => by rw [q, hL₀] at e; cases e) (F'.keep b o e), F'.above⟩
    refine ⟨m', hn.sameBut hs₂ hCL, fun h'' hs'' => fin D h'' _ (F₂.change hs'' hCL hC₀) (fun p hp => ?_) o1⟩
    have z : h₂.get? p.1 = some p.2 := hs₂.extBut _ _ (N' p hp).2.1 (N' p hp).1
    refine ⟨hs''.extBut _ _ ?_ z, (N' p hp).2⟩
    rcases List.mem_cons.mp hp with rfl | hp
    · exact Ne.symm hCD
    · exact offC p hp
end
end Mine
end
section
open PySem PySem.W PyProof.Rows
set_option Elab.async false
set_option maxRecDepth 100000
namespace Mine
def lawParts : Str × List Stmt × Scope := match PySem.Challenge.rw_rg0220_01.prog.main.body.getLast? with
  | some (.FunctionDef n _ b _ _ _ sc _ _ _) => (n, b, sc)
  | _ => (Str.ofString "", [], { kind := .function, names := [], isGenerator := false, isCoroutine := false, more := [] })
abbrev lawBody : List Stmt := lawParts.2.1
abbrev lawScope : Scope := lawParts.2.2
abbrev lawEnv (L fa : Addr) (cd : Value) : Env := envOfC (Str.ofString "law") lawScope L fa cd
abbrev lawA (L fa : Addr) (cd : Value) : Around := callerA.deeper (lawEnv L fa cd)
abbrev prog' : Program := PySem.Challenge.rw_rg0220_01.row.prog
noncomputable def lawStm (i : Nat) : Stmt := (lawBody[i]?).getD (.Pass pos0)
theorem lawA_eq (L fa : Addr) (cd : Value) : lawA L fa cd = ktrTop (1 + claimMargin + 1) (callerA.deeper (lawEnv L fa cd)).units (lawA L fa cd).guards (Str.ofString "law") lawScope L fa cd [(Str.ofString "bank", L + 1)] [] := rfl
end Mine
end
section
open PySem PySem.W PyProof.Rows
set_option Elab.async false
namespace Mine
theorem ne_lt {a b c : Nat} {R : Prop} (h : c < b ∧ R) (k : c < b ∧ R → a < b) : a ≠ b := Nat.ne_of_lt (k h)
theorem ne_gt {a b c : Nat} {R : Prop} (h : c < a ∧ R) (k : c < a ∧ R → b < a) : a ≠ b := Nat.ne_of_gt (k h)
theorem toks_cons {M : Model} {A : Around} {st : Stmt} {rest : List Stmt} {env : Env} {Q : Flow → Shared → Prop} {E : Value → Shared → Prop} {s : Shared}
    (k : ∀ tk, wpAny M A (exec st env) (fun f s' => match f with | .next => wpAny M A (execs rest env) Q E s' | f => Q f s') E { s with toks := tk }) : wpAny M A (execs (st :: rest) env) Q E s := wpAny_execs_cons (k s.toks)
def LtAll (d : Nat) (l : List Nat) : Prop := ∀ x ∈ l, x < d
theorem addr_lt {d : Nat} {l : List (Addr × Obj)} (h : ∀ p ∈ l, p.1 < d) : LtAll d (l.map (·.1)) := fun x hx => by
  obtain ⟨p, hp, rfl⟩ := List.mem_map.mp hx
  exact h p hp
theorem lt1 {d a : Nat} {r : List Nat} {P : Prop} (h : LtAll d (a :: r)) (k : a < d → LtAll d r → P) : P := k (h a (.head _)) fun x hx => h x (.tail _ hx)
theorem lt8 {d a1 a2 a3 a4 a5 a6 a7 a8 : Nat} {r : List Nat} {P : Prop} (h : LtAll d (a1 :: a2 :: a3 :: a4 :: a5 :: a6 :: a7 :: a8 :: r)) (k : a1 < d → a2 < d → a3 < d → a4 < d → a5 < d → a6 < d → a7 < d → a8 < d → LtAll d r → P) : P :=
  lt1 h fun x1 h => lt1 h fun x2 h => lt1 h fun x3 h => lt1 h fun x4 h => lt1 h fun x5 h => lt1 h fun x6 h => lt1 h fun x7 h => lt1 h fun x8 h => k x1 x2 x3 x4 x5 x6 x7 x8 h
theorem all_ne {d : Nat} {l : List (Addr × Obj)} (h : LtAll d (l.map (·.1))) : ∀ p ∈ l, p.1 ≠ d := fun p hp => Nat.ne_of_lt (h p.1 (List.mem_map.mpr ⟨p, hp, rfl⟩))
def Stp (n : Nat) (p : Prop) : Prop := p
theorem Stp.out {n : Nat} {p : Prop} (h : Stp n p) : p := h
theorem Stp.mk {n : Nat} {p : Prop} (h : p) : Stp n p := h
theorem rm0 {d n r : Nat} (h : d + n < r) : d < r := Nat.lt_of_le_of_lt (Nat.le_add_right d n) h
theorem rmS {d n k r : Nat} (h : d + n < r) (e : Nat.ble (k + 1) n = true) : d + 1 + k < r := by have := Nat.le_of_ble_eq_true e; omega
theorem unX {u n k c : Nat} (h : u + n < c) (e : Nat.ble (3 + k) n = true) : u + 3 + k < c := by have := Nat.le_of_ble_eq_true e; omega
end Mine
end
section
open PySem PySem.W PyProof.Rows
set_option Elab.async false
namespace Mine
structure Does (w : World) (L fa : Nat) (cd : Value) (st : Stmt) (Q : Flow → Shared → Prop) (s : Shared) : Prop where
  out : wpAny (model PySem.Challenge.rw_rg0220_01.row.prog w) (lawA L fa cd) (exec st (lawEnv L fa cd)) Q (fun _ _ => False) s
structure DoesAll (w : World) (L fa : Nat) (cd : Value) (sts : List Stmt) (Q : Flow → Shared → Prop) (s : Shared) : Prop where
  out : wpAny (model PySem.Challenge.rw_rg0220_01.row.prog w) (lawA L fa cd) (execs sts (lawEnv L fa cd)) Q (fun _ _ => False) s
structure LawGoal (w : World) (L fa : Nat) (cd : Value) (Q : Flow → Shared → Prop) (E : Value → Shared → Prop) (s : Shared) : Prop where
  out : wpAny (model PySem.Challenge.rw_rg0220_01.row.prog w) (callerA.deeper (lawEnv L fa cd)) (execs lawBody (lawEnv L fa cd)) Q E s
theorem LawGoal_def (w : World) (L fa : Nat) (cd : Value) (Q : Flow → Shared → Prop) (E : Value → Shared → Prop) (s : Shared) : LawGoal w L fa cd Q E s =
  wpAny (model PySem.Challenge.rw_rg0220_01.row.prog w) (callerA.deeper (lawEnv L fa cd)) (execs lawBody (lawEnv L fa cd)) Q E s := by
  apply propext
  constructor
  · intro h
    cases h
    assumption
  · intro h
    constructor
    assumption
structure NextQ (w : World) (L fa : Nat) (cd : Value) (rest : List Stmt) (Q : Flow → Shared → Prop) (f : Flow) (s' : Shared) : Prop where
  next : f = .next → DoesAll w L fa cd rest Q s'
  other : f ≠ .next → Q f s'
theorem step {w : World} {L fa : Nat} {cd : Value} {s : Shared} {Q : Flow → Shared → Prop} {st : Stmt} {rest : List Stmt} (h : Does w L fa cd st (NextQ w L fa cd rest Q) s) : DoesAll w L fa cd (st :: rest) Q s :=
  ⟨wpAny_execs_cons (wpAny_mono h.out (fun f s' h' => by cases f <;> first | exact (h'.next rfl).out | exact h'.other (fun q => nomatch q)) fun _ _ e => e)⟩
theorem NextQ.go {w : World} {L fa : Nat} {cd : Value} {s : Shared} {Q : Flow → Shared → Prop} {rest : List Stmt} (h : DoesAll w L fa cd rest Q s) : NextQ w L fa cd rest Q .next s := ⟨fun _ => h, fun q => absurd rfl q⟩
theorem NextQ.ret {w : World} {L fa : Nat} {cd v : Value} {s : Shared} {Q : Flow → Shared → Prop} {rest : List Stmt} (h : Q (.ret v) s) : NextQ w L fa cd rest Q (.ret v) s := ⟨(fun q => nomatch q), fun _ => h⟩
theorem law_start {w : World} {L fa : Nat} {cd : Value} {s : Shared} {Q : Flow → Shared → Prop} {E : Value → Shared → Prop} {sts : List Stmt} (e : lawBody = sts) (h : DoesAll w L fa cd sts Q s) : LawGoal w L fa cd Q E s := by
  have h2 : wpAny (model PySem.Challenge.rw_rg0220_01.row.prog w) (lawA L fa cd) (execs sts (lawEnv L fa cd)) Q E s := wpAny_noRaise h.out
  subst e
  constructor
  assumption
end Mine
end
section
open PySem PySem.W PyProof.Rows
set_option Elab.async false
namespace Mine
local macro_rules | `(tactic| k_lt $h:ident) => `(tactic| (replace $h := Mine.addr_lt $h; dsimp only [List.map] at $h:ident; have kkeep := $h; (repeat first | (refine Mine.lt8 $h ?_; clear $h; intro kx kx kx kx kx kx kx kx $h) | (refine Mine.lt1 $h ?_; clear $h; intro kx $h)); (try dsimp only)))
local macro_rules | `(tactic| k_ne) => `(tactic| (refine neN ?_; (try dsimp only); with_reducible first | exact Nat.ne_of_lt (by assumption) | exact Nat.ne_of_gt (by assumption) | assumption | exact Ne.symm (by assumption)))
local macro_rules | `(tactic| k_all) => `(tactic| exact Mine.all_ne (by assumption))
local macro_rules | `(tactic| walk_at "execs cons") => `(tactic| (k_here; refine Mine.toks_cons ?_; intro tk'; (try dsimp only); (try k_fold)))
def Kept (h h' : Heap) (adr : List Addr) : Prop := ∀ b o, h.get? b = some o → b ∉ adr → h'.get? b = some o
theorem kept_of {H g H' : Heap} {L' : Addr} {m' : Str → Option Value} {adr : List Addr} (G : GSub H g adr) (F : Fr g L' H' m') : Kept H H' adr := fun b o e hb => F.keep b o (G b o e hb)
local macro_rules | `(tactic| k_units) => `(tactic| first | exact Nat.le_of_ble_eq_true rfl | ((have hcL9 := cLine_is); (try simp only [units_in1, units_deeper, Around.mark_units, units_caller] at *); (try dsimp only [ktrTop] at *); omega))
local macro_rules | `(tactic| walk_at "call builtin:list.append") => `(tactic| (k_here; refine Mine.Stp.out (n := 1) ?_))
local macro_rules | `(tactic| walk_at "call builtin:len") => `(tactic| (k_here; (with_reducible show wpAny _ _ (call (Value.builtin "len") [Value.ref _]) _ _ _); refine Mine.Stp.out (n := 2) ?_))
theorem fit1000 {D : List (PyData × PyData)} (h : PyProof.V.LenLe D 1000) : D.length ≤ sizeLine := Nat.le_trans h (by rw [sizeLine_eq]; decide)
local macro_rules | `(tactic| walk_at "setItem ref int") => `(tactic| (k_here; refine Mine.Stp.out (n := 3) ?_))
local macro_rules | `(tactic| walk_at "getItem ref int") => `(tactic| (k_here; refine Mine.Stp.out (n := 4) ?_))

structure Bk where
  h : Nat → Int
  t : Nat → Tok
  v : Nat → Value
abbrev getI (l : List Int) (i : Nat) : Int := l.getD i 0
abbrev getN (l : List Tok) (i : Nat) : Tok := l.getD i 0
abbrev getV (l : List Value) (i : Nat) : Value := l.getD i .none
abbrev wlL (q : Nat → Tok) : List Value := [Value.int 0 (q 1), .int 0 (q 2), .int 0 (q 3), .int 1 (q 4), .int 2 (q 5), .int 3 (q 6), .int 0 (q 7), .int 0 (q 8)]
abbrev kdL (q : Nat → Tok) : List Value := [Value.int 1 (q 1), .int 2 (q 2), .int 3 (q 3), .int 4 (q 4), .int 5 (q 5), .int 6 (q 6), .int 7 (q 7), .int 3 (q 8)]
abbrev bankEs (bk : Bk) (nl wl bv : Nat) : List DictEntry :=
  [⟨bk.h 1, .str (Str.ofString "sort_names") (bk.t 1), .ref nl⟩, ⟨bk.h 2, .str (Str.ofString "sort_widths") (bk.t 2), .ref wl⟩, ⟨bk.h 3, .str (Str.ofString "fun_names") (bk.t 3), bk.v 3⟩, ⟨bk.h 4, .str (Str.ofString "fun_args") (bk.t 4), bk.v 4⟩, ⟨bk.h 5, .str (Str.ofString "fun_results") (bk.t 5), bk.v 5⟩,
        ⟨bk.h 6, .str (Str.ofString "fresh_count") (bk.t 6), bk.v 6⟩, ⟨bk.h 7, .str (Str.ofString "term_ops") (bk.t 7), bk.v 7⟩, ⟨bk.h 8, .str (Str.ofString "term_args") (bk.t 8), bk.v 8⟩, ⟨bk.h 9, .str (Str.ofString "term_sorts") (bk.t 9), bk.v 9⟩, ⟨bk.h 10, .str (Str.ofString "term_datas") (bk.t 10), bk.v 10⟩, ⟨bk.h 11, .str (Str.ofString "numbers") (bk.t 11), bk.v 11⟩,
        ⟨bk.h 12, .str (Str.ofString "true_number") (bk.t 12), bk.v 12⟩, ⟨bk.h 13, .str (Str.ofString "false_number") (bk.t 13), bk.v 13⟩, ⟨bk.h 14, .str (Str.ofString "bv_numbers") (bk.t 14), .ref bv⟩]
set_option maxRecDepth 100000 in
set_option maxHeartbeats 400000 in
theorem bv_sort_c {w : World} {p : Program} {loose : List Str} {mean : ExcName → Option Value} {mg mb : Str → Option Value} {dp un : Nat} {gd : Option (List Code)} {cn : Str} {cs : Scope} {a : Addr} {ccd : Value} {cl : List (Str × Addr)} {outer : List Env} {A₀ : Around} {base h₀ : Heap} {L : Addr} {m : Str → Option Value} {s : Shared} {Q E : Value → Shared → Prop}
    {bx bd nl wl bv : Nat} {obv : Obj} {es : List DictEntry} {k : Int} {t : Tok} {n0 n1 n2 : Nat} {xs ws : List Value} {kvs : List (Int × Value)} {D : List (PyData × PyData)}
    {bk : Bk}
    (B : Below A₀ base outer h₀) (F : Fr h₀ L s.heap m) (X : (K w.params).In h₀) (T : Top p loose mean mg mb h₀) (hk : cs.kind = .function)
    (N : News h₀ L s.heap [(bx, instObj 782 bd), (bd, dictOf (bankEs bk nl wl bv) 14), (nl, listOf xs.toArray n1), (wl, listOf ws.toArray n2), (bv, obv)])
    (lo : (bv == sysModules) = false) (hbv : obv.IsDictOf (PySem.intKind PySem.Challenge.rw_rg0220_01.row.prog w) kvs) (hfv : PyProof.V.FlatPairs PyData.int kvs D)
    (hne : bd < bx ∧ bx < nl ∧ nl < wl ∧ wl < bv) (hk1 : 1 ≤ k) (hk2 : k ≤ 1000) (hno : PySem.Spec.lookup (PyData.int k) D = none) (hx : xs.length ≤ 1000) (hw : ws.length ≤ 1000) (hD : PyProof.V.LenLe D 1000)
    (hd : dp + 4 < recursionLimit) (hu : un + 30 < cLine)
    (ret : ∀ h' tk y t' obv' kvs' D', Fr h₀ L h' m → obv'.IsDictOf (PySem.intKind PySem.Challenge.rw_rg0220_01.row.prog w) kvs' → PyProof.V.FlatPairs PyData.int kvs' D' → (∀ j, j ≠ k → PySem.Spec.lookup (PyData.int j) D' = PySem.Spec.lookup (PyData.int j) D) → D'.length ≤ D.length + 1 → News h₀ L h' [(bx, instObj 782 bd), (bd, dictOf (bankEs bk nl wl bv) 14), (nl, listOf (xs ++ [y]).toArray (n1 + 1)), (wl, listOf (ws ++ [Value.int k t]).toArray (n2 + 1)), (bv, obv')] → Kept s.heap h' [bx, bd, nl, wl, bv] →
      Q (.int xs.length t') { s with heap := h', toks := tk }) :
    wpAny (model PySem.Challenge.rw_rg0220_01.row.prog w) (ktrTop dp un gd cn cs L a ccd cl outer) (call (.ref 688) [.ref bx, .int k t]) Q E s := by
  obtain ⟨a1, a2, a3, a4⟩ := hne
  have b1 : bd < nl := Nat.lt_trans a1 a2
  have b2 : bd < wl := Nat.lt_trans b1 a3
  have b3 : bd < bv := Nat.lt_trans b2 a4
  have b4 : bx < wl := Nat.lt_trans a2 a3
  have b5 : bx < bv := Nat.lt_trans b4 a4
  have b6 : nl < bv := Nat.lt_trans a3 a4
  w_on
  revert X
  k_fill
  intro X
  refine wpAny_call ?_
  w_strict (k_dflt (refine' code_defG ?zzk1 ?zzk2 ?zzk3 ?zzk4 ?zzk5 ?zzkA ?zzkF ?zzkK ?zzk6 ?zzk7 ?zzk8 ?zzk9 ?zzkB ?_ ?zzc2 ?zzc3 ?zzc4 ?zzc5; (case zzkA => exact rfl); (case zzkF => exact rfl); (case zzkK => assumption); (case zzk1 => k_asm); (case zzk2 => k_asm); (case zzk3 => k_asm); (case zzk4 => k_asm); (case zzk5 => k_asm); (case zzk6 => k_is); (case zzk7 => k_is); (case zzk8 => first | exact Mine.rm0 (by assumption) | ktr_room); (case zzk9 => exact BindsTo.of_eq rfl); (case zzc5 => decide); (case zzkB => exact locs rfl); (case zzc2 => exact rfl); (case zzc3 => exact rfl); (case zzc4 => exact rfl); k_whole; intro zqg' zqL' zqh' zqFG' zqF' zqN' zqB' zqX' zqT' zqkG'; (try dsimp only); (try k_fold)); repeat' (first | (with_reducible refine Mine.Stp.mk (n := 1) ?_; k_dflt (refine' append_K (by k_asm) (by k_asm) (by k_upd) ?_ (by first | exact Nat.le_of_ble_eq_true rfl | size_fits); k_whole); intro zqh' zqF' zqN'; (try k_sweep)) | (with_reducible refine Mine.Stp.mk (n := 2) ?_; k_dflt (refine' KM.len_K (n := _) (by k_asm) (by k_mem) (by rfl) (by (simp only [Array.size_push, List.size_toArray, List.length_append, List.length_cons, List.length_nil] at *; omega)) ?_)) | (with_reducible refine Mine.Stp.mk (n := 3) ?_; k_dflt (refine' setItem_K PyProof.V.same_int (intKind_is _ _ _ _) (by k_flat) (by k_asm) (by k_asm) (by k_updF) (by k_asm) (by k_asm) ?_ (by exact fit1000 (by assumption))); intro zqh' zqo' zqF' zqN' zqhd' zqhf'; (try dsimp only at zqN'); (try k_sweep)) | (with_reducible refine Mine.Stp.mk (n := 4) ?_; k_dflt (refine' getItem_tab PyProof.V.same_int (intKind_is _ _ _ _) (by k_tabat) (by first | exact PyProof.V.lookup_putD_same _ _ _ | (with_reducible assumption)) ?_; k_whole); intro _ zqhv'; dict_open zqhv') | (k_unfold; (try dsimp only)) | (k_end; wrow_close) | walk1 | (dsimp only; walk1) | (leave1; (try dsimp only)) | fail "no step"))
  · exfalso
    with_reducible rename Option.isSome _ = true => ha
    rw [hno] at ha
    exact Bool.noConfusion ha
  · with_reducible rename Fr _ _ _ _ => kF9
    with_reducible rename News _ _ _ _ => kN9
    have e : ∀ y : Value, ((xs.toArray.push y).size : Int) - 1 = xs.length := fun y => by simp
    rw [e]
    exact ret _ _ _ _ _ _ _ kF9 (by assumption) (by assumption) (fun j hj => PyProof.V.lookup_putD_other hj _ _) (PyProof.V.putD_length_le _ _ _) kN9 (kept_of (by assumption) (by assumption))
end Mine
end
section
open PySem PySem.W PyProof.Rows
set_option Elab.async false
namespace Mine
theorem bv_sort_P {w : World} {p : Program} {loose : List Str} {mean : ExcName → Option Value} {mg mb : Str → Option Value} {dp un : Nat} {gd : Option (List Code)} {cn : Str} {cs : Scope} {a : Addr} {ccd : Value} {cl : List (Str × Addr)} {outer : List Env} {A₀ : Around} {base h₀ : Heap} {L : Addr} {m : Str → Option Value} {s : Shared} {Q E : Value → Shared → Prop}
    {pre post : List (Addr × Obj)} {bx bd nl wl bv : Nat} {obv : Obj} {es : List DictEntry} {k : Int} {t : Tok} {n0 n1 n2 : Nat} {xs ws : List Value} {kvs : List (Int × Value)} {D : List (PyData × PyData)}
    {bk : Bk}
    (B : Below A₀ base outer h₀) (F : Fr h₀ L s.heap m) (X : (K w.params).In h₀) (T : Top p loose mean mg mb h₀) (hk : cs.kind = .function)
    (N : News h₀ L s.heap (pre ++ (bx, instObj 782 bd) :: (bd, dictOf (bankEs bk nl wl bv) 14) :: (nl, listOf xs.toArray n1) :: (wl, listOf ws.toArray n2) :: (bv, obv) :: post))
    (off1 : ∀ p ∈ pre, p.1 ∉ [bx, bd, nl, wl, bv]) (off2 : ∀ p ∈ post, p.1 ∉ [bx, bd, nl, wl, bv]) (lo : (bv == sysModules) = false) (hbv : obv.IsDictOf (PySem.intKind PySem.Challenge.rw_rg0220_01.row.prog w) kvs) (hfv : PyProof.V.FlatPairs PyData.int kvs D)
    (hne : bd < bx ∧ bx < nl ∧ nl < wl ∧ wl < bv) (hk1 : 1 ≤ k) (hk2 : k ≤ 1000) (hno : PySem.Spec.lookup (PyData.int k) D = none) (hx : xs.length ≤ 1000) (hw : ws.length ≤ 1000) (hD : PyProof.V.LenLe D 1000)
    (hd : dp + 4 < recursionLimit) (hu : un + 30 < cLine)
    (ret : ∀ h' tk y t' obv' kvs' D', Fr h₀ L h' m → obv'.IsDictOf (PySem.intKind PySem.Challenge.rw_rg0220_01.row.prog w) kvs' → PyProof.V.FlatPairs PyData.int kvs' D' → (∀ j, j ≠ k → PySem.Spec.lookup (PyData.int j) D' = PySem.Spec.lookup (PyData.int j) D) → D'.length ≤ D.length + 1 → News h₀ L h' (pre ++ (bx, instObj 782 bd) :: (bd, dictOf (bankEs bk nl wl bv) 14) :: (nl, listOf (xs ++ [y]).toArray (n1 + 1)) :: (wl, listOf (ws ++ [Value.int k t]).toArray (n2 + 1)) :: (bv, obv') :: post) →
      Q (.int xs.length t') { s with heap := h', toks := tk }) :
    wpAny (model PySem.Challenge.rw_rg0220_01.row.prog w) (ktrTop dp un gd cn cs L a ccd cl outer) (call (.ref 688) [.ref bx, .int k t]) Q E s := by
  have five : ∀ {l : List (Addr × Obj)} {a b c d e : Addr × Obj}, ∀ p ∈ [a, b, c, d, e], p ∈ l ++ a :: b :: c :: d :: e :: post := fun p hp => List.mem_append_right _ (by
    simp only [List.mem_cons, List.not_mem_nil, or_false] at hp ⊢
    rcases hp with h | h | h | h | h <;> simp [h])
  refine bv_sort_c (n0 := 0) (es := []) B F X T hk (fun p hp => N p (five p hp)) lo hbv hfv hne hk1 hk2 hno hx hw hD hd hu fun h' tk y t' obv' kvs' D' F' hb hf hl hL N' K' => ret h' tk y t' obv' kvs' D' F' hb hf hl hL fun p hp => ?_
  rcases List.mem_append.mp hp with q | q
  · have z := N p (List.mem_append_left _ q)
    exact ⟨K' _ _ z.1 (off1 p q), z.2⟩
  · simp only [List.mem_cons] at q
    rcases q with q | q | q | q | q | q
    · subst q; exact N' _ (by simp)
    · subst q; exact N' _ (by simp)
    · subst q; exact N' _ (by simp)
    · subst q; exact N' _ (by simp)
    · subst q; exact N' _ (by simp)
    · have z := N p (List.mem_append_right _ (by simp [q]))
      exact ⟨K' _ _ z.1 (off2 p q), z.2⟩
end Mine
end
section
open PySem PySem.W PyProof.Rows
set_option Elab.async false
namespace Mine
local macro_rules | `(tactic| walk_at "execs cons") => `(tactic| (k_here; refine Mine.toks_cons ?_; intro tk'; (try dsimp only)))
local macro_rules | `(tactic| k_units) => `(tactic| first | exact Nat.le_of_ble_eq_true rfl | ((have hcL9 := cLine_is); (try simp only [units_in1, units_deeper, Around.mark_units, units_caller] at *); (try dsimp only [ktrTop] at *); omega))
abbrev lprog : Program := PySem.Challenge.rw_rg0220_01.row.prog
set_option maxRecDepth 100000 in
set_option maxHeartbeats 400000 in
theorem gulp_c {w : World} {p : Program} {loose : List Str} {mean : ExcName → Option Value} {mg mb : Str → Option Value} {dp un : Nat} {gd : Option (List Code)} {cn : Str} {cs : Scope} {a : Addr} {ccd : Value} {cl : List (Str × Addr)} {outer : List Env} {A₀ : Around} {base h₀ : Heap} {L : Addr} {m : Str → Option Value} {s : Shared} {Q E : Value → Shared → Prop}
    {mug lc : Nat} {omug : Obj} {n : Int} {tn : Tok} {vs : List Value} {ns : List Int} {c : Nat} {many : Int} {tm tc ta : Tok}
    (B : Below A₀ base outer h₀) (F : Fr h₀ L s.heap m) (X : (K w.params).In h₀) (T : Top p loose mean mg mb h₀) (hk : cs.kind = .function)
    (N : News h₀ L s.heap [(mug, omug), (lc, listOf vs.toArray c)])
    (lo : (mug == sysModules) = false) (hmug : omug.IsDictOf (PySem.strKind PySem.Challenge.rw_rg0220_01.row.prog w) [(Str.ofString "cells", .ref lc), (Str.ofString "at", .int n tn)])
    (hI : IntsAre vs ns) (hne : @Ne Nat mug lc) (h0 : 0 ≤ n) (h1 : n ≤ 1000) (hlen : ns.length ≤ 60) (hm1 : 1 ≤ many) (hm2 : many ≤ 1000)
    (hd : dp + 4 < recursionLimit) (hu : un + 30 < cLine)
    (ret : ∀ h' tk r tr omug' tn', Fr h₀ L h' m → omug'.IsDictOf (PySem.strKind PySem.Challenge.rw_rg0220_01.row.prog w) [(Str.ofString "cells", .ref lc), (Str.ofString "at", .int (n + 1) tn')] → News h₀ L h' [(mug, omug'), (lc, listOf vs.toArray c)] → Kept s.heap h' [mug, lc] → 0 ≤ r → r < many →
      Q (.int r tr) { s with heap := h', toks := tk }) :
    wpAny (model PySem.Challenge.rw_rg0220_01.row.prog w) (ktrTop dp un gd cn cs L a ccd cl outer) (call (.ref 989) [.ref mug, .int many tm]) Q E s := by
  w_on
  revert X
  k_fill
  intro X
  refine wpAny_call ?_
  w_strict (k_dflt (refine' code_defG ?zzk1 ?zzk2 ?zzk3 ?zzk4 ?zzk5 ?zzkA ?zzkF ?zzkK ?zzk6 ?zzk7 ?zzk8 ?zzk9 ?zzkB ?_ ?zzc2 ?zzc3 ?zzc4 ?zzc5; (case zzkA => exact rfl); (case zzkF => exact rfl); (case zzkK => assumption); (case zzk1 => k_asm); (case zzk2 => k_asm); (case zzk3 => k_asm); (case zzk4 => k_asm); (case zzk5 => k_asm); (case zzk6 => k_is); (case zzk7 => k_is); (case zzk8 => first | exact Mine.rm0 (by assumption) | ktr_room); (case zzk9 => exact BindsTo.of_eq rfl); (case zzc5 => decide); (case zzkB => exact locs rfl); (case zzc2 => exact rfl); (case zzc3 => exact rfl); (case zzc4 => exact rfl); k_whole; intro zqg' zqL' zqh' zqFG' zqF' zqN' zqB' zqX' zqT' zqkG'; (try dsimp only); (try k_fold)); k_steps)
  all_goals
    with_reducible rename Fr _ _ _ _ => kF9
    with_reducible rename News _ _ _ _ => kN9
    exact ret _ _ _ _ _ _ kF9 (by assumption) kN9 (kept_of (by assumption) (by assumption)) (Int.fmod_nonneg_of_pos _ (by omega)) (Int.fmod_lt_of_pos _ (by omega))
end Mine
end
section
open PySem PySem.W PyProof.Rows
set_option Elab.async false
namespace Mine
local macro_rules | `(tactic| walk_at "none here") => `(tactic| skip)
local macro_rules | `(tactic| walk_at "execs cons") => `(tactic| (k_here; refine Mine.toks_cons ?_; intro tk'; (try dsimp only); (try k_fold)))
local macro_rules | `(tactic| k_units) => `(tactic| first | exact Nat.le_of_ble_eq_true rfl | ((have hcL9 := cLine_is); (try simp only [units_in1, units_deeper, Around.mark_units, units_caller] at *); (try dsimp only [ktrTop] at *); omega))
theorem low_step {bottom a b : Int} (h : 0 ≤ a ∧ 0 ≤ b ∧ 1 ≤ bottom ∧ (b = bottom ∨ (1 ≤ a ∧ a ≤ bottom ∧ b < a))) (hb : b ≠ 0) :
    0 ≤ b ∧ 0 ≤ Int.fmod a b ∧ 1 ≤ bottom ∧ (Int.fmod a b = bottom ∨ (1 ≤ b ∧ b ≤ bottom ∧ Int.fmod a b < b)) := by
  have h1 := Int.fmod_nonneg_of_pos a (b := b) (by omega)
  have h2 := Int.fmod_lt_of_pos a (b := b) (by omega)
  omega
theorem low_meas {bottom a b : Int} (h : 0 ≤ a ∧ 0 ≤ b ∧ 1 ≤ bottom ∧ (b = bottom ∨ (1 ≤ a ∧ a ≤ bottom ∧ b < a))) (hb : b ≠ 0) : (Int.fmod a b).toNat < b.toNat := by
  have h1 := Int.fmod_nonneg_of_pos a (b := b) (by omega)
  have h2 := Int.fmod_lt_of_pos a (b := b) (by omega)
  omega
theorem fresh_of {H g H' : Heap} {L' D : Addr} {o : Obj} {adr : List Addr} {news : List (Addr × Obj)} (G : GSub H g adr) (N : News g L' H' news) (hm : (D, o) ∈ news) (hn : D ∉ adr) : H.get? D = none := by
  cases e : H.get? D with
  | none => rfl
  | some x => have := G D x e hn; rw [(N _ hm).2.2] at this; cases this
theorem fdiv_pos1 {x a : Int} (ha : 1 ≤ a) (h : a ≤ x) : 1 ≤ Int.fdiv x a := by
  rw [Int.fdiv_eq_ediv_of_nonneg _ (by omega)]
  exact Int.le_ediv_of_mul_le (by omega) (by omega)
theorem fdiv_between {x a : Int} (ha : 1 ≤ a) (h0 : -100 ≤ x) (h1 : x ≤ 100) : -100 ≤ Int.fdiv x a ∧ Int.fdiv x a ≤ 100 := by
  rw [Int.fdiv_eq_ediv_of_nonneg _ (by omega)]
  exact ⟨Int.le_ediv_of_mul_le (by omega) (by omega), Int.ediv_le_of_le_mul (by omega) (by omega)⟩
set_option maxRecDepth 100000 in
set_option maxHeartbeats 400000 in
theorem lowest_c {w : World} {p : Program} {loose : List Str} {mean : ExcName → Option Value} {mg mb : Str → Option Value} {dp un : Nat} {gd : Option (List Code)} {cn : Str} {cs : Scope} {a : Addr} {ccd : Value} {cl : List (Str × Addr)} {outer : List Env} {A₀ : Around} {base h₀ : Heap} {L : Addr} {m : Str → Option Value} {s : Shared} {Q E : Value → Shared → Prop}
    {top bottom : Int} {tt tb : Tok}
    (B : Below A₀ base outer h₀) (F : Fr h₀ L s.heap m) (X : (K w.params).In h₀) (T : Top p loose mean mg mb h₀) (hk : cs.kind = .function)
    (h0 : -100 ≤ top) (h1 : top ≤ 100) (hm1 : 1 ≤ bottom) (hm2 : bottom ≤ 100)
    (hd : dp + 4 < recursionLimit) (hu : un + 30 < cLine)
    (ret : ∀ h' tk D n x y tx ty, Fr h₀ L h' m → News h₀ L h' [(D, tupOf #[.int x tx, .int y ty] n)] → Kept s.heap h' [] → s.heap.get? D = none → 1 ≤ y → -100 ≤ x → x ≤ 100 → y ≤ 100 → Q (.ref D) { s with heap := h', toks := tk }) :
    wpAny (model PySem.Challenge.rw_rg0220_01.row.prog w) (ktrTop dp un gd cn cs L a ccd cl outer) (call (.ref 996) [.int top tt, .int bottom tb]) Q E s := by
  w_on
  revert X
  k_fill
  intro X
  have N : News h₀ L s.heap [] := News.nil
  have iL : IntsAre [] [] := IntsAre.nil
  refine wpAny_call ?_
  k_with "exec While Compare cons nil" => k_while_given ["bottom"] (fun (bottom : Int) (script : List Int) (a b : Int) => 0 ≤ a ∧ 0 ≤ b ∧ 1 ≤ bottom ∧ (b = bottom ∨ (1 ≤ a ∧ a ≤ bottom ∧ b < a))) (fun (bottom : Int) (script : List Int) (a b : Int) => b.toNat) "a" "b"
  k_with "state" => exact low_step ⟨by omega, by omega, by omega, by omega⟩ (by omega)
  k_with "measure" => exact low_meas ⟨by omega, by omega, by omega, by omega⟩ (by omega)
  w_strict (k_dflt (refine' code_defG ?zzk1 ?zzk2 ?zzk3 ?zzk4 ?zzk5 ?zzkA ?zzkF ?zzkK ?zzk6 ?zzk7 ?zzk8 ?zzk9 ?zzkB ?_ ?zzc2 ?zzc3 ?zzc4 ?zzc5; (case zzkA => exact rfl); (case zzkF => exact rfl); (case zzkK => assumption); (case zzk1 => k_asm); (case zzk2 => k_asm); (case zzk3 => k_asm); (case zzk4 => k_asm); (case zzk5 => k_asm); (case zzk6 => k_is); (case zzk7 => k_is); (case zzk8 => first | exact Mine.rm0 (by assumption) | ktr_room); (case zzk9 => exact BindsTo.of_eq rfl); (case zzc5 => decide); (case zzkB => exact locs rfl); (case zzc2 => exact rfl); (case zzc3 => exact rfl); (case zzc4 => exact rfl); k_whole; intro zqg' zqL' zqh' zqFG' zqF' zqN' zqB' zqX' zqT' zqkG'; (try dsimp only); (try k_fold)); k_steps)
  with_reducible rename Fr _ _ _ _ => kF9
  with_reducible rename News _ _ _ _ => kN9
  exact ret _ _ _ _ _ _ _ _ kF9 (fun p hp => kN9 p (by rw [List.mem_singleton.mp hp]; exact .head _)) (kept_of (by assumption) (by assumption)) (by with_reducible rename GSub _ _ _ => G9; exact fresh_of G9 (by assumption) (List.Mem.head _) List.not_mem_nil)
    (fdiv_pos1 (by omega) (by omega)) (fdiv_between (by omega) (by omega) (by omega)).1 (fdiv_between (by omega) (by omega) (by omega)).2 (fdiv_between (by omega) (by omega) (by omega)).2
end Mine
end
section
open PySem PySem.W PyProof.Rows
set_option Elab.async false
namespace Mine
theorem kept_upd {h₀ h h' : Heap} {L d : Addr} {o o' : Obj} {news : List (Addr × Obj)} {g : Obj → List (Addr × Obj)} {adr : List Addr} (N : News h₀ L h news) (U : UpdF d o news g) (K : Kept h h' adr) (hd : h'.get? d = some o')
    (hs : ∀ p ∈ news, p.1 ∈ adr → p.1 ≠ d → h'.get? p.1 = some p.2) : News h₀ L h' (g o') := by
  obtain ⟨pre, post, rfl, hg, h1, h2⟩ := U.split
  rw [hg]
  have one : ∀ p ∈ pre ++ (d, o) :: post, p.1 ≠ d → h'.get? p.1 = some p.2 := fun p hp hne => by
    by_cases hm : p.1 ∈ adr
    · exact hs p hp hm hne
    · exact K _ _ (N p hp).1 hm
  intro p hp
  rcases List.mem_append.mp hp with hp | hp
  · have hp' : p ∈ pre ++ (d, o) :: post := List.mem_append_left _ hp
    exact ⟨one p hp' (h1 p hp), (N p hp').2⟩
  · rcases List.mem_cons.mp hp with rfl | hp
    · exact ⟨hd, (N (d, o) (List.mem_append_right _ (.head _))).2⟩
    · have hp' : p ∈ pre ++ (d, o) :: post := List.mem_append_right _ (.tail _ hp)
      exact ⟨one p hp' (h2 p hp), (N p hp').2⟩
theorem news_one {h₀ h : Heap} {L a : Addr} {o : Obj} {news : List (Addr × Obj)} (N : News h₀ L h news) (hm : (a, o) ∈ news) : News h₀ L h [(a, o)] := fun p hp => by rw [List.mem_singleton.mp hp]; exact N _ hm
theorem news_cons {h₀ h : Heap} {L a : Addr} {o : Obj} {news l : List (Addr × Obj)} (N : News h₀ L h news) (hm : (a, o) ∈ news) (K : News h₀ L h l) : News h₀ L h ((a, o) :: l) := fun p hp => by
  rcases List.mem_cons.mp hp with rfl | hp
  · exact N _ hm
  · exact K _ hp
theorem UpdF.mem' {d : Addr} {o : Obj} {l : List (Addr × Obj)} {g : Obj → List (Addr × Obj)} (U : UpdF d o l g) : (d, o) ∈ l := by
  obtain ⟨pre, post, rfl, _⟩ := U.split
  exact List.mem_append_right _ (.head _)

def OffD (D : Addr) (news : List (Addr × Obj)) : Prop := ∀ p ∈ news, p.1 ≠ D
theorem OffD.l {D b : Addr} {o : Obj} {news : List (Addr × Obj)} (h : OffD D news) (hm : (b, o) ∈ news) : D ≠ b := fun e => h _ hm e.symm
theorem OffD.r {D b : Addr} {o : Obj} {news : List (Addr × Obj)} (h : OffD D news) (hm : (b, o) ∈ news) : b ≠ D := h _ hm
section
variable {w : World} {p : Program} {loose : List Str} {mean : ExcName → Option Value} {mg mb : Str → Option Value} {dp un : Nat} {gd : Option (List Code)} {cn : Str} {cs : Scope} {a : Addr} {ccd : Value} {cl : List (Str × Addr)} {outer : List Env} {A₀ : Around} {base h₀ : Heap} {L : Addr} {m : Str → Option Value} {s : Shared} {Q E : Value → Shared → Prop} {news : List (Addr × Obj)}

theorem gulp_U {mug lc : Nat} {omug : Obj} {n : Int} {tn : Tok} {vs : List Value} {ns : List Int} {c : Nat} {many : Int} {tm : Tok} {g : Obj → List (Addr × Obj)}
    (B : Below A₀ base outer h₀) (F : Fr h₀ L s.heap m) (X : (K w.params).In h₀) (T : Top p loose mean mg mb h₀) (hk : cs.kind = .function)
    (N : News h₀ L s.heap news) (U : UpdF mug omug news g) (hmug : omug.IsDictOf (PySem.strKind PySem.Challenge.rw_rg0220_01.row.prog w) [(Str.ofString "cells", .ref lc), (Str.ofString "at", .int n tn)])
    (hm2 : (lc, listOf vs.toArray c) ∈ news) (lo : (mug == sysModules) = false)
    (hI : IntsAre vs ns) (hne : @Ne Nat mug lc) (h0 : 0 ≤ n) (h1 : n ≤ 1000) (hlen : ns.length ≤ 60) (hm1 : 1 ≤ many) (hm3 : many ≤ 1000)
    (hd : dp + 4 < recursionLimit) (hu : un + 30 < cLine)
    (ret : ∀ h' tk r tr omug' tn', Fr h₀ L h' m → News h₀ L h' (g omug') → omug'.IsDictOf (PySem.strKind PySem.Challenge.rw_rg0220_01.row.prog w) [(Str.ofString "cells", .ref lc), (Str.ofString "at", .int (n + 1) tn')] → 0 ≤ r → r < many →
      Q (.int r tr) { s with heap := h', toks := tk }) :
    wpAny (model PySem.Challenge.rw_rg0220_01.row.prog w) (ktrTop dp un gd cn cs L a ccd cl outer) (call (.ref 989) [.ref mug, .int many tm]) Q E s := by
  refine gulp_c (tc := 0) (ta := 0) B F X T hk (news_cons N (UpdF.mem' U) (news_one N hm2)) lo hmug hI hne h0 h1 hlen hm1 hm3 hd hu fun h' tk r tr omug' tn' F' D' N' K' r0 r1 => ?_
  refine ret h' tk r tr omug' tn' F' (kept_upd N U K' (N' _ (.head _)).1 fun p hp hm hne' => ?_) D' r0 r1
  have e : p.1 = lc := by
    rcases List.mem_cons.mp hm with e | hm
    · exact absurd e hne'
    · exact List.mem_singleton.mp hm
  have e2 : p.2 = listOf vs.toArray c := Option.some.inj ((N p hp).1.symm.trans (by rw [e]; exact (N _ hm2).1))
  rw [e, e2]
  exact (N' _ (.tail _ (.head _))).1

theorem lowest_U {top bottom : Int} {tt tb : Tok}
    (B : Below A₀ base outer h₀) (F : Fr h₀ L s.heap m) (X : (K w.params).In h₀) (T : Top p loose mean mg mb h₀) (hk : cs.kind = .function) (N : News h₀ L s.heap news)
    (h0 : -100 ≤ top) (h1 : top ≤ 100) (hm1 : 1 ≤ bottom) (hm2 : bottom ≤ 100)
    (hd : dp + 4 < recursionLimit) (hu : un + 30 < cLine)
    (ret : ∀ h' tk D n x y tx ty, Fr h₀ L h' m → News h₀ L h' ((D, tupOf #[.int x tx, .int y ty] n) :: news) → OffD D news → 1 ≤ y → -100 ≤ x → x ≤ 100 → y ≤ 100 → Q (.ref D) { s with heap := h', toks := tk }) :
    wpAny (model PySem.Challenge.rw_rg0220_01.row.prog w) (ktrTop dp un gd cn cs L a ccd cl outer) (call (.ref 996) [.int top tt, .int bottom tb]) Q E s := by
  refine lowest_c B F X T hk h0 h1 hm1 hm2 hd hu fun h' tk D n x y tx ty F' N' K' hD y1 x0 x1 y2 => ?_
  refine ret h' tk D n x y tx ty F' (fun q hq => ?_) (fun q hq e => ?_) y1 x0 x1 y2
  · rcases List.mem_cons.mp hq with rfl | hq
    · exact N' _ (.head _)
    · exact ⟨K' _ _ (N q hq).1 List.not_mem_nil, (N q hq).2⟩
  · have := (N q hq).1
    rw [e, hD] at this
    cases this
end
end Mine
end
section
open PySem PySem.W PyProof.Rows
set_option Elab.async false
namespace Mine
inductive Cl3 where
  | bv (v wd : Int)
  | rat (x y : Int)
  | elem (e n : Int)
deriving DecidableEq
def Cl3.Is : Cl3 → List Value → Prop
  | .bv v wd, l => ∃ t1 t2 t3, l = [.str (Str.ofString "bv") t1, .int v t2, .int wd t3]
  | .rat x y, l => ∃ t1 t2, l = [.int x t1, .int y t2]
  | .elem e n, l => ∃ t1 t2 t3, l = [.str (Str.ofString "elem") t1, .int e t2, .int n t3]
def Cl3.Ok (fr : Int) : Cl3 → Prop
  | .rat x y => y = 1 → x + 1 ≤ fr
  | _ => True
def ClAt (news : List (Addr × Obj)) (v : Value) (c : Cl3) : Prop := ∃ (D : Nat) (its : List Value) (n : Nat), v = .ref D ∧ (D, tupOf its.toArray n) ∈ news ∧ c.Is its

section
variable {prog : Program} {w : World} {A : Around} {E : Value → Shared → Prop} {s : Shared} {h₀ : Heap} {L d : Addr} {m : Str → Option Value} {news : List (Addr × Obj)} {o : Obj} {g : Obj → List (Addr × Obj)}
theorem setItem_v {K : Type} [DecidableEq K] {knd : KeyKind prog w K} {k : K} {key v : Value} {kvs : List (K × Value)} {Q : Unit → Shared → Prop} (hkey : knd.is k key = true)
    (F : Fr h₀ L s.heap m) (N : News h₀ L s.heap news) (U : UpdF d o news g) (hd : o.IsDictOf knd kvs) (hz : kvs.length ≤ 1000)
    (h : ∀ h' o', Fr h₀ L h' m → News h₀ L h' (g o') → o'.IsDictOf knd (stored kvs k v) → Q () { s with heap := h', toks := s.toks + 1 }) : wpAny (model prog w) A (setItem (.ref d) key v) Q E s := by
  obtain ⟨pre, post, rfl, hg, h1, h2⟩ := U.split
  have hm := N (d, o) (List.mem_append_right _ (.head _))
  refine wpAny_setItem_pairs (hsz := by rw [sizeLine_eq]; omega) hkey (Heap.dictOf_iff.mpr ⟨o, hm.1, hd⟩) fun h' hmm hs => ?_
  obtain ⟨o', ho', hd'⟩ := Heap.dictOf_iff.mp hmm
  exact h h' o' (F.change hs hm.2.1 hm.2.2) (hg o' ▸ N.setIn h1 h2 hs ho') hd'
end
end Mine
end
section
open PySem PySem.W PyProof.Rows
set_option Elab.async false
namespace Mine
local macro_rules | `(tactic| k_lt $h:ident) => `(tactic| (replace $h := Mine.addr_lt $h; dsimp only [List.map] at $h:ident; have kkeep := $h; (repeat first | (refine Mine.lt8 $h ?_; clear $h; intro kx kx kx kx kx kx kx kx $h) | (refine Mine.lt1 $h ?_; clear $h; intro kx $h)); (try dsimp only)))
local macro_rules | `(tactic| k_all) => `(tactic| exact Mine.all_ne (by assumption))
local macro_rules | `(tactic| walk_at "execs cons") => `(tactic| (k_here; refine Mine.toks_cons ?_; intro tk'; (try dsimp only); (try k_fold)))
abbrev mkEs (bk : Bk) (bx mo vl cv cn : Nat) (fr : Int) (tf : Tok) : List DictEntry :=
  [⟨bk.h 1, .str (Str.ofString "bank") (bk.t 1), .ref bx⟩, ⟨bk.h 2, .str (Str.ofString "hub") (bk.t 2), .none⟩, ⟨bk.h 3, .str (Str.ofString "model") (bk.t 3), .ref mo⟩, ⟨bk.h 4, .str (Str.ofString "values") (bk.t 4), .ref vl⟩,
   ⟨bk.h 5, .str (Str.ofString "class_values") (bk.t 5), .ref cv⟩, ⟨bk.h 6, .str (Str.ofString "counts") (bk.t 6), .ref cn⟩, ⟨bk.h 7, .str (Str.ofString "free_number") (bk.t 7), .int fr tf⟩]
local macro_rules | `(tactic| k_units) => `(tactic| first | exact Nat.le_of_ble_eq_true rfl | ((have hcL9 := cLine_is); (try simp only [units_in1, units_deeper, Around.mark_units, units_caller] at *); (try dsimp only [ktrTop] at *); omega))
local macro_rules | `(tactic| k_room) => `(tactic| ktr_room)
local macro_rules | `(tactic| walk_at "call ref") => `(tactic| (k_here; (with_reducible show wpAny _ _ (call (Value.ref 996) [Value.int _ _, Value.int _ _]) _ _ _); refine Mine.Stp.out (n := 5) ?_))
local macro_rules | `(tactic| walk_at "call ref") => `(tactic| (k_here; (with_reducible show wpAny _ _ (call (Value.ref 989) [Value.ref _, Value.int _ _]) _ _ _); refine Mine.Stp.out (n := 6) ?_))
local macro_rules | `(tactic| walk_at "call ref") => `(tactic| (k_here; (with_reducible show wpAny _ _ (call (Value.ref 989) [Value.ref _, Value.int 5 _]) _ _ _); refine Mine.Stp.out (n := 7) ?_))
local macro_rules | `(tactic| walk_at "setItem ref int") => `(tactic| (k_here; refine Mine.Stp.out (n := 3) ?_))
local macro_rules | `(tactic| k_ne) => `(tactic| (refine neN ?_; (try dsimp only); first | (with_reducible exact Nat.ne_of_lt (by assumption)) | (with_reducible exact Nat.ne_of_gt (by assumption)) | (with_reducible assumption) | (with_reducible exact Ne.symm (by assumption)) | omega | exact OffD.l (by assumption) (by k_mem) | exact OffD.r (by assumption) (by k_mem)))
theorem fr_ok {x y fr : Int} : Cl3.Ok (if 1 - Int.fdiv (0 - x) y > fr then 1 - Int.fdiv (0 - x) y else fr) (.rat x y) := by
  intro h
  subst h
  have e : Int.fdiv (0 - x) 1 = 0 - x := Int.fdiv_one _
  rw [e]
  split <;> omega
theorem fr_ge {t fr : Int} : fr ≤ (if t > fr then t else fr) := by split <;> omega
theorem fr_up {x y fr : Int} (hy : 1 ≤ y) (h0 : -100 ≤ x) (h1 : x ≤ 100) : (if 1 - Int.fdiv (0 - x) y > fr then 1 - Int.fdiv (0 - x) y else fr) ≤ max fr 200 := by
  have := fdiv_between hy (x := 0 - x) (by omega) (by omega)
  split <;> omega
theorem up1 {n : Int} (h : n ≤ 900) : n + 1 ≤ 1000 := by omega
theorem up2 {n : Int} (h : n ≤ 900) : n + 1 + 1 ≤ 1000 := by omega
theorem dn1 {n : Int} (h : 0 ≤ n) : 0 ≤ n + 1 := by omega
theorem lw1 {r : Int} (h : 0 ≤ r) : -100 ≤ r - 20 := by omega
theorem lw2 {r : Int} (h : r < 41) : r - 20 ≤ 100 := by omega
theorem lw3 {r : Int} (h : 0 ≤ r) : 1 ≤ 1 + r := by omega
theorem lw4 {r : Int} (h : r < 3) : 1 + r ≤ 100 := by omega
theorem rm5 {d : Nat} (h : d + 6 < recursionLimit) : d + 1 + 4 < recursionLimit := Nat.lt_of_succ_lt h
theorem un33 {u c : Nat} (h : u + 60 < c) : u + 3 + 30 < c := by omega
theorem g2 {n : Int} : n ≤ n + 1 + 1 := by omega
theorem g23 {n : Int} : n + 1 + 1 ≤ n + 3 := by omega
theorem g3 {n : Int} : n ≤ n + 1 + 1 + 1 := by omega
theorem nm_nat {D : Nat} {l : List Nat} (h : ∀ b ∈ l, b < D) : D ∉ l := fun hm => Nat.lt_irrefl _ (h _ hm)
theorem off_nm {D : Addr} {news : List (Addr × Obj)} (h : OffD D news) : D ∉ news.map (·.1) := fun hm => by
  obtain ⟨p, hp, e⟩ := List.mem_map.mp hm
  exact h p hp e
set_option maxRecDepth 100000 in
set_option maxHeartbeats 400000 in
theorem class_c {w : World} {p : Program} {loose : List Str} {mean : ExcName → Option Value} {mg mb : Str → Option Value} {dp un : Nat} {gd : Option (List Code)} {cn : Str} {cs : Scope} {a : Addr} {ccd : Value} {cl : List (Str × Addr)} {outer : List Env} {A₀ : Around} {base h₀ : Heap} {L : Addr} {m : Str → Option Value} {s : Shared} {Q E : Value → Shared → Prop}
    {mug lc bx bd wl kd mx md cv ct mo vl nl bv : Nat} {omug ocv : Obj} {n : Int} {tn : Tok} {vs : List Value} {ns : List Int} {c n2 n3 : Nat} {name : Int} {tm : Tok} {kvs : List (Int × Value)} {fr : Int} {tf : Tok}
    {bk : Bk}
    {mk : Bk} {kq q : Nat → Tok}
    (B : Below A₀ base outer h₀) (F : Fr h₀ L s.heap m) (X : (K w.params).In h₀) (T : Top p loose mean mg mb h₀) (hk : cs.kind = .function)
    (N : News h₀ L s.heap [(mug, omug), (lc, listOf vs.toArray c), (bx, instObj 782 bd), (bd, dictOf (bankEs bk nl wl bv) 14),
      (wl, listOf (wlL q).toArray n2), (kd, listOf (kdL kq).toArray n3),
      (mx, instObj 978 md), (md, dictOf (mkEs mk bx mo vl cv ct fr tf) 7), (cv, ocv)])
    (lo : (mug == sysModules) = false) (hmug : omug.IsDictOf (PySem.strKind PySem.Challenge.rw_rg0220_01.row.prog w) [(Str.ofString "cells", .ref lc), (Str.ofString "at", .int n tn)])
    (hcv : ocv.IsDictOf (PySem.intKind PySem.Challenge.rw_rg0220_01.row.prog w) kvs) (hkv : kvs.length ≤ 1000)
    (hI : IntsAre vs ns) (hne : @Ne Nat mug lc) (hne2 : mug < bd ∧ lc < bd ∧ bd < bx ∧ bx < wl ∧ wl < kd ∧ kd < md ∧ md < mx ∧ mx < cv) (h0 : 0 ≤ n) (hn1 : n ≤ 900) (hlen : ns.length ≤ 60) (hf0 : -1000 ≤ fr) (hf1 : fr ≤ 1000)
    (hd : dp + 6 < recursionLimit) (hu : un + 60 < cLine)
    (ret : ∀ h' tk (D : Nat) (its : List Value) nn cc omug' n' tn' ocv' fr' tf', Fr h₀ L h' m → News h₀ L h' [(D, tupOf its.toArray nn), (mug, omug'), (lc, listOf vs.toArray c), (bx, instObj 782 bd), (bd, dictOf (bankEs bk nl wl bv) 14),
      (wl, listOf (wlL q).toArray n2), (kd, listOf (kdL kq).toArray n3),
      (mx, instObj 978 md), (md, dictOf (mkEs mk bx mo vl cv ct fr' tf') 7), (cv, ocv')] →
      omug'.IsDictOf (PySem.strKind PySem.Challenge.rw_rg0220_01.row.prog w) [(Str.ofString "cells", .ref lc), (Str.ofString "at", .int n' tn')] → n ≤ n' → n' ≤ n + 3 → ocv'.IsDictOf (PySem.intKind PySem.Challenge.rw_rg0220_01.row.prog w) (stored kvs name (.ref D)) →
      Cl3.Is cc its → Cl3.Ok fr' cc → fr ≤ fr' → fr' ≤ max fr 200 → s.heap.get? D = none → Kept s.heap h' [mug, lc, bx, bd, wl, kd, mx, md, cv] → Q .none { s with heap := h', toks := tk }) :
    wpAny (model PySem.Challenge.rw_rg0220_01.row.prog w) (ktrTop dp un gd cn cs L a ccd cl outer) (call (.ref 1003) [.ref mug, .ref bx, .ref mx, .int name tm, .ref kd]) Q E s := by
  obtain ⟨a0, a1, a2, a3, a4, a5, a6, a7⟩ := hne2
  have b1 : mug < bx := Nat.lt_trans a0 a2
  have b2 : mug < wl := Nat.lt_trans b1 a3
  have b3 : mug < kd := Nat.lt_trans b2 a4
  have b4 : mug < md := Nat.lt_trans b3 a5
  have b5 : mug < mx := Nat.lt_trans b4 a6
  have b6 : mug < cv := Nat.lt_trans b5 a7
  have b7 : bd < wl := Nat.lt_trans a2 a3
  have b8 : bd < kd := Nat.lt_trans b7 a4
  have b9 : bd < md := Nat.lt_trans b8 a5
  have b10 : bd < mx := Nat.lt_trans b9 a6
  have b11 : bd < cv := Nat.lt_trans b10 a7
  have b12 : lc < cv := Nat.lt_trans a1 b11
  have b13 : bx < kd := Nat.lt_trans a3 a4
  have b14 : bx < md := Nat.lt_trans b13 a5
  have b15 : bx < mx := Nat.lt_trans b14 a6
  have b16 : bx < cv := Nat.lt_trans b15 a7
  have b17 : wl < md := Nat.lt_trans a4 a5
  have b18 : wl < mx := Nat.lt_trans b17 a6
  have b19 : wl < cv := Nat.lt_trans b18 a7
  have b20 : kd < mx := Nat.lt_trans a5 a6
  have b21 : kd < cv := Nat.lt_trans b20 a7
  have b22 : md < cv := Nat.lt_trans a6 a7
  have b23 : lc < md := Nat.lt_trans a1 b9
  w_on
  revert X
  k_fill
  intro X
  refine wpAny_call ?_
  w_strict (k_dflt (refine' code_defG ?zzk1 ?zzk2 ?zzk3 ?zzk4 ?zzk5 ?zzkA ?zzkF ?zzkK ?zzk6 ?zzk7 ?zzk8 ?zzk9 ?zzkB ?_ ?zzc2 ?zzc3 ?zzc4 ?zzc5; (case zzkA => exact rfl); (case zzkF => exact rfl); (case zzkK => assumption); (case zzk1 => k_asm); (case zzk2 => k_asm); (case zzk3 => k_asm); (case zzk4 => k_asm); (case zzk5 => k_asm); (case zzk6 => k_is); (case zzk7 => k_is); (case zzk8 => first | exact Mine.rm0 (by assumption) | ktr_room); (case zzk9 => exact BindsTo.of_eq rfl); (case zzc5 => decide); (case zzkB => exact locs rfl); (case zzc2 => exact rfl); (case zzc3 => exact rfl); (case zzc4 => exact rfl); k_whole; intro zqg' zqL' zqh' zqFG' zqF' zqN' zqB' zqX' zqT' zqkG'; (try dsimp only); (try k_fold)); repeat' (first | (with_reducible refine Mine.Stp.mk (n := 5) ?_; k_dflt (refine' lowest_U (by k_asm) (by k_asm) (by k_asm) (by k_asm) (by rfl) (by k_asm) (by first | exact lw1 (by assumption) | decide | omega) (by first | exact lw2 (by assumption) | decide | omega) (by first | exact lw3 (by assumption) | decide | omega) (by first | exact lw4 (by assumption) | decide | omega) (by first | exact Mine.rmS (by assumption) rfl | ktr_room) (by first | exact Mine.unX (by assumption) rfl | ktr_units) ?_); intro zqh' zqtk' zqD' zqn' zqx' zqy' zqtx' zqty' zqF' zqN' zqoff' zqhy1' zqhx0' zqhx1' zqhy2') | (with_reducible refine Mine.Stp.mk (n := 6) ?_; k_dflt (refine' gulp_U (by k_asm) (by k_asm) (by k_asm) (by k_asm) (by rfl) (by k_asm) (by k_updF) (by k_asm) (by k_mem) (by assumption) (by assumption) (by assumption) (by first | assumption | exact dn1 (by assumption) | exact dn1 (dn1 (by assumption)) | omega) (by first | exact up1 (by assumption) | exact up2 (by assumption) | exact Int.le_trans (by assumption : _ ≤ (900 : Int)) (by decide) | omega) (by assumption) (by first | decide | omega) (by first | decide | omega) (by first | exact Mine.rmS (by assumption) rfl | ktr_room) (by first | exact Mine.unX (by assumption) rfl | ktr_units) ?_); intro zqh' zqtk' zqr' zqtr' zqo' zqtn' zqF' zqN' zqhd' zqhr0' zqhr1'; (try dsimp only at zqN')) | (with_reducible refine Mine.Stp.mk (n := 7) ?_; k_dflt (refine' gulp_U (by k_asm) (by k_asm) (by k_asm) (by k_asm) (by rfl) (by k_asm) (by k_updF) (by k_asm) (by k_mem) (by assumption) (by assumption) (by assumption) (by first | assumption | exact dn1 (by assumption) | exact dn1 (dn1 (by assumption)) | omega) (by first | exact up1 (by assumption) | exact up2 (by assumption) | exact Int.le_trans (by assumption : _ ≤ (900 : Int)) (by decide) | omega) (by assumption) (by first | decide | omega) (by first | decide | omega) (by first | exact Mine.rmS (by assumption) rfl | ktr_room) (by first | exact Mine.unX (by assumption) rfl | ktr_units) ?_); intro zqh' zqtk' zqr' zqtr' zqo' zqtn' zqF' zqN' zqhd' zqhr0' zqhr1'; (try dsimp only at zqN'); (have zqh5 : zqr' = 0 ∨ zqr' = 1 ∨ zqr' = 2 ∨ zqr' = 3 ∨ zqr' = 4 := by omega); rcases zqh5 with zqh5 | zqh5 | zqh5 | zqh5 | zqh5 <;> subst zqh5) | (with_reducible refine Mine.Stp.mk (n := 3) ?_; k_dflt (refine' setItem_v (knd := PySem.intKind _ _) (intKind_is _ _ _ _) (by k_asm) (by k_asm) (by k_updF) (by k_asm) (by assumption) ?_); intro zqh' zqo' zqF' zqN' zqhd'; (try dsimp only at zqN')) | (k_unfold; (try dsimp only)) | (k_end; wrow_close) | walk1 | (dsimp only; walk1) | (leave1; (try dsimp only)) | fail "no step"))
  iterate 2
    with_reducible rename Fr _ _ _ _ => kF9
    with_reducible rename News _ _ _ _ => kN9
    with_reducible rename GSub _ _ _ => G9
    with_reducible rename OffD _ _ => off9
    refine ret _ _ _ [_, _] _ (.rat _ _) _ _ _ _ _ _ kF9 kN9 (by assumption) (by first | exact g2 | exact g3 | omega) (by first | exact g23 | exact Int.le_refl _ | omega) (by assumption) ⟨_, _, rfl⟩ ?_ ?_ ?_ (fresh_of G9 (by assumption) (List.Mem.head _) (by have q := off_nm off9; exact q)) (kept_of G9 (by assumption))
    rotate_left 3
  iterate 3
    with_reducible rename Fr _ _ _ _ => kF9
    with_reducible rename News _ _ _ _ => kN9
    with_reducible rename GSub _ _ _ => G9
    refine ret _ _ _ [_, _, _] _ (.bv _ _) _ _ _ _ _ _ kF9 kN9 (by assumption) (by first | exact g2 | exact g3 | omega) (by first | exact g23 | exact Int.le_refl _ | omega) (by assumption) ⟨_, _, _, rfl⟩ trivial (Int.le_refl _) (Int.le_max_left _ _) (fresh_of G9 (by assumption) (List.Mem.head _) ?_) (kept_of G9 (by assumption))
    rotate_left 1
  all_goals first
    | exact fr_ok
    | exact fr_ge
    | exact fr_up (by omega) (by omega) (by omega)
    | (refine nm_nat ?_; (simp only [List.map_cons, List.map_nil]); (repeat (refine List.forall_mem_cons.mpr ⟨by (show @LT.lt Nat _ _ _); omega, ?_⟩)); exact List.forall_mem_nil _)
end Mine
end
section
open PySem PySem.W PyProof.Rows
set_option Elab.async false
namespace Mine
abbrev P0 : Program := PySem.Challenge.rw_rg0220_01.row.prog
def Cl3.dat : Cl3 → Dat
  | .bv v wd => .tuple [.str (Str.ofString "bv"), .int v, .int wd]
  | .rat x y => .tuple [.int x, .int y]
  | .elem e n => .tuple [.str (Str.ofString "elem"), .int e, .int n]
theorem news_drop2 {h₀ h : Heap} {L : Addr} {p q : Addr × Obj} {l : List (Addr × Obj)} (N : News h₀ L h (p :: q :: l)) : News h₀ L h (p :: l) := fun x hx => by
  rcases List.mem_cons.mp hx with rfl | hx
  · exact N _ (List.Mem.head _)
  · exact N x (List.Mem.tail _ (List.Mem.tail _ hx))
theorem news_drop1 {h₀ h : Heap} {L : Addr} {p : Addr × Obj} {l : List (Addr × Obj)} (N : News h₀ L h (p :: l)) : News h₀ L h l := fun x hx => N x (List.Mem.tail _ hx)
theorem is_rat {x x' y : Int} {t t' : Tok} (h : x = x') : Cl3.Is (.rat x' y) [.int x t, .int y t'] := ⟨t, t', by rw [h]⟩
theorem is_elem {e x x' : Int} {t t' t'' : Tok} (h : x = x') : Cl3.Is (.elem e x') [.str (Str.ofString "elem") t, .int e t', .int x t''] := ⟨t, t', t'', by rw [h]⟩
theorem Cl3.Is.all {c : Cl3} {its : List Value} {news : List (Addr × Obj)} (h : c.Is its) : ∃ ds, c.dat = .tuple ds ∧ DatAll news its ds := by
  cases c with
  | bv v wd => obtain ⟨t1, t2, t3, rfl⟩ := h; exact ⟨_, rfl, .cons (.str _ _) (.cons (.int _ _) (.cons (.int _ _) .nil))⟩
  | rat x y => obtain ⟨t1, t2, rfl⟩ := h; exact ⟨_, rfl, .cons (.int _ _) (.cons (.int _ _) .nil)⟩
  | elem e n => obtain ⟨t1, t2, t3, rfl⟩ := h; exact ⟨_, rfl, .cons (.str _ _) (.cons (.int _ _) (.cons (.int _ _) .nil))⟩
theorem Cl3.Is.datIn {c : Cl3} {its : List Value} {news : List (Addr × Obj)} {D : Addr} {n : Nat} (h : c.Is its) (hm : (D, tupOf its.toArray n) ∈ news) : DatIn news (.ref D) c.dat := by
  obtain ⟨ds, e, a⟩ := h.all (news := news)
  rw [e]
  exact .tuple hm a
theorem Cl3.ok (c : Cl3) : kqdOk 8 c.dat = true := by
  cases c <;> simp [Cl3.dat, kqdOk] <;> decide +kernel
theorem Cl3.dat_inj {c d : Cl3} (h : c.dat = d.dat) : c = d := by
  have ne : Str.ofString "bv" ≠ Str.ofString "elem" := by decide +kernel
  cases c <;> cases d <;> simp_all [Cl3.dat]
def ClIn (news : List (Addr × Obj)) (v : Value) (c : Cl3) : Prop := ∃ (D : Nat) (its : List Value) (n : Nat), v = .ref D ∧ (D, tupOf its.toArray n) ∈ news ∧ c.Is its
theorem ClIn.mono {news news' : List (Addr × Obj)} {v : Value} {c : Cl3} (h : ClIn news v c) (hs : ∀ p ∈ news, p ∈ news') : ClIn news' v c := by
  obtain ⟨D, its, n, e, hm, hi⟩ := h
  exact ⟨D, its, n, e, hs _ hm, hi⟩
theorem ClIn.datIn {news : List (Addr × Obj)} {v : Value} {c : Cl3} (h : ClIn news v c) : DatIn news v c.dat := by
  obtain ⟨D, its, n, rfl, hm, hi⟩ := h
  exact hi.datIn hm
inductive ClAll (news : List (Addr × Obj)) : List Value → List Cl3 → Prop
  | nil : ClAll news [] []
  | cons {v : Value} {c : Cl3} {vs : List Value} {cs : List Cl3} : ClIn news v c → ClAll news vs cs → ClAll news (v :: vs) (c :: cs)
theorem ClAll.mono {news news' : List (Addr × Obj)} (hs : ∀ p ∈ news, p ∈ news') : ∀ {vs : List Value} {cs : List Cl3}, ClAll news vs cs → ClAll news' vs cs := by
  intro vs cs h
  induction h with
  | nil => exact .nil
  | cons h _ ih => exact .cons (h.mono hs) ih
theorem ClAll.datAll {news : List (Addr × Obj)} : ∀ {vs : List Value} {cs : List Cl3}, ClAll news vs cs → DatAll news vs (cs.map Cl3.dat) := by
  intro vs cs h
  induction h with
  | nil => exact .nil
  | cons h _ ih => exact .cons h.datIn ih
theorem ClAll.length {news : List (Addr × Obj)} : ∀ {vs : List Value} {cs : List Cl3}, ClAll news vs cs → vs.length = cs.length := by
  intro vs cs h
  induction h with
  | nil => rfl
  | cons _ _ ih => exact congrArg (· + 1) ih
theorem ClAll.get {news : List (Addr × Obj)} {vs : List Value} {cs : List Cl3} (h : ClAll news vs cs) : ∀ {i : Nat} {v : Value}, vs[i]? = some v → ∃ c, cs[i]? = some c ∧ ClIn news v c := by
  induction h with
  | nil => exact fun h => nomatch h
  | cons h _ ih =>
    intro i v e
    cases i with
    | zero => exact ⟨_, rfl, (Option.some.inj e) ▸ h⟩
    | succ i => exact ih e
theorem ClAll.append {news : List (Addr × Obj)} : ∀ {vs ws : List Value} {cs ds : List Cl3}, ClAll news vs cs → ClAll news ws ds → ClAll news (vs ++ ws) (cs ++ ds) := by
  intro vs ws cs ds h k
  induction h with
  | nil => exact k
  | cons h _ ih => exact .cons h ih
theorem ClAll.okD {cs : List Cl3} : ∀ d ∈ cs.map Cl3.dat, kqdOk 8 d = true := fun d hd => by
  obtain ⟨c, _, rfl⟩ := List.mem_map.mp hd
  exact c.ok
theorem mem_dat {c : Cl3} {cs : List Cl3} : c.dat ∈ cs.map Cl3.dat ↔ c ∈ cs := by
  constructor
  · intro h
    obtain ⟨d, hd, e⟩ := List.mem_map.mp h
    exact Cl3.dat_inj e ▸ hd
  · exact fun h => List.mem_map_of_mem h
end Mine
end
section
open PySem PySem.W PyProof.Rows
set_option Elab.async false
namespace Mine
local macro_rules | `(tactic| walk_at "execs cons") => `(tactic| (k_here; refine Mine.toks_cons ?_; intro tk'; (try dsimp only); (try k_fold)))
local macro_rules | `(tactic| k_units) => `(tactic| first | exact Nat.le_of_ble_eq_true rfl | ((have hcL9 := cLine_is); (try simp only [units_in1, units_deeper, Around.mark_units, units_caller] at *); (try dsimp only [ktrTop] at *); omega))
local macro_rules | `(tactic| k_room) => `(tactic| ktr_room)
set_option maxRecDepth 100000 in
set_option maxHeartbeats 400000 in
theorem fresh_num_c {w : World} {p : Program} {loose : List Str} {mean : ExcName → Option Value} {mg mb : Str → Option Value} {dp un : Nat} {gd : Option (List Code)} {cn : Str} {cs : Scope} {a : Addr} {ccd : Value} {cl : List (Str × Addr)} {outer : List Env} {A₀ : Around} {base h₀ : Heap} {L : Addr} {m : Str → Option Value} {s : Shared} {Q E : Value → Shared → Prop}
    {bx bd mx md cv ct mo vl nl wl bv : Nat} {rest : List (Addr × Obj)} {k : Int} {tk : Tok} {fr : Int} {tf : Tok}
    {bk : Bk}
    {mk : Bk}
    (B : Below A₀ base outer h₀) (F : Fr h₀ L s.heap m) (X : (K w.params).In h₀) (T : Top p loose mean mg mb h₀) (hk : cs.kind = .function)
    (N : News h₀ L s.heap ((bx, instObj 782 bd) :: (bd, dictOf (bankEs bk nl wl bv) 14) ::
      (mx, instObj 978 md) :: (md, dictOf (mkEs mk bx mo vl cv ct fr tf) 7) :: rest))
    (off : OwnOff rest [bx, bd, mx, md]) (hne : bd < bx ∧ bx < md ∧ md < mx) (hs : k = 1 ∨ k = 2) (hf0 : -1000 ≤ fr) (hf1 : fr ≤ 1000)
    (hd : dp + 6 < recursionLimit) (hu : un + 60 < cLine)
    (ret : ∀ h' tk (D : Nat) (its : List Value) nn tf', Fr h₀ L h' m → News h₀ L h' ((D, tupOf its.toArray nn) :: (bx, instObj 782 bd) :: (bd, dictOf (bankEs bk nl wl bv) 14) ::
      (mx, instObj 978 md) :: (md, dictOf (mkEs mk bx mo vl cv ct (fr + 1) tf') 7) :: rest) →
      Cl3.Is (.rat fr 1) its → (∀ p ∈ (bx, instObj 782 bd) :: (bd, dictOf [] 0) :: (mx, instObj 978 md) :: (md, dictOf [] 0) :: rest, p.1 < D) → Q (.ref D) { s with heap := h', toks := tk }) :
    wpAny (model PySem.Challenge.rw_rg0220_01.row.prog w) (ktrTop dp un gd cn cs L a ccd cl outer) (call (.ref 947) [.ref mx, .int k tk]) Q E s := by
  obtain ⟨a1, a2, a3⟩ := hne
  w_on
  revert X
  k_fill
  intro X
  refine wpAny_call ?_
  rcases hs with rfl | rfl
  all_goals
    w_strict (k_dflt (refine' code_defC ?zzk1 ?zzk2 ?zzk3 ?zzk4 ?zzk5 ?zzkA ?zzkF ?zzkK ?zzk6 ?zzk7 ?zzk8 ?zzk9 ?zzkB ?zzkD ?_ ?zzc2 ?zzc3 ?zzc4; (case zzkA => exact rfl); (case zzkF => exact rfl); (case zzkK => assumption); (case zzk1 => k_asm); (case zzk2 => k_asm); (case zzk3 => k_asm); (case zzk4 => k_asm); (case zzk5 => k_asm); (case zzk6 => k_is); (case zzk7 => k_is); (case zzk8 => first | exact Mine.rm0 (by assumption) | k_room); (case zzk9 => exact BindsTo.of_eq rfl); (case zzkB => exact rfl); (case zzkD => decide +kernel); (case zzc2 => exact rfl); (case zzc3 => exact rfl); (case zzc4 => exact rfl); k_whole; intro zqg' zqL' zqh' zqtk' zqcells' zqFG' zqF' zqN' zqY' zqB' zqX' zqT' zql1; (try k_lt zql1); k_cells zqY'; (try simp only [List.cons_append, List.nil_append] at zqN'); (try dsimp only); (try k_fold)); k_steps)
    with_reducible rename Fr _ _ _ _ => kF9
    with_reducible rename News _ _ _ _ => kN9
    with_reducible rename _ ∧ _ => l9
    exact ret _ _ _ [_, _] _ _ kF9 (news_drop2 kN9) (is_rat (by omega)) (ktn_ltOf (And.right l9))

theorem news_upd' {h₀ h h' : Heap} {L d : Addr} {o o' : Obj} {news : List (Addr × Obj)} {g : Obj → List (Addr × Obj)} (N : News h₀ L h news) (U : UpdF d o news g) (hd : h'.get? d = some o') (key : ∀ p ∈ news, p.1 ≠ d → h'.get? p.1 = some p.2) : News h₀ L h' (g o') := by
  obtain ⟨pre, post, rfl, hg, h1, h2⟩ := U.split
  rw [hg]
  intro p hp
  rcases List.mem_append.mp hp with hp | hp
  · have hp' : p ∈ pre ++ (d, o) :: post := List.mem_append_left _ hp
    exact ⟨key p hp' (h1 p hp), (N p hp').2⟩
  · rcases List.mem_cons.mp hp with rfl | hp
    · exact ⟨hd, (N (d, o) (List.mem_append_right _ (.head _))).2⟩
    · have hp' : p ∈ pre ++ (d, o) :: post := List.mem_append_right _ (.tail _ hp)
      exact ⟨key p hp' (h2 p hp), (N p hp').2⟩
def others (adr : List Addr) (news : List (Addr × Obj)) : List (Addr × Obj) := news.filter fun p => decide (p.1 ∉ adr)
theorem mem_others {adr : List Addr} {news : List (Addr × Obj)} {p : Addr × Obj} : p ∈ others adr news ↔ p ∈ news ∧ p.1 ∉ adr := by
  unfold others
  rw [List.mem_filter, decide_eq_true_iff]
theorem off_others {adr : List Addr} {news : List (Addr × Obj)} : OwnOff (others adr news) adr := fun p hp b hb e => (mem_others.mp hp).2 (e ▸ hb)
theorem news_same {h₀ h : Heap} {L a : Addr} {o : Obj} {news : List (Addr × Obj)} {p : Addr × Obj} (N : News h₀ L h news) (hm : (a, o) ∈ news) (hp : p ∈ news) (e : p.1 = a) : p = (a, o) := by
  have h1 := (N p hp).1
  have h2 := (N _ hm).1
  rw [e, h2] at h1
  exact Prod.ext e (Option.some.inj h1).symm
theorem lit_or {adr : List Addr} {news : List (Addr × Obj)} {p : Addr × Obj} (hp : p ∈ news) : p.1 ∈ adr ∨ p ∈ others adr news := by
  by_cases h : p.1 ∈ adr
  · exact .inl h
  · exact .inr (mem_others.mpr ⟨hp, h⟩)

section
variable {w : World} {p : Program} {loose : List Str} {mean : ExcName → Option Value} {mg mb : Str → Option Value} {dp un : Nat} {gd : Option (List Code)} {cn : Str} {cs : Scope} {a : Addr} {ccd : Value} {cl : List (Str × Addr)} {outer : List Env} {A₀ : Around} {base h₀ : Heap} {L : Addr} {m : Str → Option Value} {s : Shared} {Q E : Value → Shared → Prop} {news : List (Addr × Obj)}
    {bx bd mx md cv ct mo vl nl wl bv : Nat} {k : Int} {tk : Tok} {fr : Int} {tf : Tok}
    {bk : Bk}
    {mk : Bk}
theorem fresh_num_U {g : Obj → List (Addr × Obj)}
    (B : Below A₀ base outer h₀) (F : Fr h₀ L s.heap m) (X : (K w.params).In h₀) (T : Top p loose mean mg mb h₀) (hk : cs.kind = .function)
    (N : News h₀ L s.heap news) (m1 : (bx, instObj 782 bd) ∈ news) (m2 : (bd, dictOf (bankEs bk nl wl bv) 14) ∈ news)
    (m3 : (mx, instObj 978 md) ∈ news) (U : UpdF md (dictOf (mkEs mk bx mo vl cv ct fr tf) 7) news g)
    (hne : bd < bx ∧ bx < md ∧ md < mx) (hs : k = 1 ∨ k = 2) (hf0 : -1000 ≤ fr) (hf1 : fr ≤ 1000)
    (hd : dp + 6 < recursionLimit) (hu : un + 60 < cLine)
    (ret : ∀ h' tk (D : Nat) (its : List Value) nn tf', Fr h₀ L h' m → News h₀ L h' ((D, tupOf its.toArray nn) :: g (dictOf (mkEs mk bx mo vl cv ct (fr + 1) tf') 7)) →
      Cl3.Is (.rat fr 1) its → (∀ p ∈ news, p.1 < D) → Q (.ref D) { s with heap := h', toks := tk }) :
    wpAny (model PySem.Challenge.rw_rg0220_01.row.prog w) (ktrTop dp un gd cn cs L a ccd cl outer) (call (.ref 947) [.ref mx, .int k tk]) Q E s := by
  refine fresh_num_c (rest := others [bx, bd, mx, md] news) B F X T hk (news_cons N m1 (news_cons N m2 (news_cons N m3 (news_cons N (UpdF.mem' U) fun p hp => N p (mem_others.mp hp).1)))) off_others hne hs hf0 hf1 hd hu
    fun h' tk D its nn tf' F' N' hI hlt => ?_
  refine ret h' tk D its nn tf' F' (fun q hq => ?_) hI (fun q hq => ?_)
  · rcases List.mem_cons.mp hq with rfl | hq
    · exact N' _ (.head _)
    · refine news_upd' N U (N' (md, _) (.tail _ (.tail _ (.tail _ (.tail _ (.head _)))))).1 (fun q hq hne => ?_) q hq
      rcases lit_or (adr := [bx, bd, mx, md]) hq with h | h
      · simp only [List.mem_cons, List.not_mem_nil, or_false] at h
        rcases h with h | h | h | h
        · rw [news_same N m1 hq h]; exact (N' _ (.tail _ (.head _))).1
        · rw [news_same N m2 hq h]; exact (N' _ (.tail _ (.tail _ (.head _)))).1
        · rw [news_same N m3 hq h]; exact (N' _ (.tail _ (.tail _ (.tail _ (.head _))))).1
        · exact absurd h hne
      · exact (N' q (.tail _ (.tail _ (.tail _ (.tail _ (.tail _ h)))))).1
  · rcases lit_or (adr := [bx, bd, mx, md]) hq with h | h
    · simp only [List.mem_cons, List.not_mem_nil, or_false] at h
      rcases h with h | h | h | h
      · rw [h]; exact hlt (bx, _) (.head _)
      · rw [h]; exact hlt (bd, _) (.tail _ (.head _))
      · rw [h]; exact hlt (mx, _) (.tail _ (.tail _ (.head _)))
      · rw [h]; exact hlt (md, _) (.tail _ (.tail _ (.tail _ (.head _))))
    · exact hlt q (.tail _ (.tail _ (.tail _ (.tail _ h))))
end
end Mine
end
section
open PySem PySem.W PyProof.Rows
set_option Elab.async false
namespace Mine
local macro_rules | `(tactic| k_ne) => `(tactic| (refine neN ?_; (try dsimp only); with_reducible first | exact Nat.ne_of_lt (by assumption) | exact Nat.ne_of_gt (by assumption) | assumption | exact Ne.symm (by assumption)))
local macro_rules | `(tactic| walk_at "execs cons") => `(tactic| (k_here; refine Mine.toks_cons ?_; intro tk'; (try dsimp only); (try k_fold)))
theorem find_app {K : Type} [DecidableEq K] (k : K) (l : List (K × Value)) (v : Value) (h : l.find? (fun kv => decide (kv.1 = k)) = none) : (l ++ [(k, v)]).find? (fun kv => decide (kv.1 = k)) = some (k, v) := by
  rw [List.find?_append, h]
  simp
theorem valueAt_stored_same {K : Type} [DecidableEq K] (kvs : List (K × Value)) (k : K) (v : Value) : valueAt (stored kvs k v) k = some v := by
  unfold valueAt stored
  induction kvs with
  | nil => simp
  | cons a r ih =>
    by_cases h : a.1 = k
    · simp [h]
    · simp only [List.any_cons, h, decide_false, Bool.false_or, List.map_cons, if_false, List.cons_append] at ih ⊢
      split at ih <;> rename_i hq
      · simp only [hq, if_true]
        rw [List.find?_cons_of_neg (by simpa using h)]
        exact ih
      · simp only [hq]
        rw [if_neg (by simp), List.find?_cons_of_neg (by simpa using h)]
        exact ih
theorem valueAt_stored_other {K : Type} [DecidableEq K] (kvs : List (K × Value)) (k k' : K) (v : Value) (hk : k' ≠ k) : valueAt (stored kvs k v) k' = valueAt kvs k' := by
  unfold valueAt stored
  split
  · rename_i hq; clear hq
    induction kvs with
    | nil => rfl
    | cons a r ih =>
      rw [List.map_cons]
      by_cases h : a.1 = k'
      · have h' : ¬ a.1 = k := fun e => hk (h.symm.trans e)
        rw [if_neg h', List.find?_cons_of_pos (by simpa using h), List.find?_cons_of_pos (by simpa using h)]
      · have e : (if a.1 = k then (a.1, v) else a).1 = a.1 := by split <;> rfl
        generalize (if a.1 = k then (a.1, v) else a) = b at e
        rw [List.find?_cons_of_neg (by simpa [e] using h), List.find?_cons_of_neg (by simpa using h)]
        exact ih
  · rw [List.find?_append, List.find?_cons_of_neg (by simpa using fun e => hk e.symm), List.find?_nil, Option.or_none]
def CntAt (kct : List (Int × Value)) (k n : Int) : Prop := (valueAt kct k = none ∧ n = 0) ∨ ∃ t, valueAt kct k = some (.int n t)
theorem CntAt.same {kct : List (Int × Value)} {k n : Int} {t : Tok} : CntAt (stored kct k (.int n t)) k n := .inr ⟨t, valueAt_stored_same _ _ _⟩
theorem CntAt.other {kct : List (Int × Value)} {k k' n : Int} {v : Value} (hk : k' ≠ k) (h : CntAt kct k' n) : CntAt (stored kct k v) k' n := by
  unfold CntAt
  rw [valueAt_stored_other _ _ _ _ hk]
  exact h
theorem allNe1 {d : Addr} {l : List (Addr × Obj)} (h : AllLt d l) : ∀ p ∈ l, p.1 ≠ d + 1 := fun p hp => Nat.ne_of_lt (Nat.lt_succ_of_lt (ktn_ltOf h p hp))
local macro_rules | `(tactic| k_all) => `(tactic| exact allNe1 (by assumption))
local macro_rules | `(tactic| k_units) => `(tactic| first | exact Nat.le_of_ble_eq_true rfl | ((have hcL9 := cLine_is); (try simp only [units_in1, units_deeper, Around.mark_units, units_caller] at *); (try dsimp only [ktrTop] at *); omega))
local macro_rules | `(tactic| k_room) => `(tactic| ktr_room)
local macro_rules | `(tactic| walk_at "setItem ref int") => `(tactic| (k_here; refine Mine.Stp.out (n := 3) ?_))
local macro_rules | `(tactic| walk_at "getItem ref int") => `(tactic| (k_here; refine Mine.Stp.out (n := 4) ?_))
local macro_rules | `(tactic| walk_at "call builtin:dict.get") => `(tactic| (k_here; refine Mine.Stp.out (n := 8) ?_))
set_option maxRecDepth 100000 in
set_option maxHeartbeats 400000 in
theorem fresh_elem_c {w : World} {p : Program} {loose : List Str} {mean : ExcName → Option Value} {mg mb : Str → Option Value} {dp un : Nat} {gd : Option (List Code)} {cn : Str} {cs : Scope} {a : Addr} {ccd : Value} {cl : List (Str × Addr)} {outer : List Env} {A₀ : Around} {base h₀ : Heap} {L : Addr} {m : Str → Option Value} {s : Shared} {Q E : Value → Shared → Prop}
    {bx bd wl mx md cv ct mo vl nl bv : Nat} {rest : List (Addr × Obj)} {k n : Int} {tk : Tok} {fr : Int} {tf : Tok} {oct : Obj} {kct : List (Int × Value)} {n2 : Nat}
    {bk : Bk}
    {mk : Bk} {q : Nat → Tok}
    (B : Below A₀ base outer h₀) (F : Fr h₀ L s.heap m) (X : (K w.params).In h₀) (T : Top p loose mean mg mb h₀) (hk : cs.kind = .function)
    (N : News h₀ L s.heap ((bx, instObj 782 bd) :: (bd, dictOf (bankEs bk nl wl bv) 14) ::
      (wl, listOf (wlL q).toArray n2) ::
      (mx, instObj 978 md) :: (md, dictOf (mkEs mk bx mo vl cv ct fr tf) 7) :: (ct, oct) :: rest))
    (off : OwnOff rest [bx, bd, wl, mx, md, ct]) (hne : bd < bx ∧ bx < wl ∧ wl < md ∧ md < mx ∧ mx < ct) (hs : k = 6 ∨ k = 7)
    (lo : (ct == sysModules) = false) (hct : oct.IsDictOf (PySem.intKind PySem.Challenge.rw_rg0220_01.row.prog w) kct) (hcs : kct.length ≤ 1000) (hcn : CntAt kct k n)
    (hd : dp + 6 < recursionLimit) (hu : un + 60 < cLine)
    (ret : ∀ h' tk (D : Nat) (its : List Value) nn oct' t', Fr h₀ L h' m → News h₀ L h' ((D, tupOf its.toArray nn) :: (bx, instObj 782 bd) :: (bd, dictOf (bankEs bk nl wl bv) 14) ::
      (wl, listOf (wlL q).toArray n2) ::
      (mx, instObj 978 md) :: (md, dictOf (mkEs mk bx mo vl cv ct fr tf) 7) :: (ct, oct') :: rest) →
      oct'.IsDictOf (PySem.intKind PySem.Challenge.rw_rg0220_01.row.prog w) (stored kct k (.int (n + 1) t')) →
      Cl3.Is (.elem k n) its → AllLt D ((bx, instObj 782 bd) :: (bd, dictOf [] 0) :: (wl, dictOf [] 0) :: (mx, instObj 978 md) :: (md, dictOf [] 0) :: (ct, oct) :: rest) → Q (.ref D) { s with heap := h', toks := tk }) :
    wpAny (model PySem.Challenge.rw_rg0220_01.row.prog w) (ktrTop dp un gd cn cs L a ccd cl outer) (call (.ref 947) [.ref mx, .int k tk]) Q E s := by
  obtain ⟨a1, a2, a3, a4, a5⟩ := hne
  have b1 : md < ct := Nat.lt_trans a4 a5
  have b2 : wl < ct := Nat.lt_trans a3 b1
  have b3 : bx < ct := Nat.lt_trans a2 b2
  have b4 : bd < ct := Nat.lt_trans a1 b3
  w_on
  revert X
  k_fill
  intro X
  refine wpAny_call ?_
  rcases hcn with ⟨hcn, rfl⟩ | ⟨tcn, hcn⟩
  all_goals rcases hs with rfl | rfl
  all_goals
    w_strict (k_dflt (refine' code_defC ?zzk1 ?zzk2 ?zzk3 ?zzk4 ?zzk5 ?zzkA ?zzkF ?zzkK ?zzk6 ?zzk7 ?zzk8 ?zzk9 ?zzkB ?zzkD ?_ ?zzc2 ?zzc3 ?zzc4; (case zzkA => exact rfl); (case zzkF => exact rfl); (case zzkK => assumption); (case zzk1 => k_asm); (case zzk2 => k_asm); (case zzk3 => k_asm); (case zzk4 => k_asm); (case zzk5 => k_asm); (case zzk6 => k_is); (case zzk7 => k_is); (case zzk8 => first | exact Mine.rm0 (by assumption) | k_room); (case zzk9 => exact BindsTo.of_eq rfl); (case zzkB => exact rfl); (case zzkD => decide +kernel); (case zzc2 => exact rfl); (case zzc3 => exact rfl); (case zzc4 => exact rfl); k_whole; intro zqg' zqL' zqh' zqtk' zqcells' zqFG' zqF' zqN' zqY' zqB' zqX' zqT' zql1; (try k_lt zql1); (have lR' := zql1); (repeat (replace lR' := And.right lR')); k_cells zqY'; (try simp only [List.cons_append, List.nil_append] at zqN'); (try dsimp only); (try k_fold)); repeat' (first | (with_reducible refine Mine.Stp.mk (n := 3) ?_; k_dflt (refine' setItem_v (knd := PySem.intKind _ _) (intKind_is _ _ _ _) (by k_asm) (by k_asm) (by k_updF) (by k_asm) (by assumption) ?_); intro zqh' zqo' zqF' zqN' zqhd'; (try dsimp only at zqN')) | (with_reducible refine Mine.Stp.mk (n := 4) ?_; k_dflt (refine kdt_getItem (knd := PySem.intKind _ _) (by k_asm) (by k_mem) (by k_asm) (intKind_is _ _ _ _) (valueAt_stored_same _ _ _) ?_)) | (with_reducible refine Mine.Stp.mk (n := 8) ?_; k_dflt (refine kdg_get2 (knd := PySem.intKind _ _) (by k_asm) (by k_mem) (by k_asm) (by k_asm) (intKind_is _ _ _ _) _ (by assumption) ?_); (try dsimp only [Option.getD])) | (k_unfold; (try dsimp only)) | (k_end; wrow_close) | walk1 | (dsimp only; walk1) | (leave1; (try dsimp only)) | fail "no step"))
    with_reducible rename Fr _ _ _ _ => kF9
    with_reducible rename News _ _ _ _ => kN9
    with_reducible rename Obj.IsDictOf _ _ _ => kD9
    with_reducible rename _ ∧ _ => l9
    exact ret _ _ _ [_, _, _] _ _ _ kF9 (news_drop2 kN9) kD9 (is_elem (by omega)) (And.right l9)

section
variable {w : World} {p : Program} {loose : List Str} {mean : ExcName → Option Value} {mg mb : Str → Option Value} {dp un : Nat} {gd : Option (List Code)} {cn : Str} {cs : Scope} {a : Addr} {ccd : Value} {cl : List (Str × Addr)} {outer : List Env} {A₀ : Around} {base h₀ : Heap} {L : Addr} {m : Str → Option Value} {s : Shared} {Q E : Value → Shared → Prop} {news : List (Addr × Obj)}
    {bx bd wl mx md cv ct mo vl nl bv : Nat} {k n : Int} {tk : Tok} {fr : Int} {tf : Tok} {oct : Obj} {kct : List (Int × Value)} {n2 : Nat}
    {bk : Bk}
    {mk : Bk} {q : Nat → Tok}
theorem fresh_elem_U {g : Obj → List (Addr × Obj)}
    (B : Below A₀ base outer h₀) (F : Fr h₀ L s.heap m) (X : (K w.params).In h₀) (T : Top p loose mean mg mb h₀) (hk : cs.kind = .function)
    (N : News h₀ L s.heap news) (m1 : (bx, instObj 782 bd) ∈ news) (m2 : (bd, dictOf (bankEs bk nl wl bv) 14) ∈ news)
    (m3 : (wl, listOf (wlL q).toArray n2) ∈ news)
    (m4 : (mx, instObj 978 md) ∈ news) (m5 : (md, dictOf (mkEs mk bx mo vl cv ct fr tf) 7) ∈ news) (U : UpdF ct oct news g)
    (hne : bd < bx ∧ bx < wl ∧ wl < md ∧ md < mx ∧ mx < ct) (hs : k = 6 ∨ k = 7)
    (lo : (ct == sysModules) = false) (hct : oct.IsDictOf (PySem.intKind PySem.Challenge.rw_rg0220_01.row.prog w) kct) (hcs : kct.length ≤ 1000) (hcn : CntAt kct k n)
    (hd : dp + 6 < recursionLimit) (hu : un + 60 < cLine)
    (ret : ∀ h' tk (D : Nat) (its : List Value) nn oct' t', Fr h₀ L h' m → News h₀ L h' ((D, tupOf its.toArray nn) :: g oct') →
      oct'.IsDictOf (PySem.intKind PySem.Challenge.rw_rg0220_01.row.prog w) (stored kct k (.int (n + 1) t')) →
      Cl3.Is (.elem k n) its → (∀ p ∈ news, p.1 < D) → Q (.ref D) { s with heap := h', toks := tk }) :
    wpAny (model PySem.Challenge.rw_rg0220_01.row.prog w) (ktrTop dp un gd cn cs L a ccd cl outer) (call (.ref 947) [.ref mx, .int k tk]) Q E s := by
  refine fresh_elem_c (rest := others [bx, bd, wl, mx, md, ct] news) B F X T hk (news_cons N m1 (news_cons N m2 (news_cons N m3 (news_cons N m4 (news_cons N m5 (news_cons N (UpdF.mem' U) fun p hp => N p (mem_others.mp hp).1)))))) off_others hne hs lo hct hcs hcn hd hu
    fun h' tk D its nn oct' t' F' N' hD hI hlt => ?_
  refine ret h' tk D its nn oct' t' F' (fun q hq => ?_) hD hI (fun q hq => ?_)
  · rcases List.mem_cons.mp hq with rfl | hq
    · exact N' _ (.head _)
    · have N2 := news_drop1 N'
      refine news_upd' N U (N2 (ct, _) (by k_mem)).1 (fun q hq hne => ?_) q hq
      rcases lit_or (adr := [bx, bd, wl, mx, md, ct]) hq with h | h
      · simp only [List.mem_cons, List.not_mem_nil, or_false] at h
        rcases h with h | h | h | h | h | h
        · rw [news_same N m1 hq h]; exact (N2 _ (by k_mem)).1
        · rw [news_same N m2 hq h]; exact (N2 _ (by k_mem)).1
        · rw [news_same N m3 hq h]; exact (N2 _ (by k_mem)).1
        · rw [news_same N m4 hq h]; exact (N2 _ (by k_mem)).1
        · rw [news_same N m5 hq h]; exact (N2 _ (by k_mem)).1
        · exact absurd h hne
      · exact (N2 q (.tail _ (.tail _ (.tail _ (.tail _ (.tail _ (.tail _ h))))))).1
  · have hlt := ktn_ltOf hlt
    rcases lit_or (adr := [bx, bd, wl, mx, md, ct]) hq with h | h
    · simp only [List.mem_cons, List.not_mem_nil, or_false] at h
      rcases h with h | h | h | h | h | h
      · rw [h]; exact hlt (bx, _) (by k_mem)
      · rw [h]; exact hlt (bd, _) (by k_mem)
      · rw [h]; exact hlt (wl, _) (by k_mem)
      · rw [h]; exact hlt (mx, _) (by k_mem)
      · rw [h]; exact hlt (md, _) (by k_mem)
      · rw [h]; exact hlt (ct, _) (by k_mem)
    · exact hlt q (.tail _ (.tail _ (.tail _ (.tail _ (.tail _ (.tail _ h))))))
end
end Mine
end
section
open PySem PySem.W PyProof.Rows PySem.Calls
set_option Elab.async false
set_option maxRecDepth 100000
namespace Mine
open LCg LCt
section
variable {prog : Program} {w : World} {A : Around} {E : Value → Shared → Prop} {s : Shared} {h₀ : Heap} {L : Addr} {m : Str → Option Value} {env : Env}

def SrcV (prog : Program) (w : World) {K : Type} [DecidableEq K] (knd : KeyKind prog w K) (A : Around) (h₀ : Heap) (L : Addr) (m : Str → Option Value) (env : Env) (ct elt : Expr) (x : Str) (scope : Scope) (cl : List (Str × Addr)) (Fin : Shared → List Value → List (Addr × Obj) → Prop) (xv : Value) (s₁ : Shared) : Prop :=
  ∃ v d od kvs news, xv = .ref v ∧ A.handled = none ∧ Fr h₀ L s₁.heap m ∧ News h₀ L s₁.heap news ∧ (v, ({ cls := .type "dict_values", data := .fields #[.ref d] } : Obj)) ∈ news ∧ (d, od) ∈ news ∧ od.IsDictOf knd kvs ∧ kvs.length ≤ sizeLine ∧
    ∀ s₂ : Shared, (∃ h, s₂ = { s₁ with heap := h }) → CompRestT prog w A h₀ L m env ct elt x scope cl s₂ (fun nw => (d, od) ∈ nw) (fun i v => ∃ k, kvs[i]? = some (k, v)) (Fin s₂) kvs.length 0 [] news

theorem SrcV.intro {K : Type} [DecidableEq K] {knd : KeyKind prog w K} {ct elt : Expr} {x : Str} {scope : Scope} {cl : List (Str × Addr)} {Fin : Shared → List Value → List (Addr × Obj) → Prop} {v d : Addr} {od : Obj} {kvs : List (K × Value)} {news : List (Addr × Obj)} {s₁ : Shared}
    (hh : A.handled = none) (F : Fr h₀ L s₁.heap m) (N : News h₀ L s₁.heap news) (hv : (v, ({ cls := .type "dict_values", data := .fields #[.ref d] } : Obj)) ∈ news) (hd : (d, od) ∈ news) (hk : od.IsDictOf knd kvs) (hsz : kvs.length ≤ sizeLine)
    (h : ∀ g, CompRestT prog w A h₀ L m env ct elt x scope cl { s₁ with heap := g } (fun nw => (d, od) ∈ nw) (fun i v => ∃ k, kvs[i]? = some (k, v)) (Fin { s₁ with heap := g }) kvs.length 0 [] news) :
    SrcV prog w knd A h₀ L m env ct elt x scope cl Fin (.ref v) s₁ := ⟨v, d, od, kvs, news, rfl, hh, F, N, hv, hd, hk, hsz, fun _ ⟨g, e⟩ => e ▸ h g⟩

theorem Assign_ListComp_V {K : Type} [DecidableEq K] (knd : KeyKind prog w K) {ct elt iter : Expr} {x y : Str} {px py : Pos} {scope : Scope} {cl : List (Str × Addr)} {pos spos : Pos} {Q : Flow → Shared → Prop} (F₀ : Fr h₀ L s.heap m) (hLe : env.locals = L)
    (hsw : swapsWith (.ListComp elt [⟨.Name x px, iter, [ct], 0⟩] scope pos) (some (.Name y py)) spos.line env = pure true)
    (hclos : closureFor scope env = pure cl) (hcell : ∀ z ∈ scope.names, z.2 ≠ .cell) (hkind : scope.kind = .function)
    (hnames : ∀ z ∈ scope.names, z.2 = .local → scope.names.lookup z.1 = some .local) (hx : scope.names.lookup x = some .local)
    (hy : env.kindOf y = some .local) (hp : (env.scope.kind == .class || (env.scope.kind == .module && env.locals != env.globals)) = false)
    (h : wpAny (model prog w) A (eval iter env) (SrcV prog w knd A h₀ L m env ct elt x scope cl (fun s₂ => FinA h₀ L m s₂ y Q)) E s)
    (hs : ∀ x, foldedSetIterable iter env x = pure x := by intro _; rfl) :
    wpAny (model prog w) A (exec (.Assign [.Name y py] (.ListComp elt [⟨.Name x px, iter, [ct], 0⟩] scope pos) spos) env) Q E s := by
  subst hLe
  rw [exec_Assign_Name_used _ _ _ _ hsw]
  refine wpAny_bind (wpAny_standAt (wpAny_bind ?_))
  show wpAny _ A (do let _ ← comprehension (.ListComp elt [⟨.Name x px, iter, [ct], 0⟩] scope pos) scope env _ (newList []) false (eval iter env) (some (assign (.Name y py) env))) _ _ s
  refine wpAny_bind (wpAny_mono (wpAny_comprehension_free (use := some (assign (.Name y py) env)) (Q := fun _ s' => Q .next s') rfl hs hclos hkind hnames
    (wpAny_mono h (fun xv s₁ h₁ => ?_) fun _ _ e => e)) (fun _ s' hq => wpAny_pure (wpAny_pure hq)) fun _ _ e => e)
  obtain ⟨vw, d, od, kvs, news, rfl, hh, F, N, hv, hd, hk, hsz, R⟩ := h₁
  obtain ⟨ep, hat⟩ := KdkAt.of hk
  have hat1 := hat.dictAt (N _ hd).1
  have hlt : d < s₁.heap.objs.size := hat1.lt_size
  refine wpAny_pyIter_values ⟨_, (N _ hv).1, rfl, rfl⟩ hat1 ?_
  have up : ∀ b o, s₁.heap.get? b = some o → (s₁.heap.push { cls := .type "dict_valueiterator", data := .fields #[.ref d, .int 0 0, .int kvs.length 0, .int ep 0] }).get? b = some o := fun b o e => Heap.get?_push_of_some _ e
  refine block_T (Walks.dictValues (knd := knd) hh s₁.heap.objs.size d (Nat.ne_of_lt hlt) kvs ep) hsz (fun i h st => by obtain ⟨o, e, _⟩ := st.1; exact ⟨o, e⟩)
    (fun i h h' o nw st e e' _ Nw S => ⟨by obtain ⟨o', q, r⟩ := st.1; rw [e] at q; cases q; exact ⟨o, e', r⟩, hat.dictAt (Nw _ S).1⟩) hcell hkind hx ⟨⟨_, Heap.get?_push_size _ rfl, rfl, rfl⟩, hat1.push _⟩ (fun b hb => ?_)
    (F.keeps up) (N.grown up) (Nat.ne_of_lt F.ns.lt) (next_is_new F) (fun p hp => Nat.ne_of_lt (Heap.lt_size (N p hp).1)) hd (R _ ⟨_, rfl⟩) ?_
  · show b < (s₁.heap.push _).objs.size
    rw [Heap.size_push]
    rcases List.mem_cons.mp hb with rfl | hb
    · exact Nat.lt_succ_self _
    · rw [List.mem_singleton.mp hb]; exact Nat.lt_succ_of_lt hlt
  · intro D C h' tk m' ys news' F' N' o1 hn hC₀ hD₀ hCL hDL hCD offC fin
    show wpAny _ A (assign (.Name y py) env (.ref D)) _ _ _
    refine wpAny_assign_Name (wpAny_storeName_local hy F'.ns (fun h₂ hn₂ hs₂ => ?_) hp)
    have hL₀ : h₀.get? env.locals = none := Heap.get?_none_of_le F'.above
    have F₂ : Fr h₀ env.locals h₂ (fun z => if z = y then some (.ref D) else m z) := ⟨hn₂, fun b o e => hs₂.extBut b o (fun q => by rw [q, hL₀] at e; cases e) (F'.keep b o e), F'.above⟩
    refine ⟨m', hn.sameBut hs₂ hCL, fun h'' hs'' => fin D h'' _ (F₂.change hs'' hCL hC₀) (fun p hp => ?_) o1⟩
    have z : h₂.get? p.1 = some p.2 := hs₂.extBut _ _ (N' p hp).2.1 (N' p hp).1
    refine ⟨hs''.extBut _ _ ?_ z, (N' p hp).2⟩
    rcases List.mem_cons.mp hp with rfl | hp
    · exact Ne.symm hCD
    · exact offC p hp

def TurnY (h₀ : Heap) (L : Addr) (m : Str → Option Value) (s₁ : Shared) (nl : List (Addr × Obj)) (R : Value → Prop) (y : Value) (s₂ : Shared) : Prop := ∃ h' tk, s₂ = { s₁ with heap := h', toks := tk } ∧ Fr h₀ L h' m ∧ News h₀ L h' nl ∧ R y
def TurnN (h₀ : Heap) (L : Addr) (m : Str → Option Value) (s₁ : Shared) (nl : List (Addr × Obj)) (R : Prop) (s₂ : Shared) : Prop := ∃ h' tk, s₂ = { s₁ with heap := h', toks := tk } ∧ Fr h₀ L h' m ∧ News h₀ L h' nl ∧ R
theorem TurnY.intro {s₁ : Shared} {nl all : List (Addr × Obj)} {R : Value → Prop} {y : Value} {h' : Heap} {tk : Nat} (F : Fr h₀ L h' m) (N : News h₀ L h' all) (hs : ∀ p ∈ nl, p ∈ all) (r : R y) : TurnY h₀ L m s₁ nl R y { s₁ with heap := h', toks := tk } := ⟨h', tk, rfl, F, fun p hp => N p (hs p hp), r⟩
theorem TurnN.intro {s₁ : Shared} {nl all : List (Addr × Obj)} {R : Prop} {h' : Heap} {tk : Nat} (F : Fr h₀ L h' m) (N : News h₀ L h' all) (hs : ∀ p ∈ nl, p ∈ all) (r : R) : TurnN h₀ L m s₁ nl R { s₁ with heap := h', toks := tk } := ⟨h', tk, rfl, F, fun p hp => N p (hs p hp), r⟩

theorem restT_inv {ct elt : Expr} {x : Str} {scope : Scope} {cl : List (Str × Addr)} {S : List (Addr × Obj) → Prop} {P : Nat → Value → Prop} {Fin : List Value → List (Addr × Obj) → Prop} {news : List (Addr × Obj)} {n : Nat} (R : Nat → List Value → Prop) (hS : S news)
    (turn : ∀ i v ys I oI C oC D m₂ h tk (E' : Value → Shared → Prop), i < n → P i v → R i ys → NsObj oC m₂ → m₂ x = some v → Fr h₀ L h m → News h₀ L h ((I, oI) :: (C, oC) :: (D, lst ys) :: news) → Off3 I C D news → ((@Ne Nat I C) ∧ (@Ne Nat I D) ∧ (@Ne Nat C D)) →
      wpAny (model prog w) A (isTrue ct (compEnvC scope cl C env) (eval ct (compEnvC scope cl C env))) (fun ok s' => if ok = true then
        wpAny (model prog w) A (eval elt (compEnvC scope cl C env)) (TurnY h₀ L m { s with heap := h, toks := tk } ((I, oI) :: (C, oC) :: (D, lst ys) :: news) (fun y => R (i + 1) (ys ++ [y]))) E' s'
        else TurnN h₀ L m { s with heap := h, toks := tk } ((I, oI) :: (C, oC) :: (D, lst ys) :: news) (R (i + 1) ys) s') E' { s with heap := h, toks := tk })
    (fin : ∀ ys, R n ys → Fin ys news) : ∀ k i ys, k + i = n → R i ys → CompRestT prog w A h₀ L m env ct elt x scope cl s S P Fin k i ys news := by
  intro k
  induction k with
  | zero =>
    intro i ys e r
    have e' : i = n := by omega
    subst e'
    exact fin ys r
  | succ k ih =>
    intro i ys e r
    refine CompRestT.succ fun v I oI C oC D m₂ h tk E' hP hC hx F N off ne => ?_
    refine wpAny_mono (turn i v ys I oI C oC D m₂ h tk E' (by omega) hP r hC hx F N off ne) (fun ok s' hq => ?_) fun _ _ e => e
    cases ok with
    | true =>
      simp only [if_true] at hq ⊢
      refine wpAny_mono hq (fun y s₂ hy => ?_) fun _ _ e => e
      obtain ⟨h', tk', rfl, F', N', ry⟩ := hy
      exact ⟨h', tk', news, rfl, F', N', off, hS, ih (i + 1) (ys ++ [y]) (by omega) ry⟩
    | false =>
      simp only [Bool.false_eq_true, if_false] at hq ⊢
      obtain ⟨h', tk', rfl, F', N', rn⟩ := hq
      exact ⟨h', tk', news, rfl, F', N', off, hS, ih (i + 1) ys (by omega) rn⟩
end
end Mine
end
section
open PySem PySem.W PyProof.Rows PySem.Calls
set_option Elab.async false
set_option maxRecDepth 100000
namespace Mine
section
variable {prog : Program} {w : World} {A : Around} {E : Value → Shared → Prop} {s : Shared} {env : Env} {h₀ : Heap} {x : Str} {body : List Stmt} {Q : Flow → Shared → Prop}
theorem rng_loop {r : Addr} {a₀ b₀ : Int} {t₀ u₀ v₀ : Tok} {n : Nat} {m₀ : Str → Option Value} {news : List (Addr × Obj)} (J : Nat → (Str → Option Value) → List (Addr × Obj) → Prop)
    (hh : A.handled = none) (hr : IsRange s.heap r a₀ b₀ 1 t₀ u₀ v₀) (hsmall : Builtin.Range.small a₀ b₀ 1 = true) (hsz : Builtin.Range.rangeSize a₀ b₀ 1 = (n : Int)) (F : Fr h₀ env.locals s.heap m₀) (N : News h₀ env.locals s.heap news) (hj : J 0 m₀ news)
    (turn : ∀ (i : Nat) t m₁ nx h tk own, i < n → OwnOff own (nx.map (·.1)) → J i m₁ nx → Fr h₀ env.locals h (fun y => if y = x then some (.int (a₀ + (i : Int)) t) else m₁ y) → News h₀ env.locals h (nx ++ own) →
      wpAny (model prog w) A (execs body env) (InvPostG h₀ env.locals (J (i + 1)) own { s with heap := h, toks := tk } Q) E { s with heap := h, toks := tk })
    (done : ∀ m₁ nx h tk, J n m₁ nx → Fr h₀ env.locals h m₁ → News h₀ env.locals h nx → Q .next { s with heap := h, toks := tk }) :
    wpAny (model prog w) A (pyIter (.ref r)) (fun it s₂ => LoopAtV prog w A h₀ env x body Q E it s₂) E s := by
  refine wpAny_pyIter_range hr hsmall ?_
  have W : Walks prog w A s.heap.objs.size [s.heap.objs.size] [s.heap.objs.size] n (fun i v => i < n ∧ ∃ t, v = .int (a₀ + i * 1) t)
      (fun i h => IsRangeIter h s.heap.objs.size (a₀ + (i : Nat) * 1) ((n : Int) - (i : Nat)) 1) := (Walks.range hh _ a₀ 1 n).bound
  refine kdr_loop J W (fun _ h => h) (fun _ h => h) (fun i h hi b hb => by rw [List.mem_singleton.mp hb]; exact ⟨_, hi⟩) (fun hm => absurd F.ns.lt ((List.mem_singleton.mp hm) ▸ Nat.lt_irrefl _))
    (fun b hb => by rw [List.mem_singleton.mp hb]; exact next_is_new F) (fun p hp hI => absurd (Heap.lt_size (N p hp).1) ((List.mem_singleton.mp hI) ▸ Nat.lt_irrefl _))
    (by show IsRangeIter _ _ _ _ _; rw [hsz]; simpa using Heap.get?_push_size _ rfl) (F.push _) (fun p hp => ⟨Heap.get?_push_of_some _ (N p hp).1, (N p hp).2⟩) hj ?_ done
  rintro i v m₁ nx h tk own hi ⟨_, t, rfl⟩ hoff hJ F₁ N₁
  have e1 : a₀ + (i : Int) * 1 = a₀ + (i : Int) := by omega
  rw [e1] at F₁
  exact turn i t m₁ nx h tk own hi hoff hJ F₁ N₁

def SPost (h₀ : Heap) (L : Addr) (x : Str) (m₀ : Str → Option Value) (all : List (Addr × Obj)) (P : Prop) (s₁ : Shared) (Q : Flow → Shared → Prop) (f : Flow) (s₂ : Shared) : Prop :=
  match f with
  | .ret v => Q (.ret v) s₂
  | .brk => Q .next s₂
  | _ => ∃ h' tk m', s₂ = { s₁ with heap := h', toks := tk } ∧ Fr h₀ L h' m' ∧ (∀ z, z ≠ x → m' z = m₀ z) ∧ News h₀ L h' all ∧ P
theorem rng_search {r : Addr} {a₀ b₀ : Int} {t₀ u₀ v₀ : Tok} {n : Nat} {m₀ : Str → Option Value} {news : List (Addr × Obj)} (P : Nat → Prop)
    (hh : A.handled = none) (hr : IsRange s.heap r a₀ b₀ 1 t₀ u₀ v₀) (hsmall : Builtin.Range.small a₀ b₀ 1 = true) (hsz : Builtin.Range.rangeSize a₀ b₀ 1 = (n : Int)) (F : Fr h₀ env.locals s.heap m₀) (N : News h₀ env.locals s.heap news) (hp : P 0)
    (turn : ∀ (i : Nat) t h tk own, i < n → OwnOff own (news.map (·.1)) → P i → Fr h₀ env.locals h (fun y => if y = x then some (.int (a₀ + (i : Int)) t) else m₀ y) → News h₀ env.locals h (news ++ own) →
      wpAny (model prog w) A (execs body env) (SPost h₀ env.locals x m₀ (news ++ own) (P (i + 1)) { s with heap := h, toks := tk } Q) E { s with heap := h, toks := tk })
    (done : ∀ u h tk, P n → Fr h₀ env.locals h (fun y => if y = x then u else m₀ y) → News h₀ env.locals h news → Q .next { s with heap := h, toks := tk }) :
    wpAny (model prog w) A (pyIter (.ref r)) (fun it s₂ => LoopAtV prog w A h₀ env x body Q E it s₂) E s := by
  refine rng_loop (fun i m nx => nx = news ∧ (∀ z, z ≠ x → m z = m₀ z) ∧ P i) hh hr hsmall hsz F N ⟨rfl, fun _ _ => rfl, hp⟩ ?_ ?_
  · rintro i t m₁ nx h tk own hi hoff ⟨rfl, hm, hP⟩ F₁ N₁
    have e : (fun y => if y = x then some (Value.int (a₀ + (i : Int)) t) else m₁ y) = fun y => if y = x then some (Value.int (a₀ + (i : Int)) t) else m₀ y := by
      funext z
      by_cases h1 : z = x
      · simp [h1]
      · simp only [if_neg h1]; exact hm z h1
    rw [e] at F₁
    refine wpAny_mono (turn i t h tk own hi hoff hP F₁ N₁) (fun f s₂ p => ?_) fun _ _ e => e
    cases f with
    | ret v => exact p
    | brk => exact p
    | next =>
      obtain ⟨h', tk', m', rfl, F', hm', N', hP'⟩ := p
      exact InvEndG.intro F' N' ⟨rfl, hm', hP'⟩ hoff (fun p hp => List.mem_append_left _ hp) (fun p hp => List.mem_append_right _ hp)
    | cont =>
      obtain ⟨h', tk', m', rfl, F', hm', N', hP'⟩ := p
      exact InvEndG.intro F' N' ⟨rfl, hm', hP'⟩ hoff (fun p hp => List.mem_append_left _ hp) (fun p hp => List.mem_append_right _ hp)
  · rintro m₁ nx h tk ⟨rfl, hm, hP⟩ F₁ N₁
    refine done (m₁ x) h tk hP ?_ N₁
    have e : (fun y => if y = x then m₁ x else m₀ y) = m₁ := by
      funext z
      by_cases h1 : z = x
      · simp [h1]
      · simp only [if_neg h1]; exact (hm z h1).symm
    rw [e]
    exact F₁
end
end Mine
end
section
open PySem PySem.W PyProof.Rows
set_option Elab.async false
namespace Mine
local macro_rules | `(tactic| walk_at "execs cons") => `(tactic| (k_here; refine Mine.toks_cons ?_; intro tk'; (try dsimp only)))
def Stop (p : Prop) : Prop := p
theorem Stop.out {p : Prop} (h : Stop p) : p := h
theorem Stop.mk {p : Prop} (h : p) : Stop p := h
def takenOf (wd : Int) (cs : List Cl3) : List Int := cs.filterMap fun c => match c with | .bv v w' => if w' = wd then some v else none | _ => none
theorem takenOf_snoc {wd : Int} {l : List Cl3} {c : Cl3} : takenOf wd (l ++ [c]) = takenOf wd l ++ takenOf wd [c] := List.filterMap_append ..
theorem ints_bv_yes {wd v w' : Int} {t : Tok} {l : List Cl3} {ys : List Value} (h : w' = wd) (hR : IntsAre ys (takenOf wd l)) : IntsAre (ys ++ [.int v t]) (takenOf wd (l ++ [.bv v w'])) := by
  rw [takenOf_snoc]
  have e : takenOf wd [.bv v w'] = [v] := by simp [takenOf, h]
  rw [e]
  exact hR.append (.cons _ _ .nil)
theorem ints_bv_no {wd v w' : Int} {l : List Cl3} {ys : List Value} (h : ¬ w' = wd) (hR : IntsAre ys (takenOf wd l)) : IntsAre ys (takenOf wd (l ++ [.bv v w'])) := by
  rw [takenOf_snoc]
  have e : takenOf wd [.bv v w'] = [] := by simp [takenOf, h]
  rw [e, List.append_nil]
  exact hR
theorem ints_rat {wd x y : Int} {l : List Cl3} {ys : List Value} (hR : IntsAre ys (takenOf wd l)) : IntsAre ys (takenOf wd (l ++ [.rat x y])) := by
  rw [takenOf_snoc]
  have e : takenOf wd [.rat x y] = [] := by simp [takenOf]
  rw [e, List.append_nil]
  exact hR
theorem ints_elem {wd x y : Int} {l : List Cl3} {ys : List Value} (hR : IntsAre ys (takenOf wd l)) : IntsAre ys (takenOf wd (l ++ [.elem x y])) := by
  rw [takenOf_snoc]
  have e : takenOf wd [.elem x y] = [] := by simp [takenOf]
  rw [e, List.append_nil]
  exact hR
theorem ints_all {wd : Int} {kvs : List (Int × Value)} {cls : List Cl3} {ys : List Value} (e : (kvs.map (·.2)).length = cls.length) (hR : IntsAre ys (takenOf wd (cls.take kvs.length))) : IntsAre ys (takenOf wd cls) := by
  rw [List.length_map] at e
  rw [e, List.take_length] at hR
  exact hR
theorem taken_len {wd : Int} {kvs : List (Int × Value)} {cls : List Cl3} {ys : List Value} (e : (kvs.map (·.2)).length = cls.length) (hk : kvs.length ≤ 1000) (hy : ys.length = (takenOf wd cls).length) : ys.length ≤ 1000 := by
  have := List.length_filterMap_le (fun c => match c with | Cl3.bv v w' => if w' = wd then some v else none | _ => none) cls
  rw [List.length_map] at e
  unfold takenOf at hy
  omega
theorem len_lst {prog : Program} {w : World} {A : Around} {E : Value → Shared → Prop} {s : Shared} {h₀ : Heap} {L D : Addr} {news : List (Addr × Obj)} {ys : List Value} {Q : Value → Shared → Prop} (N : News h₀ L s.heap news) (hm : (D, LCg.lst ys) ∈ news) (hs : ys.length ≤ 1000) (h : Q (.int (ys.length : Int) (s.toks + 1)) { s with toks := s.toks + 1 + 1 }) :
    wpAny (model prog w) A (call (.builtin "len") [.ref D]) Q E s := KM.len_K (n := ys.length) N hm (by simp) (by omega) h
theorem IntsAre.datAll {news : List (Addr × Obj)} : ∀ {vs : List Value} {ns : List Int}, IntsAre vs ns → DatAll news vs (ns.map Dat.int) := by
  intro vs ns h
  induction h with
  | nil => exact .nil
  | cons _ _ _ ih => exact .cons (.int _ _) ih
theorem news_pick {h₀ h : Heap} {L : Addr} {p a b c : Addr × Obj} {k own : List (Addr × Obj)} (N : News h₀ L h (p :: a :: b :: c :: (k ++ own))) : News h₀ L h (p :: k) := fun q hq => by
  rcases List.mem_cons.mp hq with rfl | hq
  · exact N _ (.head _)
  · exact N q (.tail _ (.tail _ (.tail _ (.tail _ (List.mem_append_left _ hq)))))
theorem news_pick0 {h₀ h : Heap} {L : Addr} {p a b c : Addr × Obj} {k : List (Addr × Obj)} (N : News h₀ L h (p :: a :: b :: c :: k)) : News h₀ L h (p :: k) := fun q hq => by
  rcases List.mem_cons.mp hq with rfl | hq
  · exact N _ (.head _)
  · exact N q (.tail _ (.tail _ (.tail _ (.tail _ hq))))
theorem allLt_left {d : Nat} : ∀ {k own : List (Addr × Obj)}, AllLt d (k ++ own) → AllLt d k
  | [], _, _ => trivial
  | _ :: _, _, h => ⟨h.1, allLt_left h.2⟩
theorem is_bv {x x' e e' : Int} {t t' t'' : Tok} (h : x = x') (h2 : e = e') : Cl3.Is (.bv x' e') [.str (Str.ofString "bv") t, .int x t', .int e t''] := ⟨t, t', t'', by rw [h, h2]⟩
def BitsOk (cls : List Cl3) (wd r : Int) : Prop := 0 ≤ r ∧ r < 2 ^ wd.toNat ∧ ((∃ v, 0 ≤ v ∧ v < 2 ^ wd.toNat ∧ Cl3.bv v wd ∉ cls) → Cl3.bv r wd ∉ cls)
theorem mem_taken {cls : List Cl3} {wd r : Int} : r ∈ takenOf wd cls ↔ Cl3.bv r wd ∈ cls := by
  unfold takenOf
  rw [List.mem_filterMap]
  constructor
  · rintro ⟨c, hc, e⟩
    cases c with
    | bv v w' =>
      by_cases h : w' = wd
      · simp only [h, if_true, Option.some.injEq] at e
        subst e; subst h; exact hc
      · simp [h] at e
    | rat _ _ => simp at e
    | elem _ _ => simp at e
  · exact fun h => ⟨_, h, by simp⟩
theorem taken_more {l : List Int} {i : Nat} (hP : ∀ j : Nat, j < i → (j : Int) ∈ l) (h : (l.any fun x => x == 0 + (i : Int)) = true) : ∀ j : Nat, j < i + 1 → (j : Int) ∈ l := fun j hj => by
  by_cases e : j = i
  · obtain ⟨x, hx, q⟩ := List.any_eq_true.mp h
    have q' : x = 0 + (i : Int) := eq_of_beq q
    have : x = (j : Int) := by omega
    exact this ▸ hx
  · exact hP j (by omega)
theorem bits_hit {cls : List Cl3} {wd : Int} {i : Nat} (h0 : 0 ≤ 0 + (i : Int)) (h1 : 0 + (i : Int) < 2 ^ wd.toNat) (h : ((takenOf wd cls).any fun x => x == 0 + (i : Int)) = false) : BitsOk cls wd (0 + (i : Int)) := by
  refine ⟨h0, h1, fun _ hm => ?_⟩
  have := List.any_eq_false.mp h _ (mem_taken.mpr hm)
  exact this (beq_self_eq_true _)
theorem pigeon : ∀ (n : Nat) (l : List Int), (∀ j : Nat, j < n → (j : Int) ∈ l) → n ≤ l.length
  | 0, _, _ => Nat.zero_le _
  | n + 1, l, h => by
    have hn := h n (Nat.lt_succ_self n)
    have := pigeon n (l.erase (n : Int)) fun j hj => (List.mem_erase_of_ne (by omega)).mpr (h j (by omega))
    rw [List.length_erase_of_mem hn] at this
    have : 0 < l.length := List.length_pos_of_mem hn
    omega
theorem bits_full {cls : List Cl3} {wd q : Int} (hq : q = 2 ^ wd.toNat) (hP : ∀ j : Nat, j < ((if q < ((takenOf wd cls).length : Int) + 1 then q else ((takenOf wd cls).length : Int) + 1) - 0).toNat → (j : Int) ∈ takenOf wd cls) : BitsOk cls wd 0 := by
  have hpos : (0 : Int) < 2 ^ wd.toNat := Int.pow_pos (by decide)
  refine ⟨Int.le_refl _, hpos, fun ⟨v, h0, h1, hv⟩ => ?_⟩
  exfalso
  by_cases hlt : q < ((takenOf wd cls).length : Int) + 1
  · rw [if_pos hlt] at hP
    have := hP v.toNat (by omega)
    rw [Int.toNat_of_nonneg h0] at this
    exact hv (mem_taken.mp this)
  · rw [if_neg hlt] at hP
    have := pigeon ((takenOf wd cls).length + 1) _ fun j hj => hP j (by omega)
    omega
local macro_rules | `(tactic| k_all) => `(tactic| exact allNe1 (by assumption))
local macro_rules | `(tactic| walk_at "subscriptTail") => `(tactic| (k_here; (with_reducible show wpAny _ _ (subscriptTail _ _ (Value.ref _) (Value.int _ _)) _ _ _); k_dflt (refine' item_tupleT ?t ?a ?b ?c ?d ?_; (case t => exact News.isTup (by k_asm) (by (repeat (refine List.Mem.tail _ ?_)); assumption)); (case a => decide); (case b => decide); (case c => rfl); (case d => rfl); k_whole)))
local macro_rules | `(tactic| walk_at "call builtin:len") => `(tactic| (k_here; refine Mine.Stp.out (n := 11) ?_))
local macro_rules | `(tactic| walk_at "pyIter ref") => `(tactic| (k_here; refine Mine.Stop.out ?_))
local macro_rules | `(tactic| k_units) => `(tactic| first | exact Nat.le_of_ble_eq_true rfl | ((have hcL9 := cLine_is); (try simp only [units_in1, units_deeper, Around.mark_units, units_caller] at *); (try dsimp only [ktrTop] at *); omega))
local macro_rules | `(tactic| k_room) => `(tactic| ktr_room)
local macro_rules | `(tactic| walk_at "exec Assign cons ListComp") => `(tactic| (k_here; refine Mine.Stop.out ?_))
theorem small_bits {b : Int} {l : Nat} (hb : -100 ≤ b ∧ b ≤ 100) : Builtin.Range.small 0 (if b < (l : Int) + 1 then b else (l : Int) + 1) 1 = true := small_one (by decide) (by decide) (by split <;> omega) (by split <;> omega)
theorem hit_lo {i : Nat} : (0 : Int) ≤ 0 + (i : Int) := by omega
theorem hit_hi {b q : Int} {l i : Nat} (hb : b = q) (h : i < ((if b < (l : Int) + 1 then b else (l : Int) + 1) - 0).toNat) : 0 + (i : Int) < q := by
  subst hb
  split at h <;> omega
theorem le_size {n : Nat} (h : n ≤ 1000) : n ≤ sizeLine := by rw [sizeLine_eq]; omega
set_option maxRecDepth 100000 in
set_option maxHeartbeats 2000000 in
theorem fresh_bits_c {w : World} {p : Program} {loose : List Str} {mean : ExcName → Option Value} {mg mb : Str → Option Value} {dp un : Nat} {gd : Option (List Code)} {cn : Str} {cs : Scope} {a : Addr} {ccd : Value} {cl : List (Str × Addr)} {outer : List Env} {A₀ : Around} {base h₀ : Heap} {L : Addr} {m : Str → Option Value} {s : Shared} {Q E : Value → Shared → Prop}
    {bx bd wl mx md cv ct mo vl nl bv : Nat} {rest : List (Addr × Obj)} {k wd : Int} {tk : Tok} {fr : Int} {tf : Tok} {ocv : Obj} {kvs : List (Int × Value)} {cls : List Cl3} {n2 : Nat}
    {bk : Bk}
    {mk : Bk} {q : Nat → Tok}
    (B : Below A₀ base outer h₀) (F : Fr h₀ L s.heap m) (X : (K w.params).In h₀) (T : Top p loose mean mg mb h₀) (hk : cs.kind = .function)
    (N : News h₀ L s.heap ((bx, instObj 782 bd) :: (bd, dictOf (bankEs bk nl wl bv) 14) ::
      (wl, listOf (wlL q).toArray n2) ::
      (mx, instObj 978 md) :: (md, dictOf (mkEs mk bx mo vl cv ct fr tf) 7) :: (cv, ocv) :: rest))
    (off : OwnOff rest [bx, bd, wl, mx, md, cv]) (hne : bd < bx ∧ bx < wl ∧ wl < md ∧ md < mx ∧ mx < cv) (hs : (k = 3 ∧ wd = 1) ∨ (k = 4 ∧ wd = 2) ∨ (k = 5 ∧ wd = 3))
    (lo : (cv == sysModules) = false) (hcv : ocv.IsDictOf (PySem.intKind PySem.Challenge.rw_rg0220_01.row.prog w) kvs) (hcs : kvs.length ≤ 1000) (hcl : ClAll rest (kvs.map (·.2)) cls)
    (hd : dp + 6 < recursionLimit) (hu : un + 60 < cLine)
    (ret : ∀ h' tk (D : Nat) (its : List Value) nn r, Fr h₀ L h' m → News h₀ L h' ((D, tupOf its.toArray nn) :: (bx, instObj 782 bd) :: (bd, dictOf (bankEs bk nl wl bv) 14) ::
      (wl, listOf (wlL q).toArray n2) ::
      (mx, instObj 978 md) :: (md, dictOf (mkEs mk bx mo vl cv ct fr tf) 7) :: (cv, ocv) :: rest) →
      Cl3.Is (.bv r wd) its → BitsOk cls wd r → AllLt D ((bx, instObj 782 bd) :: (bd, dictOf [] 0) :: (wl, dictOf [] 0) :: (mx, instObj 978 md) :: (md, dictOf [] 0) :: (cv, ocv) :: rest) → Q (.ref D) { s with heap := h', toks := tk }) :
    wpAny (model PySem.Challenge.rw_rg0220_01.row.prog w) (ktrTop dp un gd cn cs L a ccd cl outer) (call (.ref 947) [.ref mx, .int k tk]) Q E s := by
  obtain ⟨a1, a2, a3, a4, a5⟩ := hne
  w_on
  revert X
  k_fill
  intro X
  refine wpAny_call ?_
  rcases hs with ⟨rfl, hw⟩ | ⟨rfl, hw⟩ | ⟨rfl, hw⟩
  all_goals
    w_strict (k_dflt (refine' code_defC ?zzk1 ?zzk2 ?zzk3 ?zzk4 ?zzk5 ?zzkA ?zzkF ?zzkK ?zzk6 ?zzk7 ?zzk8 ?zzk9 ?zzkB ?zzkD ?_ ?zzc2 ?zzc3 ?zzc4; (case zzkA => exact rfl); (case zzkF => exact rfl); (case zzkK => assumption); (case zzk1 => k_asm); (case zzk2 => k_asm); (case zzk3 => k_asm); (case zzk4 => k_asm); (case zzk5 => k_asm); (case zzk6 => k_is); (case zzk7 => k_is); (case zzk8 => first | exact Mine.rm0 (by assumption) | k_room); (case zzk9 => exact BindsTo.of_eq rfl); (case zzkB => exact rfl); (case zzkD => decide +kernel); (case zzc2 => exact rfl); (case zzc3 => exact rfl); (case zzc4 => exact rfl); k_whole; intro zqg' zqL' zqh' zqtk' zqcells' zqFG' zqF' zqN' zqY' zqB' zqX' zqT' zql1; (try k_lt zql1); (have lR' := zql1); (repeat (replace lR' := And.right lR')); k_cells zqY'; (try simp only [List.cons_append, List.nil_append] at zqN'); (try dsimp only); (try k_fold)); repeat' (first | (with_reducible refine Mine.Stp.mk (n := 11) ?_; k_dflt (refine' Mine.len_lst (by k_asm) (by k_mem) (by assumption) ?_)) | (k_unfold; (try dsimp only)) | (k_end; wrow_close) | walk1 | (dsimp only; walk1) | (leave1; (try dsimp only)) | fail "no step"))
    refine Stop.mk ?_
    k_dflt (refine Mine.Assign_ListComp_V (PySem.intKind _ _) (F₀ := by k_asm) (by rfl) (by with_unfolding_all rfl) (by with_unfolding_all rfl) (by decide) (by rfl) (by decide) (by rfl) (by rfl) (by rfl) ?_)
    w_strict (repeat' (first | (with_reducible refine Mine.Stp.mk (n := 11) ?_; k_dflt (refine' Mine.len_lst (by k_asm) (by k_mem) (by assumption) ?_)) | (k_unfold; (try dsimp only)) | (k_end; wrow_close) | walk1 | (dsimp only; walk1) | (leave1; (try dsimp only)) | fail "no step"))
    k_dflt (refine Mine.SrcV.intro (by rfl) (by k_asm) (by k_asm) (by k_mem) (by k_mem) (by k_asm) (le_size hcs) ?_)
    intro g9
    refine restT_inv (n := kvs.length) (fun i ys => IntsAre ys (takenOf wd (cls.take i))) (by k_mem) ?turn ?fin _ 0 [] (Nat.add_zero _) .nil
    case turn =>
      intro i v ys I' oI' C' oC' D' m' h' tk' E' hi' hP' hR' hC' hx' F' N' off' ne'
      try k_fold
      obtain ⟨kk', hP'⟩ := hP'
      obtain ⟨c', hc', D2', its', nn', rfl, hm', hIs'⟩ := hcl.get (i := i) (v := v) (by rw [List.getElem?_map, hP']; rfl)
      have htk' : cls.take (i + 1) = cls.take i ++ [c'] := by rw [List.take_add_one, hc']; rfl
      cases c' with
      | bv v' w' =>
        obtain ⟨x1, x2, x3, rfl⟩ := hIs'
        w_strict (repeat' (first | (with_reducible refine Mine.Stp.mk (n := 11) ?_; k_dflt (refine' Mine.len_lst (by k_asm) (by k_mem) (by assumption) ?_)) | (k_unfold; (try dsimp only)) | (k_end; wrow_close) | walk1 | (dsimp only; walk1) | (leave1; (try dsimp only)) | fail "no step"))
        · refine TurnY.intro (by k_asm) (by k_asm) (fun _ h => h) ?_
          rw [htk']
          exact ints_bv_yes (Eq.trans (by assumption) hw.symm) hR'
        · refine TurnN.intro (by k_asm) (by k_asm) (fun _ h => h) ?_
          rw [htk']
          exact ints_bv_no (fun e => absurd (e.trans hw) (by assumption)) hR'
      | rat x y =>
        obtain ⟨x1, x2, rfl⟩ := hIs'
        w_strict (repeat' (first | (with_reducible refine Mine.Stp.mk (n := 11) ?_; k_dflt (refine' Mine.len_lst (by k_asm) (by k_mem) (by assumption) ?_)) | (k_unfold; (try dsimp only)) | (k_end; wrow_close) | walk1 | (dsimp only; walk1) | (leave1; (try dsimp only)) | fail "no step"))
        refine TurnN.intro (by k_asm) (by k_asm) (fun _ h => h) ?_
        rw [htk']
        exact ints_rat hR'
      | elem e n =>
        obtain ⟨x1, x2, x3, rfl⟩ := hIs'
        w_strict (repeat' (first | (with_reducible refine Mine.Stp.mk (n := 11) ?_; k_dflt (refine' Mine.len_lst (by k_asm) (by k_mem) (by assumption) ?_)) | (k_unfold; (try dsimp only)) | (k_end; wrow_close) | walk1 | (dsimp only; walk1) | (leave1; (try dsimp only)) | fail "no step"))
        refine TurnN.intro (by k_asm) (by k_asm) (fun _ h => h) ?_
        rw [htk']
        exact ints_elem hR'
    case fin =>
      intro ys' hR' D' h' tk' F' N' off'
      try k_fold
      replace hR' : IntsAre ys' (takenOf wd cls) := ints_all (ClAll.length hcl) hR'
      simp only [LCg.Off1] at off'
      have hl7' := IntsAre.length hR'
      have hl8' : ys'.length ≤ 1000 := taken_len (ClAll.length hcl) hcs hl7'
      have dI' : DatAll [] ys' ((takenOf wd cls).map Dat.int) := IntsAre.datAll hR'
      w_strict (repeat' (first | (with_reducible refine Mine.Stp.mk (n := 11) ?_; k_dflt (refine' Mine.len_lst (by k_asm) (by k_mem) (by assumption) ?_)) | (k_unfold; (try dsimp only)) | (k_end; wrow_close) | walk1 | (dsimp only; walk1) | (leave1; (try dsimp only)) | fail "no step"))
      refine Stop.mk ?_
      have hp1 : (2 : Int) ^ Int.toNat 1 = 2 := rfl
      have hp2 : (2 : Int) ^ Int.toNat 2 = 4 := rfl
      have hp3 : (2 : Int) ^ Int.toNat 3 = 8 := rfl
      have hpw := congrArg (fun z : Int => (2 : Int) ^ z.toNat) hw

      refine rng_search (n := _) (fun i => ∀ j : Nat, j < i → (j : Int) ∈ takenOf wd cls) (by rfl) (by assumption) (small_bits (by decide)) (rangeSize_nat _ _) (by k_asm) (by k_asm) (fun j hj => absurd hj (Nat.not_lt_zero j)) ?turn2 ?done
      case turn2 =>
        intro i t' h' tk' own' hi' hoff' hP' F' N'
        simp only [List.cons_append] at N'
        w_strict (repeat' (first | (with_reducible refine Mine.Stp.mk (n := 11) ?_; k_dflt (refine' Mine.len_lst (by k_asm) (by k_mem) (by assumption) ?_)) | (k_unfold; (try dsimp only)) | (k_end; wrow_close) | walk1 | (dsimp only; walk1) | (leave1; (try dsimp only)) | fail "no step"))
        rotate_left 1
        · dsimp only [SPost]
          w_strict (repeat' (first | (with_reducible refine Mine.Stp.mk (n := 11) ?_; k_dflt (refine' Mine.len_lst (by k_asm) (by k_mem) (by assumption) ?_)) | (k_unfold; (try dsimp only)) | (k_end; wrow_close) | walk1 | (dsimp only; walk1) | (leave1; (try dsimp only)) | fail "no step"))
          with_reducible rename Fr _ _ _ _ => kF9
          with_reducible rename News _ _ _ _ => kN9
          with_reducible rename _ ∧ _ => l9
          with_reducible rename List.any _ _ = _ => hA9
          exact ret _ _ _ [_, _, _] _ _ kF9 (news_pick kN9) (is_bv rfl hw.symm) (bits_hit hit_lo (hit_hi ((Int.one_mul _).trans hpw.symm) hi') hA9) (allLt_left (And.right (And.right (And.right l9))))
        · with_reducible rename Fr _ _ _ _ => kF9
          with_reducible rename News _ _ _ _ => kN9
          with_reducible rename List.any _ _ = _ => hA9
          exact ⟨_, _, _, rfl, kF9, fun z hz => if_neg hz, kN9, taken_more hP' hA9⟩
      case done =>
        intro u' h' tk' hP' F' N'
        w_strict (repeat' (first | (with_reducible refine Mine.Stp.mk (n := 11) ?_; k_dflt (refine' Mine.len_lst (by k_asm) (by k_mem) (by assumption) ?_)) | (k_unfold; (try dsimp only)) | (k_end; wrow_close) | walk1 | (dsimp only; walk1) | (leave1; (try dsimp only)) | fail "no step"))
        with_reducible rename Fr _ _ _ _ => kF9
        with_reducible rename News _ _ _ _ => kN9
        with_reducible rename _ ∧ _ => l9
        exact ret _ _ _ [_, _, _] _ _ kF9 (news_pick0 kN9) (is_bv rfl hw.symm) (bits_full ((Int.one_mul _).trans hpw.symm) hP') (And.right (And.right (And.right l9)))

section
variable {w : World} {p : Program} {loose : List Str} {mean : ExcName → Option Value} {mg mb : Str → Option Value} {dp un : Nat} {gd : Option (List Code)} {cn : Str} {cs : Scope} {a : Addr} {ccd : Value} {cl : List (Str × Addr)} {outer : List Env} {A₀ : Around} {base h₀ : Heap} {L : Addr} {m : Str → Option Value} {s : Shared} {Q E : Value → Shared → Prop} {news : List (Addr × Obj)}
    {bx bd wl mx md cv ct mo vl nl bv : Nat} {k wd : Int} {tk : Tok} {fr : Int} {tf : Tok} {ocv : Obj} {kvs : List (Int × Value)} {cls : List Cl3} {n2 : Nat} {rest : List (Addr × Obj)}
    {bk : Bk}
    {mk : Bk} {q : Nat → Tok}
theorem fresh_bits_U
    (B : Below A₀ base outer h₀) (F : Fr h₀ L s.heap m) (X : (K w.params).In h₀) (T : Top p loose mean mg mb h₀) (hk : cs.kind = .function)
    (N : News h₀ L s.heap news) (m1 : (bx, instObj 782 bd) ∈ news) (m2 : (bd, dictOf (bankEs bk nl wl bv) 14) ∈ news)
    (m3 : (wl, listOf (wlL q).toArray n2) ∈ news)
    (m4 : (mx, instObj 978 md) ∈ news) (m5 : (md, dictOf (mkEs mk bx mo vl cv ct fr tf) 7) ∈ news) (m6 : (cv, ocv) ∈ news) (hrest : ∀ p ∈ rest, p ∈ news) (hoff : OwnOff rest [bx, bd, wl, mx, md, cv])
    (hne : bd < bx ∧ bx < wl ∧ wl < md ∧ md < mx ∧ mx < cv) (hs : (k = 3 ∧ wd = 1) ∨ (k = 4 ∧ wd = 2) ∨ (k = 5 ∧ wd = 3))
    (lo : (cv == sysModules) = false) (hcv : ocv.IsDictOf (PySem.intKind PySem.Challenge.rw_rg0220_01.row.prog w) kvs) (hcs : kvs.length ≤ 1000) (hcl : ClAll rest (kvs.map (·.2)) cls)
    (hd : dp + 6 < recursionLimit) (hu : un + 60 < cLine)
    (ret : ∀ h' tk (D : Nat) (its : List Value) nn r, Fr h₀ L h' m → News h₀ L h' ((D, tupOf its.toArray nn) :: news) →
      Cl3.Is (.bv r wd) its → BitsOk cls wd r → (∀ p ∈ news, p.1 < D) → Q (.ref D) { s with heap := h', toks := tk }) :
    wpAny (model PySem.Challenge.rw_rg0220_01.row.prog w) (ktrTop dp un gd cn cs L a ccd cl outer) (call (.ref 947) [.ref mx, .int k tk]) Q E s := by
  refine fresh_bits_c (rest := others [bx, bd, wl, mx, md, cv] news) B F X T hk (news_cons N m1 (news_cons N m2 (news_cons N m3 (news_cons N m4 (news_cons N m5 (news_cons N m6 fun p hp => N p (mem_others.mp hp).1)))))) off_others hne hs lo hcv hcs
    (hcl.mono fun p hp => mem_others.mpr ⟨hrest p hp, fun hm => hoff p hp _ hm rfl⟩) hd hu
    fun h' tk D its nn r F' N' hI hb hlt => ?_
  refine ret h' tk D its nn r F' (fun q hq => ?_) hI hb (fun q hq => ?_)
  · rcases List.mem_cons.mp hq with rfl | hq
    · exact N' _ (.head _)
    · have N2 := news_drop1 N'
      rcases lit_or (adr := [bx, bd, wl, mx, md, cv]) hq with h | h
      · simp only [List.mem_cons, List.not_mem_nil, or_false] at h
        rcases h with h | h | h | h | h | h
        · rw [news_same N m1 hq h]; exact N2 _ (by k_mem)
        · rw [news_same N m2 hq h]; exact N2 _ (by k_mem)
        · rw [news_same N m3 hq h]; exact N2 _ (by k_mem)
        · rw [news_same N m4 hq h]; exact N2 _ (by k_mem)
        · rw [news_same N m5 hq h]; exact N2 _ (by k_mem)
        · rw [news_same N m6 hq h]; exact N2 _ (by k_mem)
      · exact N2 q (.tail _ (.tail _ (.tail _ (.tail _ (.tail _ (.tail _ h))))))
  · have hlt := ktn_ltOf hlt
    rcases lit_or (adr := [bx, bd, wl, mx, md, cv]) hq with h | h
    · simp only [List.mem_cons, List.not_mem_nil, or_false] at h
      rcases h with h | h | h | h | h | h
      · rw [h]; exact hlt (bx, _) (by k_mem)
      · rw [h]; exact hlt (bd, _) (by k_mem)
      · rw [h]; exact hlt (wl, _) (by k_mem)
      · rw [h]; exact hlt (mx, _) (by k_mem)
      · rw [h]; exact hlt (md, _) (by k_mem)
      · rw [h]; exact hlt (cv, _) (by k_mem)
    · exact hlt q (.tail _ (.tail _ (.tail _ (.tail _ (.tail _ (.tail _ h))))))
end
end Mine
end
section
open PySem PySem.W PyProof.Rows PySem.Calls
set_option Elab.async false
set_option maxRecDepth 100000
namespace Mine
open LCg LCt
section
variable {prog : Program} {w : World} {A : Around} {E : Value → Shared → Prop} {s : Shared} {h₀ : Heap} {L : Addr} {m : Str → Option Value} {env : Env}

def TurnPT (prog : Program) (w : World) (A : Around) (h₀ : Heap) (L : Addr) (m : Str → Option Value) (env : Env) (ct elt : Expr) (a b : Str) (scope : Scope) (cl : List (Str × Addr)) (s : Shared) (R : Nat → List Value → Prop) (news : List (Addr × Obj)) (its : List Value) : Prop :=
  ∀ (i : Nat) (v : Value) (ys : List Value), its[i]? = some v → R i ys → ∃ (t : Addr) (v₁ v₂ : Value) (nt : Nat), v = .ref t ∧ (t, tupOf #[v₁, v₂] nt) ∈ news ∧
    ∀ I oI C oC D m₂ h tk (E' : Value → Shared → Prop), NsObj oC m₂ → m₂ a = some v₁ → m₂ b = some v₂ → Fr h₀ L h m → News h₀ L h ((I, oI) :: (C, oC) :: (D, lst ys) :: news) → Off3 I C D news → ((@Ne Nat I C) ∧ (@Ne Nat I D) ∧ (@Ne Nat C D)) →
      wpAny (model prog w) A (isTrue ct (compEnvC scope cl C env) (eval ct (compEnvC scope cl C env))) (fun ok s' => if ok = true then
        wpAny (model prog w) A (eval elt (compEnvC scope cl C env)) (TurnY h₀ L m { s with heap := h, toks := tk } ((I, oI) :: (C, oC) :: (D, lst ys) :: news) (fun y => R (i + 1) (ys ++ [y]))) E' s'
        else TurnN h₀ L m { s with heap := h, toks := tk } ((I, oI) :: (C, oC) :: (D, lst ys) :: news) (R (i + 1) ys) s') E' { s with heap := h, toks := tk }

theorem pt_block {elt iter ct : Expr} {a b : Str} {pa pb tp : Pos} {kk} {scope : Scope} {cl : List (Str × Addr)} {pos : Pos} {s₂ : Shared} {I ax : Addr} {its : List Value} {c : Nat} {news : List (Addr × Obj)} {R : Nat → List Value → Prop} {RR : Value → Addr → Result → Shared → Prop}
    (hh : A.handled = none) (hne : ax ≠ I) (hsz : its.length ≤ sizeLine) (hm : (ax, listOf its.toArray c) ∈ news) (hit : s₂.heap.IsListIter I ax 0)
    (hcell : ∀ y ∈ scope.names, y.2 ≠ .cell) (hkind : scope.kind = .function) (hxa : scope.names.lookup a = some .local) (hxb : scope.names.lookup b = some .local) (hab : ¬ a = b)
    (F : Fr h₀ L s₂.heap m) (N : News h₀ L s₂.heap news) (hIL : L ≠ I) (hI₀ : h₀.get? I = none) (off : ∀ p ∈ news, p.1 ≠ I)
    (turn : TurnPT prog w A h₀ L m env ct elt a b scope cl s₂ R news its) (h0 : R 0 [])
    (hRR : ∀ D C h tk m' ys, Fr h₀ L h m → News h₀ L h ((D, lst ys) :: news) → Off1 D news → h.Ns C m' → h₀.get? C = none → h₀.get? D = none → C ≠ L → D ≠ L → C ≠ D → (∀ p ∈ news, p.1 ≠ C) → R its.length ys → RR (.ref D) C (.ok .next) { s₂ with heap := h, toks := tk }) :
    wpAny (model prog w) A (newList []) (fun acc s₃ => wpAny (model prog w) A (newFunctionEnv scope env.globals cl [] env.qual none .none (some env)) (fun cenv s₄ =>
      codeAny (model prog w) A (.compStart (.ListComp elt [⟨.Tuple [.Name a pa, .Name b pb] kk tp, iter, [ct], 0⟩] scope pos) 0 (.ref I) acc { cenv with scope := relabel scope env }) (RR acc cenv.locals) s₄) E s₃) E s₂ := by
  have W := Walks.list (prog := prog) (w := w) hh I ax hne its.toArray
  have lt : ∀ p ∈ news, p.1 < s₂.heap.objs.size := fun p hp => Heap.lt_size (N p hp).1
  have ltI : I < s₂.heap.objs.size := by obtain ⟨o, e, _⟩ := hit; exact Heap.lt_size e
  have none₀ : ∀ z, s₂.heap.objs.size ≤ z → h₀.get? z = none := fun z hz => by
    cases e : h₀.get? z with
    | none => rfl
    | some o => exact absurd (Heap.lt_size (F.keep z o e)) (Nat.not_lt.mpr hz)
  refine wpAny_newObj_type (wpAny_newFunctionEnv hcell (by intro y hy; simp at hy) (fun h₁ hn₁ hs₁ => ?_) hkind)
  dsimp only at hn₁ hs₁ ⊢
  generalize eD : s₂.heap.objs.size = D at *
  generalize eC : (s₂.heap.push { cls := .type "list", dict := none, data := .seq ([] : List Value).toArray }).objs.size = C at *
  have lCD : C = D + 1 := by rw [← eC, Heap.size_push, eD]
  have neDC : D ≠ C := by rw [lCD]; exact Nat.ne_of_lt (Nat.lt_succ_self _)
  have ofD : ∀ z, z < D → z ≠ C := fun z hz => by rw [lCD]; exact Nat.ne_of_lt (Nat.lt_succ_of_lt hz)
  have up : ∀ z o, s₂.heap.get? z = some o → h₁.get? z = some o := fun z o e => hs₁.extBut z o (ofD z (eD ▸ Heap.lt_size e)) (Heap.get?_push_of_some _ (Heap.get?_push_of_some _ e))
  have mD : h₁.get? D = some (lst []) := hs₁.extBut _ _ neDC (Heap.get?_push_of_some _ (eD ▸ Heap.get?_push_size _ rfl))
  have D₀ : h₀.get? D = none := none₀ _ (Nat.le_refl _)
  have C₀ : h₀.get? C = none := none₀ _ (by rw [lCD]; exact Nat.le_succ _)
  have ltL : L < D := eD ▸ F.ns.lt
  have neDL : D ≠ L := Ne.symm (Nat.ne_of_lt ltL)
  have neCL : C ≠ L := Ne.symm (ofD L ltL)
  have neIC : I ≠ C := ofD I ltI
  have neID : I ≠ D := Nat.ne_of_lt ltI
  have neAI : ax ≠ I := hne
  have o3 : Off3 I C D news := Off3.of fun p hp => ⟨off p hp, ofD _ (lt p hp), Nat.ne_of_lt (lt p hp)⟩
  have isL : ∀ h : Heap, News h₀ L h news → h.IsList ax its.toArray := fun h N' => ⟨_, (N' _ hm).1, rfl, _, rfl⟩
  have itI : ∀ (h h' : Heap) i, h.IsListIter I ax i → (∀ o, h.get? I = some o → h'.get? I = some o) → h'.IsListIter I ax i := fun h h' i ⟨o, e, r⟩ k => ⟨o, k o e, r⟩
  have it₁ : h₁.IsListIter I ax 0 := itI _ _ _ hit fun o e => up _ o e
  have N₁ : News h₀ L h₁ ((D, lst []) :: news) := fun p hp => by
    rcases List.mem_cons.mp hp with rfl | hp
    · exact ⟨mD, neDL, D₀⟩
    · exact ⟨up _ _ (N p hp).1, (N p hp).2⟩
  have loop : ∀ s₃ : Shared, s₃ = { s₂ with heap := h₁, toks := s₂.toks + ([] : List (Str × Value)).length } →
      codeAny (model prog w) A (.compLoop (.ListComp elt [⟨.Tuple [.Name a pa, .Name b pb] kk tp, iter, [ct], 0⟩] scope pos) 0 (.ref I) (.ref D) (compEnvC scope cl C env)) (RR (.ref D) C) s₃ := by
    rintro s₃ rfl
    refine kct_loop (fun k s' => ∃ h tk i ys m', s' = { s₂ with heap := h, toks := tk } ∧ i ≤ its.length ∧ k = its.length + 1 - i ∧ ys.length ≤ i ∧ h.IsListIter I ax i ∧ Fr h₀ L h m ∧ h.Ns C m' ∧ News h₀ L h ((D, lst ys) :: news) ∧ R i ys) ?_ (its.length + 1)
      ⟨h₁, _, 0, [], _, rfl, Nat.zero_le _, rfl, Nat.le_refl _, it₁, F.keeps up, hn₁, N₁, h0⟩
    rintro k s' ⟨h, tk, i, ys, m', rfl, hi, rfl, hyl, hIt, F', hn, N', r⟩
    have Nn : News h₀ L h news := fun p hp => N' p (List.mem_cons_of_mem _ hp)
    by_cases hlt : i < its.length
    · refine W.item i _ _ _ (by simpa using hlt) ⟨hIt, isL _ Nn⟩ fun v h₂ tk₂ hv st₂ k₂ => ?_
      have hv' : its[i]? = some v := by simpa using hv
      obtain ⟨t, v₁, v₂, nt, rfl, hmt, go⟩ := turn i v ys hv' r
      have N₂ : News h₀ L h₂ ((D, lst ys) :: news) := news_but N' k₂ fun p hp => by
        rcases List.mem_cons.mp hp with rfl | hp
        · exact Ne.symm neID
        · exact off p hp
      refine wpAny_letOwnedTupleGo_listiter st₂.1 ?_
      refine kcp_assign (env := compEnvC scope cl C env) hh ⟨_, (N₂ _ (List.mem_cons_of_mem _ hmt)).1, rfl, _, rfl⟩ (lookup_relabel_local hxa) (lookup_relabel_local hxb) (by simp [compEnvC, relabel, hkind]) (hn.at' fun o e => k₂ _ o (by simpa using Ne.symm neIC) e) fun h₃ tk₃ hn₃ k₃ => ?_
      have k₃' : ∀ z o, z ≠ C → h₂.get? z = some o → h₃.get? z = some o := k₃
      have it₃ : h₃.IsListIter I ax (i + 1) := itI _ _ _ st₂.1 fun o e => k₃' _ o neIC e
      obtain ⟨oI, eI, rI⟩ := it₃
      obtain ⟨oC, eC', rC⟩ := ns_obj hn₃
      have F₂ : Fr h₀ L h₂ m := fr_but F' k₂ hIL hI₀
      have F₃ : Fr h₀ L h₃ m := ⟨F₂.ns.at' fun o e => k₃' _ o (Ne.symm neCL) e, fun z o e => k₃' z o (fun q => by rw [q, C₀] at e; cases e) (F₂.keep z o e), F₂.above⟩
      have N₃ : News h₀ L h₃ ((I, oI) :: (C, oC) :: (D, lst ys) :: news) := fun p hp => by
        rcases List.mem_cons.mp hp with rfl | hp
        · exact ⟨eI, Ne.symm hIL, hI₀⟩
        · rcases List.mem_cons.mp hp with rfl | hp
          · exact ⟨eC', neCL, C₀⟩
          · refine ⟨k₃' _ _ ?_ (N₂ p hp).1, (N₂ p hp).2⟩
            rcases List.mem_cons.mp hp with rfl | hp
            · exact neDC
            · exact ofD _ (lt p hp)
      have end' : ∀ ys' h₅ tk₅, ys'.length ≤ i + 1 → Fr h₀ L h₅ m → News h₀ L h₅ ((I, oI) :: (C, oC) :: (D, lst ys') :: news) → R (i + 1) ys' →
          ∃ q, q < its.length + 1 - i ∧ ∃ h tk i ys m', ({ s₂ with heap := h₅, toks := tk₅ } : Shared) = { s₂ with heap := h, toks := tk } ∧ i ≤ its.length ∧ q = its.length + 1 - i ∧ ys.length ≤ i ∧ h.IsListIter I ax i ∧ Fr h₀ L h m ∧ h.Ns C m' ∧ News h₀ L h ((D, lst ys) :: news) ∧ R i ys := by
        intro ys' h₅ tk₅ hl F₅ N₅ r₅
        exact ⟨its.length + 1 - (i + 1), by omega, h₅, tk₅, i + 1, ys', _, rfl, hlt, rfl, hl, ⟨oI, (N₅ _ (List.mem_cons_self)).1, rI⟩, F₅, rC.ns (N₅ (C, oC) (List.mem_cons_of_mem _ List.mem_cons_self)).1,
          fun p hp => N₅ p (List.mem_cons_of_mem _ (List.mem_cons_of_mem _ hp)), r₅⟩
      refine wpAny_mono (go I oI C oC D _ h₃ _ _ rC (by simp [hab]) (by simp) F₃ N₃ o3 ⟨neIC, neID, Ne.symm neDC⟩) (fun ok s₄ q => ?_) fun _ _ e => e
      cases ok with
      | false =>
        simp only [Bool.false_eq_true, if_false] at q ⊢
        obtain ⟨h₅, tk₅, rfl, F₅, N₅, r₅⟩ := q
        exact end' ys h₅ tk₅ (Nat.le_succ_of_le hyl) F₅ N₅ r₅
      | true =>
        simp only [if_true] at q ⊢
        refine wpAny_mono q (fun y s₅ q => ?_) fun _ _ e => e
        obtain ⟨h₅, tk₅, rfl, F₅, N₅, r₅⟩ := q
        have zD := (N₅ (D, lst ys) (List.mem_cons_of_mem _ (List.mem_cons_of_mem _ List.mem_cons_self))).1
        refine append_at (hsz := by show ys.toArray.size ≤ sizeLine; rw [List.size_toArray]; exact Nat.le_trans (Nat.le_trans hyl hi) hsz) zD fun h₆ hs₆ hD₆ => ?_
        refine end' (ys ++ [y]) h₆ _ (by rw [List.length_append, List.length_singleton]; exact Nat.succ_le_succ hyl) (F₅.change hs₆ neDL D₀) (fun p hp => ?_) r₅
        rcases List.mem_cons.mp hp with rfl | hp
        · exact ⟨hs₆.extBut _ _ neID (N₅ _ List.mem_cons_self).1, Ne.symm hIL, hI₀⟩
        · rcases List.mem_cons.mp hp with rfl | hp
          · exact ⟨hs₆.extBut _ _ (Ne.symm neDC) (N₅ (C, oC) (List.mem_cons_of_mem _ List.mem_cons_self)).1, neCL, C₀⟩
          · rcases List.mem_cons.mp hp with rfl | hp
            · exact ⟨hD₆.trans (congrArg some (lst_snoc ys y)), neDL, D₀⟩
            · have z := N₅ p (List.mem_cons_of_mem _ (List.mem_cons_of_mem _ (List.mem_cons_of_mem _ hp)))
              exact ⟨hs₆.extBut _ _ (Nat.ne_of_lt (lt p hp)) z.1, z.2⟩
    · obtain rfl : i = its.length := Nat.le_antisymm hi (Nat.not_lt.mp hlt)
      refine W.done _ _ _ (by simpa using (⟨hIt, isL _ Nn⟩ : h.IsListIter I ax its.length ∧ h.IsList ax its.toArray)) fun h₂ tk₂ k₂ => ?_
      exact hRR _ _ h₂ tk₂ _ ys (fr_but F' k₂ hIL hI₀) (news_but N' k₂ fun p hp => by
        rcases List.mem_cons.mp hp with rfl | hp
        · exact Ne.symm neID
        · exact off p hp) o3.one (hn.at' fun o e => k₂ _ o (by simpa using Ne.symm neIC) e) C₀ D₀ neCL neDL (Ne.symm neDC) (fun p hp => ofD _ (lt p hp)) r
  exact codeAny_compStart_list (loop _ rfl) (W.self 0 _ _ _ ⟨it₁, isL _ fun p hp => N₁ p (List.mem_cons_of_mem _ hp)⟩ (loop _ rfl))

def SrcPT (prog : Program) (w : World) (A : Around) (h₀ : Heap) (L : Addr) (m : Str → Option Value) (env : Env) (ct elt : Expr) (a b : Str) (scope : Scope) (cl : List (Str × Addr)) (Fin : Shared → List Value → List (Addr × Obj) → Prop) (xv : Value) (s₁ : Shared) : Prop :=
  ∃ ax its c news R, xv = .ref ax ∧ A.handled = none ∧ Fr h₀ L s₁.heap m ∧ News h₀ L s₁.heap news ∧ (ax, listOf (List.toArray its) c) ∈ news ∧ its.length ≤ sizeLine ∧ R 0 [] ∧
    (∀ g, TurnPT prog w A h₀ L m env ct elt a b scope cl { s₁ with heap := g } R news its) ∧ ∀ g ys, R its.length ys → Fin { s₁ with heap := g } ys news
theorem SrcPT.intro {ct elt : Expr} {a b : Str} {scope : Scope} {cl : List (Str × Addr)} {Fin : Shared → List Value → List (Addr × Obj) → Prop} {ax : Addr} {its : List Value} {c : Nat} {news : List (Addr × Obj)} {s₁ : Shared} (R : Nat → List Value → Prop)
    (hh : A.handled = none) (F : Fr h₀ L s₁.heap m) (N : News h₀ L s₁.heap news) (hm : (ax, listOf its.toArray c) ∈ news) (hsz : its.length ≤ sizeLine) (h0 : R 0 [])
    (turn : ∀ g, TurnPT prog w A h₀ L m env ct elt a b scope cl { s₁ with heap := g } R news its) (fin : ∀ g ys, R its.length ys → Fin { s₁ with heap := g } ys news) :
    SrcPT prog w A h₀ L m env ct elt a b scope cl Fin (.ref ax) s₁ := ⟨ax, its, c, news, R, rfl, hh, F, N, hm, hsz, h0, turn, fin⟩

theorem ListComp_PT {ct elt iter : Expr} {a b : Str} {pa pb tp : Pos} {kk} {scope : Scope} {cl : List (Str × Addr)} {pos : Pos} {Q : Value → Shared → Prop} (F₀ : Fr h₀ L s.heap m)
    (hclos : closureFor scope env = pure cl) (hcell : ∀ y ∈ scope.names, y.2 ≠ .cell) (hkind : scope.kind = .function)
    (hnames : ∀ y ∈ scope.names, y.2 = .local → scope.names.lookup y.1 = some .local) (hxa : scope.names.lookup a = some .local) (hxb : scope.names.lookup b = some .local) (hab : ¬ a = b)
    (h : wpAny (model prog w) A (eval iter env) (SrcPT prog w A h₀ L m env ct elt a b scope cl (fun s₂ => FinE h₀ L m s₂ Q)) E s)
    (hs : ∀ x, foldedSetIterable iter env x = pure x := by intro _; rfl) :
    wpAny (model prog w) A (eval (.ListComp elt [⟨.Tuple [.Name a pa, .Name b pb] kk tp, iter, [ct], 0⟩] scope pos) env) Q E s := by
  rw [eval_ListComp]
  refine wpAny_comprehension_free (use := none) rfl hs hclos hkind hnames (wpAny_mono h (fun xv s₁ q => ?_) fun _ _ e => e)
  obtain ⟨ax, its, c, news, R, rfl, hh, F, N, hm, hsz, h0, turn, fin⟩ := q
  have hl : s₁.heap.IsList ax its.toArray := ⟨_, (N _ hm).1, rfl, _, rfl⟩
  have hlt : ax < s₁.heap.objs.size := Heap.lt_size (N _ hm).1
  refine wpAny_pyIter_list hl ?_
  have up : ∀ z o, s₁.heap.get? z = some o → (s₁.heap.push { cls := .type "list_iterator", data := .fields #[.ref ax, .int 0 0] }).get? z = some o := fun z o e => Heap.get?_push_of_some _ e
  refine pt_block hh (Nat.ne_of_lt hlt) hsz hm ⟨_, Heap.get?_push_size _ rfl, rfl, rfl⟩ hcell hkind hxa hxb hab (F.keeps up) (N.grown up) (Nat.ne_of_lt F.ns.lt) (next_is_new F) (fun p hp => Nat.ne_of_lt (Heap.lt_size (N p hp).1)) (turn _) h0 ?_
  intro D C h tk m' ys F' N' o1 hn hC₀ hD₀ hCL hDL hCD offC r
  refine ⟨m', hn, fun h'' hs'' => fin s₁.heap ys r D h'' tk (F'.change hs'' hCL hC₀) (fun p hp => ?_) o1⟩
  refine ⟨hs''.extBut _ _ ?_ (N' p hp).1, (N' p hp).2⟩
  rcases List.mem_cons.mp hp with rfl | hp
  · exact Ne.symm hCD
  · exact offC p hp
end
end Mine
end
section
open PySem PySem.W PyProof.Rows PySem.Calls
set_option Elab.async false
namespace Mine
def TIn (news : List (Addr × Obj)) (v : Value) (e : Int × Cl3) : Prop := ∃ (T D : Nat) (its : List Value) (tk : Tok) (n n' : Nat), v = .ref T ∧ (T, tupOf #[Value.int e.1 tk, .ref D] n) ∈ news ∧ (D, tupOf its.toArray n') ∈ news ∧ e.2.Is its
inductive TAll (news : List (Addr × Obj)) : List Value → List (Int × Cl3) → Prop
  | nil : TAll news [] []
  | cons {v : Value} {e : Int × Cl3} {vs : List Value} {es : List (Int × Cl3)} : TIn news v e → TAll news vs es → TAll news (v :: vs) (e :: es)
theorem TIn.mono {news news' : List (Addr × Obj)} {v : Value} {e : Int × Cl3} (h : TIn news v e) (hs : ∀ p ∈ news, p ∈ news') : TIn news' v e := by
  obtain ⟨T, D, its, tk, n, n', q, h1, h2, h3⟩ := h
  exact ⟨T, D, its, tk, n, n', q, hs _ h1, hs _ h2, h3⟩
theorem TAll.mono {news news' : List (Addr × Obj)} (hs : ∀ p ∈ news, p ∈ news') : ∀ {vs : List Value} {es : List (Int × Cl3)}, TAll news vs es → TAll news' vs es := by
  intro vs es h
  induction h with
  | nil => exact .nil
  | cons h _ ih => exact .cons (h.mono hs) ih
theorem TAll.snoc {news : List (Addr × Obj)} {v : Value} {e : Int × Cl3} (h : TIn news v e) : ∀ {vs : List Value} {es : List (Int × Cl3)}, TAll news vs es → TAll news (vs ++ [v]) (es ++ [e]) := by
  intro vs es r
  induction r with
  | nil => exact .cons h .nil
  | cons q _ ih => exact .cons q ih
theorem TAll.length {news : List (Addr × Obj)} : ∀ {vs : List Value} {es : List (Int × Cl3)}, TAll news vs es → vs.length = es.length := by
  intro vs es r
  induction r with
  | nil => rfl
  | cons _ _ ih => exact congrArg Nat.succ ih
theorem TAll.get {news : List (Addr × Obj)} : ∀ {vs : List Value} {es : List (Int × Cl3)} {i : Nat} {v : Value}, TAll news vs es → vs[i]? = some v → ∃ e, es[i]? = some e ∧ TIn news v e := by
  intro vs es i v h
  induction h generalizing i with
  | nil => exact fun h => nomatch h
  | cons q _ ih =>
    intro e
    cases i with
    | zero => exact ⟨_, rfl, (Option.some.inj e) ▸ q⟩
    | succ i => exact ih e
theorem ClAll.snoc {news : List (Addr × Obj)} {v : Value} {c : Cl3} (h : ClIn news v c) : ∀ {vs : List Value} {cs : List Cl3}, ClAll news vs cs → ClAll news (vs ++ [v]) (cs ++ [c]) := fun r => r.append (.cons h .nil)
def Cl3.isRat : Cl3 → Bool
  | .rat _ _ => true
  | _ => false
def ratsOf (cls : List Cl3) : List Cl3 := cls.filter Cl3.isRat
def toldNums (es : List (Int × Cl3)) : List Cl3 := (es.filter fun e => e.1 == 1 || e.1 == 2).map (·.2)
theorem rats_yes {news : List (Addr × Obj)} {v : Value} {vs : List Value} {cs : List Cl3} {c : Cl3} (h : ClIn news v c) (hc : c.isRat = true) (r : ClAll news vs (ratsOf cs)) : ClAll news (vs ++ [v]) (ratsOf (cs ++ [c])) := by
  unfold ratsOf at *
  rw [List.filter_append, List.filter_cons_of_pos hc]
  exact r.snoc h
theorem rats_no {news : List (Addr × Obj)} {vs : List Value} {cs : List Cl3} {c : Cl3} (hc : c.isRat = false) (r : ClAll news vs (ratsOf cs)) : ClAll news vs (ratsOf (cs ++ [c])) := by
  unfold ratsOf at *
  rw [List.filter_append, List.filter_cons_of_neg (by rw [hc]; decide), List.filter_nil, List.append_nil]
  exact r
theorem nums_yes {news : List (Addr × Obj)} {v : Value} {vs : List Value} {es : List (Int × Cl3)} {k : Int} {c : Cl3} (h : ClIn news v c) (hk : k = 1 ∨ k = 2) (r : ClAll news vs (toldNums es)) : ClAll news (vs ++ [v]) (toldNums (es ++ [(k, c)])) := by
  unfold toldNums at *
  have e : ((k, c).1 == 1 || (k, c).1 == 2) = true := by rcases hk with rfl | rfl <;> rfl
  rw [List.filter_append, List.filter_cons_of_pos (by exact e), List.map_append]
  exact r.snoc h
theorem nums_no {news : List (Addr × Obj)} {vs : List Value} {es : List (Int × Cl3)} {k : Int} {c : Cl3} (hk : ¬ (k = 1 ∨ k = 2)) (r : ClAll news vs (toldNums es)) : ClAll news vs (toldNums (es ++ [(k, c)])) := by
  unfold toldNums at *
  have e : ¬ (((k, c).1 == 1 || (k, c).1 == 2) = true) := by simpa using hk
  rw [List.filter_append, List.filter_cons_of_neg (by exact e), List.filter_nil, List.append_nil]
  exact r
theorem take_snoc {α : Type} {l : List α} {i : Nat} {a : α} (h : l[i]? = some a) : l.take (i + 1) = l.take i ++ [a] := by rw [List.take_add_one, h]; rfl
theorem cl_len {news : List (Addr × Obj)} {vs : List Value} {cs : List Cl3} (h : ClAll news vs cs) : vs.length = cs.length := by
  induction h with
  | nil => rfl
  | cons _ _ ih => exact congrArg Nat.succ ih
theorem add_lst {prog : Program} {w : World} {A : Around} {E : Value → Shared → Prop} {s : Shared} {h₀ : Heap} {L a b : Addr} {m : Str → Option Value} {news : List (Addr × Obj)} {vs ws : List Value} {Q : Value → Shared → Prop} (F : Fr h₀ L s.heap m) (N : News h₀ L s.heap news)
    (ha : (a, LCg.lst vs) ∈ news) (hb : (b, LCg.lst ws) ∈ news) (h1 : vs.length ≤ 1000) (h2 : ws.length ≤ 1000)
    (h : ∀ D h', Fr h₀ L h' m → News h₀ L h' ((D, listOf (vs ++ ws).toArray 0) :: news) → (∀ p ∈ news, p.1 < D) → Q (.ref D) { s with heap := h' }) : wpAny (model prog w) A (binaryOp .Add (.ref a) (.ref b)) Q E s :=
  add_lists (hsz := by rw [sizeLine_eq]; omega) F N ⟨_, (N _ ha).1, rfl, _, rfl⟩ ⟨_, (N _ hb).1, rfl, _, rfl⟩ fun h' F' N' => h _ _ F' N' fun p hp => Heap.lt_size (N p hp).1
theorem rats_len {cls : List Cl3} : (ratsOf cls).length ≤ cls.length := List.length_filter_le _ _
theorem nums_len {es : List (Int × Cl3)} : (toldNums es).length ≤ es.length := by unfold toldNums; rw [List.length_map]; exact List.length_filter_le _ _
theorem ks_of {k : Int} (h : ([1, 2].any fun x => x == k) = true) : k = 1 ∨ k = 2 := by simp at h; omega
theorem ks_not {k : Int} (h : ([1, 2].any fun x => x == k) = false) : ¬ (k = 1 ∨ k = 2) := by simp at h; omega
theorem not_elder {cls : List Cl3} {es : List (Int × Cl3)} {fr : Int} (h1 : Cl3.rat fr 1 ∉ cls) (h2 : ∀ q, (q = 1 ∨ q = 2) → (q, Cl3.rat fr 1) ∉ es) : (Cl3.rat fr 1).dat ∉ (ratsOf cls ++ toldNums es).map Cl3.dat := by
  intro hm
  obtain ⟨c, hc, e⟩ := List.mem_map.mp hm
  have := Cl3.dat_inj e
  subst this
  rcases List.mem_append.mp hc with h | h
  · exact h1 (List.mem_filter.mp h).1
  · obtain ⟨⟨q, c⟩, hq, e⟩ := List.mem_map.mp h
    obtain ⟨hq, hk⟩ := List.mem_filter.mp hq
    simp only at e
    subst e
    exact h2 q (by simpa using hk) hq
theorem dats_ok {cs : List Cl3} : ∀ d ∈ cs.map Cl3.dat, kqdOk 8 d = true := fun d hd => by
  obtain ⟨c, _, rfl⟩ := List.mem_map.mp hd
  exact c.ok
theorem notin_none {prog : Program} {w : World} {A : Around} {E : Value → Shared → Prop} {s : Shared} {h₀ : Heap} {L : Addr} {news n₁ n₂ : List (Addr × Obj)} {Q : Value → Shared → Prop} {a : Addr} {oa : Obj} {xs : List Value} {ka : Nat} {ds : List Dat} {x : Value} {d : Dat}
    (N : News h₀ L s.heap news) (ma : (a, oa) ∈ news) (ca : oa.cls = .type "list") (da : oa.data = .seq xs.toArray ka) (Da : DatAll n₁ xs ds) (sa : ∀ p ∈ n₁, p ∈ news)
    (Dx : DatIn n₂ x d) (sx : ∀ p ∈ n₂, p ∈ news) (ha : ∀ d ∈ ds, kqdOk 8 d = true) (hd : kqdOk 8 d = true) (hu : A.units + 64 < cLine) (hn : d ∉ ds) (h : Q (.bool true) s) : wpAny (model prog w) A (compareOp .NotIn x (.ref a)) Q E s := by
  classical
  refine kqd_notIn N ma ca da Da sa Dx sx ha hd hu ?_
  rw [decide_eq_false hn]
  exact h
theorem isin_some {prog : Program} {w : World} {A : Around} {E : Value → Shared → Prop} {s : Shared} {h₀ : Heap} {L : Addr} {news n₁ n₂ : List (Addr × Obj)} {Q : Value → Shared → Prop} {a : Addr} {oa : Obj} {xs : List Value} {ka : Nat} {ds : List Dat} {x : Value} {d : Dat}
    (N : News h₀ L s.heap news) (ma : (a, oa) ∈ news) (ca : oa.cls = .type "list") (da : oa.data = .seq xs.toArray ka) (Da : DatAll n₁ xs ds) (sa : ∀ p ∈ n₁, p ∈ news)
    (Dx : DatIn n₂ x d) (sx : ∀ p ∈ n₂, p ∈ news) (ha : ∀ d ∈ ds, kqdOk 8 d = true) (hd : kqdOk 8 d = true) (hu : A.units + 64 < cLine) (hn : d ∈ ds) (h : Q (.bool true) s) : wpAny (model prog w) A (compareOp .In x (.ref a)) Q E s := by
  classical
  refine kqd_isIn N ma ca da Da sa Dx sx ha hd hu ?_
  rw [decide_eq_true hn]
  exact h
def cntOf (k : Int) (es : List (Int × Cl3)) : Nat := (es.filter fun e => e.1 == k).length
theorem cnt_yes {k k' : Int} {c : Cl3} {es : List (Int × Cl3)} {n : Nat} (h : k' = k) (r : n = cntOf k es) : n + 1 = cntOf k (es ++ [(k', c)]) := by
  subst h
  unfold cntOf at *
  rw [List.filter_append, List.length_append, r]
  simp
theorem cnt_no {k k' : Int} {c : Cl3} {es : List (Int × Cl3)} {n : Nat} (h : ¬ k' = k) (r : n = cntOf k es) : n = cntOf k (es ++ [(k', c)]) := by
  unfold cntOf at *
  rw [List.filter_append, List.length_append, r]
  simp [h]
theorem cnt_len {k : Int} {es : List (Int × Cl3)} : cntOf k es ≤ es.length := List.length_filter_le _ _
theorem allNe3 {d : Addr} {l : List (Addr × Obj)} (h : AllLt d l) : ∀ p ∈ l, p.1 ≠ d + 1 + 1 + 1 := fun p hp => Nat.ne_of_lt (Nat.lt_succ_of_lt (Nat.lt_succ_of_lt (Nat.lt_succ_of_lt (ktn_ltOf h p hp))))
theorem notin_words2 {prog : Program} {w : World} {A : Around} {E : Value → Shared → Prop} {s : Shared} {h₀ : Heap} {L : Addr} {news : List (Addr × Obj)} {Q : Value → Shared → Prop} {t : Addr} {n : Nat} {x : Int} {u t1 t2 : Tok}
    (N : News h₀ L s.heap news) (hm : (t, tupOf #[.str (Str.ofString "bv") t1, .str (Str.ofString "elem") t2] n) ∈ news) (hu : A.units + 64 < cLine) (h : Q (.bool true) s) : wpAny (model prog w) A (compareOp .NotIn (.int x u) (.ref t)) Q E s := by
  have hd : DatIn news (.ref t) (.tuple [.str (Str.ofString "bv"), .str (Str.ofString "elem")]) := .tuple hm (.cons (.str _ _) (.cons (.str _ _) .nil))
  obtain ⟨as, ra⟩ := kqd_in N 8 hd (by decide +kernel)
  obtain ⟨bs, rx⟩ := kqd_in N 8 (.int x u : DatIn news (.int x u) (.int x)) rfl
  refine SeqAt.notIn_tuple_reads ra rx (by decide +kernel) rfl ?_ ?_
  · have := Nat.min_le_right (PyData.depthAll (kqdPs [.str (Str.ofString "bv"), .str (Str.ofString "elem")])) (kqdP (.int x)).depth
    have e : (kqdP (.int x)).depth ≤ 8 := by show PyData.depth (.int x) ≤ 8; simp [PyData.depth]
    exact Nat.lt_of_le_of_lt (by omega) hu
  · exact h
end Mine
end
section
open PySem PySem.W PyProof.Rows PySem.Calls
set_option Elab.async false
namespace Mine
local macro_rules | `(tactic| walk_at "execs cons") => `(tactic| (k_here; refine Mine.toks_cons ?_; intro tk'; (try dsimp only); (try k_fold)))
local macro_rules | `(tactic| k_all) => `(tactic| exact allNe1 (by assumption))
local macro_rules | `(tactic| walk_at "subscriptTail") => `(tactic| (k_here; (with_reducible show wpAny _ _ (subscriptTail _ _ (Value.ref _) (Value.int _ _)) _ _ _); k_dflt (refine' item_tupleT ?t ?a ?b ?c ?d ?_; (case t => exact News.isTup (by k_asm) (by (repeat (refine List.Mem.tail _ ?_)); assumption)); (case a => decide); (case b => decide); (case c => rfl); (case d => rfl); k_whole)))
local macro_rules | `(tactic| k_units) => `(tactic| first | exact Nat.le_of_ble_eq_true rfl | ((have hcL9 := cLine_is); (try simp only [units_in1, units_deeper, Around.mark_units, units_caller] at *); (try dsimp only [ktrTop] at *); omega))
local macro_rules | `(tactic| k_room) => `(tactic| ktr_room)
local macro_rules | `(tactic| walk_at "eval ListComp") => `(tactic| (k_here; refine Mine.Stop.out ?_))
local macro_rules | `(tactic| walk_at "compareOp NotIn int ref") => `(tactic| (k_here; refine Mine.Stp.out (n := 12) ?_))
local macro_rules | `(tactic| walk_at "binaryOp Add ref ref") => `(tactic| (k_here; refine Mine.Stp.out (n := 13) ?_))
local macro_rules | `(tactic| walk_at "compareOp NotIn ref ref") => `(tactic| (k_here; refine Mine.Stp.out (n := 14) ?_))
set_option maxRecDepth 100000 in
set_option maxHeartbeats 2000000 in
theorem right_num {w : World} {p : Program} {loose : List Str} {mean : ExcName → Option Value} {mg mb : Str → Option Value} {dp un : Nat} {gd : Option (List Code)} {cn : Str} {cs : Scope} {a : Addr} {ccd : Value} {cl : List (Str × Addr)} {outer : List Env} {A₀ : Around} {base h₀ : Heap} {L : Addr} {m : Str → Option Value} {s : Shared} {Q E : Value → Shared → Prop}
    {D lc tc nD c1 c2 : Nat} {rest : List (Addr × Obj)} {k fr : Int} {tk tx ty : Tok} {bank : Value} {cvs tvs : List Value} {cls : List Cl3} {es : List (Int × Cl3)}
    (B : Below A₀ base outer h₀) (F : Fr h₀ L s.heap m) (X : (K w.params).In h₀) (T : Top p loose mean mg mb h₀) (hk : cs.kind = .function)
    (N : News h₀ L s.heap ((lc, listOf cvs.toArray c1) :: (tc, listOf tvs.toArray c2) :: rest))
    (off : OwnOff rest [lc, tc]) (hne : tc < lc) (hD : (D, tupOf #[Value.int fr tx, .int 1 ty] nD) ∈ rest) (hs : k = 1 ∨ k = 2) (hcl : ClAll rest cvs cls) (htl : TAll rest tvs es) (hl1 : cvs.length ≤ 500) (hl2 : tvs.length ≤ 500)
    (hn1 : Cl3.rat fr 1 ∉ cls) (hn2 : ∀ q, (q = 1 ∨ q = 2) → (q, Cl3.rat fr 1) ∉ es)
    (hd : dp + 6 < recursionLimit) (hu : un + 200 < cLine)
    (ret : ∀ h' tk, Fr h₀ L h' m → News h₀ L h' ((lc, listOf cvs.toArray c1) :: (tc, listOf tvs.toArray c2) :: rest) → Q (.bool true) { s with heap := h', toks := tk }) :
    wpAny (model PySem.Challenge.rw_rg0220_01.row.prog w) (ktrTop dp un gd cn cs L a ccd cl outer) (call (.ref 1008) [bank, .int k tk, .ref D, .ref lc, .ref tc]) Q E s := by
  w_on
  revert X
  k_fill
  intro X
  refine wpAny_call ?_
  rcases hs with rfl | rfl
  all_goals
    w_strict (k_dflt (refine' code_defC ?zzk1 ?zzk2 ?zzk3 ?zzk4 ?zzk5 ?zzkA ?zzkF ?zzkK ?zzk6 ?zzk7 ?zzk8 ?zzk9 ?zzkB ?zzkD ?_ ?zzc2 ?zzc3 ?zzc4; (case zzkA => exact rfl); (case zzkF => exact rfl); (case zzkK => assumption); (case zzk1 => k_asm); (case zzk2 => k_asm); (case zzk3 => k_asm); (case zzk4 => k_asm); (case zzk5 => k_asm); (case zzk6 => k_is); (case zzk7 => k_is); (case zzk8 => first | exact Mine.rm0 (by assumption) | k_room); (case zzk9 => exact BindsTo.of_eq rfl); (case zzkB => exact rfl); (case zzkD => decide +kernel); (case zzc2 => exact rfl); (case zzc3 => exact rfl); (case zzc4 => exact rfl); k_whole; intro zqg' zqL' zqh' zqtk' zqcells' zqFG' zqF' zqN' zqY' zqB' zqX' zqT' zql1; (try k_lt zql1); (have lR' := zql1); (repeat (replace lR' := And.right lR')); k_cells zqY'; (try simp only [List.cons_append, List.nil_append] at zqN'); (try dsimp only); (try k_fold)); repeat' (first | (with_reducible refine Mine.Stp.mk (n := 12) ?_; k_dflt (refine' notin_words2 (by k_asm) (by k_mem) (by first | exact Mine.unX (by assumption) rfl | ktr_units) ?_)) | (with_reducible refine Mine.Stp.mk (n := 13) ?_; k_dflt (refine' add_lst (by k_asm) (by k_asm) (by k_mem) (by k_mem) (by assumption) (by assumption) ?_); intro zqD' zqh' zqF' zqN' zql1; (try k_lt zql1); (try k_sweep)) | (with_reducible refine Mine.Stp.mk (n := 14) ?_; k_dflt (refine' notin_none (by k_asm) (by k_mem) (by rfl) (by rfl) (by with_reducible assumption) (by (intro zqp zqhp; (repeat (refine List.Mem.tail _ ?_)); assumption)) (by with_reducible assumption) (by (intro zqp zqhp; (repeat (refine List.Mem.tail _ ?_)); assumption)) (by exact dats_ok) (by exact Cl3.ok _) (by first | exact Mine.unX (by assumption) rfl | ktr_units) (by with_reducible assumption) ?_)) | (k_unfold; (try dsimp only)) | (k_end; wrow_close) | walk1 | (dsimp only; walk1) | (leave1; (try dsimp only)) | fail "no step"))
    refine Stop.mk ?_
    k_dflt (refine LCt.ListComp_T (F₀ := by k_asm) (by with_unfolding_all rfl) (by decide) (by rfl) (by decide) (by rfl) ?_)
    w_strict (repeat' (first | (with_reducible refine Mine.Stp.mk (n := 12) ?_; k_dflt (refine' notin_words2 (by k_asm) (by k_mem) (by first | exact Mine.unX (by assumption) rfl | ktr_units) ?_)) | (with_reducible refine Mine.Stp.mk (n := 13) ?_; k_dflt (refine' add_lst (by k_asm) (by k_asm) (by k_mem) (by k_mem) (by assumption) (by assumption) ?_); intro zqD' zqh' zqF' zqN' zql1; (try k_lt zql1); (try k_sweep)) | (with_reducible refine Mine.Stp.mk (n := 14) ?_; k_dflt (refine' notin_none (by k_asm) (by k_mem) (by rfl) (by rfl) (by with_reducible assumption) (by (intro zqp zqhp; (repeat (refine List.Mem.tail _ ?_)); assumption)) (by with_reducible assumption) (by (intro zqp zqhp; (repeat (refine List.Mem.tail _ ?_)); assumption)) (by exact dats_ok) (by exact Cl3.ok _) (by first | exact Mine.unX (by assumption) rfl | ktr_units) (by with_reducible assumption) ?_)) | (k_unfold; (try dsimp only)) | (k_end; wrow_close) | walk1 | (dsimp only; walk1) | (leave1; (try dsimp only)) | fail "no step"))
    k_dflt (refine LCt.CompSrcT.ledger (by rfl) (by k_asm) (by k_asm) (by k_mem) (by rw [sizeLine_eq]; simp only [List.size_toArray]; omega) ?_)
    intro g9
    refine restT_inv (n := cvs.length) (fun i ys => ClAll rest ys (ratsOf (cls.take i))) (.inr ⟨_, by k_mem, rfl, _, rfl⟩) ?turn ?fin _ 0 [] (by simp) .nil
    case turn =>
      intro i v ys I' oI' C' oC' D' m' h' tk' E' hi' hP' hR' hC' hx' F' N' off' ne'
      try k_fold
      obtain ⟨c', hc', D2', its', nn', rfl, hm', hIs'⟩ := hcl.get (i := i) (v := v) (by simpa using hP')
      have htk' : cls.take (i + 1) = cls.take i ++ [c'] := take_snoc hc'
      cases c' with
      | bv v' w' =>
        obtain ⟨x1, x2, x3, rfl⟩ := hIs'
        w_strict (repeat' (first | (with_reducible refine Mine.Stp.mk (n := 12) ?_; k_dflt (refine' notin_words2 (by k_asm) (by k_mem) (by first | exact Mine.unX (by assumption) rfl | ktr_units) ?_)) | (with_reducible refine Mine.Stp.mk (n := 13) ?_; k_dflt (refine' add_lst (by k_asm) (by k_asm) (by k_mem) (by k_mem) (by assumption) (by assumption) ?_); intro zqD' zqh' zqF' zqN' zql1; (try k_lt zql1); (try k_sweep)) | (with_reducible refine Mine.Stp.mk (n := 14) ?_; k_dflt (refine' notin_none (by k_asm) (by k_mem) (by rfl) (by rfl) (by with_reducible assumption) (by (intro zqp zqhp; (repeat (refine List.Mem.tail _ ?_)); assumption)) (by with_reducible assumption) (by (intro zqp zqhp; (repeat (refine List.Mem.tail _ ?_)); assumption)) (by exact dats_ok) (by exact Cl3.ok _) (by first | exact Mine.unX (by assumption) rfl | ktr_units) (by with_reducible assumption) ?_)) | (k_unfold; (try dsimp only)) | (k_end; wrow_close) | walk1 | (dsimp only; walk1) | (leave1; (try dsimp only)) | fail "no step"))
        refine TurnN.intro (by k_asm) (by k_asm) (by first | exact fun _ h => h | exact fun _ h => List.Mem.tail _ h) ?_
        rw [htk']
        exact rats_no rfl hR'
      | rat x y =>
        obtain ⟨x1, x2, rfl⟩ := hIs'
        w_strict (repeat' (first | (with_reducible refine Mine.Stp.mk (n := 12) ?_; k_dflt (refine' notin_words2 (by k_asm) (by k_mem) (by first | exact Mine.unX (by assumption) rfl | ktr_units) ?_)) | (with_reducible refine Mine.Stp.mk (n := 13) ?_; k_dflt (refine' add_lst (by k_asm) (by k_asm) (by k_mem) (by k_mem) (by assumption) (by assumption) ?_); intro zqD' zqh' zqF' zqN' zql1; (try k_lt zql1); (try k_sweep)) | (with_reducible refine Mine.Stp.mk (n := 14) ?_; k_dflt (refine' notin_none (by k_asm) (by k_mem) (by rfl) (by rfl) (by with_reducible assumption) (by (intro zqp zqhp; (repeat (refine List.Mem.tail _ ?_)); assumption)) (by with_reducible assumption) (by (intro zqp zqhp; (repeat (refine List.Mem.tail _ ?_)); assumption)) (by exact dats_ok) (by exact Cl3.ok _) (by first | exact Mine.unX (by assumption) rfl | ktr_units) (by with_reducible assumption) ?_)) | (k_unfold; (try dsimp only)) | (k_end; wrow_close) | walk1 | (dsimp only; walk1) | (leave1; (try dsimp only)) | fail "no step"))
        refine TurnY.intro (by k_asm) (by k_asm) (by first | exact fun _ h => h | exact fun _ h => List.Mem.tail _ h) ?_
        rw [htk']
        exact rats_yes ⟨_, _, _, rfl, hm', _, _, rfl⟩ rfl hR'
      | elem e n =>
        obtain ⟨x1, x2, x3, rfl⟩ := hIs'
        w_strict (repeat' (first | (with_reducible refine Mine.Stp.mk (n := 12) ?_; k_dflt (refine' notin_words2 (by k_asm) (by k_mem) (by first | exact Mine.unX (by assumption) rfl | ktr_units) ?_)) | (with_reducible refine Mine.Stp.mk (n := 13) ?_; k_dflt (refine' add_lst (by k_asm) (by k_asm) (by k_mem) (by k_mem) (by assumption) (by assumption) ?_); intro zqD' zqh' zqF' zqN' zql1; (try k_lt zql1); (try k_sweep)) | (with_reducible refine Mine.Stp.mk (n := 14) ?_; k_dflt (refine' notin_none (by k_asm) (by k_mem) (by rfl) (by rfl) (by with_reducible assumption) (by (intro zqp zqhp; (repeat (refine List.Mem.tail _ ?_)); assumption)) (by with_reducible assumption) (by (intro zqp zqhp; (repeat (refine List.Mem.tail _ ?_)); assumption)) (by exact dats_ok) (by exact Cl3.ok _) (by first | exact Mine.unX (by assumption) rfl | ktr_units) (by with_reducible assumption) ?_)) | (k_unfold; (try dsimp only)) | (k_end; wrow_close) | walk1 | (dsimp only; walk1) | (leave1; (try dsimp only)) | fail "no step"))
        refine TurnN.intro (by k_asm) (by k_asm) (by first | exact fun _ h => h | exact fun _ h => List.Mem.tail _ h) ?_
        rw [htk']
        exact rats_no rfl hR'
    case fin =>
      intro ys' hR' D' h' tk' F' N' off'
      try k_fold
      w_strict (repeat' (first | (with_reducible refine Mine.Stp.mk (n := 12) ?_; k_dflt (refine' notin_words2 (by k_asm) (by k_mem) (by first | exact Mine.unX (by assumption) rfl | ktr_units) ?_)) | (with_reducible refine Mine.Stp.mk (n := 13) ?_; k_dflt (refine' add_lst (by k_asm) (by k_asm) (by k_mem) (by k_mem) (by assumption) (by assumption) ?_); intro zqD' zqh' zqF' zqN' zql1; (try k_lt zql1); (try k_sweep)) | (with_reducible refine Mine.Stp.mk (n := 14) ?_; k_dflt (refine' notin_none (by k_asm) (by k_mem) (by rfl) (by rfl) (by with_reducible assumption) (by (intro zqp zqhp; (repeat (refine List.Mem.tail _ ?_)); assumption)) (by with_reducible assumption) (by (intro zqp zqhp; (repeat (refine List.Mem.tail _ ?_)); assumption)) (by exact dats_ok) (by exact Cl3.ok _) (by first | exact Mine.unX (by assumption) rfl | ktr_units) (by with_reducible assumption) ?_)) | (k_unfold; (try dsimp only)) | (k_end; wrow_close) | walk1 | (dsimp only; walk1) | (leave1; (try dsimp only)) | fail "no step"))
      refine Stop.mk ?_
      k_dflt (refine ListComp_PT (F₀ := by k_asm) (by with_unfolding_all rfl) (by decide) (by rfl) (by decide) (by rfl) (by rfl) (by decide) ?_)
      w_strict (repeat' (first | (with_reducible refine Mine.Stp.mk (n := 12) ?_; k_dflt (refine' notin_words2 (by k_asm) (by k_mem) (by first | exact Mine.unX (by assumption) rfl | ktr_units) ?_)) | (with_reducible refine Mine.Stp.mk (n := 13) ?_; k_dflt (refine' add_lst (by k_asm) (by k_asm) (by k_mem) (by k_mem) (by assumption) (by assumption) ?_); intro zqD' zqh' zqF' zqN' zql1; (try k_lt zql1); (try k_sweep)) | (with_reducible refine Mine.Stp.mk (n := 14) ?_; k_dflt (refine' notin_none (by k_asm) (by k_mem) (by rfl) (by rfl) (by with_reducible assumption) (by (intro zqp zqhp; (repeat (refine List.Mem.tail _ ?_)); assumption)) (by with_reducible assumption) (by (intro zqp zqhp; (repeat (refine List.Mem.tail _ ?_)); assumption)) (by exact dats_ok) (by exact Cl3.ok _) (by first | exact Mine.unX (by assumption) rfl | ktr_units) (by with_reducible assumption) ?_)) | (k_unfold; (try dsimp only)) | (k_end; wrow_close) | walk1 | (dsimp only; walk1) | (leave1; (try dsimp only)) | fail "no step"))
      k_dflt (refine Mine.SrcPT.intro (fun i ys => ClAll rest ys (toldNums (es.take i))) (by rfl) (by k_asm) (by k_asm) (by k_mem) (by rw [sizeLine_eq]; omega) .nil ?turn2 ?fin2)
      case turn2 =>
        intro g9 i v ys hv' hR2'
        obtain ⟨⟨k2, c2⟩, he2, T2, D2, its2, tk2, n2, n2', rfl, hT2, hD2, hIs2⟩ := htl.get hv'
        have htk' : es.take (i + 1) = es.take i ++ [(k2, c2)] := take_snoc he2
        refine ⟨T2, _, _, n2, rfl, by (repeat (refine List.Mem.tail _ ?_)); assumption, ?_⟩
        intro I' oI' C' oC' D' m' h' tk' E' hC' hx1' hx2' F' N' off' ne'
        w_strict (repeat' (first | (with_reducible refine Mine.Stp.mk (n := 12) ?_; k_dflt (refine' notin_words2 (by k_asm) (by k_mem) (by first | exact Mine.unX (by assumption) rfl | ktr_units) ?_)) | (with_reducible refine Mine.Stp.mk (n := 13) ?_; k_dflt (refine' add_lst (by k_asm) (by k_asm) (by k_mem) (by k_mem) (by assumption) (by assumption) ?_); intro zqD' zqh' zqF' zqN' zql1; (try k_lt zql1); (try k_sweep)) | (with_reducible refine Mine.Stp.mk (n := 14) ?_; k_dflt (refine' notin_none (by k_asm) (by k_mem) (by rfl) (by rfl) (by with_reducible assumption) (by (intro zqp zqhp; (repeat (refine List.Mem.tail _ ?_)); assumption)) (by with_reducible assumption) (by (intro zqp zqhp; (repeat (refine List.Mem.tail _ ?_)); assumption)) (by exact dats_ok) (by exact Cl3.ok _) (by first | exact Mine.unX (by assumption) rfl | ktr_units) (by with_reducible assumption) ?_)) | (k_unfold; (try dsimp only)) | (k_end; wrow_close) | walk1 | (dsimp only; walk1) | (leave1; (try dsimp only)) | fail "no step"))
        · refine TurnY.intro (by k_asm) (by k_asm) (by first | exact fun _ h => h | exact fun _ h => List.Mem.tail _ h) ?_
          show ClAll rest _ (toldNums (es.take (i + 1)))
          rw [htk']
          with_reducible rename List.any _ _ = _ => hA9
          exact nums_yes ⟨_, _, _, rfl, hD2, hIs2⟩ (ks_of hA9) hR2'
        · refine TurnN.intro (by k_asm) (by k_asm) (by first | exact fun _ h => h | exact fun _ h => List.Mem.tail _ h) ?_
          show ClAll rest _ (toldNums (es.take (i + 1)))
          rw [htk']
          with_reducible rename List.any _ _ = _ => hA9
          exact nums_no (ks_not hA9) hR2'
      case fin2 =>
        intro g9 ys2' hR2' D' h' tk' F' N' off'
        rw [List.take_of_length_le (by rw [TAll.length htl]; exact Nat.le_refl _)] at hR2'
        rw [List.take_of_length_le (by rw [cl_len hcl]; exact Nat.le_refl _)] at hR'
        have z1' : ys'.length ≤ 1000 := by have := cl_len hR'; have := @rats_len cls; have := cl_len hcl; omega
        have z2' : ys2'.length ≤ 1000 := by have := cl_len hR2'; have := @nums_len es; have := TAll.length htl; omega
        replace N' := news_cons N' (by (repeat (refine List.Mem.tail _ ?_)); exact hD) N'
        have dE' := (hR'.append hR2').datAll
        have dF' : DatIn rest (.ref D) (Cl3.rat fr 1).dat := Cl3.Is.datIn ⟨_, _, rfl⟩ hD
        have nE' := not_elder hn1 hn2
        w_strict (repeat' (first | (with_reducible refine Mine.Stp.mk (n := 12) ?_; k_dflt (refine' notin_words2 (by k_asm) (by k_mem) (by first | exact Mine.unX (by assumption) rfl | ktr_units) ?_)) | (with_reducible refine Mine.Stp.mk (n := 13) ?_; k_dflt (refine' add_lst (by k_asm) (by k_asm) (by k_mem) (by k_mem) (by assumption) (by assumption) ?_); intro zqD' zqh' zqF' zqN' zql1; (try k_lt zql1); (try k_sweep)) | (with_reducible refine Mine.Stp.mk (n := 14) ?_; k_dflt (refine' notin_none (by k_asm) (by k_mem) (by rfl) (by rfl) (by with_reducible assumption) (by (intro zqp zqhp; (repeat (refine List.Mem.tail _ ?_)); assumption)) (by with_reducible assumption) (by (intro zqp zqhp; (repeat (refine List.Mem.tail _ ?_)); assumption)) (by exact dats_ok) (by exact Cl3.ok _) (by first | exact Mine.unX (by assumption) rfl | ktr_units) (by with_reducible assumption) ?_)) | (k_unfold; (try dsimp only)) | (k_end; wrow_close) | walk1 | (dsimp only; walk1) | (leave1; (try dsimp only)) | fail "no step"))
        with_reducible rename Fr h₀ _ _ _ => kF9
        with_reducible rename News h₀ _ _ _ => kN9
        exact ret _ _ kF9 (fun p hp => kN9 p (by repeat (first | exact hp | refine List.Mem.tail _ ?_)))
end Mine
end
section
open PySem PySem.W PyProof.Rows PySem.Calls
set_option Elab.async false
namespace Mine
local macro_rules | `(tactic| walk_at "execs cons") => `(tactic| (k_here; refine Mine.toks_cons ?_; intro tk'; (try dsimp only); (try k_fold)))
local macro_rules | `(tactic| k_all) => `(tactic| first | exact allNe3 (by assumption) | exact allNe1 (by assumption))
local macro_rules | `(tactic| walk_at "subscriptTail") => `(tactic| (k_here; (with_reducible show wpAny _ _ (subscriptTail _ _ (Value.ref _) (Value.int _ _)) _ _ _); k_dflt (refine' item_tupleT ?t ?a ?b ?c ?d ?_; (case t => exact News.isTup (by k_asm) (by (repeat (refine List.Mem.tail _ ?_)); assumption)); (case a => decide); (case b => decide); (case c => rfl); (case d => rfl); k_whole)))
local macro_rules | `(tactic| k_units) => `(tactic| first | exact Nat.le_of_ble_eq_true rfl | ((have hcL9 := cLine_is); (try simp only [units_in1, units_deeper, Around.mark_units, units_caller] at *); (try dsimp only [ktrTop] at *); omega))
local macro_rules | `(tactic| k_room) => `(tactic| ktr_room)
local macro_rules | `(tactic| walk_at "eval ListComp") => `(tactic| (k_here; refine Mine.Stop.out ?_))
local macro_rules | `(tactic| walk_at "call builtin:len") => `(tactic| (k_here; refine Mine.Stp.out (n := 11) ?_))
set_option maxRecDepth 100000 in
set_option maxHeartbeats 2000000 in
theorem right_elem {w : World} {p : Program} {loose : List Str} {mean : ExcName → Option Value} {mg mb : Str → Option Value} {dp un : Nat} {gd : Option (List Code)} {cn : Str} {cs : Scope} {a : Addr} {ccd : Value} {cl : List (Str × Addr)} {outer : List Env} {A₀ : Around} {base h₀ : Heap} {L : Addr} {m : Str → Option Value} {s : Shared} {Q E : Value → Shared → Prop}
    {bx bd wl D lc tc nD c1 c2 nl bv n2 : Nat} {rest : List (Addr × Obj)} {k n : Int} {tk tx ty tz : Tok} {cvs tvs : List Value} {es : List (Int × Cl3)}
    {bk : Bk} {q : Nat → Tok}
    (B : Below A₀ base outer h₀) (F : Fr h₀ L s.heap m) (X : (K w.params).In h₀) (T : Top p loose mean mg mb h₀) (hk : cs.kind = .function)
    (N : News h₀ L s.heap ((bx, instObj 782 bd) :: (bd, dictOf (bankEs bk nl wl bv) 14) ::
      (wl, listOf (wlL q).toArray n2) :: (lc, listOf cvs.toArray c1) :: (tc, listOf tvs.toArray c2) :: rest))
    (off : OwnOff rest [bx, bd, wl, lc, tc]) (hne : bd < bx ∧ bx < wl ∧ wl < tc ∧ tc < lc) (hD : (D, tupOf #[Value.str (Str.ofString "elem") tx, .int k ty, .int n tz] nD) ∈ rest) (hs : k = 6 ∨ k = 7) (htl : TAll rest tvs es) (hl2 : tvs.length ≤ 500)
    (hn : n = (cntOf k es : Int))
    (hd : dp + 6 < recursionLimit) (hu : un + 200 < cLine)
    (ret : ∀ h' tk, Fr h₀ L h' m → News h₀ L h' ((bx, instObj 782 bd) :: (bd, dictOf (bankEs bk nl wl bv) 14) ::
      (wl, listOf (wlL q).toArray n2) :: (lc, listOf cvs.toArray c1) :: (tc, listOf tvs.toArray c2) :: rest) → Q (.bool true) { s with heap := h', toks := tk }) :
    wpAny (model PySem.Challenge.rw_rg0220_01.row.prog w) (ktrTop dp un gd cn cs L a ccd cl outer) (call (.ref 1008) [.ref bx, .int k tk, .ref D, .ref lc, .ref tc]) Q E s := by
  obtain ⟨a1, a2, a3, a4⟩ := hne
  obtain ⟨k9, hk9⟩ : ∃ k9, k9 = k := ⟨k, rfl⟩
  w_on
  revert X
  k_fill
  intro X
  refine wpAny_call ?_
  rcases hs with rfl | rfl
  all_goals
    w_strict (k_dflt (refine' code_defC ?zzk1 ?zzk2 ?zzk3 ?zzk4 ?zzk5 ?zzkA ?zzkF ?zzkK ?zzk6 ?zzk7 ?zzk8 ?zzk9 ?zzkB ?zzkD ?_ ?zzc2 ?zzc3 ?zzc4; (case zzkA => exact rfl); (case zzkF => exact rfl); (case zzkK => assumption); (case zzk1 => k_asm); (case zzk2 => k_asm); (case zzk3 => k_asm); (case zzk4 => k_asm); (case zzk5 => k_asm); (case zzk6 => k_is); (case zzk7 => k_is); (case zzk8 => first | exact Mine.rm0 (by assumption) | k_room); (case zzk9 => exact BindsTo.of_eq rfl); (case zzkB => exact rfl); (case zzkD => decide +kernel); (case zzc2 => exact rfl); (case zzc3 => exact rfl); (case zzc4 => exact rfl); k_whole; intro zqg' zqL' zqh' zqtk' zqcells' zqFG' zqF' zqN' zqY' zqB' zqX' zqT' zql1; (try k_lt zql1); (have lR' := zql1); (repeat (replace lR' := And.right lR')); k_cells zqY'; (try simp only [List.cons_append, List.nil_append] at zqN'); (try dsimp only); (try k_fold)); repeat' (first | (with_reducible refine Mine.Stp.mk (n := 11) ?_; k_dflt (refine' Mine.len_lst (by k_asm) (by k_mem) (by assumption) ?_)) | (k_unfold; (try dsimp only)) | (k_end; wrow_close) | walk1 | (dsimp only; walk1) | (leave1; (try dsimp only)) | fail "no step"))
    refine Stop.mk ?_
    k_dflt (refine ListComp_PT (F₀ := by k_asm) (by with_unfolding_all rfl) (by decide) (by rfl) (by decide) (by rfl) (by rfl) (by decide) ?_)
    w_strict (repeat' (first | (with_reducible refine Mine.Stp.mk (n := 11) ?_; k_dflt (refine' Mine.len_lst (by k_asm) (by k_mem) (by assumption) ?_)) | (k_unfold; (try dsimp only)) | (k_end; wrow_close) | walk1 | (dsimp only; walk1) | (leave1; (try dsimp only)) | fail "no step"))
    k_dflt (refine Mine.SrcPT.intro (fun i ys => ys.length = cntOf k9 (es.take i)) (by rfl) (by k_asm) (by k_asm) (by k_mem) (by rw [sizeLine_eq]; omega) rfl ?turn2 ?fin2)
    case turn2 =>
      intro g9 i v ys hv' hR2'
      obtain ⟨⟨k2, c2⟩, he2, T2, D2, its2, tk2, n2, n2', rfl, hT2, hD2, hIs2⟩ := htl.get hv'
      have htk' : es.take (i + 1) = es.take i ++ [(k2, c2)] := take_snoc he2
      refine ⟨T2, _, _, n2, rfl, by (repeat (refine List.Mem.tail _ ?_)); assumption, ?_⟩
      intro I' oI' C' oC' D' m' h' tk' E' hC' hx1' hx2' F' N' off' ne'
      w_strict (repeat' (first | (with_reducible refine Mine.Stp.mk (n := 11) ?_; k_dflt (refine' Mine.len_lst (by k_asm) (by k_mem) (by assumption) ?_)) | (k_unfold; (try dsimp only)) | (k_end; wrow_close) | walk1 | (dsimp only; walk1) | (leave1; (try dsimp only)) | fail "no step"))
      · refine TurnY.intro (by k_asm) (by k_asm) (by first | exact fun _ h => h | exact fun _ h => List.Mem.tail _ h) ?_
        show List.length (_ ++ _) = cntOf k9 (es.take (i + 1))
        rw [htk', List.length_append]
        exact cnt_yes (by omega) hR2'
      · refine TurnN.intro (by k_asm) (by k_asm) (by first | exact fun _ h => h | exact fun _ h => List.Mem.tail _ h) ?_
        show List.length _ = cntOf k9 (es.take (i + 1))
        rw [htk']
        exact cnt_no (by omega) hR2'
    case fin2 =>
      intro g9 ys2' hR2' D' h' tk' F' N' off'
      replace N' := news_cons N' (by (repeat (refine List.Mem.tail _ ?_)); exact hD) N'
      rw [List.take_of_length_le (by rw [TAll.length htl]; exact Nat.le_refl _)] at hR2'
      have z2' : ys2'.length ≤ 1000 := by have := @cnt_len k9 es; have := TAll.length htl; omega
      have hn' : n = (ys2'.length : Int) := by rw [hR2', hk9]; exact hn
      clear hn
      subst hn'
      w_strict (repeat' (first | (with_reducible refine Mine.Stp.mk (n := 11) ?_; k_dflt (refine' Mine.len_lst (by k_asm) (by k_mem) (by assumption) ?_)) | (k_unfold; (try dsimp only)) | (k_end; wrow_close) | walk1 | (dsimp only; walk1) | (leave1; (try dsimp only)) | fail "no step"))
      with_reducible rename Fr h₀ _ _ _ => kF9
      with_reducible rename News h₀ _ _ _ => kN9
      exact ret _ _ kF9 (fun p hp => kN9 p (by repeat (first | exact hp | refine List.Mem.tail _ ?_)))
end Mine
end
section
open PySem PySem.W PyProof.Rows PySem.Calls
set_option Elab.async false
set_option maxRecDepth 100000
namespace Mine
open LCg
section
variable {prog : Program} {w : World} {A : Around} {E : Value → Shared → Prop} {s : Shared} {h₀ : Heap} {L : Addr} {m : Str → Option Value} {env : Env}
def TurnU (h₀ : Heap) (L : Addr) (m : Str → Option Value) (s₁ : Shared) (nl : List (Addr × Obj)) (R : Value → Addr × Obj → Prop) (y : Value) (s₂ : Shared) : Prop :=
  ∃ h' tk T, s₂ = { s₁ with heap := h', toks := tk } ∧ Fr h₀ L h' m ∧ News h₀ L h' (T :: nl) ∧ (∀ p ∈ nl, p.1 < T.1) ∧ R y T
theorem TurnU.intro {s₁ : Shared} {nl : List (Addr × Obj)} {R : Value → Addr × Obj → Prop} {y : Value} {h' : Heap} {tk : Nat} {T : Addr × Obj} (F : Fr h₀ L h' m) (N : News h₀ L h' (T :: nl)) (hl : AllLt T.1 nl) (r : R y T) : TurnU h₀ L m s₁ nl R y { s₁ with heap := h', toks := tk } := ⟨h', tk, T, rfl, F, N, ktn_ltOf hl, r⟩

theorem restU_inv {elt : Expr} {x : Str} {scope : Scope} {cl : List (Str × Addr)} {S : List (Addr × Obj) → Prop} {P : Nat → Value → Prop} {Fin : List Value → List (Addr × Obj) → Prop} {news : List (Addr × Obj)} {n : Nat} (R : Nat → List Value → List (Addr × Obj) → Prop) (hS : ∀ own, S (news ++ own))
    (turn : ∀ i v ys own I oI C oC D m₂ h tk (E' : Value → Shared → Prop), i < n → P i v → R i ys own → NsObj oC m₂ → m₂ x = some v → Fr h₀ L h m → News h₀ L h ((I, oI) :: (C, oC) :: (D, lst ys) :: (news ++ own)) → Off3 I C D (news ++ own) → ((@Ne Nat I C) ∧ (@Ne Nat I D) ∧ (@Ne Nat C D)) →
      wpAny (model prog w) A (eval elt (compEnvC scope cl C env)) (TurnU h₀ L m { s with heap := h, toks := tk } ((I, oI) :: (C, oC) :: (D, lst ys) :: (news ++ own)) (fun y T => R (i + 1) (ys ++ [y]) (T :: own))) E' { s with heap := h, toks := tk })
    (fin : ∀ ys own, R n ys own → Fin ys (news ++ own)) : ∀ k i ys own, k + i = n → R i ys own → CompRest prog w A h₀ L m env elt x scope cl s S P Fin k i ys (news ++ own) := by
  intro k
  induction k with
  | zero =>
    intro i ys own e r
    have e' : i = n := by omega
    subst e'
    exact fin ys own r
  | succ k ih =>
    intro i ys own e r
    refine CompRest.succ fun v I oI C oC D m₂ h tk E' hP hC hx F N off ne => ?_
    refine wpAny_mono (turn i v ys own I oI C oC D m₂ h tk E' (by omega) hP r hC hx F N off ne) (fun y s' hq => ?_) fun _ _ e => e
    obtain ⟨h', tk', T, rfl, F', N', hl, ry⟩ := hq
    have off3 := off.mem
    have mv : ∀ p ∈ news ++ T :: own, p = T ∨ p ∈ news ++ own := fun p hp => by
      rcases List.mem_append.mp hp with q | q
      · exact .inr (List.mem_append_left _ q)
      · rcases List.mem_cons.mp q with q | q
        · exact .inl q
        · exact .inr (List.mem_append_right _ q)
    refine ⟨h', tk', news ++ T :: own, rfl, F', fun p hp => N' p ?_, Off3.of fun p hp => ?_, hS _, ih (i + 1) (ys ++ [y]) (T :: own) (by omega) ry⟩
    · rcases List.mem_cons.mp hp with rfl | hp
      · exact .tail _ (.head _)
      · rcases List.mem_cons.mp hp with rfl | hp
        · exact .tail _ (.tail _ (.head _))
        · rcases List.mem_cons.mp hp with rfl | hp
          · exact .tail _ (.tail _ (.tail _ (.head _)))
          · rcases mv p hp with rfl | q
            · exact .head _
            · exact .tail _ (.tail _ (.tail _ (.tail _ q)))
    · rcases mv p hp with rfl | q
      · exact ⟨Ne.symm (Nat.ne_of_lt (hl (I, oI) (.head _))), Ne.symm (Nat.ne_of_lt (hl (C, oC) (.tail _ (.head _)))), Ne.symm (Nat.ne_of_lt (hl (D, lst ys) (.tail _ (.tail _ (.head _)))))⟩
      · exact off3 p q
theorem restU_inv0 {elt : Expr} {x : Str} {scope : Scope} {cl : List (Str × Addr)} {S : List (Addr × Obj) → Prop} {P : Nat → Value → Prop} {Fin : List Value → List (Addr × Obj) → Prop} {news : List (Addr × Obj)} {n : Nat} (R : Nat → List Value → List (Addr × Obj) → Prop) (hS : ∀ own, S (news ++ own)) (h0 : R 0 [] [])
    (turn : ∀ i v ys own I oI C oC D m₂ h tk (E' : Value → Shared → Prop), i < n → P i v → R i ys own → NsObj oC m₂ → m₂ x = some v → Fr h₀ L h m → News h₀ L h ((I, oI) :: (C, oC) :: (D, lst ys) :: (news ++ own)) → Off3 I C D (news ++ own) → ((@Ne Nat I C) ∧ (@Ne Nat I D) ∧ (@Ne Nat C D)) →
      wpAny (model prog w) A (eval elt (compEnvC scope cl C env)) (TurnU h₀ L m { s with heap := h, toks := tk } ((I, oI) :: (C, oC) :: (D, lst ys) :: (news ++ own)) (fun y T => R (i + 1) (ys ++ [y]) (T :: own))) E' { s with heap := h, toks := tk })
    (fin : ∀ ys own, R n ys own → Fin ys (news ++ own)) : CompRest prog w A h₀ L m env elt x scope cl s S P Fin n 0 [] news := by
  have q := restU_inv (prog := prog) (w := w) (A := A) (s := s) (h₀ := h₀) (L := L) (m := m) (env := env) (elt := elt) (x := x) (scope := scope) (cl := cl) R hS turn fin n 0 [] [] (Nat.add_zero _) h0
  rw [List.append_nil] at q
  exact q
theorem ne_nil_list {news n₁ : List (Addr × Obj)} {Q : Value → Shared → Prop} {a b : Addr} {xs : List Value} {ka kb : Nat} {ds : List Dat}
    (N : News h₀ L s.heap news) (ma : (a, listOf xs.toArray ka) ∈ news) (Da : DatAll n₁ xs ds) (sa : ∀ p ∈ n₁, p ∈ news) (mb : (b, listOf #[] kb) ∈ news)
    (ha : ∀ d ∈ ds, kqdOk 8 d = true) (hu : A.units + 64 < cLine) (hn : ds ≠ []) (h : Q (.bool true) s) : wpAny (model prog w) A (compareOp .NotEq (.ref a) (.ref b)) Q E s := by
  classical
  refine kqd_ne (ys := []) N ma rfl rfl Da sa mb rfl rfl (n₂ := []) .nil (fun _ h => nomatch h) ha (fun _ h => nomatch h) hu ?_
  rw [decide_eq_false hn]
  exact h
theorem notin_some {news n₁ n₂ : List (Addr × Obj)} {Q : Value → Shared → Prop} {a : Addr} {oa : Obj} {xs : List Value} {ka : Nat} {ds : List Dat} {x : Value} {d : Dat}
    (N : News h₀ L s.heap news) (ma : (a, oa) ∈ news) (ca : oa.cls = .type "list") (da : oa.data = .seq xs.toArray ka) (Da : DatAll n₁ xs ds) (sa : ∀ p ∈ n₁, p ∈ news)
    (Dx : DatIn n₂ x d) (sx : ∀ p ∈ n₂, p ∈ news) (ha : ∀ d ∈ ds, kqdOk 8 d = true) (hd : kqdOk 8 d = true) (hu : A.units + 64 < cLine) (hn : d ∈ ds) (h : Q (.bool false) s) : wpAny (model prog w) A (compareOp .NotIn x (.ref a)) Q E s := by
  classical
  refine kqd_notIn N ma ca da Da sa Dx sx ha hd hu ?_
  rw [decide_eq_true hn]
  exact h
end
noncomputable def freeTo (cls : List Cl3) (wd : Int) : Nat → List Int
  | 0 => []
  | i + 1 => freeTo cls wd i ++ (if Cl3.bv (i : Int) wd ∈ cls then [] else [(i : Int)])
theorem mem_free {cls : List Cl3} {wd : Int} {j : Int} : ∀ {n : Nat}, j ∈ freeTo cls wd n ↔ 0 ≤ j ∧ j < (n : Int) ∧ Cl3.bv j wd ∉ cls
  | 0 => by simp [freeTo]; omega
  | n + 1 => by
    unfold freeTo
    rw [List.mem_append, mem_free]
    by_cases h : Cl3.bv (n : Int) wd ∈ cls
    · rw [if_pos h]
      constructor
      · rintro (q | q)
        · exact ⟨q.1, by omega, q.2.2⟩
        · cases q
      · intro q
        by_cases e : j = (n : Int)
        · subst e; exact absurd h q.2.2
        · exact .inl ⟨q.1, by omega, q.2.2⟩
    · rw [if_neg h]
      constructor
      · rintro (q | q)
        · exact ⟨q.1, by omega, q.2.2⟩
        · rw [List.mem_singleton.mp q]; exact ⟨by omega, by omega, h⟩
      · intro q
        by_cases e : j = (n : Int)
        · exact .inr (by rw [e]; exact .head _)
        · exact .inl ⟨q.1, by omega, q.2.2⟩
theorem free_yes {cls : List Cl3} {wd : Int} {i : Nat} {ys : List Value} {t : Tok} {v : Int} (e : v = (i : Int)) (h : Cl3.bv (i : Int) wd ∉ cls) (r : IntsAre ys (freeTo cls wd i)) : IntsAre (ys ++ [.int v t]) (freeTo cls wd (i + 1)) := by
  subst e
  unfold freeTo
  rw [if_neg h]
  exact r.append (.cons _ _ .nil)
theorem free_no {cls : List Cl3} {wd : Int} {i : Nat} {ys : List Value} (h : Cl3.bv (i : Int) wd ∈ cls) (r : IntsAre ys (freeTo cls wd i)) : IntsAre ys (freeTo cls wd (i + 1)) := by
  unfold freeTo
  rw [if_pos h, List.append_nil]
  exact r
theorem free_len {cls : List Cl3} {wd : Int} : ∀ {n : Nat}, (freeTo cls wd n).length ≤ n
  | 0 => Nat.le_refl _
  | n + 1 => by
    unfold freeTo
    rw [List.length_append]
    have := @free_len cls wd n
    split <;> simp <;> omega
def rows (wd : Int) (fs : List Int) : List Dat := fs.map fun j => (Cl3.bv j wd).dat
theorem rows_ok {wd : Int} {fs : List Int} : ∀ d ∈ rows wd fs, kqdOk 8 d = true := fun d hd => by
  obtain ⟨c, _, rfl⟩ := List.mem_map.mp hd
  exact Cl3.ok _
theorem rows_mem {wd j : Int} {fs : List Int} (h : j ∈ fs) : (Cl3.bv j wd).dat ∈ rows wd fs := List.mem_map.mpr ⟨j, h, rfl⟩
theorem rows_take {wd j : Int} {fs : List Int} {i : Nat} (h : fs[i]? = some j) : rows wd (fs.take (i + 1)) = rows wd (fs.take i) ++ [(Cl3.bv j wd).dat] := by
  rw [take_snoc h]; simp [rows]
theorem dat_snoc {news : List (Addr × Obj)} {v : Value} {d : Dat} (h : DatIn news v d) : ∀ {vs : List Value} {ds : List Dat}, DatAll news vs ds → DatAll news (vs ++ [v]) (ds ++ [d])
  | _, _, .nil => .cons h .nil
  | _, _, .cons q r => .cons q (dat_snoc h r)
theorem rows_more {wd j x e : Int} {fs : List Int} {i D n : Nat} {ys : List Value} {own : List (Addr × Obj)} {t t' t'' : Tok} (h : fs[i]? = some j) (hx : x = j) (he : e = wd) (r : DatAll own ys (rows wd (fs.take i))) :
    DatAll ((D, tupOf [Value.str (Str.ofString "bv") t, .int x t', .int e t''].toArray n) :: own) (ys ++ [.ref D]) (rows wd (fs.take (i + 1))) := by
  rw [rows_take h]
  refine dat_snoc ?_ (r.mono fun _ h => .tail _ h)
  exact Cl3.Is.datIn (c := .bv j wd) ⟨t, t', t'', by rw [hx, he]⟩ (.head _)
theorem found_free {cls : List Cl3} {wd r : Int} {n : Nat} (hn : (2 : Int) ^ wd.toNat = n) (h : BitsOk cls wd r) (hf : freeTo cls wd n ≠ []) : r ∈ freeTo cls wd n := by
  obtain ⟨j, hj⟩ := List.exists_mem_of_ne_nil _ hf
  obtain ⟨a, b, c⟩ := mem_free.mp hj
  exact mem_free.mpr ⟨h.1, by rw [← hn]; exact h.2.1, h.2.2 ⟨j, a, by rw [hn]; exact b, c⟩⟩
def upTo (n : Nat) : List Int := (List.range n).map Int.ofNat
theorem upTo_get {n i : Nat} (h : i < n) : (upTo n)[i]? = some (i : Int) := by simp [upTo, h]
theorem mem_upTo {n : Nat} {r : Int} (h0 : 0 ≤ r) (h1 : r < (n : Int)) : r ∈ upTo n := List.mem_map.mpr ⟨r.toNat, List.mem_range.mpr (by omega), by show (r.toNat : Int) = r; omega⟩
theorem ints_ok {fs : List Int} : ∀ d ∈ fs.map Dat.int, kqdOk 8 d = true := fun d hd => by
  obtain ⟨c, _, rfl⟩ := List.mem_map.mp hd
  rfl
theorem mem_dats {c : Cl3} {cls : List Cl3} : c.dat ∈ cls.map Cl3.dat ↔ c ∈ cls := by
  constructor
  · intro h
    obtain ⟨c', hc, e⟩ := List.mem_map.mp h
    exact Cl3.dat_inj e ▸ hc
  · exact fun h => List.mem_map.mpr ⟨c, h, rfl⟩
end Mine
end
section
open PySem PySem.W PyProof.Rows PySem.Calls
set_option Elab.async false
namespace Mine
local macro_rules | `(tactic| walk_at "execs cons") => `(tactic| (k_here; refine Mine.toks_cons ?_; intro tk'; (try dsimp only); (try k_fold)))
local macro_rules | `(tactic| k_all) => `(tactic| first | exact allNe3 (by assumption) | exact allNe1 (by assumption))
local macro_rules | `(tactic| walk_at "subscriptTail") => `(tactic| (k_here; (with_reducible show wpAny _ _ (subscriptTail _ _ (Value.ref _) (Value.int _ _)) _ _ _); k_dflt (refine' item_tupleT ?t ?a ?b ?c ?d ?_; (case t => exact News.isTup (by k_asm) (by (repeat (refine List.Mem.tail _ ?_)); assumption)); (case a => decide); (case b => decide); (case c => rfl); (case d => rfl); k_whole)))
local macro_rules | `(tactic| k_units) => `(tactic| first | exact Nat.le_of_ble_eq_true rfl | ((have hcL9 := cLine_is); (try simp only [units_in1, units_deeper, Around.mark_units, units_caller] at *); (try dsimp only [ktrTop] at *); omega))
local macro_rules | `(tactic| k_room) => `(tactic| ktr_room)
local macro_rules | `(tactic| walk_at "eval ListComp") => `(tactic| (k_here; refine Mine.Stop.out ?_))
local macro_rules | `(tactic| walk_at "call builtin:len") => `(tactic| (k_here; refine Mine.Stp.out (n := 11) ?_))
local macro_rules | `(tactic| walk_at "exec Assign cons ListComp") => `(tactic| (k_here; refine Mine.Stop.out ?_))
local macro_rules | `(tactic| walk_at "CompSrcT") => `(tactic| (refine Mine.Stop.out ?_))
local macro_rules | `(tactic| walk_at "CompSrc") => `(tactic| (refine Mine.Stop.out ?_))
local macro_rules | `(tactic| walk_at "compareOp NotIn ref ref") => `(tactic| (k_here; refine Mine.Stp.out (n := 14) ?_))
local macro_rules | `(tactic| walk_at "compareOp In ref ref") => `(tactic| (k_here; refine Mine.Stp.out (n := 15) ?_))
local macro_rules | `(tactic| walk_at "compareOp NotEq ref ref") => `(tactic| (k_here; k_dflt (refine' ne_nil_list ?N ?a ?d ?e ?b ?l ?n ?k ?_; (case N => k_asm); (case a => k_mem); (case d => with_reducible assumption); (case e => exact fun _ h => nomatch h); (case b => k_mem); (case l => exact ints_ok); (case n => ktr_units); (case k => with_reducible assumption))))
theorem free_size {ys : List Value} {l n : Nat} (h : ys.length = l) (h2 : l ≤ n) (h3 : n ≤ 8) : ys.toArray.size ≤ sizeLine := le_size (by simp only [List.size_toArray]; omega)
set_option maxRecDepth 100000 in
set_option maxHeartbeats 2000000 in
theorem right_bits {w : World} {p : Program} {loose : List Str} {mean : ExcName → Option Value} {mg mb : Str → Option Value} {dp un : Nat} {gd : Option (List Code)} {cn : Str} {cs : Scope} {a : Addr} {ccd : Value} {cl : List (Str × Addr)} {outer : List Env} {A₀ : Around} {base h₀ : Heap} {L : Addr} {m : Str → Option Value} {s : Shared} {Q E : Value → Shared → Prop}
    {bx bd wl D lc tc nD c1 c2 nl bv n2 : Nat} {rest : List (Addr × Obj)} {k r wd : Int} {tk tx ty tz : Tok} {cvs tvs : List Value} {cls : List Cl3}
    {bk : Bk} {q : Nat → Tok}
    (B : Below A₀ base outer h₀) (F : Fr h₀ L s.heap m) (X : (K w.params).In h₀) (T : Top p loose mean mg mb h₀) (hk : cs.kind = .function)
    (N : News h₀ L s.heap ((bx, instObj 782 bd) :: (bd, dictOf (bankEs bk nl wl bv) 14) ::
      (wl, listOf (wlL q).toArray n2) :: (lc, listOf cvs.toArray c1) :: (tc, listOf tvs.toArray c2) :: rest))
    (off : OwnOff rest [bx, bd, wl, lc, tc]) (hne : bd < bx ∧ bx < wl ∧ wl < tc ∧ tc < lc) (hD : (D, tupOf #[Value.str (Str.ofString "bv") tx, .int r ty, .int wd tz] nD) ∈ rest) (hs : (k = 3 ∧ wd = 1) ∨ (k = 4 ∧ wd = 2) ∨ (k = 5 ∧ wd = 3)) (hcl : ClAll rest cvs cls) (hl1 : cvs.length ≤ 500)
    (hr : BitsOk cls wd r)
    (hd : dp + 6 < recursionLimit) (hu : un + 200 < cLine)
    (ret : ∀ h' tk, Fr h₀ L h' m → News h₀ L h' ((bx, instObj 782 bd) :: (bd, dictOf (bankEs bk nl wl bv) 14) ::
      (wl, listOf (wlL q).toArray n2) :: (lc, listOf cvs.toArray c1) :: (tc, listOf tvs.toArray c2) :: rest) → Q (.bool true) { s with heap := h', toks := tk }) :
    wpAny (model PySem.Challenge.rw_rg0220_01.row.prog w) (ktrTop dp un gd cn cs L a ccd cl outer) (call (.ref 1008) [.ref bx, .int k tk, .ref D, .ref lc, .ref tc]) Q E s := by
  obtain ⟨a1, a2, a3, a4⟩ := hne
  w_on
  revert X
  k_fill
  intro X
  refine wpAny_call ?_
  obtain ⟨n9, hn9⟩ : ∃ n9 : Nat, (n9 : Int) = 2 ^ wd.toNat := ⟨2 ^ wd.toNat, by simp⟩
  obtain ⟨wd9, hw9⟩ : ∃ wd9, wd9 = wd := ⟨_, rfl⟩
  have hn10 : n9 ≤ 8 := by rcases hs with ⟨_, rfl⟩ | ⟨_, rfl⟩ | ⟨_, rfl⟩ <;> simp at hn9 <;> omega
  have dC' : DatAll rest cvs (cls.map Cl3.dat) := hcl.datAll
  rcases hs with ⟨rfl, rfl⟩ | ⟨rfl, rfl⟩ | ⟨rfl, rfl⟩
  all_goals
    w_strict (k_dflt (refine' code_defC ?zzk1 ?zzk2 ?zzk3 ?zzk4 ?zzk5 ?zzkA ?zzkF ?zzkK ?zzk6 ?zzk7 ?zzk8 ?zzk9 ?zzkB ?zzkD ?_ ?zzc2 ?zzc3 ?zzc4; (case zzkA => exact rfl); (case zzkF => exact rfl); (case zzkK => assumption); (case zzk1 => k_asm); (case zzk2 => k_asm); (case zzk3 => k_asm); (case zzk4 => k_asm); (case zzk5 => k_asm); (case zzk6 => k_is); (case zzk7 => k_is); (case zzk8 => first | exact Mine.rm0 (by assumption) | k_room); (case zzk9 => exact BindsTo.of_eq rfl); (case zzkB => exact rfl); (case zzkD => decide +kernel); (case zzc2 => exact rfl); (case zzc3 => exact rfl); (case zzc4 => exact rfl); k_whole; intro zqg' zqL' zqh' zqtk' zqcells' zqFG' zqF' zqN' zqY' zqB' zqX' zqT' zql1; (try k_lt zql1); (have lR' := zql1); (repeat (replace lR' := And.right lR')); k_cells zqY'; (try simp only [List.cons_append, List.nil_append] at zqN'); (try dsimp only); (try k_fold)); repeat' (first | (with_reducible refine Mine.Stp.mk (n := 11) ?_; k_dflt (refine' Mine.len_lst (by k_asm) (by k_mem) (by assumption) ?_)) | (with_reducible refine Mine.Stp.mk (n := 14) ?_; k_dflt (first | (refine' notin_none (by k_asm) (by k_mem) (by rfl) (by rfl) (by with_reducible assumption) (by (intro zqp zqhp; (repeat (refine List.Mem.tail _ ?_)); assumption)) (by exact Cl3.Is.datIn (c := .bv _ _) ⟨_, _, _, rfl⟩ (by k_mem)) (fun _ h => h) (by exact dats_ok) (by exact Cl3.ok _) (by first | exact Mine.unX (by assumption) rfl | ktr_units) (by with_reducible assumption) ?_) | (refine' notin_some (by k_asm) (by k_mem) (by rfl) (by rfl) (by with_reducible assumption) (by (intro zqp zqhp; (repeat (refine List.Mem.tail _ ?_)); assumption)) (by exact Cl3.Is.datIn (c := .bv _ _) ⟨_, _, _, rfl⟩ (by k_mem)) (fun _ h => h) (by exact dats_ok) (by exact Cl3.ok _) (by first | exact Mine.unX (by assumption) rfl | ktr_units) (by with_reducible assumption) ?_))) | (with_reducible refine Mine.Stp.mk (n := 15) ?_; k_dflt (refine' isin_some (by k_asm) (by k_mem) (by rfl) (by rfl) (by with_reducible assumption) (by (intro zqp zqhp; (repeat (refine List.Mem.tail _ ?_)); exact List.mem_append_right _ zqhp)) (by with_reducible assumption) (by (intro zqp zqhp; (repeat (refine List.Mem.tail _ ?_)); exact List.mem_append_left _ zqhp)) (by exact rows_ok) (by exact Cl3.ok _) (by first | exact Mine.unX (by assumption) rfl | ktr_units) (by with_reducible assumption) ?_)) | (k_unfold; (try dsimp only)) | (k_end; wrow_close) | walk1 | (dsimp only; walk1) | (leave1; (try dsimp only)) | fail "no step"))
    refine Stop.mk ?_
    k_dflt (refine LCt.Assign_ListComp_T (F₀ := by k_asm) (by rfl) (by with_unfolding_all rfl) (by with_unfolding_all rfl) (by decide) (by rfl) (by decide) (by rfl) (by rfl) (by rfl) ?_)
    w_strict (repeat' (first | (with_reducible refine Mine.Stp.mk (n := 11) ?_; k_dflt (refine' Mine.len_lst (by k_asm) (by k_mem) (by assumption) ?_)) | (with_reducible refine Mine.Stp.mk (n := 14) ?_; k_dflt (first | (refine' notin_none (by k_asm) (by k_mem) (by rfl) (by rfl) (by with_reducible assumption) (by (intro zqp zqhp; (repeat (refine List.Mem.tail _ ?_)); assumption)) (by exact Cl3.Is.datIn (c := .bv _ _) ⟨_, _, _, rfl⟩ (by k_mem)) (fun _ h => h) (by exact dats_ok) (by exact Cl3.ok _) (by first | exact Mine.unX (by assumption) rfl | ktr_units) (by with_reducible assumption) ?_) | (refine' notin_some (by k_asm) (by k_mem) (by rfl) (by rfl) (by with_reducible assumption) (by (intro zqp zqhp; (repeat (refine List.Mem.tail _ ?_)); assumption)) (by exact Cl3.Is.datIn (c := .bv _ _) ⟨_, _, _, rfl⟩ (by k_mem)) (fun _ h => h) (by exact dats_ok) (by exact Cl3.ok _) (by first | exact Mine.unX (by assumption) rfl | ktr_units) (by with_reducible assumption) ?_))) | (with_reducible refine Mine.Stp.mk (n := 15) ?_; k_dflt (refine' isin_some (by k_asm) (by k_mem) (by rfl) (by rfl) (by with_reducible assumption) (by (intro zqp zqhp; (repeat (refine List.Mem.tail _ ?_)); exact List.mem_append_right _ zqhp)) (by with_reducible assumption) (by (intro zqp zqhp; (repeat (refine List.Mem.tail _ ?_)); exact List.mem_append_left _ zqhp)) (by exact rows_ok) (by exact Cl3.ok _) (by first | exact Mine.unX (by assumption) rfl | ktr_units) (by with_reducible assumption) ?_)) | (k_unfold; (try dsimp only)) | (k_end; wrow_close) | walk1 | (dsimp only; walk1) | (leave1; (try dsimp only)) | fail "no step"))
    refine Stop.mk ?_
    k_dflt (refine LCt.CompSrcT.range (n := n9) (by rfl) (by k_asm) (by k_asm) (by assumption) (by first | decide | rfl) (by rw [hn9]; decide) (le_size (Nat.le_trans hn10 (by decide))) ?_)
    intro g9
    refine restT_inv (n := n9) (fun i ys => IntsAre ys (freeTo cls wd9 i)) trivial ?turn ?fin _ 0 [] (Nat.add_zero _) .nil
    case turn =>
      intro i v ys I' oI' C' oC' D' m' h' tk' E' hi' hP' hR' hC' hx' F' N' off' ne'
      try k_fold
      obtain ⟨t9, rfl⟩ := hP'
      rw [show (0 : Int) + (i : Int) = i from Int.zero_add _] at hx'
      by_cases hm : Cl3.bv (i : Int) wd9 ∈ cls
      · have hm9 := mem_dats.mpr hm
        subst hw9
        w_strict (repeat' (first | (with_reducible refine Mine.Stp.mk (n := 11) ?_; k_dflt (refine' Mine.len_lst (by k_asm) (by k_mem) (by assumption) ?_)) | (with_reducible refine Mine.Stp.mk (n := 14) ?_; k_dflt (first | (refine' notin_none (by k_asm) (by k_mem) (by rfl) (by rfl) (by with_reducible assumption) (by (intro zqp zqhp; (repeat (refine List.Mem.tail _ ?_)); assumption)) (by exact Cl3.Is.datIn (c := .bv _ _) ⟨_, _, _, rfl⟩ (by k_mem)) (fun _ h => h) (by exact dats_ok) (by exact Cl3.ok _) (by first | exact Mine.unX (by assumption) rfl | ktr_units) (by with_reducible assumption) ?_) | (refine' notin_some (by k_asm) (by k_mem) (by rfl) (by rfl) (by with_reducible assumption) (by (intro zqp zqhp; (repeat (refine List.Mem.tail _ ?_)); assumption)) (by exact Cl3.Is.datIn (c := .bv _ _) ⟨_, _, _, rfl⟩ (by k_mem)) (fun _ h => h) (by exact dats_ok) (by exact Cl3.ok _) (by first | exact Mine.unX (by assumption) rfl | ktr_units) (by with_reducible assumption) ?_))) | (with_reducible refine Mine.Stp.mk (n := 15) ?_; k_dflt (refine' isin_some (by k_asm) (by k_mem) (by rfl) (by rfl) (by with_reducible assumption) (by (intro zqp zqhp; (repeat (refine List.Mem.tail _ ?_)); exact List.mem_append_right _ zqhp)) (by with_reducible assumption) (by (intro zqp zqhp; (repeat (refine List.Mem.tail _ ?_)); exact List.mem_append_left _ zqhp)) (by exact rows_ok) (by exact Cl3.ok _) (by first | exact Mine.unX (by assumption) rfl | ktr_units) (by with_reducible assumption) ?_)) | (k_unfold; (try dsimp only)) | (k_end; wrow_close) | walk1 | (dsimp only; walk1) | (leave1; (try dsimp only)) | fail "no step"))
        refine TurnN.intro (by k_asm) (by k_asm) (by first | exact fun _ h => h | exact fun _ h => List.Mem.tail _ h) ?_
        exact free_no hm hR'
      · have hm9 := fun h => hm (mem_dats.mp h)
        subst hw9
        w_strict (repeat' (first | (with_reducible refine Mine.Stp.mk (n := 11) ?_; k_dflt (refine' Mine.len_lst (by k_asm) (by k_mem) (by assumption) ?_)) | (with_reducible refine Mine.Stp.mk (n := 14) ?_; k_dflt (first | (refine' notin_none (by k_asm) (by k_mem) (by rfl) (by rfl) (by with_reducible assumption) (by (intro zqp zqhp; (repeat (refine List.Mem.tail _ ?_)); assumption)) (by exact Cl3.Is.datIn (c := .bv _ _) ⟨_, _, _, rfl⟩ (by k_mem)) (fun _ h => h) (by exact dats_ok) (by exact Cl3.ok _) (by first | exact Mine.unX (by assumption) rfl | ktr_units) (by with_reducible assumption) ?_) | (refine' notin_some (by k_asm) (by k_mem) (by rfl) (by rfl) (by with_reducible assumption) (by (intro zqp zqhp; (repeat (refine List.Mem.tail _ ?_)); assumption)) (by exact Cl3.Is.datIn (c := .bv _ _) ⟨_, _, _, rfl⟩ (by k_mem)) (fun _ h => h) (by exact dats_ok) (by exact Cl3.ok _) (by first | exact Mine.unX (by assumption) rfl | ktr_units) (by with_reducible assumption) ?_))) | (with_reducible refine Mine.Stp.mk (n := 15) ?_; k_dflt (refine' isin_some (by k_asm) (by k_mem) (by rfl) (by rfl) (by with_reducible assumption) (by (intro zqp zqhp; (repeat (refine List.Mem.tail _ ?_)); exact List.mem_append_right _ zqhp)) (by with_reducible assumption) (by (intro zqp zqhp; (repeat (refine List.Mem.tail _ ?_)); exact List.mem_append_left _ zqhp)) (by exact rows_ok) (by exact Cl3.ok _) (by first | exact Mine.unX (by assumption) rfl | ktr_units) (by with_reducible assumption) ?_)) | (k_unfold; (try dsimp only)) | (k_end; wrow_close) | walk1 | (dsimp only; walk1) | (leave1; (try dsimp only)) | fail "no step"))
        refine TurnY.intro (by k_asm) (by k_asm) (by first | exact fun _ h => h | exact fun _ h => List.Mem.tail _ h) ?_
        exact free_yes rfl hm hR'
    case fin =>
      intro ys' hR' D' h' tk' F' N' off'
      try k_fold
      simp only [LCg.Off1] at off'
      replace hR' : IntsAre ys' (freeTo cls wd9 n9) := hR'
      have fl' := @free_len cls wd9 n9
      have yl' := IntsAre.length hR'
      have dF' : DatIn rest (.ref D) (Cl3.bv r wd9).dat := Cl3.Is.datIn ⟨_, _, _, by rw [hw9]⟩ hD
      by_cases hf : freeTo cls wd9 n9 = []
      · rw [hf] at hR'
        cases hR'
        have mF' : (Cl3.bv r wd9).dat ∈ rows wd9 (upTo n9) := rows_mem (mem_upTo hr.1 (by rw [hn9]; exact hr.2.1))
        w_strict (repeat' (first | (with_reducible refine Mine.Stp.mk (n := 11) ?_; k_dflt (refine' Mine.len_lst (by k_asm) (by k_mem) (by assumption) ?_)) | (with_reducible refine Mine.Stp.mk (n := 14) ?_; k_dflt (first | (refine' notin_none (by k_asm) (by k_mem) (by rfl) (by rfl) (by with_reducible assumption) (by (intro zqp zqhp; (repeat (refine List.Mem.tail _ ?_)); assumption)) (by exact Cl3.Is.datIn (c := .bv _ _) ⟨_, _, _, rfl⟩ (by k_mem)) (fun _ h => h) (by exact dats_ok) (by exact Cl3.ok _) (by first | exact Mine.unX (by assumption) rfl | ktr_units) (by with_reducible assumption) ?_) | (refine' notin_some (by k_asm) (by k_mem) (by rfl) (by rfl) (by with_reducible assumption) (by (intro zqp zqhp; (repeat (refine List.Mem.tail _ ?_)); assumption)) (by exact Cl3.Is.datIn (c := .bv _ _) ⟨_, _, _, rfl⟩ (by k_mem)) (fun _ h => h) (by exact dats_ok) (by exact Cl3.ok _) (by first | exact Mine.unX (by assumption) rfl | ktr_units) (by with_reducible assumption) ?_))) | (with_reducible refine Mine.Stp.mk (n := 15) ?_; k_dflt (refine' isin_some (by k_asm) (by k_mem) (by rfl) (by rfl) (by with_reducible assumption) (by (intro zqp zqhp; (repeat (refine List.Mem.tail _ ?_)); exact List.mem_append_right _ zqhp)) (by with_reducible assumption) (by (intro zqp zqhp; (repeat (refine List.Mem.tail _ ?_)); exact List.mem_append_left _ zqhp)) (by exact rows_ok) (by exact Cl3.ok _) (by first | exact Mine.unX (by assumption) rfl | ktr_units) (by with_reducible assumption) ?_)) | (k_unfold; (try dsimp only)) | (k_end; wrow_close) | walk1 | (dsimp only; walk1) | (leave1; (try dsimp only)) | fail "no step"))
        refine Stop.mk ?_
        k_dflt (refine LCg.ListComp_U (F₀ := by k_asm) (by with_unfolding_all rfl) (by decide) (by rfl) (by decide) (by rfl) ?_)
        w_strict (repeat' (first | (with_reducible refine Mine.Stp.mk (n := 11) ?_; k_dflt (refine' Mine.len_lst (by k_asm) (by k_mem) (by assumption) ?_)) | (with_reducible refine Mine.Stp.mk (n := 14) ?_; k_dflt (first | (refine' notin_none (by k_asm) (by k_mem) (by rfl) (by rfl) (by with_reducible assumption) (by (intro zqp zqhp; (repeat (refine List.Mem.tail _ ?_)); assumption)) (by exact Cl3.Is.datIn (c := .bv _ _) ⟨_, _, _, rfl⟩ (by k_mem)) (fun _ h => h) (by exact dats_ok) (by exact Cl3.ok _) (by first | exact Mine.unX (by assumption) rfl | ktr_units) (by with_reducible assumption) ?_) | (refine' notin_some (by k_asm) (by k_mem) (by rfl) (by rfl) (by with_reducible assumption) (by (intro zqp zqhp; (repeat (refine List.Mem.tail _ ?_)); assumption)) (by exact Cl3.Is.datIn (c := .bv _ _) ⟨_, _, _, rfl⟩ (by k_mem)) (fun _ h => h) (by exact dats_ok) (by exact Cl3.ok _) (by first | exact Mine.unX (by assumption) rfl | ktr_units) (by with_reducible assumption) ?_))) | (with_reducible refine Mine.Stp.mk (n := 15) ?_; k_dflt (refine' isin_some (by k_asm) (by k_mem) (by rfl) (by rfl) (by with_reducible assumption) (by (intro zqp zqhp; (repeat (refine List.Mem.tail _ ?_)); exact List.mem_append_right _ zqhp)) (by with_reducible assumption) (by (intro zqp zqhp; (repeat (refine List.Mem.tail _ ?_)); exact List.mem_append_left _ zqhp)) (by exact rows_ok) (by exact Cl3.ok _) (by first | exact Mine.unX (by assumption) rfl | ktr_units) (by with_reducible assumption) ?_)) | (k_unfold; (try dsimp only)) | (k_end; wrow_close) | walk1 | (dsimp only; walk1) | (leave1; (try dsimp only)) | fail "no step"))
        refine Stop.mk ?_
        k_dflt (refine LCg.CompSrc.range (n := n9) (by rfl) (by k_asm) (by k_asm) (by assumption) (by first | decide | rfl) (by rw [hn9]; decide) (le_size (Nat.le_trans hn10 (by decide))) ?_)
        intro g9
        refine restU_inv0 (fun i ys own => DatAll own ys (rows wd9 ((upTo n9).take i))) (fun _ => trivial) .nil ?turn3 ?fin3
        case turn3 =>
          intro i v ys own I' oI' C' oC' D' m' h' tk' E' hi' hP' hR2' hC' hx' F' N' off' ne'
          try k_fold
          simp only [List.cons_append] at N'
          obtain ⟨t9, rfl⟩ := hP'
          w_strict (repeat' (first | (with_reducible refine Mine.Stp.mk (n := 11) ?_; k_dflt (refine' Mine.len_lst (by k_asm) (by k_mem) (by assumption) ?_)) | (with_reducible refine Mine.Stp.mk (n := 14) ?_; k_dflt (first | (refine' notin_none (by k_asm) (by k_mem) (by rfl) (by rfl) (by with_reducible assumption) (by (intro zqp zqhp; (repeat (refine List.Mem.tail _ ?_)); assumption)) (by exact Cl3.Is.datIn (c := .bv _ _) ⟨_, _, _, rfl⟩ (by k_mem)) (fun _ h => h) (by exact dats_ok) (by exact Cl3.ok _) (by first | exact Mine.unX (by assumption) rfl | ktr_units) (by with_reducible assumption) ?_) | (refine' notin_some (by k_asm) (by k_mem) (by rfl) (by rfl) (by with_reducible assumption) (by (intro zqp zqhp; (repeat (refine List.Mem.tail _ ?_)); assumption)) (by exact Cl3.Is.datIn (c := .bv _ _) ⟨_, _, _, rfl⟩ (by k_mem)) (fun _ h => h) (by exact dats_ok) (by exact Cl3.ok _) (by first | exact Mine.unX (by assumption) rfl | ktr_units) (by with_reducible assumption) ?_))) | (with_reducible refine Mine.Stp.mk (n := 15) ?_; k_dflt (refine' isin_some (by k_asm) (by k_mem) (by rfl) (by rfl) (by with_reducible assumption) (by (intro zqp zqhp; (repeat (refine List.Mem.tail _ ?_)); exact List.mem_append_right _ zqhp)) (by with_reducible assumption) (by (intro zqp zqhp; (repeat (refine List.Mem.tail _ ?_)); exact List.mem_append_left _ zqhp)) (by exact rows_ok) (by exact Cl3.ok _) (by first | exact Mine.unX (by assumption) rfl | ktr_units) (by with_reducible assumption) ?_)) | (k_unfold; (try dsimp only)) | (k_end; wrow_close) | walk1 | (dsimp only; walk1) | (leave1; (try dsimp only)) | fail "no step"))
          with_reducible rename _ ∧ _ => l9
          refine TurnU.intro (T := (_, _)) (by k_asm) (by k_asm) l9 ?_
          exact rows_more (upTo_get hi') (Int.zero_add _) hw9.symm hR2'
        case fin3 =>
          intro ys2' own2 hR2' D' h' tk' F' N' off'
          try k_fold
          simp only [List.cons_append] at N'
          have dR' : DatAll own2 ys2' (rows wd9 (upTo n9)) := by
            have q : DatAll own2 ys2' (rows wd9 ((upTo n9).take n9)) := hR2'
            rwa [List.take_of_length_le (by simp [upTo])] at q
          w_strict (repeat' (first | (with_reducible refine Mine.Stp.mk (n := 11) ?_; k_dflt (refine' Mine.len_lst (by k_asm) (by k_mem) (by assumption) ?_)) | (with_reducible refine Mine.Stp.mk (n := 14) ?_; k_dflt (first | (refine' notin_none (by k_asm) (by k_mem) (by rfl) (by rfl) (by with_reducible assumption) (by (intro zqp zqhp; (repeat (refine List.Mem.tail _ ?_)); assumption)) (by exact Cl3.Is.datIn (c := .bv _ _) ⟨_, _, _, rfl⟩ (by k_mem)) (fun _ h => h) (by exact dats_ok) (by exact Cl3.ok _) (by first | exact Mine.unX (by assumption) rfl | ktr_units) (by with_reducible assumption) ?_) | (refine' notin_some (by k_asm) (by k_mem) (by rfl) (by rfl) (by with_reducible assumption) (by (intro zqp zqhp; (repeat (refine List.Mem.tail _ ?_)); assumption)) (by exact Cl3.Is.datIn (c := .bv _ _) ⟨_, _, _, rfl⟩ (by k_mem)) (fun _ h => h) (by exact dats_ok) (by exact Cl3.ok _) (by first | exact Mine.unX (by assumption) rfl | ktr_units) (by with_reducible assumption) ?_))) | (with_reducible refine Mine.Stp.mk (n := 15) ?_; k_dflt (refine' isin_some (by k_asm) (by k_mem) (by rfl) (by rfl) (by with_reducible assumption) (by (intro zqp zqhp; (repeat (refine List.Mem.tail _ ?_)); exact List.mem_append_right _ zqhp)) (by with_reducible assumption) (by (intro zqp zqhp; (repeat (refine List.Mem.tail _ ?_)); exact List.mem_append_left _ zqhp)) (by exact rows_ok) (by exact Cl3.ok _) (by first | exact Mine.unX (by assumption) rfl | ktr_units) (by with_reducible assumption) ?_)) | (k_unfold; (try dsimp only)) | (k_end; wrow_close) | walk1 | (dsimp only; walk1) | (leave1; (try dsimp only)) | fail "no step"))
          with_reducible rename Fr h₀ _ _ _ => kF9
          with_reducible rename News h₀ _ _ _ => kN9
          exact ret _ _ kF9 (fun p hp => kN9 p (by repeat (first | exact List.mem_append_left _ hp | refine List.Mem.tail _ ?_)))
      · have nF' : (freeTo cls wd9 n9).map Dat.int ≠ [] := fun e => hf (List.map_eq_nil_iff.mp e)
        have dL' : DatAll [] ys' ((freeTo cls wd9 n9).map Dat.int) := IntsAre.datAll hR'
        have mF' : (Cl3.bv r wd9).dat ∈ rows wd9 (freeTo cls wd9 n9) := rows_mem (found_free (by rw [hw9]; exact hn9.symm) (by rw [hw9]; exact hr) hf)
        w_strict (repeat' (first | (with_reducible refine Mine.Stp.mk (n := 11) ?_; k_dflt (refine' Mine.len_lst (by k_asm) (by k_mem) (by assumption) ?_)) | (with_reducible refine Mine.Stp.mk (n := 14) ?_; k_dflt (first | (refine' notin_none (by k_asm) (by k_mem) (by rfl) (by rfl) (by with_reducible assumption) (by (intro zqp zqhp; (repeat (refine List.Mem.tail _ ?_)); assumption)) (by exact Cl3.Is.datIn (c := .bv _ _) ⟨_, _, _, rfl⟩ (by k_mem)) (fun _ h => h) (by exact dats_ok) (by exact Cl3.ok _) (by first | exact Mine.unX (by assumption) rfl | ktr_units) (by with_reducible assumption) ?_) | (refine' notin_some (by k_asm) (by k_mem) (by rfl) (by rfl) (by with_reducible assumption) (by (intro zqp zqhp; (repeat (refine List.Mem.tail _ ?_)); assumption)) (by exact Cl3.Is.datIn (c := .bv _ _) ⟨_, _, _, rfl⟩ (by k_mem)) (fun _ h => h) (by exact dats_ok) (by exact Cl3.ok _) (by first | exact Mine.unX (by assumption) rfl | ktr_units) (by with_reducible assumption) ?_))) | (with_reducible refine Mine.Stp.mk (n := 15) ?_; k_dflt (refine' isin_some (by k_asm) (by k_mem) (by rfl) (by rfl) (by with_reducible assumption) (by (intro zqp zqhp; (repeat (refine List.Mem.tail _ ?_)); exact List.mem_append_right _ zqhp)) (by with_reducible assumption) (by (intro zqp zqhp; (repeat (refine List.Mem.tail _ ?_)); exact List.mem_append_left _ zqhp)) (by exact rows_ok) (by exact Cl3.ok _) (by first | exact Mine.unX (by assumption) rfl | ktr_units) (by with_reducible assumption) ?_)) | (k_unfold; (try dsimp only)) | (k_end; wrow_close) | walk1 | (dsimp only; walk1) | (leave1; (try dsimp only)) | fail "no step"))
        refine Stop.mk ?_
        k_dflt (refine LCg.ListComp_U (F₀ := by k_asm) (by with_unfolding_all rfl) (by decide) (by rfl) (by decide) (by rfl) ?_)
        w_strict (repeat' (first | (with_reducible refine Mine.Stp.mk (n := 11) ?_; k_dflt (refine' Mine.len_lst (by k_asm) (by k_mem) (by assumption) ?_)) | (with_reducible refine Mine.Stp.mk (n := 14) ?_; k_dflt (first | (refine' notin_none (by k_asm) (by k_mem) (by rfl) (by rfl) (by with_reducible assumption) (by (intro zqp zqhp; (repeat (refine List.Mem.tail _ ?_)); assumption)) (by exact Cl3.Is.datIn (c := .bv _ _) ⟨_, _, _, rfl⟩ (by k_mem)) (fun _ h => h) (by exact dats_ok) (by exact Cl3.ok _) (by first | exact Mine.unX (by assumption) rfl | ktr_units) (by with_reducible assumption) ?_) | (refine' notin_some (by k_asm) (by k_mem) (by rfl) (by rfl) (by with_reducible assumption) (by (intro zqp zqhp; (repeat (refine List.Mem.tail _ ?_)); assumption)) (by exact Cl3.Is.datIn (c := .bv _ _) ⟨_, _, _, rfl⟩ (by k_mem)) (fun _ h => h) (by exact dats_ok) (by exact Cl3.ok _) (by first | exact Mine.unX (by assumption) rfl | ktr_units) (by with_reducible assumption) ?_))) | (with_reducible refine Mine.Stp.mk (n := 15) ?_; k_dflt (refine' isin_some (by k_asm) (by k_mem) (by rfl) (by rfl) (by with_reducible assumption) (by (intro zqp zqhp; (repeat (refine List.Mem.tail _ ?_)); exact List.mem_append_right _ zqhp)) (by with_reducible assumption) (by (intro zqp zqhp; (repeat (refine List.Mem.tail _ ?_)); exact List.mem_append_left _ zqhp)) (by exact rows_ok) (by exact Cl3.ok _) (by first | exact Mine.unX (by assumption) rfl | ktr_units) (by with_reducible assumption) ?_)) | (k_unfold; (try dsimp only)) | (k_end; wrow_close) | walk1 | (dsimp only; walk1) | (leave1; (try dsimp only)) | fail "no step"))
        refine Stop.mk ?_
        k_dflt (refine LCg.CompSrc.ledger (by rfl) (by k_asm) (by k_asm) (by k_mem) (free_size yl' fl' hn10) ?_)
        intro g9
        refine restU_inv0 (fun i ys own => DatAll own ys (rows wd9 ((freeTo cls wd9 n9).take i))) (fun _ => .inr ⟨_, List.mem_append_left _ (by k_mem), rfl, _, rfl⟩) .nil ?turn3 ?fin3
        case turn3 =>
          intro i v ys own I' oI' C' oC' D' m' h' tk' E' hi' hP' hR2' hC' hx' F' N' off' ne'
          try k_fold
          simp only [List.cons_append] at N'
          obtain ⟨j9, t9, rfl, hj9⟩ := IntsAre.at hR' i v (by simpa using hP')
          w_strict (repeat' (first | (with_reducible refine Mine.Stp.mk (n := 11) ?_; k_dflt (refine' Mine.len_lst (by k_asm) (by k_mem) (by assumption) ?_)) | (with_reducible refine Mine.Stp.mk (n := 14) ?_; k_dflt (first | (refine' notin_none (by k_asm) (by k_mem) (by rfl) (by rfl) (by with_reducible assumption) (by (intro zqp zqhp; (repeat (refine List.Mem.tail _ ?_)); assumption)) (by exact Cl3.Is.datIn (c := .bv _ _) ⟨_, _, _, rfl⟩ (by k_mem)) (fun _ h => h) (by exact dats_ok) (by exact Cl3.ok _) (by first | exact Mine.unX (by assumption) rfl | ktr_units) (by with_reducible assumption) ?_) | (refine' notin_some (by k_asm) (by k_mem) (by rfl) (by rfl) (by with_reducible assumption) (by (intro zqp zqhp; (repeat (refine List.Mem.tail _ ?_)); assumption)) (by exact Cl3.Is.datIn (c := .bv _ _) ⟨_, _, _, rfl⟩ (by k_mem)) (fun _ h => h) (by exact dats_ok) (by exact Cl3.ok _) (by first | exact Mine.unX (by assumption) rfl | ktr_units) (by with_reducible assumption) ?_))) | (with_reducible refine Mine.Stp.mk (n := 15) ?_; k_dflt (refine' isin_some (by k_asm) (by k_mem) (by rfl) (by rfl) (by with_reducible assumption) (by (intro zqp zqhp; (repeat (refine List.Mem.tail _ ?_)); exact List.mem_append_right _ zqhp)) (by with_reducible assumption) (by (intro zqp zqhp; (repeat (refine List.Mem.tail _ ?_)); exact List.mem_append_left _ zqhp)) (by exact rows_ok) (by exact Cl3.ok _) (by first | exact Mine.unX (by assumption) rfl | ktr_units) (by with_reducible assumption) ?_)) | (k_unfold; (try dsimp only)) | (k_end; wrow_close) | walk1 | (dsimp only; walk1) | (leave1; (try dsimp only)) | fail "no step"))
          with_reducible rename _ ∧ _ => l9
          refine TurnU.intro (T := (_, _)) (by k_asm) (by k_asm) l9 ?_
          exact rows_more hj9 rfl hw9.symm hR2'
        case fin3 =>
          intro ys2' own2 hR2' D' h' tk' F' N' off'
          try k_fold
          simp only [List.cons_append] at N'
          have dR' : DatAll own2 ys2' (rows wd9 (freeTo cls wd9 n9)) := by
            have q : DatAll own2 ys2' (rows wd9 ((freeTo cls wd9 n9).take (List.toArray ys').size)) := hR2'
            rwa [List.take_of_length_le (by rw [List.size_toArray, yl']; exact Nat.le_refl _)] at q
          w_strict (repeat' (first | (with_reducible refine Mine.Stp.mk (n := 11) ?_; k_dflt (refine' Mine.len_lst (by k_asm) (by k_mem) (by assumption) ?_)) | (with_reducible refine Mine.Stp.mk (n := 14) ?_; k_dflt (first | (refine' notin_none (by k_asm) (by k_mem) (by rfl) (by rfl) (by with_reducible assumption) (by (intro zqp zqhp; (repeat (refine List.Mem.tail _ ?_)); assumption)) (by exact Cl3.Is.datIn (c := .bv _ _) ⟨_, _, _, rfl⟩ (by k_mem)) (fun _ h => h) (by exact dats_ok) (by exact Cl3.ok _) (by first | exact Mine.unX (by assumption) rfl | ktr_units) (by with_reducible assumption) ?_) | (refine' notin_some (by k_asm) (by k_mem) (by rfl) (by rfl) (by with_reducible assumption) (by (intro zqp zqhp; (repeat (refine List.Mem.tail _ ?_)); assumption)) (by exact Cl3.Is.datIn (c := .bv _ _) ⟨_, _, _, rfl⟩ (by k_mem)) (fun _ h => h) (by exact dats_ok) (by exact Cl3.ok _) (by first | exact Mine.unX (by assumption) rfl | ktr_units) (by with_reducible assumption) ?_))) | (with_reducible refine Mine.Stp.mk (n := 15) ?_; k_dflt (refine' isin_some (by k_asm) (by k_mem) (by rfl) (by rfl) (by with_reducible assumption) (by (intro zqp zqhp; (repeat (refine List.Mem.tail _ ?_)); exact List.mem_append_right _ zqhp)) (by with_reducible assumption) (by (intro zqp zqhp; (repeat (refine List.Mem.tail _ ?_)); exact List.mem_append_left _ zqhp)) (by exact rows_ok) (by exact Cl3.ok _) (by first | exact Mine.unX (by assumption) rfl | ktr_units) (by with_reducible assumption) ?_)) | (k_unfold; (try dsimp only)) | (k_end; wrow_close) | walk1 | (dsimp only; walk1) | (leave1; (try dsimp only)) | fail "no step"))
          with_reducible rename Fr h₀ _ _ _ => kF9
          with_reducible rename News h₀ _ _ _ => kN9
          exact ret _ _ kF9 (fun p hp => kN9 p (by repeat (first | exact List.mem_append_left _ hp | refine List.Mem.tail _ ?_)))

end Mine
end
section
open PySem PySem.W PyProof.Rows PySem.Calls
set_option Elab.async false
namespace Mine
def RightOk (k : Int) (c : Cl3) (cls : List Cl3) (es : List (Int × Cl3)) : Prop :=
  ((k = 1 ∨ k = 2) ∧ ∃ fr, c = .rat fr 1 ∧ Cl3.rat fr 1 ∉ cls ∧ ∀ q, (q = 1 ∨ q = 2) → (q, Cl3.rat fr 1) ∉ es) ∨
  ((k = 6 ∨ k = 7) ∧ c = .elem k (cntOf k es)) ∨
  (∃ wd r, ((k = 3 ∧ wd = 1) ∨ (k = 4 ∧ wd = 2) ∨ (k = 5 ∧ wd = 3)) ∧ c = .bv r wd ∧ BitsOk cls wd r)
theorem ClIn.others {news rest : List (Addr × Obj)} {adr : List Nat} {v : Value} {c : Cl3} (h : ClIn rest v c) (hr : ∀ p ∈ rest, p ∈ news) (off : OwnOff rest adr) : ClIn (others adr news) v c :=
  h.mono fun p hp => mem_others.mpr ⟨hr p hp, fun hm => off p hp _ hm rfl⟩
theorem TAll.others {news rest : List (Addr × Obj)} {adr : List Nat} {vs : List Value} {es : List (Int × Cl3)} (h : TAll rest vs es) (hr : ∀ p ∈ rest, p ∈ news) (off : OwnOff rest adr) : TAll (others adr news) vs es :=
  h.mono fun p hp => mem_others.mpr ⟨hr p hp, fun hm => off p hp _ hm rfl⟩
theorem ClAll.others {news rest : List (Addr × Obj)} {adr : List Nat} {vs : List Value} {cs : List Cl3} (h : ClAll rest vs cs) (hr : ∀ p ∈ rest, p ∈ news) (off : OwnOff rest adr) : ClAll (others adr news) vs cs :=
  h.mono fun p hp => mem_others.mpr ⟨hr p hp, fun hm => off p hp _ hm rfl⟩
theorem off_sub {rest : List (Addr × Obj)} {a b : List Nat} (h : OwnOff rest a) (hs : ∀ x ∈ b, x ∈ a) : OwnOff rest b := fun p hp x hx => h p hp x (hs x hx)
section
variable {w : World} {p : Program} {loose : List Str} {mean : ExcName → Option Value} {mg mb : Str → Option Value} {dp un : Nat} {gd : Option (List Code)} {cn : Str} {cs : Scope} {a : Addr} {ccd : Value} {cl : List (Str × Addr)} {outer : List Env} {A₀ : Around} {base h₀ : Heap} {L : Addr} {m : Str → Option Value} {s : Shared} {Q E : Value → Shared → Prop} {news : List (Addr × Obj)}
    {bx bd wl D lc tc c1 c2 nl bv n2 : Nat} {rest : List (Addr × Obj)} {k : Int} {tk : Tok} {cvs tvs : List Value} {cls : List Cl3} {es : List (Int × Cl3)} {c : Cl3}
    {bk : Bk} {q : Nat → Tok}
theorem right_U
    (B : Below A₀ base outer h₀) (F : Fr h₀ L s.heap m) (X : (K w.params).In h₀) (T : Top p loose mean mg mb h₀) (hk : cs.kind = .function)
    (N : News h₀ L s.heap news) (m1 : (bx, instObj 782 bd) ∈ news) (m2 : (bd, dictOf (bankEs bk nl wl bv) 14) ∈ news)
    (m3 : (wl, listOf (wlL q).toArray n2) ∈ news) (m4 : (lc, listOf cvs.toArray c1) ∈ news) (m5 : (tc, listOf tvs.toArray c2) ∈ news)
    (hrest : ∀ p ∈ rest, p ∈ news) (hoff : OwnOff rest [bx, bd, wl, lc, tc]) (hne : bd < bx ∧ bx < wl ∧ wl < tc ∧ tc < lc) (hD : ClIn rest (.ref D) c) (hcl : ClAll rest cvs cls) (htl : TAll rest tvs es) (hl1 : cvs.length ≤ 500) (hl2 : tvs.length ≤ 500)
    (hok : RightOk k c cls es) (hd : dp + 6 < recursionLimit) (hu : un + 200 < cLine)
    (ret : ∀ h' tk, Fr h₀ L h' m → News h₀ L h' news → Q (.bool true) { s with heap := h', toks := tk }) :
    wpAny (model PySem.Challenge.rw_rg0220_01.row.prog w) (ktrTop dp un gd cn cs L a ccd cl outer) (call (.ref 1008) [.ref bx, .int k tk, .ref D, .ref lc, .ref tc]) Q E s := by
  rcases hok with ⟨hs, fr, rfl, hn1, hn2⟩ | ⟨hs, rfl⟩ | ⟨wd, r, hs, rfl, hb⟩
  · have off2 : OwnOff rest [lc, tc] := off_sub hoff (by intro x hx; simp only [List.mem_cons, List.not_mem_nil, or_false] at hx ⊢; rcases hx with h | h <;> simp [h])
    obtain ⟨D', its, nD, e, hm, x1, x2, rfl⟩ := hD.others (news := news) hrest off2
    cases e
    refine right_num (rest := others [lc, tc] news) B F X T hk (news_cons N m4 (news_cons N m5 fun p hp => N p (mem_others.mp hp).1)) off_others hne.2.2.2 hm hs (hcl.others hrest off2) (htl.others hrest off2) hl1 hl2 hn1 hn2 hd hu fun h' tk F' N' => ret h' tk F' fun q hq => ?_
    rcases lit_or (adr := [lc, tc]) hq with h | h
    · simp only [List.mem_cons, List.not_mem_nil, or_false] at h
      rcases h with h | h
      · rw [news_same N m4 hq h]; exact N' _ (by k_mem)
      · rw [news_same N m5 hq h]; exact N' _ (by k_mem)
    · exact N' q (.tail _ (.tail _ h))
  · obtain ⟨D', its, nD, e, hm, x1, x2, x3, rfl⟩ := hD.others (news := news) hrest hoff
    cases e
    refine right_elem (rest := others [bx, bd, wl, lc, tc] news) B F X T hk (news_cons N m1 (news_cons N m2 (news_cons N m3 (news_cons N m4 (news_cons N m5 fun p hp => N p (mem_others.mp hp).1))))) off_others hne hm hs (htl.others hrest hoff) hl2 rfl hd hu fun h' tk F' N' => ret h' tk F' fun q hq => ?_
    rcases lit_or (adr := [bx, bd, wl, lc, tc]) hq with h | h
    · simp only [List.mem_cons, List.not_mem_nil, or_false] at h
      rcases h with h | h | h | h | h
      · rw [news_same N m1 hq h]; exact N' _ (by k_mem)
      · rw [news_same N m2 hq h]; exact N' _ (by k_mem)
      · rw [news_same N m3 hq h]; exact N' _ (by k_mem)
      · rw [news_same N m4 hq h]; exact N' _ (by k_mem)
      · rw [news_same N m5 hq h]; exact N' _ (by k_mem)
    · exact N' q (.tail _ (.tail _ (.tail _ (.tail _ (.tail _ h)))))
  · obtain ⟨D', its, nD, e, hm, x1, x2, x3, rfl⟩ := hD.others (news := news) hrest hoff
    cases e
    refine right_bits (rest := others [bx, bd, wl, lc, tc] news) B F X T hk (news_cons N m1 (news_cons N m2 (news_cons N m3 (news_cons N m4 (news_cons N m5 fun p hp => N p (mem_others.mp hp).1))))) off_others hne hm hs (hcl.others hrest hoff) hl1 hb hd hu fun h' tk F' N' => ret h' tk F' fun q hq => ?_
    rcases lit_or (adr := [bx, bd, wl, lc, tc]) hq with h | h
    · simp only [List.mem_cons, List.not_mem_nil, or_false] at h
      rcases h with h | h | h | h | h
      · rw [news_same N m1 hq h]; exact N' _ (by k_mem)
      · rw [news_same N m2 hq h]; exact N' _ (by k_mem)
      · rw [news_same N m3 hq h]; exact N' _ (by k_mem)
      · rw [news_same N m4 hq h]; exact N' _ (by k_mem)
      · rw [news_same N m5 hq h]; exact N' _ (by k_mem)
    · exact N' q (.tail _ (.tail _ (.tail _ (.tail _ (.tail _ h)))))
end
end Mine
end
section
open PySem PySem.W PyProof.Rows
set_option Elab.async false
namespace Mine
theorem law_units {L fa : Nat} {cd : Value} : (callerA.deeper (lawEnv L fa cd)).units + 200 < cLine := Nat.le_of_ble_eq_true rfl
def WideFree (n : Nat) (D : List (PyData × PyData)) : Prop := (∀ j : Int, (n : Int) < j → PySem.Spec.lookup (PyData.int j) D = none) ∧ D.length ≤ n
theorem WideFree.nil : WideFree 0 [] := ⟨fun _ _ => rfl, Nat.le_refl 0⟩
theorem WideFree.next {n : Nat} {D D' : List (PyData × PyData)} (h : WideFree n D) (h1 : ∀ j : Int, j ≠ (n : Int) + 1 → PySem.Spec.lookup (PyData.int j) D' = PySem.Spec.lookup (PyData.int j) D) (h2 : D'.length ≤ D.length + 1) : WideFree (n + 1) D' :=
  ⟨fun j hj => (h1 j (by omega)).trans (h.1 j (by omega)), by have := h.2; omega⟩
theorem off5 {a bx bd nl wl bv : Nat} {o : Obj} (h : a ≠ bx ∧ a ≠ bd ∧ a ≠ nl ∧ a ≠ wl ∧ a ≠ bv) : ((a, o) : Addr × Obj).1 ∉ ([bx, bd, nl, wl, bv] : List Addr) := by
  intro q
  simp only [List.mem_cons, List.not_mem_nil, or_false] at q
  obtain ⟨h1, h2, h3, h4, h5⟩ := h
  rcases q with q | q | q | q | q
  · exact h1 q
  · exact h2 q
  · exact h3 q
  · exact h4 q
  · exact h5 q
theorem off5b {a bx bd nl wl bv : Nat} (h : a < bd) (h1 : bd < bx) (h2 : bx < nl) (h3 : nl < wl) (h4 : wl < bv) : a ≠ bx ∧ a ≠ bd ∧ a ≠ nl ∧ a ≠ wl ∧ a ≠ bv :=
  have k1 := Nat.lt_trans h h1
  have k2 := Nat.lt_trans k1 h2
  have k3 := Nat.lt_trans k2 h3
  ⟨Nat.ne_of_lt k1, Nat.ne_of_lt h, Nat.ne_of_lt k2, Nat.ne_of_lt k3, Nat.ne_of_lt (Nat.lt_trans k3 h4)⟩
theorem off5a {a bx bd nl wl bv : Nat} (h : bv < a) (h1 : bd < bx) (h2 : bx < nl) (h3 : nl < wl) (h4 : wl < bv) : a ≠ bx ∧ a ≠ bd ∧ a ≠ nl ∧ a ≠ wl ∧ a ≠ bv :=
  have k1 := Nat.lt_trans h4 h
  have k2 := Nat.lt_trans h3 k1
  have k3 := Nat.lt_trans h2 k2
  ⟨Nat.ne_of_gt k3, Nat.ne_of_gt (Nat.lt_trans h1 k3), Nat.ne_of_gt k2, Nat.ne_of_gt k1, Nat.ne_of_gt h⟩
theorem bv_sort_L {w : World} {p : Program} {loose : List Str} {mean : ExcName → Option Value} {mg mb : Str → Option Value} {fa : Nat} {cd : Value} {base h₀ : Heap} {L : Addr} {m : Str → Option Value} {s : Shared} {Q E : Value → Shared → Prop}
    {pre post : List (Addr × Obj)} {bx bd nl wl bv : Nat} {obv : Obj} {n : Nat} {k : Int} {t : Tok} {n1 n2 : Nat} {xs ws : List Value} {kvs : List (Int × Value)} {D : List (PyData × PyData)}
    {bk : Bk}
    (B : Below callerA base [] h₀) (F : Fr h₀ L s.heap m) (X : (K w.params).In h₀) (T : Top p loose mean mg mb h₀)
    (N : News h₀ L s.heap (pre ++ (bx, instObj 782 bd) :: (bd, dictOf (bankEs bk nl wl bv) 14) :: (nl, listOf xs.toArray n1) :: (wl, listOf ws.toArray n2) :: (bv, obv) :: post))
    (off1 : ∀ p ∈ pre, p.1 ∉ [bx, bd, nl, wl, bv]) (off2 : ∀ p ∈ post, p.1 ∉ [bx, bd, nl, wl, bv]) (lo : (bv == sysModules) = false) (hbv : obv.IsDictOf (PySem.intKind PySem.Challenge.rw_rg0220_01.row.prog w) kvs) (hfv : PyProof.V.FlatPairs PyData.int kvs D) (hD : WideFree n D) (hk : k = (n : Int) + 1) (hn : n ≤ 5)
    (hne : bd < bx ∧ bx < nl ∧ nl < wl ∧ wl < bv) (hx : xs.length ≤ 1000) (hw : ws.length ≤ 1000)
    (ret : ∀ h' tk y t' obv' kvs' D', Fr h₀ L h' m → obv'.IsDictOf (PySem.intKind PySem.Challenge.rw_rg0220_01.row.prog w) kvs' → PyProof.V.FlatPairs PyData.int kvs' D' → WideFree (n + 1) D' → News h₀ L h' (pre ++ (bx, instObj 782 bd) :: (bd, dictOf (bankEs bk nl wl bv) 14) :: (nl, listOf (xs ++ [y]).toArray (n1 + 1)) :: (wl, listOf (ws ++ [Value.int k t]).toArray (n2 + 1)) :: (bv, obv') :: post) →
      Q (.int xs.length t') { s with heap := h', toks := tk }) :
    wpAny (model PySem.Challenge.rw_rg0220_01.row.prog w) (lawA L fa cd) (call (.ref 688) [.ref bx, .int k t]) Q E s := by
  subst hk
  rw [lawA_eq]
  exact bv_sort_P (es := []) (n0 := 0) B F X T rfl N off1 off2 lo hbv hfv hne (by omega) (by omega) (hD.1 _ (by omega)) hx hw (Nat.le_trans hD.2 (by omega)) (by decide) (by have := @law_units L fa cd; omega) fun h' tk y t' obv' kvs' D' F' hb hf hl hL N' => ret h' tk y t' obv' kvs' D' F' hb hf (hD.next hl hL) N'
end Mine
end
section
open PySem PySem.W PyProof.Rows
set_option Elab.async false
namespace Mine
local macro_rules | `(tactic| walk_at "execs cons") => `(tactic| (k_here; refine Mine.toks_cons ?_; intro tk'; (try dsimp only); (try k_fold)))
local macro_rules | `(tactic| walk_at "eval Dict nil nil") => `(tactic| (k_here; refine Mine.Stp.out (n := 16) ?_))
local macro_rules | `(tactic| walk_at "exec Assign cons ListComp") => `(tactic| (k_here; refine Mine.Stp.out (n := 17) ?_))
local macro_rules | `(tactic| walk_at "SrcT") => `(tactic| (k_here; refine Mine.Stp.out (n := 18) ?_))
local macro_rules | `(tactic| lcg_off) => `(tactic| (with_reducible rename (_ ∧ _) ∧ _ => kOff; (try simp only [LCg.Off3, and_true]); exact kOff))
local macro_rules | `(tactic| lcg_src) => `(tactic| k_mem)
local macro_rules | `(tactic| walk_at "call builtin:list.append") => `(tactic| (k_here; refine Mine.Stp.out (n := 1) ?_))
local macro_rules | `(tactic| walk_at "exec For") => `(tactic| (k_here; refine Mine.Stop.out ?_))
local macro_rules | `(tactic| walk_at "call ref") => `(tactic| (k_here; (with_reducible show wpAny _ _ (call (Value.ref 688) [Value.ref _, Value.int _ _]) _ _ _); refine Mine.Stp.out (n := 19) ?_))
set_option maxRecDepth 100000 in
set_option maxHeartbeats 1000000 in
theorem law_2 {w : World} {p : Program} {loose : List Str} {mean : ExcName → Option Value} {mg mb : Str → Option Value} {h₀ base : Heap} {L fa : Nat} {cd : Value} {s : Shared} {Q : Flow → Shared → Prop}
    {u : Str → Option Value} {mug told bx bd nl wl bv lc : Nat} {oc omug obv : Obj} {bk : Bk} {w1 w2 w3 y1 y2 y3 : Tok} {n1 n2 n3 c : Nat} {ys : List Value}
    (B : Below callerA base [] h₀) (X : (K w.params).In h₀) (T : Top p loose mean mg mb h₀)
    (F : Fr h₀ L s.heap (kstB u [(Str.ofString "told", .ref told), (Str.ofString "mug", .ref mug)])) (hc : oc.data = .cell (some (.ref bx)))
    (N : News h₀ L s.heap [(L + 1, oc), (bx, instObj 782 bd), (bd, dictOf (bankEs bk nl wl bv) 14),
        (nl, listOf #[.str (Str.ofString "Bool") y1, .str (Str.ofString "Int") y2, .str (Str.ofString "Real") y3] n1), (wl, listOf #[.int 0 w1, .int 0 w2, .int 0 w3] n2), (bv, obv), (mug, omug), (lc, listOf ys.toArray c), (told, listOf #[] n3)])
    (lo : (bv == sysModules) = false) (hbv : obv.IsDictOf (PySem.intKind PySem.Challenge.rw_rg0220_01.row.prog w) []) (hfv : PyProof.V.FlatPairs PySem.PyData.int [] []) (hD : WideFree 0 [])
    (hne : L + 1 < mug ∧ @Ne Nat mug lc ∧ @Ne Nat (L + 1) lc ∧ mug < bd ∧ lc < bd ∧ bd < bx ∧ bx < nl ∧ nl < wl ∧ wl < bv ∧ bv < told)
    (ret : ∀ h' tk (bt : Nat) (b1 b2 b3 w4 w5 w6 : Tok) (y4 y5 y6 : Value) (m1 m2 : Nat) (obv' : Obj) (kvs : List (Int × Value)) (D : List (PyData × PyData)), Fr h₀ L h' (kstB u [(Str.ofString "bits", .ref bt), (Str.ofString "told", .ref told), (Str.ofString "mug", .ref mug)]) →
      News h₀ L h' [(bt, listOf #[.int 3 b1, .int 4 b2, .int 5 b3] 3), (L + 1, oc), (bx, instObj 782 bd), (bd, dictOf (bankEs bk nl wl bv) 14),
        (nl, listOf #[.str (Str.ofString "Bool") y1, .str (Str.ofString "Int") y2, .str (Str.ofString "Real") y3, y4, y5, y6] m1), (wl, listOf #[.int 0 w1, .int 0 w2, .int 0 w3, .int 1 w4, .int 2 w5, .int 3 w6] m2), (bv, obv'), (mug, omug), (lc, listOf ys.toArray c), (told, listOf #[] n3)] →
      (obv'.IsDictOf (PySem.intKind PySem.Challenge.rw_rg0220_01.row.prog w) kvs ∧ PyProof.V.FlatPairs PySem.PyData.int kvs D ∧ WideFree 3 D) → (bt ≠ L + 1 ∧ bt ≠ bx ∧ bt ≠ bd ∧ bt ≠ nl ∧ bt ≠ wl ∧ bt ≠ bv ∧ bt ≠ mug ∧ bt ≠ lc ∧ bt ≠ told) → Q .next { s with heap := h', toks := tk }) :
    Does w L fa cd (lawStm 1) Q s := by
  constructor
  obtain ⟨a1, a2, a3, a4, a5, a6, a7, a8, a9, a10⟩ := hne
  have b0 : L + 1 < bd := Nat.lt_trans a1 a4
  have b1 : bx < wl := Nat.lt_trans a7 a8
  w_on
  revert X
  k_fill
  intro X
  w_strict ((conv in (exec _ _) => arg 1; whnf); (all_goals try k_fold); repeat' (first | (with_reducible refine Mine.Stp.mk (n := 16) ?_; k_dflt (refine' newDict_K (by k_asm) (by k_asm) (by exact Top.nolimit (by k_asm)) ?_; k_whole); intro zqd' zqh' zqo' zqF' zqN' zql1 zqlo' zqhs' zqfs' zqhi' zqfi'; (try k_lt zql1); (try k_sweep)) | (with_reducible refine Mine.Stp.mk (n := 17) ?_; k_dflt (refine Mine.Assign_ListComp_T (F₀ := by k_asm) (by rfl) (by with_unfolding_all rfl) (by with_unfolding_all rfl) (by decide) (by rfl) (by decide) (by rfl) (by rfl) (by rfl) ?_)) | (with_reducible refine Mine.Stp.mk (n := 18) ?_; k_dflt (refine Mine.SrcT.intro (by rfl) (by k_asm) (by k_asm) (by k_mem) (by exact Nat.le_of_ble_eq_true rfl) ?_; intro zqg'; lcg_lit)) | (with_reducible refine Mine.Stp.mk (n := 1) ?_; k_dflt (refine' append_K (by k_asm) (by k_asm) (by k_upd) ?_ (by first | exact Nat.le_of_ble_eq_true rfl | size_fits); k_whole); intro zqh' zqF' zqN'; (try k_sweep)) | (with_reducible refine Mine.Stp.mk (n := 19) ?_; k_dflt (refine' bv_sort_L (pre := [_, _, _, _, _]) (by k_asm) (by k_asm) (by k_asm) (by k_asm) (by k_asm) (by (with_reducible rename (_ ∧ _) ∧ _ => kOff; obtain ⟨_, _, o1, o2, o3, o4, o5, _⟩ := kOff; refine List.forall_mem_cons.mpr ⟨Mine.off5 ⟨Ne.symm o1.1, Ne.symm o2.1, Ne.symm o3.1, Ne.symm o4.1, Ne.symm o5.1⟩, ?_⟩; refine List.forall_mem_cons.mpr ⟨Mine.off5 ⟨Ne.symm o1.2.1, Ne.symm o2.2.1, Ne.symm o3.2.1, Ne.symm o4.2.1, Ne.symm o5.2.1⟩, ?_⟩; refine List.forall_mem_cons.mpr ⟨Mine.off5 ⟨Ne.symm o1.2.2, Ne.symm o2.2.2, Ne.symm o3.2.2, Ne.symm o4.2.2, Ne.symm o5.2.2⟩, ?_⟩; clear o1 o2 o3 o4 o5; ((repeat (with_reducible rename @Ne Nat _ _ ∧ _ => kNe; clear kNe)); (repeat (with_reducible rename (_ ∧ _) ∧ _ => kNe; clear kNe)); (repeat refine List.forall_mem_cons.mpr ⟨Mine.off5 (by first | exact off5b (by assumption) a6 a7 a8 a9 | exact off5a (by assumption) a6 a7 a8 a9 | exact off5a (And.left (And.right (And.right (And.right (And.right (And.right (by assumption : (L + 1 < _ ∧ bx < _ ∧ bd < _ ∧ nl < _ ∧ wl < _ ∧ bv < _ ∧ _)))))))) a6 a7 a8 a9 | omega), ?_⟩); exact List.forall_mem_nil _))) (by ((repeat (with_reducible rename @Ne Nat _ _ ∧ _ => kNe; clear kNe)); (repeat (with_reducible rename (_ ∧ _) ∧ _ => kNe; clear kNe)); (repeat refine List.forall_mem_cons.mpr ⟨Mine.off5 (by first | exact off5b (by assumption) a6 a7 a8 a9 | exact off5a (by assumption) a6 a7 a8 a9 | exact off5a (And.left (And.right (And.right (And.right (And.right (And.right (by assumption : (L + 1 < _ ∧ bx < _ ∧ bd < _ ∧ nl < _ ∧ wl < _ ∧ bv < _ ∧ _)))))))) a6 a7 a8 a9 | omega), ?_⟩); exact List.forall_mem_nil _)) (by assumption) (by assumption) (by assumption) (by assumption) (by rfl) (by decide) (by exact ⟨by assumption, by assumption, by assumption, by assumption⟩) (by exact Nat.le_of_ble_eq_true rfl) (by exact Nat.le_of_ble_eq_true rfl) ?_); intro zqh' zqtk' zqy' zqt' zqobv' zqkvs' zqD' zqF' zqhb' zqhf' zqhD' zqN') | (k_unfold; (try dsimp only)) | (k_end; wrow_close) | walk1 | (dsimp only; walk1) | (leave1; (try dsimp only)) | fail "no step"))
  with_reducible rename Fr h₀ _ _ _ => kF9
  with_reducible rename News h₀ _ _ _ => kN9
  with_reducible rename @Ne Nat _ _ ∧ _ => kO9
  obtain ⟨_, o1, o2, o3, o4, o5, o6, o7, o8, o9⟩ := kO9
  refine' ret _ _ _ _ _ _ _ _ _ _ _ _ _ _ _ _ _ kF9 ?hN ⟨?hb, ?hf, ?hD⟩ ⟨Ne.symm o1, Ne.symm o2, Ne.symm o3, Ne.symm o4, Ne.symm o5, Ne.symm o6, Ne.symm o7, Ne.symm o8, Ne.symm o9⟩
  case' hN =>
    refine news_cons kN9 (by exact List.mem_cons_self) ?_
    refine news_cons kN9 (by k_mem) ?_
    refine news_cons kN9 (by k_mem) ?_
    refine news_cons kN9 (by k_mem) ?_
    refine news_cons kN9 (by k_mem) ?_
    refine news_cons kN9 (by k_mem) ?_
    refine news_cons kN9 (by k_mem) ?_
    refine news_cons kN9 (by k_mem) ?_
    refine news_cons kN9 (by k_mem) ?_
    refine news_cons kN9 (by k_mem) ?_
    exact fun _ h => nomatch h
  case hb => assumption
  case hf => assumption
  case hD => assumption
end Mine
end
section
open PySem PySem.W PyProof.Rows
set_option Elab.async false
namespace Mine
local macro_rules | `(tactic| k_lt $h:ident) => `(tactic| (replace $h := Mine.addr_lt $h; dsimp only [List.map] at $h:ident; have kkeep := $h; (repeat first | (refine Mine.lt8 $h ?_; clear $h; intro kx kx kx kx kx kx kx kx $h) | (refine Mine.lt1 $h ?_; clear $h; intro kx $h)); (try dsimp only)))
local macro_rules | `(tactic| k_ne) => `(tactic| (refine neN ?_; (try dsimp only); with_reducible first | exact Nat.ne_of_lt (by assumption) | exact Nat.ne_of_gt (by assumption) | assumption | exact Ne.symm (by assumption)))
local macro_rules | `(tactic| k_all) => `(tactic| exact Mine.all_ne (by assumption))
local macro_rules | `(tactic| walk_at "execs cons") => `(tactic| (k_here; refine Mine.toks_cons ?_; intro tk'; (try dsimp only); (try k_fold)))
local macro_rules | `(tactic| walk_at "call builtin:dict.get") => `(tactic| (k_here; refine Mine.Stp.out (n := 8) ?_))
local macro_rules | `(tactic| walk_at "setItem ref ref") => `(tactic| (k_here; refine Mine.Stp.out (n := 20) ?_))
local macro_rules | `(tactic| walk_at "getMethod ref") => `(tactic| (k_here; (with_reducible show wpAny _ _ (getMethod (Value.ref _) (Str.ofString "get") _) _ _ _); (with_reducible rename Mine.MkD _ _ _ _ => mkLook); k_dflt (refine' Mine.ed_method_get ?N ?m (And.left mkLook) ?_; (case N => k_asm); (case m => k_mem))))
local macro_rules | `(tactic| walk_at "eval Dict nil nil") => `(tactic| (k_here; refine Mine.Stp.out (n := 16) ?_))

local macro_rules | `(tactic| walk_at "call builtin:list.append") => `(tactic| (k_here; refine Mine.Stp.out (n := 1) ?_))
set_option maxRecDepth 100000 in
set_option maxHeartbeats 2000000 in
theorem law_1 {w : World} {p : Program} {loose : List Str} {mean : ExcName → Option Value} {mg mb : Str → Option Value} {h₀ base : Heap} {L fa : Nat} {cd : Value} {s : Shared} {Q : Flow → Shared → Prop}
    {u : Str → Option Value} {lp : Nat} {vs : List Value} {ns : List Int} {oc : Obj}
    (B : Below callerA base [] h₀) (X : (K w.params).In h₀) (T : Top p loose mean mg mb h₀)
    (F : Fr h₀ L s.heap (kstB u [(Str.ofString "script", .ref lp)]))
    (N : News h₀ L s.heap [(L + 1, oc)]) (hc : oc.data = .cell none) (hL : h₀.IsList lp vs.toArray) (hI : IntsAre vs ns) (hlen : ns.length ≤ 63)
    (ret : ∀ h' tk (mug told bx bd nl wl bv lc : Nat) (oc omug obv : Obj) (bk : Bk) (w1 w2 w3 y1 y2 y3 tn : Tok) (n1 n2 n3 c : Nat) (ys : List Value) (ns' : List Int),
      Fr h₀ L h' (kstB (kstB u [(Str.ofString "script", .ref lp)]) [(Str.ofString "told", .ref told), (Str.ofString "mug", .ref mug)]) → oc.data = .cell (some (.ref bx)) →
      News h₀ L h' [(L + 1, oc), (bx, instObj 782 bd), (bd, dictOf (bankEs bk nl wl bv) 14),
        (nl, listOf #[.str (Str.ofString "Bool") y1, .str (Str.ofString "Int") y2, .str (Str.ofString "Real") y3] n1), (wl, listOf #[.int 0 w1, .int 0 w2, .int 0 w3] n2), (bv, obv), (mug, omug), (lc, listOf ys.toArray c), (told, listOf #[] n3)] →
      (bv == sysModules) = false → obv.IsDictOf (PySem.intKind PySem.Challenge.rw_rg0220_01.row.prog w) [] → (mug == sysModules) = false → omug.IsDictOf (PySem.strKind PySem.Challenge.rw_rg0220_01.row.prog w) [(Str.ofString "cells", .ref lc), (Str.ofString "at", .int 0 tn)] →
      IntsAre ys ns' → ns'.length ≤ 60 → (L + 1 < mug ∧ @Ne Nat mug lc ∧ @Ne Nat (L + 1) lc ∧ mug < bd ∧ lc < bd ∧ bd < bx ∧ bx < nl ∧ nl < wl ∧ wl < bv ∧ bv < told) →
      Q .next { s with heap := h', toks := tk }) :
    Does w L fa cd (lawStm 0) Q s := by
  constructor
  w_on
  revert X
  k_fill
  intro X
  w_strict ((conv in (exec _ _) => arg 1; whnf); (all_goals try k_fold); repeat' (first | (with_reducible refine Mine.Stp.mk (n := 8) ?_; k_dflt (refine' Mine.mk_get' (by k_asm) (by k_mem) (by k_asm) (by first | exact Mine.mkD_nil (by k_asm) | k_asm) (by first | exact List.forall_mem_nil _ | exact List.forall_mem_cons.mpr ⟨⟨_, _, _, _, _, _, by k_mem, by k_mem⟩, List.forall_mem_nil _⟩) (by exact ⟨_, _, _, _, _, _, by k_mem, by k_mem⟩) (by kernel_rfl) (by k_units) ?_)) | (with_reducible refine Mine.Stp.mk (n := 20) ?_; k_dflt (refine' Mine.mk_set' (by k_asm) (by k_asm) (by k_updF) (by first | exact Mine.mkD_nil (by k_asm) | k_asm) (by first | exact List.forall_mem_nil _ | exact List.forall_mem_cons.mpr ⟨⟨_, _, _, _, _, _, by k_mem, by k_mem⟩, List.forall_mem_nil _⟩) (by exact ⟨_, _, _, _, _, _, by k_mem, by k_mem⟩) (by kernel_rfl) (by k_units) (by exact Nat.le_of_ble_eq_true rfl) ?_); intro zqh' zqo' zqF' zqN' zqhd'; (try dsimp only at zqN'); (try k_sweep)) | (with_reducible refine Mine.Stp.mk (n := 16) ?_; k_dflt (refine' newDict_K (by k_asm) (by k_asm) (by exact Top.nolimit (by k_asm)) ?_; k_whole); intro zqd' zqh' zqo' zqF' zqN' zql1 zqlo' zqhs' zqfs' zqhi' zqfi'; (try k_lt zql1); (try k_sweep)) | (with_reducible refine Mine.Stp.mk (n := 1) ?_; k_dflt (refine' append_K (by k_asm) (by k_asm) (by k_upd) ?_ (by first | exact Nat.le_of_ble_eq_true rfl | size_fits); k_whole); intro zqh' zqF' zqN'; (try k_sweep)) | (k_unfold; (try dsimp only)) | (k_end; wrow_close) | walk1 | (dsimp only; walk1) | (leave1; (try dsimp only)) | fail "no step"))
  with_reducible rename Fr h₀ _ _ _ => kF9
  with_reducible rename News h₀ _ _ _ => kN9
  refine' ret _ _ _ _ _ _ _ _ _ _ _ _ _ ⟨getI [0, _, _, _, _, _, _, _, _, _, _, _, _, _, _], getN [0, _, _, _, _, _, _, _, _, _, _, _, _, _, _], getV [.none, .none, .none, _, _, _, _, _, _, _, _, _, _, _]⟩ _ _ _ _ _ _ _ _ _ _ _ _ _ kF9 ?hc ?hN ?lo ?hbv ?lo2 ?hmug ?hI ?hl ?hne
  case hc => assumption
  case' hN =>
    refine news_cons kN9 (by k_mem) ?_
    refine news_cons kN9 (by k_mem) ?_
    refine news_cons kN9 (by k_mem) ?_
    refine news_cons kN9 (by k_mem) ?_
    refine news_cons kN9 (by k_mem) ?_
    refine news_cons kN9 (by k_mem) ?_
    refine news_cons kN9 (by k_mem) ?_
  case hmug => assumption
  case' hN =>
    refine news_cons kN9 (by k_mem) ?_
    refine news_cons kN9 (by k_mem) ?_
    exact fun _ h => nomatch h
  case lo => assumption
  case lo2 => assumption
  case hbv => assumption
  case hI => assumption
  case hl => rw [List.length_map, List.length_take]; exact Nat.min_le_left _ _
  case hne => first | exact ⟨by assumption, And.left (And.right (by assumption : @Ne Nat _ _ ∧ @Ne Nat _ _ ∧ @Ne Nat (L + 1) _)), And.right (And.right (by assumption : @Ne Nat _ _ ∧ @Ne Nat _ _ ∧ @Ne Nat (L + 1) _)), by assumption, by assumption, by assumption, by assumption, by assumption, by assumption, by assumption⟩ | omega
end Mine
end
section
open PySem PySem.W PyProof.Rows
set_option Elab.async false
namespace Mine
local macro_rules | `(tactic| k_lt $h:ident) => `(tactic| (replace $h := Mine.addr_lt $h; dsimp only [List.map] at $h:ident; have kkeep := $h; (repeat first | (refine Mine.lt8 $h ?_; clear $h; intro kx kx kx kx kx kx kx kx $h) | (refine Mine.lt1 $h ?_; clear $h; intro kx $h)); (try dsimp only)))
local macro_rules | `(tactic| k_ne) => `(tactic| (refine neN ?_; (try dsimp only); with_reducible first | exact Nat.ne_of_lt (by assumption) | exact Nat.ne_of_gt (by assumption) | assumption | exact Ne.symm (by assumption)))
local macro_rules | `(tactic| k_all) => `(tactic| exact Mine.all_ne (by assumption))
local macro_rules | `(tactic| walk_at "execs cons") => `(tactic| (k_here; refine Mine.toks_cons ?_; intro tk'; (try dsimp only); (try k_fold)))
local macro_rules | `(tactic| walk_at "eval Dict nil nil") => `(tactic| (k_here; refine Mine.Stp.out (n := 16) ?_))
local macro_rules | `(tactic| walk_at "call builtin:list.append") => `(tactic| (k_here; refine Mine.Stp.out (n := 1) ?_))
set_option maxRecDepth 100000 in
set_option maxHeartbeats 1000000 in
theorem law_3 {w : World} {p : Program} {loose : List Str} {mean : ExcName → Option Value} {mg mb : Str → Option Value} {h₀ base : Heap} {L fa : Nat} {cd : Value} {s : Shared} {Q : Flow → Shared → Prop}
    {u : Str → Option Value} {mug told bx bd nl wl bv lc bt : Nat} {oc omug obv : Obj} {bk : Bk} {w1 w2 w3 w4 w5 w6 y1 y2 y3 b1 b2 b3 : Tok} {y4 y5 y6 : Value} {n1 n2 n3 c : Nat} {ys : List Value}
    (B : Below callerA base [] h₀) (X : (K w.params).In h₀) (T : Top p loose mean mg mb h₀)
    (F : Fr h₀ L s.heap (kstB u [(Str.ofString "bits", .ref bt), (Str.ofString "told", .ref told), (Str.ofString "mug", .ref mug)])) (hc : oc.data = .cell (some (.ref bx)))
    (N : News h₀ L s.heap [(bt, listOf #[.int 3 b1, .int 4 b2, .int 5 b3] 3), (L + 1, oc), (bx, instObj 782 bd), (bd, dictOf (bankEs bk nl wl bv) 14),
        (nl, listOf #[.str (Str.ofString "Bool") y1, .str (Str.ofString "Int") y2, .str (Str.ofString "Real") y3, y4, y5, y6] n1), (wl, listOf #[.int 0 w1, .int 0 w2, .int 0 w3, .int 1 w4, .int 2 w5, .int 3 w6] n2), (bv, obv), (mug, omug), (lc, listOf ys.toArray c), (told, listOf #[] n3)])
    (hne : L + 1 < mug ∧ @Ne Nat mug lc ∧ @Ne Nat (L + 1) lc ∧ mug < bd ∧ lc < bd ∧ bd < bx ∧ bx < nl ∧ nl < wl ∧ wl < bv ∧ bv < told)
    (hnb : bt ≠ L + 1 ∧ bt ≠ bx ∧ bt ≠ bd ∧ bt ≠ nl ∧ bt ≠ wl ∧ bt ≠ bv ∧ bt ≠ mug ∧ bt ≠ lc ∧ bt ≠ told)
    (ret : ∀ h' tk (kd mx md cv ct mo vl : Nat) (ocv oct : Obj) (mk : Bk) (tf : Tok) (q kq : Nat → Tok) (m2 m3 : Nat), Fr h₀ L h' (kstB u [(Str.ofString "kinds", .ref kd), (Str.ofString "maker", .ref mx), (Str.ofString "bits", .ref bt), (Str.ofString "told", .ref told), (Str.ofString "mug", .ref mug)]) →
      News h₀ L h' [(mug, omug), (lc, listOf ys.toArray c), (bx, instObj 782 bd), (bd, dictOf (bankEs bk nl wl bv) 14),
        (wl, listOf (wlL q).toArray m2), (kd, listOf (kdL kq).toArray m3),
        (mx, instObj 978 md), (md, dictOf (mkEs mk bx mo vl cv ct 0 tf) 7), (cv, ocv), (ct, oct), (L + 1, oc), (told, listOf #[] n3)] →
      (cv == sysModules) = false → ocv.IsDictOf (PySem.intKind PySem.Challenge.rw_rg0220_01.row.prog w) [] → (ct == sysModules) = false → oct.IsDictOf (PySem.intKind PySem.Challenge.rw_rg0220_01.row.prog w) [] →
      (wl < told ∧ told < kd ∧ kd < md ∧ md < mx ∧ mx < cv ∧ cv < ct) → Q .next { s with heap := h', toks := tk }) :
    Does w L fa cd (lawStm 2) Q s := by
  constructor
  obtain ⟨a1, a2, a3, a4, a5, a6, a7, a8, a9, a10⟩ := hne
  have b1 : bd < nl := Nat.lt_trans a6 a7
  have b2 : mug < nl := Nat.lt_trans a4 b1
  have b3 : lc < nl := Nat.lt_trans a5 b1
  have b4 : L + 1 < nl := Nat.lt_trans a1 b2
  have b5 : nl < bv := Nat.lt_trans a8 a9
  have b6 : nl < told := Nat.lt_trans b5 a10
  have b7 : bx < wl := Nat.lt_trans a7 a8
  have b8 : bd < wl := Nat.lt_trans a6 b7
  have b9 : mug < wl := Nat.lt_trans a4 b8
  have b10 : lc < wl := Nat.lt_trans a5 b8
  have b11 : L + 1 < wl := Nat.lt_trans a1 b9
  have b12 : wl < told := Nat.lt_trans a9 a10
  obtain ⟨c1, c2, c3, c4, c5, c6, c7, c8, c9⟩ := hnb
  w_on
  revert X
  k_fill
  intro X
  w_strict ((conv in (exec _ _) => arg 1; whnf); (all_goals try k_fold); repeat' (first | (with_reducible refine Mine.Stp.mk (n := 16) ?_; k_dflt (refine' newDict_K (by k_asm) (by k_asm) (by exact Top.nolimit (by k_asm)) ?_; k_whole); intro zqd' zqh' zqo' zqF' zqN' zql1 zqlo' zqhs' zqfs' zqhi' zqfi'; (try k_lt zql1); (try k_sweep)) | (with_reducible refine Mine.Stp.mk (n := 1) ?_; k_dflt (refine' append_K (by k_asm) (by k_asm) (by k_upd) ?_ (by first | exact Nat.le_of_ble_eq_true rfl | size_fits); k_whole); intro zqh' zqF' zqN'; (try k_sweep)) | (k_unfold; (try dsimp only)) | (k_end; wrow_close) | walk1 | (dsimp only; walk1) | (leave1; (try dsimp only)) | fail "no step"))
  with_reducible rename Fr h₀ _ _ _ => kF9
  with_reducible rename News h₀ _ _ _ => kN9
  refine' ret _ _ _ _ _ _ _ _ _ _ _ ⟨getI [0, _, _, _, _, _, _, _], getN [0, _, _, _, _, _, _, _], fun _ => .none⟩ _ (getN [0, _, _, _, _, _, _, _, _]) (getN [0, _, _, _, _, _, _, _, _]) _ _ kF9 ?hN ?lo1 ?hcv ?lo2 ?hct ?hne
  case' hN =>
    refine news_cons kN9 (by k_mem) ?_
    refine news_cons kN9 (by k_mem) ?_
    refine news_cons kN9 (by k_mem) ?_
    refine news_cons kN9 (by k_mem) ?_
    refine news_cons kN9 (by (repeat (first | exact List.mem_cons_self | refine List.mem_cons_of_mem _ ?_))) ?_
    refine news_cons kN9 (by (repeat (first | exact List.mem_cons_self | refine List.mem_cons_of_mem _ ?_))) ?_
    refine news_cons kN9 (by k_mem) ?_
    refine news_cons kN9 (by k_mem) ?_
    refine news_cons kN9 (by k_mem) ?_
    refine news_cons kN9 (by k_mem) ?_
    refine news_cons kN9 (by k_mem) ?_
    refine news_cons kN9 (by k_mem) ?_
    exact fun _ h => nomatch h
  case lo1 => assumption
  case lo2 => assumption
  case hcv => assumption
  case hct => assumption
  case hne => first | exact ⟨b12, by assumption, by assumption, by assumption, by assumption, by assumption⟩ | omega
end Mine
end
section
open PySem PySem.W PyProof.Rows
set_option Elab.async false
namespace Mine
theorem stored_cl {rest : List (Addr × Obj)} {v : Value} {c : Cl3} (h : ClIn rest v c) : ∀ {kvs : List (Int × Value)} {cls : List Cl3}, ClAll rest (kvs.map (·.2)) cls → ∀ k, ∃ cls', ClAll rest ((stored kvs k v).map (·.2)) cls' ∧ ∀ x ∈ cls', x = c ∨ x ∈ cls := by
  intro kvs cls hc k
  unfold stored
  split
  · rename_i hany
    clear hany
    induction kvs generalizing cls with
    | nil => exact ⟨[], .nil, fun _ hx => nomatch hx⟩
    | cons kv kvs ih =>
      cases hc with
      | cons h1 h2 =>
        rename_i d ds
        obtain ⟨cls', h3, h4⟩ := ih h2
        by_cases e : kv.1 = k
        · refine ⟨c :: cls', ?_, fun x hx => ?_⟩
          · simp only [List.map_cons, e, if_true]
            exact .cons h h3
          · rcases List.mem_cons.mp hx with rfl | hx
            · exact Or.inl rfl
            · rcases h4 x hx with q | q
              · exact Or.inl q
              · exact Or.inr (List.mem_cons_of_mem _ q)
        · refine ⟨d :: cls', ?_, fun x hx => ?_⟩
          · simp only [List.map_cons, e, if_false]
            exact .cons h1 h3
          · rcases List.mem_cons.mp hx with rfl | hx
            · exact Or.inr (List.mem_cons_self)
            · rcases h4 x hx with q | q
              · exact Or.inl q
              · exact Or.inr (List.mem_cons_of_mem _ q)
  · refine ⟨cls ++ [c], ?_, fun x hx => ?_⟩
    · rw [List.map_append]
      exact hc.snoc h
    · rcases List.mem_append.mp hx with q | q
      · exact Or.inr q
      · exact Or.inl (List.mem_singleton.mp q)
theorem Cl3.Ok.mono {fr fr' : Int} (h : fr ≤ fr') : ∀ {c : Cl3}, c.Ok fr → c.Ok fr' := by
  intro c hc
  cases c with
  | rat x y => exact fun e => by have := hc e; omega
  | bv _ _ => trivial
  | elem _ _ => trivial
def Names (mug told kd mx : Nat) (m : Str → Option Value) : Prop := m (Str.ofString "kinds") = some (.ref kd) ∧ m (Str.ofString "maker") = some (.ref mx) ∧ m (Str.ofString "told") = some (.ref told) ∧ m (Str.ofString "mug") = some (.ref mug)
theorem Names.eq {mug told kd mx : Nat} {m : Str → Option Value} (h : Names mug told kd mx m) : m = kstB m [(Str.ofString "kinds", .ref kd), (Str.ofString "maker", .ref mx), (Str.ofString "told", .ref told), (Str.ofString "mug", .ref mug)] := by
  obtain ⟨h1, h2, h3, h4⟩ := h
  funext z
  simp only [kstB]
  by_cases e1 : z = Str.ofString "kinds"
  · rw [if_pos e1, e1, h1]
  · rw [if_neg e1]
    by_cases e2 : z = Str.ofString "maker"
    · rw [if_pos e2, e2, h2]
    · rw [if_neg e2]
      by_cases e3 : z = Str.ofString "told"
      · rw [if_pos e3, e3, h3]
      · rw [if_neg e3]
        by_cases e4 : z = Str.ofString "mug"
        · rw [if_pos e4, e4, h4]
        · rw [if_neg e4]
theorem Names.put {mug told kd mx : Nat} {m : Str → Option Value} (h : Names mug told kd mx m) {x : Str} {v : Option Value} (hx : x ≠ Str.ofString "kinds" ∧ x ≠ Str.ofString "maker" ∧ x ≠ Str.ofString "told" ∧ x ≠ Str.ofString "mug") : Names mug told kd mx (fun y => if y = x then v else m y) := by
  obtain ⟨h1, h2, h3, h4⟩ := h
  obtain ⟨a1, a2, a3, a4⟩ := hx
  exact ⟨(if_neg (Ne.symm a1)).trans h1, (if_neg (Ne.symm a2)).trans h2, (if_neg (Ne.symm a3)).trans h3, (if_neg (Ne.symm a4)).trans h4⟩
theorem names_kst {mug told kd mx : Nat} {u : Str → Option Value} : Names mug told kd mx (kstB u [(Str.ofString "kinds", .ref kd), (Str.ofString "maker", .ref mx), (Str.ofString "told", .ref told), (Str.ofString "mug", .ref mug)]) := by
  simp only [Names, kstB]
  exact ⟨if_pos True.intro, (if_neg (by decide)).trans (if_pos True.intro), (if_neg (by decide)).trans ((if_neg (by decide)).trans (if_pos True.intro)), (if_neg (by decide)).trans ((if_neg (by decide)).trans ((if_neg (by decide)).trans (if_pos True.intro)))⟩
theorem Names.fr {mug told kd mx : Nat} {m : Str → Option Value} {h₀ h : Heap} {L : Addr} {x : Str} {v : Value} (n : Names mug told kd mx m) (F : Fr h₀ L h (fun y => if y = x then some v else m y)) :
    Fr h₀ L h (kstB m [(x, v), (Str.ofString "kinds", .ref kd), (Str.ofString "maker", .ref mx), (Str.ofString "told", .ref told), (Str.ofString "mug", .ref mug)]) := by
  have e : (fun y => if y = x then some v else m y) = kstB m [(x, v), (Str.ofString "kinds", .ref kd), (Str.ofString "maker", .ref mx), (Str.ofString "told", .ref told), (Str.ofString "mug", .ref mug)] := by
    show _ = (fun y => if y = x then some v else kstB m [(Str.ofString "kinds", .ref kd), (Str.ofString "maker", .ref mx), (Str.ofString "told", .ref told), (Str.ofString "mug", .ref mug)] y)
    rw [← n.eq]
  rw [← e]
  exact F
theorem names_lap {mug told kd mx : Nat} {u : Str → Option Value} {v : Value} : Names mug told kd mx (kstB u [(Str.ofString "lap", v), (Str.ofString "kinds", .ref kd), (Str.ofString "maker", .ref mx), (Str.ofString "told", .ref told), (Str.ofString "mug", .ref mug)]) :=
  Names.put (x := Str.ofString "lap") names_kst ⟨by decide, by decide, by decide, by decide⟩
theorem off_lt {D : Nat} {rest : List (Addr × Obj)} {adr : List Nat} {o : Obj} (h : OwnOff rest adr) (hD : D ∉ adr) : OwnOff ((D, o) :: rest) adr := fun p hp b hb => by
  rcases List.mem_cons.mp hp with rfl | hp
  · exact fun e => hD ((show D = b from e) ▸ hb)
  · exact h p hp b hb
structure LawSt (w : World) (lc : Nat) (omug ocv oct : Obj) (n : Int) (tn : Tok) (fr : Int) (kvs kct : List (Int × Value)) (cls : List Cl3) (es : List (Int × Cl3)) (tvs : List Value) (rest : List (Addr × Obj)) (adr : List Nat) (b : Nat) : Prop where
  hm : omug.IsDictOf (PySem.strKind PySem.Challenge.rw_rg0220_01.row.prog w) [(Str.ofString "cells", .ref lc), (Str.ofString "at", .int n tn)]
  n0 : 0 ≤ n
  n1 : n ≤ 3 * (b : Int) + 2
  hcv : ocv.IsDictOf (PySem.intKind PySem.Challenge.rw_rg0220_01.row.prog w) kvs
  hlen : kvs.length ≤ b
  hcl : ClAll rest (kvs.map (·.2)) cls
  hok : ∀ c ∈ cls, Cl3.Ok fr c
  f0 : 0 ≤ fr
  f1 : fr ≤ 200 + (b : Int)
  off : OwnOff rest adr
  hct : oct.IsDictOf (PySem.intKind PySem.Challenge.rw_rg0220_01.row.prog w) kct
  hctl : kct.length ≤ b
  c6 : CntAt kct 6 (cntOf 6 es)
  c7 : CntAt kct 7 (cntOf 7 es)
  htl : TAll rest tvs es
  hel : es.length ≤ b
  hnum : ∀ q c, (q = 1 ∨ q = 2) → (q, c) ∈ es → Cl3.Ok fr c
theorem LawSt.start {w : World} {lc : Nat} {omug ocv oct : Obj} {n : Int} {tn : Tok} {adr : List Nat} (hm : omug.IsDictOf (PySem.strKind PySem.Challenge.rw_rg0220_01.row.prog w) [(Str.ofString "cells", .ref lc), (Str.ofString "at", .int n tn)]) (h0 : 0 ≤ n) (h1 : n ≤ 2)
    (hcv : ocv.IsDictOf (PySem.intKind PySem.Challenge.rw_rg0220_01.row.prog w) []) (hct : oct.IsDictOf (PySem.intKind PySem.Challenge.rw_rg0220_01.row.prog w) []) : LawSt w lc omug ocv oct n tn 0 [] [] [] [] [] [] adr 0 :=
  ⟨hm, h0, by omega, hcv, Nat.le_refl 0, .nil, (fun _ h => nomatch h), by decide, by decide, (fun _ h => nomatch h), hct, Nat.le_refl 0, .inl ⟨rfl, rfl⟩, .inl ⟨rfl, rfl⟩, .nil, Nat.le_refl 0, (fun _ _ _ h => nomatch h)⟩
theorem LawSt.mono {w : World} {lc : Nat} {omug ocv oct : Obj} {n : Int} {tn : Tok} {fr : Int} {kvs kct : List (Int × Value)} {cls : List Cl3} {es : List (Int × Cl3)} {tvs : List Value} {rest : List (Addr × Obj)} {adr : List Nat} {b b' : Nat} (h : b ≤ b') (S : LawSt w lc omug ocv oct n tn fr kvs kct cls es tvs rest adr b) : LawSt w lc omug ocv oct n tn fr kvs kct cls es tvs rest adr b' :=
  ⟨S.hm, S.n0, by have := S.n1; omega, S.hcv, Nat.le_trans S.hlen h, S.hcl, S.hok, S.f0, by have := S.f1; omega, S.off, S.hct, Nat.le_trans S.hctl h, S.c6, S.c7, S.htl, Nat.le_trans S.hel h, S.hnum⟩
theorem LawSt.cls {w : World} {lc : Nat} {omug omug' ocv ocv' oct : Obj} {n n' : Int} {tn tn' : Tok} {fr fr' : Int} {kvs kct : List (Int × Value)} {cls : List Cl3} {es : List (Int × Cl3)} {tvs : List Value} {rest : List (Addr × Obj)} {adr : List Nat} {b D nn : Nat} {its : List Value} {cc : Cl3} {name : Int} (S : LawSt w lc omug ocv oct n tn fr kvs kct cls es tvs rest adr b)
    (e1 : omug'.IsDictOf (PySem.strKind PySem.Challenge.rw_rg0220_01.row.prog w) [(Str.ofString "cells", .ref lc), (Str.ofString "at", .int n' tn')]) (e2 : n ≤ n') (e3 : n' ≤ n + 3) (e4 : ocv'.IsDictOf (PySem.intKind PySem.Challenge.rw_rg0220_01.row.prog w) (stored kvs name (.ref D)))
    (e5 : Cl3.Is cc its) (e6 : Cl3.Ok fr' cc) (e7 : fr ≤ fr') (e8 : fr' ≤ max fr 200) (hD : D ∉ adr) : ∃ cls', LawSt w lc omug' ocv' oct n' tn' fr' (stored kvs name (.ref D)) kct cls' es tvs ((D, tupOf its.toArray nn) :: rest) adr (b + 1) := by
  have hs : ∀ p ∈ rest, p ∈ (D, tupOf its.toArray nn) :: rest := fun p hp => List.mem_cons_of_mem _ hp
  obtain ⟨cls', h1, h2⟩ := stored_cl (v := .ref D) (c := cc) ⟨D, its, nn, rfl, List.mem_cons_self, e5⟩ (S.hcl.mono hs) name
  have a1 := S.n0
  have a2 := S.n1
  have a3 := S.f0
  have a4 := S.f1
  refine ⟨cls', ⟨e1, by omega, by omega, e4, Nat.le_trans (stored_length_le _ _ _) (Nat.succ_le_succ S.hlen), h1, fun c hc => ?_, by omega, by omega, off_lt S.off hD, S.hct, Nat.le_succ_of_le S.hctl, S.c6, S.c7, S.htl.mono hs, Nat.le_succ_of_le S.hel, fun q c h hm => (S.hnum q c h hm).mono e7⟩⟩
  rcases h2 c hc with rfl | h
  · exact e6
  · exact (S.hok c h).mono e7
theorem not_adr {h₀ h : Heap} {L D : Nat} {l rest : List (Addr × Obj)} {adr : List Nat} (N : News h₀ L h (l ++ rest)) (hD : h.get? D = none) (hs : ∀ b ∈ adr, b ∈ l.map (·.1)) : D ∉ adr := fun hm => by
  obtain ⟨p, hp, e⟩ := List.mem_map.mp (hs D hm)
  have := (N p (List.mem_append_left _ hp)).1
  rw [e, hD] at this
  cases this
theorem own_ne {h₀ h : Heap} {L D : Nat} {l own : List (Addr × Obj)} (N : News h₀ L h (l ++ own)) (hD : h.get? D = none) : ∀ p ∈ own, p.1 ≠ D := fun p hp e => by
  have := (N p (List.mem_append_right _ hp)).1
  rw [e, hD] at this
  cases this
theorem ownOff_ins {own rest l l' : List (Addr × Obj)} {D : Nat} {o : Obj} (h : OwnOff own ((l ++ rest).map (·.1))) (e : l'.map (·.1) = l.map (·.1)) (hD : ∀ p ∈ own, p.1 ≠ D) : OwnOff own ((l' ++ (D, o) :: rest).map (·.1)) := fun p hp b hb => by
  rw [List.map_append, e, List.map_cons] at hb
  rcases List.mem_append.mp hb with q | q
  · exact h p hp b (by rw [List.map_append]; exact List.mem_append_left _ q)
  · rcases List.mem_cons.mp q with q | q
    · exact fun e => hD p hp (e.trans q)
    · exact h p hp b (by rw [List.map_append]; exact List.mem_append_right _ q)
theorem mem_ins {x : Addr × Obj} {l rest own : List (Addr × Obj)} : ∀ p ∈ l ++ x :: rest, p ∈ x :: (l ++ (rest ++ own)) := fun p hp => by
  rcases List.mem_append.mp hp with q | q
  · exact List.mem_cons_of_mem _ (List.mem_append_left _ q)
  · rcases List.mem_cons.mp q with q | q
    · exact q ▸ List.mem_cons_self
    · exact List.mem_cons_of_mem _ (List.mem_append_right _ (List.mem_append_left _ q))
theorem mem_own {x : Addr × Obj} {l rest own : List (Addr × Obj)} : ∀ p ∈ own, p ∈ x :: (l ++ (rest ++ own)) := fun p hp => List.mem_cons_of_mem _ (List.mem_append_right _ (List.mem_append_right _ hp))
theorem LawSt.gulp {w : World} {lc : Nat} {omug omug' ocv oct : Obj} {n : Int} {tn tn' : Tok} {fr : Int} {kvs kct : List (Int × Value)} {cls : List Cl3} {es : List (Int × Cl3)} {tvs : List Value} {rest : List (Addr × Obj)} {adr : List Nat} {b : Nat} (S : LawSt w lc omug ocv oct n tn fr kvs kct cls es tvs rest adr b)
    (e1 : omug'.IsDictOf (PySem.strKind PySem.Challenge.rw_rg0220_01.row.prog w) [(Str.ofString "cells", .ref lc), (Str.ofString "at", .int (n + 1) tn')]) : LawSt w lc omug' ocv oct (n + 1) tn' fr kvs kct cls es tvs rest adr (b + 1) :=
  ⟨e1, by have := S.n0; omega, by have := S.n1; omega, S.hcv, Nat.le_succ_of_le S.hlen, S.hcl, S.hok, S.f0, by have := S.f1; omega, S.off, S.hct, Nat.le_succ_of_le S.hctl, S.c6, S.c7, S.htl, Nat.le_succ_of_le S.hel, S.hnum⟩
theorem off_ins4 {rest : List (Addr × Obj)} {a b c d x : Nat} (h : OwnOff rest [a, b, c, d]) (hx : ∀ p ∈ rest, p.1 ≠ x) : OwnOff rest [a, b, c, x, d] := fun p hp y hy => by
  simp only [List.mem_cons, List.not_mem_nil, or_false] at hy
  rcases hy with q | q | q | q | q
  · exact h p hp y (by simp [q])
  · exact h p hp y (by simp [q])
  · exact h p hp y (by simp [q])
  · exact q ▸ hx p hp
  · exact h p hp y (by simp [q])
structure JRec where
  (omug ocv oct : Obj)
  (n : Int)
  (tn : Tok)
  (fr : Int)
  (tf : Tok)
  (kvs kct : List (Int × Value))
  (cls : List Cl3)
  (es : List (Int × Cl3))
  (tvs : List Value)
  (nt : Nat)
  (rest : List (Addr × Obj))
theorem nm_nil {x : Nat} : x ∉ ([] : List Nat) := List.not_mem_nil
theorem nm_ne {x y : Nat} {l : List Nat} (h : x ≠ y) (k : x ∉ l) : x ∉ y :: l := fun m => (List.mem_cons.mp m).elim h k
theorem nm_gt {x y : Nat} {l : List Nat} (h : y < x) (k : x ∉ l) : x ∉ y :: l := nm_ne (Nat.ne_of_gt h) k
theorem nm_lt {x y : Nat} {l : List Nat} (h : x < y) (k : x ∉ l) : x ∉ y :: l := nm_ne (Nat.ne_of_lt h) k
theorem above12 {mug lc bx bd wl kd mx md cv ct L told : Nat} (h : mug < bd ∧ lc < bd ∧ bd < bx ∧ bx < wl ∧ wl < told ∧ told < kd ∧ kd < md ∧ md < mx ∧ mx < cv ∧ cv < ct ∧ L + 1 < mug) : ∀ x : Nat, ct < x → x ∉ ([mug, lc, bx, bd, wl, kd, mx, md, cv, ct, L + 1, told] : List Nat) := fun x hx => by
  obtain ⟨a1, a2, a3, a4, a5, a6, a7, a8, a9, a10, a11⟩ := h
  exact nm_gt (Nat.lt_trans (Nat.lt_trans a1 (Nat.lt_trans a3 (Nat.lt_trans a4 (Nat.lt_trans a5 (Nat.lt_trans a6 (Nat.lt_trans a7 (Nat.lt_trans a8 (Nat.lt_trans a9 (a10))))))))) hx) (nm_gt (Nat.lt_trans (Nat.lt_trans a2 (Nat.lt_trans a3 (Nat.lt_trans a4 (Nat.lt_trans a5 (Nat.lt_trans a6 (Nat.lt_trans a7 (Nat.lt_trans a8 (Nat.lt_trans a9 (a10))))))))) hx) (nm_gt (Nat.lt_trans (Nat.lt_trans a4 (Nat.lt_trans a5 (Nat.lt_trans a6 (Nat.lt_trans a7 (Nat.lt_trans a8 (Nat.lt_trans a9 (a10))))))) hx) (nm_gt (Nat.lt_trans (Nat.lt_trans a3 (Nat.lt_trans a4 (Nat.lt_trans a5 (Nat.lt_trans a6 (Nat.lt_trans a7 (Nat.lt_trans a8 (Nat.lt_trans a9 (a10)))))))) hx) (nm_gt (Nat.lt_trans (Nat.lt_trans a5 (Nat.lt_trans a6 (Nat.lt_trans a7 (Nat.lt_trans a8 (Nat.lt_trans a9 (a10)))))) hx) (nm_gt (Nat.lt_trans (Nat.lt_trans a7 (Nat.lt_trans a8 (Nat.lt_trans a9 (a10)))) hx) (nm_gt (Nat.lt_trans (Nat.lt_trans a9 (a10)) hx) (nm_gt (Nat.lt_trans (Nat.lt_trans a8 (Nat.lt_trans a9 (a10))) hx) (nm_gt (Nat.lt_trans (a10) hx) (nm_gt (hx) (nm_gt (Nat.lt_trans (Nat.lt_trans a11 (Nat.lt_trans a1 (Nat.lt_trans a3 (Nat.lt_trans a4 (Nat.lt_trans a5 (Nat.lt_trans a6 (Nat.lt_trans a7 (Nat.lt_trans a8 (Nat.lt_trans a9 (a10)))))))))) hx) (nm_gt (Nat.lt_trans (Nat.lt_trans a6 (Nat.lt_trans a7 (Nat.lt_trans a8 (Nat.lt_trans a9 (a10))))) hx) (nm_nil))))))))))))
theorem sub_right {rest : List (Addr × Obj)} {mug lc bx bd wl kd mx md cv ct L told : Nat} (h : OwnOff rest [mug, lc, bx, bd, wl, kd, mx, md, cv, ct, L, told]) : OwnOff rest [bx, bd, wl, told] :=
  off_sub h (List.forall_mem_cons.mpr ⟨.tail _ (.tail _ (.head _)), List.forall_mem_cons.mpr ⟨.tail _ (.tail _ (.tail _ (.head _))), List.forall_mem_cons.mpr ⟨.tail _ (.tail _ (.tail _ (.tail _ (.head _)))), List.forall_mem_cons.mpr ⟨.tail _ (.tail _ (.tail _ (.tail _ (.tail _ (.tail _ (.tail _ (.tail _ (.tail _ (.tail _ (.tail _ (.head _))))))))))), List.forall_mem_nil _⟩⟩⟩⟩)
theorem sub_mdct {rest : List (Addr × Obj)} {mug lc bx bd wl kd mx md cv ct L told : Nat} (h : OwnOff rest [mug, lc, bx, bd, wl, kd, mx, md, cv, ct, L, told]) : OwnOff rest [md, ct] :=
  off_sub h (List.forall_mem_cons.mpr ⟨.tail _ (.tail _ (.tail _ (.tail _ (.tail _ (.tail _ (.tail _ (.head _))))))), List.forall_mem_cons.mpr ⟨.tail _ (.tail _ (.tail _ (.tail _ (.tail _ (.tail _ (.tail _ (.tail _ (.tail _ (.head _))))))))), List.forall_mem_nil _⟩⟩)
theorem off9_of {rest own : List (Addr × Obj)} {mug lc bx bd wl kd mx md cv ct L told : Nat} {o1 o2 o3 : Obj} (h : mug < bd ∧ lc < bd ∧ bd < bx ∧ bx < wl ∧ wl < told ∧ told < kd ∧ kd < md ∧ md < mx ∧ mx < cv ∧ cv < ct ∧ L + 1 < mug) (hl : @Ne Nat (L + 1) lc)
    (hr : OwnOff (rest ++ own) [mug, lc, bx, bd, wl, kd, mx, md, cv, ct, L + 1, told]) : OwnOff ((ct, o1) :: (L + 1, o2) :: (told, o3) :: (rest ++ own)) [mug, lc, bx, bd, wl, kd, mx, md, cv] := by
  obtain ⟨a1, a2, a3, a4, a5, a6, a7, a8, a9, a10, a11⟩ := h
  exact off_lt (off_lt (off_lt (off_sub hr fun x hx => List.mem_append_left [ct, L + 1, told] hx) (nm_gt (Nat.lt_trans a1 (Nat.lt_trans a3 (Nat.lt_trans a4 (a5)))) (nm_gt (Nat.lt_trans a2 (Nat.lt_trans a3 (Nat.lt_trans a4 (a5)))) (nm_gt (Nat.lt_trans a4 (a5)) (nm_gt (Nat.lt_trans a3 (Nat.lt_trans a4 (a5))) (nm_gt (a5) (nm_lt (a6) (nm_lt (Nat.lt_trans a6 (Nat.lt_trans a7 (a8))) (nm_lt (Nat.lt_trans a6 (a7)) (nm_lt (Nat.lt_trans a6 (Nat.lt_trans a7 (Nat.lt_trans a8 (a9)))) (nm_nil))))))))))) (nm_lt (a11) (nm_ne hl (nm_lt (Nat.lt_trans a11 (Nat.lt_trans a1 (a3))) (nm_lt (Nat.lt_trans a11 (a1)) (nm_lt (Nat.lt_trans a11 (Nat.lt_trans a1 (Nat.lt_trans a3 (a4)))) (nm_lt (Nat.lt_trans a11 (Nat.lt_trans a1 (Nat.lt_trans a3 (Nat.lt_trans a4 (Nat.lt_trans a5 (a6)))))) (nm_lt (Nat.lt_trans a11 (Nat.lt_trans a1 (Nat.lt_trans a3 (Nat.lt_trans a4 (Nat.lt_trans a5 (Nat.lt_trans a6 (Nat.lt_trans a7 (a8)))))))) (nm_lt (Nat.lt_trans a11 (Nat.lt_trans a1 (Nat.lt_trans a3 (Nat.lt_trans a4 (Nat.lt_trans a5 (Nat.lt_trans a6 (a7))))))) (nm_lt (Nat.lt_trans a11 (Nat.lt_trans a1 (Nat.lt_trans a3 (Nat.lt_trans a4 (Nat.lt_trans a5 (Nat.lt_trans a6 (Nat.lt_trans a7 (Nat.lt_trans a8 (a9))))))))) (nm_nil))))))))))) (nm_gt (Nat.lt_trans a1 (Nat.lt_trans a3 (Nat.lt_trans a4 (Nat.lt_trans a5 (Nat.lt_trans a6 (Nat.lt_trans a7 (Nat.lt_trans a8 (Nat.lt_trans a9 (a10))))))))) (nm_gt (Nat.lt_trans a2 (Nat.lt_trans a3 (Nat.lt_trans a4 (Nat.lt_trans a5 (Nat.lt_trans a6 (Nat.lt_trans a7 (Nat.lt_trans a8 (Nat.lt_trans a9 (a10))))))))) (nm_gt (Nat.lt_trans a4 (Nat.lt_trans a5 (Nat.lt_trans a6 (Nat.lt_trans a7 (Nat.lt_trans a8 (Nat.lt_trans a9 (a10))))))) (nm_gt (Nat.lt_trans a3 (Nat.lt_trans a4 (Nat.lt_trans a5 (Nat.lt_trans a6 (Nat.lt_trans a7 (Nat.lt_trans a8 (Nat.lt_trans a9 (a10)))))))) (nm_gt (Nat.lt_trans a5 (Nat.lt_trans a6 (Nat.lt_trans a7 (Nat.lt_trans a8 (Nat.lt_trans a9 (a10)))))) (nm_gt (Nat.lt_trans a7 (Nat.lt_trans a8 (Nat.lt_trans a9 (a10)))) (nm_gt (Nat.lt_trans a9 (a10)) (nm_gt (Nat.lt_trans a8 (Nat.lt_trans a9 (a10))) (nm_gt (a10) (nm_nil))))))))))
theorem ownOff_lit {own rest l : List (Addr × Obj)} {adr : List Nat} (h : OwnOff own ((l ++ rest).map (·.1))) (hs : ∀ b ∈ adr, b ∈ l.map (·.1)) : OwnOff own adr := fun p hp b hb => h p hp b (by rw [List.map_append]; exact List.mem_append_left _ (hs b hb))
theorem ownOff_app {a b : List (Addr × Obj)} {adr : List Nat} (ha : OwnOff a adr) (hb : OwnOff b adr) : OwnOff (a ++ b) adr := fun p hp => (List.mem_append.mp hp).elim (ha p) (hb p)
section
variable {w : World} {p : Program} {loose : List Str} {mean : ExcName → Option Value} {mg mb : Str → Option Value} {fa : Nat} {cd : Value} {base h₀ : Heap} {L : Nat} {m : Str → Option Value} {s : Shared} {Q E : Value → Shared → Prop}
theorem gulp_L {news : List (Addr × Obj)} {mug lc : Nat} {omug : Obj} {n : Int} {tn : Tok} {vs : List Value} {ns : List Int} {c : Nat} {many : Int} {tm : Tok} {g : Obj → List (Addr × Obj)}
    (B : Below callerA base [] h₀) (F : Fr h₀ L s.heap m) (X : (K w.params).In h₀) (T : Top p loose mean mg mb h₀)
    (N : News h₀ L s.heap news) (U : UpdF mug omug news g) (hmug : omug.IsDictOf (PySem.strKind PySem.Challenge.rw_rg0220_01.row.prog w) [(Str.ofString "cells", .ref lc), (Str.ofString "at", .int n tn)])
    (hm2 : (lc, listOf vs.toArray c) ∈ news) (lo : (mug == sysModules) = false)
    (hI : IntsAre vs ns) (hne : @Ne Nat mug lc) (h0 : 0 ≤ n) (h1 : n ≤ 1000) (hlen : ns.length ≤ 60) (hm1 : 1 ≤ many) (hm3 : many ≤ 1000)
    (ret : ∀ h' tk r tr omug' tn', Fr h₀ L h' m → News h₀ L h' (g omug') → omug'.IsDictOf (PySem.strKind PySem.Challenge.rw_rg0220_01.row.prog w) [(Str.ofString "cells", .ref lc), (Str.ofString "at", .int (n + 1) tn')] → 0 ≤ r → r < many →
      Q (.int r tr) { s with heap := h', toks := tk }) :
    wpAny (model PySem.Challenge.rw_rg0220_01.row.prog w) (lawA L fa cd) (call (.ref 989) [.ref mug, .int many tm]) Q E s := by
  rw [lawA_eq]
  exact gulp_U B F X T rfl N U hmug hm2 lo hI hne h0 h1 hlen hm1 hm3 (by decide) (by have := @law_units L fa cd; omega) ret
theorem class_U
    {mug lc bx bd wl kd mx md cv ct mo vl nl bv : Nat} {omug ocv : Obj} {n : Int} {tn : Tok} {vs : List Value} {ns : List Int} {c n2 n3 : Nat} {name : Int} {tm : Tok} {kvs : List (Int × Value)} {fr : Int} {tf : Tok} {tail : List (Addr × Obj)}
    {bk : Bk}
    {mk : Bk} {kq q : Nat → Tok}
    (B : Below callerA base [] h₀) (F : Fr h₀ L s.heap m) (X : (K w.params).In h₀) (T : Top p loose mean mg mb h₀)
    (N : News h₀ L s.heap ((mug, omug) :: (lc, listOf vs.toArray c) :: (bx, instObj 782 bd) :: (bd, dictOf (bankEs bk nl wl bv) 14) ::
      (wl, listOf (wlL q).toArray n2) :: (kd, listOf (kdL kq).toArray n3) ::
      (mx, instObj 978 md) :: (md, dictOf (mkEs mk bx mo vl cv ct fr tf) 7) :: (cv, ocv) :: tail))
    (off : OwnOff tail [mug, lc, bx, bd, wl, kd, mx, md, cv])
    (lo : (mug == sysModules) = false) (hmug : omug.IsDictOf (PySem.strKind PySem.Challenge.rw_rg0220_01.row.prog w) [(Str.ofString "cells", .ref lc), (Str.ofString "at", .int n tn)])
    (hcv : ocv.IsDictOf (PySem.intKind PySem.Challenge.rw_rg0220_01.row.prog w) kvs) (hkv : kvs.length ≤ 1000)
    (hI : IntsAre vs ns) (hne : @Ne Nat mug lc) (hne2 : mug < bd ∧ lc < bd ∧ bd < bx ∧ bx < wl ∧ wl < kd ∧ kd < md ∧ md < mx ∧ mx < cv) (h0 : 0 ≤ n) (hn1 : n ≤ 900) (hlen : ns.length ≤ 60) (hf0 : -1000 ≤ fr) (hf1 : fr ≤ 1000)
    (ret : ∀ h' tk (D : Nat) (its : List Value) nn cc omug' n' tn' ocv' fr' tf', Fr h₀ L h' m → News h₀ L h' ((D, tupOf its.toArray nn) :: (mug, omug') :: (lc, listOf vs.toArray c) :: (bx, instObj 782 bd) :: (bd, dictOf (bankEs bk nl wl bv) 14) ::
      (wl, listOf (wlL q).toArray n2) :: (kd, listOf (kdL kq).toArray n3) ::
      (mx, instObj 978 md) :: (md, dictOf (mkEs mk bx mo vl cv ct fr' tf') 7) :: (cv, ocv') :: tail) →
      omug'.IsDictOf (PySem.strKind PySem.Challenge.rw_rg0220_01.row.prog w) [(Str.ofString "cells", .ref lc), (Str.ofString "at", .int n' tn')] → n ≤ n' → n' ≤ n + 3 → ocv'.IsDictOf (PySem.intKind PySem.Challenge.rw_rg0220_01.row.prog w) (stored kvs name (.ref D)) →
      Cl3.Is cc its → Cl3.Ok fr' cc → fr ≤ fr' → fr' ≤ max fr 200 → s.heap.get? D = none → Q .none { s with heap := h', toks := tk }) :
    wpAny (model PySem.Challenge.rw_rg0220_01.row.prog w) (lawA L fa cd) (call (.ref 1003) [.ref mug, .ref bx, .ref mx, .int name tm, .ref kd]) Q E s := by
  rw [lawA_eq]
  refine class_c B F X T rfl (fun q hq => N q (List.mem_append_left (as := [_, _, _, _, _, _, _, _, _]) tail hq)) lo hmug hcv hkv hI hne hne2 h0 hn1 hlen hf0 hf1 (by decide) (by have := @law_units L fa cd; omega)
    fun h' tk D its nn cc omug' n' tn' ocv' fr' tf' F' N' e1 e2 e3 e4 e5 e6 e7 e8 e9 K' => ret h' tk D its nn cc omug' n' tn' ocv' fr' tf' F' (fun q hq => ?_) e1 e2 e3 e4 e5 e6 e7 e8 e9
  rcases List.mem_append.mp (show q ∈ [_, _, _, _, _, _, _, _, _, _] ++ tail from hq) with z | z
  · exact N' q z
  · have y := N q (List.mem_append_right [_, _, _, _, _, _, _, _, _] z)
    exact ⟨K' _ _ y.1 (fun hm => off q z _ hm rfl), y.2⟩
end
theorem bnd5 {k i : Nat} {n : Int} {kv es tv : Nat} (hk : k < 16) (hi : i < k) (h0 : 0 ≤ n) (h : n ≤ 3 * ((9 + i : Nat) : Int) + 2) (h1 : kv ≤ 9 + i) (h2 : es ≤ 9 + i) (h3 : tv = es) :
    n ≤ 1000 ∧ n + 1 ≤ 1000 ∧ 0 ≤ n + 1 ∧ kv ≤ 1000 ∧ kv ≤ 500 ∧ kv ≤ 16777216 ∧ tv ≤ 30 ∧ tv ≤ 500 ∧ tv ≤ 16777216 ∧ 9 + i + 1 ≤ 100 := by
  subst h3
  have a : 9 + i ≤ 24 := by omega
  have b : n ≤ 900 := by omega
  exact ⟨Int.le_trans b (by decide), Int.le_trans (Int.add_le_add_right b 1) (by decide), Int.le_add_one h0, Nat.le_trans h1 (Nat.le_trans a (by decide)), Nat.le_trans h1 (Nat.le_trans a (by decide)), Nat.le_trans h1 (Nat.le_trans a (by decide)),
    Nat.le_trans h2 (Nat.le_trans a (by decide)), Nat.le_trans h2 (Nat.le_trans a (by decide)), Nat.le_trans h2 (Nat.le_trans a (by decide)), Nat.le_trans (Nat.succ_le_succ a) (by decide)⟩
theorem bnd4 {k i : Nat} {n fr : Int} {kv : Nat} (hk : k < 8) (hi : i < k) (h : n ≤ 3 * (i : Int) + 2) (h1 : kv ≤ i) (h2 : 0 ≤ fr) (h3 : fr ≤ 200 + (i : Int)) : n ≤ 900 ∧ kv ≤ 1000 ∧ -1000 ≤ fr ∧ fr ≤ 1000 := by
  have a : i ≤ 8 := Nat.le_of_lt (Nat.lt_trans hi hk)
  have b : (i : Int) ≤ 8 := Int.ofNat_le.mpr a
  exact ⟨by omega, Nat.le_trans h1 (Nat.le_trans a (by decide)), Int.le_trans (by decide) h2, Int.le_trans h3 (Int.le_trans (Int.add_le_add_left b 200) (by decide))⟩
theorem small_nat {k : Nat} (h : k < 16) : Builtin.Range.small 0 (k : Int) 1 = true := small_one (by omega) (by omega) (by omega) (by omega)
theorem lt16 {k : Nat} {r : Int} (h : r < 12) (e : 4 + r = (k : Int)) : k < 16 := by omega
theorem lt8n {k : Nat} {r : Int} (h : r < 8) (e : r = (k : Int)) : k < 8 := by omega
theorem bnd0 {n : Int} (h : n ≤ 3 * ((8 : Nat) : Int) + 2) : n ≤ 1000 := by omega
end Mine
end
section
open PySem PySem.W PyProof.Rows
set_option Elab.async false
set_option maxRecDepth 100000
namespace Mine
theorem kinds7 {k : Int} (h0 : 1 ≤ k) (h1 : k ≤ 7) : (k = 1 ∨ k = 2) ∨ (k = 6 ∨ k = 7) ∨ (k = 3 ∨ k = 4 ∨ k = 5) := by
  obtain ⟨n, rfl⟩ := Int.eq_ofNat_of_zero_le (Int.le_trans (by decide) h0)
  exact (by decide : ∀ n < 8, 1 ≤ (Int.ofNat n) → (Int.ofNat n = 1 ∨ Int.ofNat n = 2) ∨ (Int.ofNat n = 6 ∨ Int.ofNat n = 7) ∨ (Int.ofNat n = 3 ∨ Int.ofNat n = 4 ∨ Int.ofNat n = 5)) n (Nat.lt_succ_of_le (Int.ofNat_le.mp h1)) h0
theorem mem_ins2 {a b : Addr × Obj} {pre l rest own : List (Addr × Obj)} (ha : a ∈ pre) (hb : b ∈ pre) : ∀ p ∈ l ++ a :: b :: rest, p ∈ pre ++ (l ++ (rest ++ own)) := fun p hp => by
  rcases List.mem_append.mp hp with q | q
  · exact List.mem_append_right _ (List.mem_append_left _ q)
  · rcases List.mem_cons.mp q with q | q
    · exact List.mem_append_left _ (q ▸ ha)
    · rcases List.mem_cons.mp q with q | q
      · exact List.mem_append_left _ (q ▸ hb)
      · exact List.mem_append_right _ (List.mem_append_right _ (List.mem_append_left _ q))
theorem mem_own2 {pre l rest own : List (Addr × Obj)} : ∀ p ∈ own, p ∈ pre ++ (l ++ (rest ++ own)) := fun _ hp => List.mem_append_right _ (List.mem_append_right _ (List.mem_append_right _ hp))
theorem names_all {mug told kd mx : Nat} {u : Str → Option Value} {v a b c : Value} : Names mug told kd mx (fun y => if y = Str.ofString "found" then some a else if y = Str.ofString "s" then some b else if y = Str.ofString "before" then some c else kstB u [(Str.ofString "lap", v), (Str.ofString "kinds", .ref kd), (Str.ofString "maker", .ref mx), (Str.ofString "told", .ref told), (Str.ofString "mug", .ref mug)] y) :=
  Names.put (x := Str.ofString "found") (Names.put (x := Str.ofString "s") (Names.put (x := Str.ofString "before") names_lap ⟨by decide, by decide, by decide, by decide⟩) ⟨by decide, by decide, by decide, by decide⟩) ⟨by decide, by decide, by decide, by decide⟩
theorem ownOff_ne2 {tail : List (Addr × Obj)} {a b : Nat} (h : OwnOff tail [a, b]) : (∀ p ∈ tail, p.1 ≠ a) ∧ ∀ p ∈ tail, p.1 ≠ b := ⟨fun p hp => h p hp a List.mem_cons_self, fun p hp => h p hp b (List.mem_cons_of_mem _ List.mem_cons_self)⟩
theorem updF_app {d : Nat} {o : Obj} {r : List (Addr × Obj)} {g : Obj → List (Addr × Obj)} (U : UpdF d o r g) : ∀ {pre : List (Addr × Obj)}, (∀ p ∈ pre, p.1 ≠ d) → UpdF d o (pre ++ r) (fun o' => pre ++ g o')
  | [], _ => U
  | p :: pre, h => .tail (h p List.mem_cons_self) (updF_app U fun q hq => h q (List.mem_cons_of_mem _ hq))
theorem cnt_yes' {k : Int} {c : Cl3} {es : List (Int × Cl3)} : ((cntOf k (es ++ [(k, c)]) : Nat) : Int) = (cntOf k es : Int) + 1 := by
  have := cnt_yes (k := k) (k' := k) (c := c) (es := es) rfl rfl
  omega
theorem cnt_no' {k k' : Int} {c : Cl3} {es : List (Int × Cl3)} (h : ¬ k' = k) : cntOf k (es ++ [(k', c)]) = cntOf k es := (cnt_no h rfl).symm
structure FreshSt (w : World) (fr fr' : Int) (oct' : Obj) (kct kct' : List (Int × Value)) (k : Int) (c : Cl3) (cls : List Cl3) (es : List (Int × Cl3)) : Prop where
  right : RightOk k c cls es
  ok : Cl3.Ok fr' c
  le : fr ≤ fr'
  le1 : fr' ≤ fr + 1
  hct : oct'.IsDictOf (PySem.intKind PySem.Challenge.rw_rg0220_01.row.prog w) kct'
  len : kct'.length ≤ kct.length + 1
  c6 : CntAt kct' 6 (cntOf 6 (es ++ [(k, c)]))
  c7 : CntAt kct' 7 (cntOf 7 (es ++ [(k, c)]))
theorem fresh_st_num {w : World} {fr : Int} {oct : Obj} {kct : List (Int × Value)} {k : Int} {cls : List Cl3} {es : List (Int × Cl3)} (hk : k = 1 ∨ k = 2) (hcls : ∀ c ∈ cls, Cl3.Ok fr c) (hnum : ∀ q c, (q = 1 ∨ q = 2) → (q, c) ∈ es → Cl3.Ok fr c)
    (hct : oct.IsDictOf (PySem.intKind PySem.Challenge.rw_rg0220_01.row.prog w) kct) (c6 : CntAt kct 6 (cntOf 6 es)) (c7 : CntAt kct 7 (cntOf 7 es)) : FreshSt w fr (fr + 1) oct kct kct k (.rat fr 1) cls es := by
  refine ⟨.inl ⟨hk, fr, rfl, fun h => ?_, fun q hq h => ?_⟩, fun _ => Int.le_refl _, by omega, Int.le_refl _, hct, Nat.le_succ _, ?_, ?_⟩
  · have := hcls _ h rfl
    omega
  · have := hnum q _ hq h rfl
    omega
  · rw [cnt_no' (by omega)]; exact c6
  · rw [cnt_no' (by omega)]; exact c7
theorem fresh_st_elem {w : World} {fr : Int} {oct' : Obj} {kct : List (Int × Value)} {k : Int} {t : Tok} {cls : List Cl3} {es : List (Int × Cl3)} (hk : k = 6 ∨ k = 7)
    (hct : oct'.IsDictOf (PySem.intKind PySem.Challenge.rw_rg0220_01.row.prog w) (stored kct k (.int ((cntOf k es : Nat) + 1) t))) (c6 : CntAt kct 6 (cntOf 6 es)) (c7 : CntAt kct 7 (cntOf 7 es)) : FreshSt w fr fr oct' kct (stored kct k (.int ((cntOf k es : Nat) + 1) t)) k (.elem k (cntOf k es)) cls es := by
  refine ⟨.inr (.inl ⟨hk, rfl⟩), trivial, Int.le_refl _, by omega, hct, stored_length_le _ _ _, ?_, ?_⟩
  · rcases hk with rfl | rfl
    · rw [cnt_yes']; exact .same
    · rw [cnt_no' (by decide)]; exact CntAt.other (by decide) c6
  · rcases hk with rfl | rfl
    · rw [cnt_no' (by decide)]; exact CntAt.other (by decide) c7
    · rw [cnt_yes']; exact .same
theorem fresh_st_bits {w : World} {fr : Int} {oct : Obj} {kct : List (Int × Value)} {k wd r : Int} {cls : List Cl3} {es : List (Int × Cl3)} (hk : (k = 3 ∧ wd = 1) ∨ (k = 4 ∧ wd = 2) ∨ (k = 5 ∧ wd = 3)) (hb : BitsOk cls wd r)
    (hct : oct.IsDictOf (PySem.intKind PySem.Challenge.rw_rg0220_01.row.prog w) kct) (c6 : CntAt kct 6 (cntOf 6 es)) (c7 : CntAt kct 7 (cntOf 7 es)) : FreshSt w fr fr oct kct kct k (.bv r wd) cls es := by
  refine ⟨.inr (.inr ⟨wd, r, hk, rfl, hb⟩), trivial, Int.le_refl _, by omega, hct, Nat.le_succ _, ?_, ?_⟩
  · rw [cnt_no' (by omega)]; exact c6
  · rw [cnt_no' (by omega)]; exact c7
theorem LawSt.fresh {w : World} {lc : Nat} {omug omug' ocv oct oct' : Obj} {n n' : Int} {tn tn' : Tok} {fr fr' : Int} {kvs kct kct' : List (Int × Value)} {cls : List Cl3} {es : List (Int × Cl3)} {tvs : List Value} {rest : List (Addr × Obj)} {adr : List Nat} {b D TT nn nn' : Nat} {its : List Value} {k : Int} {tk : Tok} {c : Cl3}
    (S : LawSt w lc omug ocv oct n tn fr kvs kct cls es tvs rest adr b) (R : FreshSt w fr fr' oct' kct kct' k c cls es) (hi : Cl3.Is c its)
    (e1 : omug'.IsDictOf (PySem.strKind PySem.Challenge.rw_rg0220_01.row.prog w) [(Str.ofString "cells", .ref lc), (Str.ofString "at", .int n' tn')]) (e2 : n' = n + 1 + 1) (hD : D ∉ adr) (hT : TT ∉ adr) :
    LawSt w lc omug' ocv oct' n' tn' fr' kvs kct' cls (es ++ [(k, c)]) (tvs ++ [.ref TT]) ((TT, tupOf #[Value.int k tk, .ref D] nn') :: (D, tupOf its.toArray nn) :: rest) adr (b + 1) := by
  have hs : ∀ p ∈ rest, p ∈ (TT, tupOf #[Value.int k tk, .ref D] nn') :: (D, tupOf its.toArray nn) :: rest := fun p hp => List.mem_cons_of_mem _ (List.mem_cons_of_mem _ hp)
  have a1 := S.n0
  have a2 := S.n1
  have a3 := S.f0
  have a4 := S.f1
  have a5 := R.le
  have a6 := R.le1
  refine ⟨e1, by omega, by omega, S.hcv, Nat.le_succ_of_le S.hlen, S.hcl.mono hs, fun c hc => (S.hok c hc).mono R.le, by omega, by omega, off_lt (off_lt S.off hD) hT, R.hct, Nat.le_trans R.len (Nat.succ_le_succ S.hctl), R.c6, R.c7,
    TAll.snoc (e := (k, c)) ⟨TT, D, its, tk, nn', nn, rfl, List.mem_cons_self, List.mem_cons_of_mem _ List.mem_cons_self, hi⟩ (S.htl.mono hs), ?_, fun q d h hm => ?_⟩
  · rw [List.length_append]
    exact Nat.succ_le_succ S.hel
  · rcases List.mem_append.mp hm with z | z
    · exact (S.hnum q d h z).mono R.le
    · cases List.mem_singleton.mp z
      exact R.ok
theorem LawSt.set {w : World} {lc : Nat} {omug ocv ocv' oct : Obj} {n : Int} {tn : Tok} {fr : Int} {kvs kct : List (Int × Value)} {cls : List Cl3} {es : List (Int × Cl3)} {tvs : List Value} {rest : List (Addr × Obj)} {adr : List Nat} {b D nn : Nat} {its : List Value} {c : Cl3} {name : Int} 
    (S : LawSt w lc omug ocv oct n tn fr kvs kct cls es tvs rest adr (b + 1)) (hb : kvs.length ≤ b) (e4 : ocv'.IsDictOf (PySem.intKind PySem.Challenge.rw_rg0220_01.row.prog w) (stored kvs name (.ref D))) (hm : (D, tupOf its.toArray nn) ∈ rest) (hi : Cl3.Is c its) (ho : Cl3.Ok fr c) :
    ∃ cls', LawSt w lc omug ocv' oct n tn fr (stored kvs name (.ref D)) kct cls' es tvs rest adr (b + 1) := by
  obtain ⟨cls', h1, h2⟩ := stored_cl (v := .ref D) (c := c) ⟨D, its, nn, rfl, hm, hi⟩ S.hcl name
  refine ⟨cls', ⟨S.hm, S.n0, S.n1, e4, Nat.le_trans (stored_length_le _ _ _) (Nat.succ_le_succ hb), h1, fun x hx => ?_, S.f0, S.f1, S.off, S.hct, S.hctl, S.c6, S.c7, S.htl, S.hel, S.hnum⟩⟩
  rcases h2 x hx with rfl | h
  · exact ho
  · exact S.hok x h
theorem LawSt.fresh_set {w : World} {lc : Nat} {omug omug' ocv ocv' oct oct' : Obj} {n n' : Int} {tn tn' : Tok} {fr fr' : Int} {kvs kct kct' : List (Int × Value)} {cls : List Cl3} {es : List (Int × Cl3)} {tvs : List Value} {rest : List (Addr × Obj)} {adr : List Nat} {b D TT nn nn' : Nat} {its : List Value} {k name : Int} {c : Cl3}
    (S : LawSt w lc omug ocv oct n tn fr kvs kct cls es tvs rest adr b) (R : FreshSt w fr fr' oct' kct kct' k c cls es) (hi : Cl3.Is c its)
    (e1 : omug'.IsDictOf (PySem.strKind PySem.Challenge.rw_rg0220_01.row.prog w) [(Str.ofString "cells", .ref lc), (Str.ofString "at", .int n' tn')]) (e2 : n' = n + 1 + 1) (hD : D ∉ adr) (hT : TT ∉ adr) (e4 : ocv'.IsDictOf (PySem.intKind PySem.Challenge.rw_rg0220_01.row.prog w) (stored kvs name (.ref D))) :
    ∃ cls', ∀ tk : Tok, LawSt w lc omug' ocv' oct' n' tn' fr' (stored kvs name (.ref D)) kct' cls' (es ++ [(k, c)]) (tvs ++ [.ref TT]) ((TT, tupOf #[Value.int k tk, .ref D] nn') :: (D, tupOf its.toArray nn) :: rest) adr (b + 1) := by
  obtain ⟨cls', h1, h2⟩ := stored_cl (rest := (D, tupOf its.toArray nn) :: rest) (v := .ref D) (c := c) ⟨D, its, nn, rfl, List.mem_cons_self, hi⟩ (S.hcl.mono fun _ h => List.mem_cons_of_mem _ h) name
  refine ⟨cls', fun tk => ?_⟩
  have S1 := S.fresh (tk := tk) (nn := nn) (nn' := nn') R hi e1 e2 hD hT
  refine { S1 with hcv := e4, hlen := Nat.le_trans (stored_length_le _ _ _) (Nat.succ_le_succ S.hlen), hcl := h1.mono fun _ h => List.mem_cons_of_mem _ h, hok := fun x hx => ?_ }
  rcases h2 x hx with rfl | h
  · exact R.ok
  · exact (S.hok x h).mono R.le
section
variable {w : World} {p : Program} {loose : List Str} {mean : ExcName → Option Value} {mg mb : Str → Option Value} {fa : Nat} {cd : Value} {base h₀ : Heap} {L : Nat} {s : Shared}
    {mug lc bx bd wl kd mx md cv ct mo vl nl bv told : Nat} {omug ocv oct oc : Obj} {tn : Tok} {vs : List Value} {ns : List Int} {c n2 n3 nt : Nat} {tf : Tok}
    {bk : Bk}
    {mk : Bk} {kq q : Nat → Tok}
  {m : Str → Option Value} {QV E : Value → Shared → Prop}
theorem fresh_L {pre tail rest : List (Addr × Obj)} {k : Int} {tk : Tok} {n : Int} {fr : Int} {kvs kct : List (Int × Value)} {cls : List Cl3} {es : List (Int × Cl3)} {tvs : List Value} {b : Nat}
    (B : Below callerA base [] h₀) (F : Fr h₀ L s.heap m) (X : (K w.params).In h₀) (T : Top p loose mean mg mb h₀)
    (N : News h₀ L s.heap (pre ++ (mug, omug) :: (lc, listOf vs.toArray c) :: (bx, instObj 782 bd) :: (bd, dictOf (bankEs bk nl wl bv) 14) ::
      (wl, listOf (wlL q).toArray n2) :: (kd, listOf (kdL kq).toArray n3) ::
      (mx, instObj 978 md) :: (md, dictOf (mkEs mk bx mo vl cv ct fr tf) 7) :: (cv, ocv) :: (ct, oct) :: (L + 1, oc) :: (told, listOf tvs.toArray nt) :: tail)) (hp : ∀ p ∈ pre, p.1 ≠ md ∧ p.1 ≠ ct) (ht : OwnOff tail [md, ct]) (hr : ∀ p ∈ rest, p ∈ tail)
    (S : LawSt w lc omug ocv oct n tn fr kvs kct cls es tvs rest [mug, lc, bx, bd, wl, kd, mx, md, cv, ct, L + 1, told] b) (hb : b ≤ 100) (lo2 : (cv == sysModules) = false) (lo3 : (ct == sysModules) = false) (hne2 : mug < bd ∧ lc < bd ∧ bd < bx ∧ bx < wl ∧ wl < told ∧ told < kd ∧ kd < md ∧ md < mx ∧ mx < cv ∧ cv < ct ∧ L + 1 < mug) (hne1 : @Ne Nat (L + 1) lc) (hk : 1 ≤ k ∧ k ≤ 7)
    (ret : ∀ h' tk (D : Nat) (its : List Value) nn cc fr' tf' oct' kct', Fr h₀ L h' m → News h₀ L h' ((D, tupOf its.toArray nn) :: (pre ++ (mug, omug) :: (lc, listOf vs.toArray c) :: (bx, instObj 782 bd) :: (bd, dictOf (bankEs bk nl wl bv) 14) ::
      (wl, listOf (wlL q).toArray n2) :: (kd, listOf (kdL kq).toArray n3) ::
      (mx, instObj 978 md) :: (md, dictOf (mkEs mk bx mo vl cv ct fr' tf') 7) :: (cv, ocv) :: (ct, oct') :: (L + 1, oc) :: (told, listOf tvs.toArray nt) :: tail)) → Cl3.Is cc its → FreshSt w fr fr' oct' kct kct' k cc cls es → (∀ p ∈ pre ++ (mug, omug) :: (lc, listOf vs.toArray c) :: (bx, instObj 782 bd) :: (bd, dictOf (bankEs bk nl wl bv) 14) ::
      (wl, listOf (wlL q).toArray n2) :: (kd, listOf (kdL kq).toArray n3) ::
      (mx, instObj 978 md) :: (md, dictOf (mkEs mk bx mo vl cv ct fr tf) 7) :: (cv, ocv) :: (ct, oct) :: (L + 1, oc) :: (told, listOf tvs.toArray nt) :: tail, p.1 < D) →
      QV (.ref D) { s with heap := h', toks := tk }) :
    wpAny (model PySem.Challenge.rw_rg0220_01.row.prog w) (lawA L fa cd) (call (.ref 947) [.ref mx, .int k tk]) QV E s := by
  obtain ⟨a1, a2, a3, a4, a5, a6, a7, a8, a9, a10, a11⟩ := hne2
  have hu := @law_units L fa cd
  have tm := ownOff_ne2 ht
  have mem : ∀ {l : List (Addr × Obj)} {q : Addr × Obj}, q ∈ l → q ∈ pre ++ l := fun h => List.mem_append_right _ h
  have f1 := S.f1
  have f0 := S.f0
  rw [lawA_eq]
  have hks : (k = 1 ∨ k = 2) ∨ (k = 6 ∨ k = 7) ∨ (k = 3 ∨ k = 4 ∨ k = 5) := kinds7 hk.1 hk.2
  rcases hks with h | h | h
  · refine fresh_num_U B F X T rfl N (mem (List.Mem.tail _ (List.Mem.tail _ (List.Mem.head _)))) (mem (List.Mem.tail _ (List.Mem.tail _ (List.Mem.tail _ (List.Mem.head _))))) (mem (List.Mem.tail _ (List.Mem.tail _ (List.Mem.tail _ (List.Mem.tail _ (List.Mem.tail _ (List.Mem.tail _ (List.Mem.head _)))))))) (updF_app (.tail (Nat.ne_of_lt (Nat.lt_trans a1 (Nat.lt_trans a3 (Nat.lt_trans a4 (Nat.lt_trans a5 (Nat.lt_trans a6 (a7))))))) (.tail (Nat.ne_of_lt (Nat.lt_trans a2 (Nat.lt_trans a3 (Nat.lt_trans a4 (Nat.lt_trans a5 (Nat.lt_trans a6 (a7))))))) (.tail (Nat.ne_of_lt (Nat.lt_trans a4 (Nat.lt_trans a5 (Nat.lt_trans a6 (a7))))) (.tail (Nat.ne_of_lt (Nat.lt_trans a3 (Nat.lt_trans a4 (Nat.lt_trans a5 (Nat.lt_trans a6 (a7)))))) (.tail (Nat.ne_of_lt (Nat.lt_trans a5 (Nat.lt_trans a6 (a7)))) (.tail (Nat.ne_of_lt (a7)) (.tail (Nat.ne_of_gt (a8)) (.head (List.forall_mem_cons.mpr ⟨(Nat.ne_of_gt (Nat.lt_trans a8 (a9))), List.forall_mem_cons.mpr ⟨(Nat.ne_of_gt (Nat.lt_trans a8 (Nat.lt_trans a9 (a10)))), List.forall_mem_cons.mpr ⟨(Nat.ne_of_lt (Nat.lt_trans a11 (Nat.lt_trans a1 (Nat.lt_trans a3 (Nat.lt_trans a4 (Nat.lt_trans a5 (Nat.lt_trans a6 (a7)))))))), List.forall_mem_cons.mpr ⟨(Nat.ne_of_lt (Nat.lt_trans a6 (a7))), tm.1⟩⟩⟩⟩))))))))) fun p hq => (hp p hq).1) ⟨a3, (Nat.lt_trans a4 (Nat.lt_trans a5 (Nat.lt_trans a6 (a7)))), a8⟩ h (by omega) (by omega) (by decide) (by omega) fun h' tk D its nn tf' F' N' e1 e2 => ret h' tk D its nn _ _ tf' oct kct F' N' e1 (fresh_st_num h S.hok S.hnum S.hct S.c6 S.c7) e2
  · refine fresh_elem_U (n := cntOf k es) (kct := kct) B F X T rfl N (mem (List.Mem.tail _ (List.Mem.tail _ (List.Mem.head _)))) (mem (List.Mem.tail _ (List.Mem.tail _ (List.Mem.tail _ (List.Mem.head _))))) (mem (List.Mem.tail _ (List.Mem.tail _ (List.Mem.tail _ (List.Mem.tail _ (List.Mem.head _)))))) (mem (List.Mem.tail _ (List.Mem.tail _ (List.Mem.tail _ (List.Mem.tail _ (List.Mem.tail _ (List.Mem.tail _ (List.Mem.head _)))))))) (mem (List.Mem.tail _ (List.Mem.tail _ (List.Mem.tail _ (List.Mem.tail _ (List.Mem.tail _ (List.Mem.tail _ (List.Mem.tail _ (List.Mem.head _))))))))) (updF_app (.tail (Nat.ne_of_lt (Nat.lt_trans a1 (Nat.lt_trans a3 (Nat.lt_trans a4 (Nat.lt_trans a5 (Nat.lt_trans a6 (Nat.lt_trans a7 (Nat.lt_trans a8 (Nat.lt_trans a9 (a10)))))))))) (.tail (Nat.ne_of_lt (Nat.lt_trans a2 (Nat.lt_trans a3 (Nat.lt_trans a4 (Nat.lt_trans a5 (Nat.lt_trans a6 (Nat.lt_trans a7 (Nat.lt_trans a8 (Nat.lt_trans a9 (a10)))))))))) (.tail (Nat.ne_of_lt (Nat.lt_trans a4 (Nat.lt_trans a5 (Nat.lt_trans a6 (Nat.lt_trans a7 (Nat.lt_trans a8 (Nat.lt_trans a9 (a10)))))))) (.tail (Nat.ne_of_lt (Nat.lt_trans a3 (Nat.lt_trans a4 (Nat.lt_trans a5 (Nat.lt_trans a6 (Nat.lt_trans a7 (Nat.lt_trans a8 (Nat.lt_trans a9 (a10))))))))) (.tail (Nat.ne_of_lt (Nat.lt_trans a5 (Nat.lt_trans a6 (Nat.lt_trans a7 (Nat.lt_trans a8 (Nat.lt_trans a9 (a10))))))) (.tail (Nat.ne_of_lt (Nat.lt_trans a7 (Nat.lt_trans a8 (Nat.lt_trans a9 (a10))))) (.tail (Nat.ne_of_lt (Nat.lt_trans a9 (a10))) (.tail (Nat.ne_of_lt (Nat.lt_trans a8 (Nat.lt_trans a9 (a10)))) (.tail (Nat.ne_of_lt (a10)) (.head (List.forall_mem_cons.mpr ⟨(Nat.ne_of_lt (Nat.lt_trans a11 (Nat.lt_trans a1 (Nat.lt_trans a3 (Nat.lt_trans a4 (Nat.lt_trans a5 (Nat.lt_trans a6 (Nat.lt_trans a7 (Nat.lt_trans a8 (Nat.lt_trans a9 (a10))))))))))), List.forall_mem_cons.mpr ⟨(Nat.ne_of_lt (Nat.lt_trans a6 (Nat.lt_trans a7 (Nat.lt_trans a8 (Nat.lt_trans a9 (a10)))))), tm.2⟩⟩))))))))))) fun p hq => (hp p hq).2) ⟨a3, a4, (Nat.lt_trans a5 (Nat.lt_trans a6 (a7))), a8, (Nat.lt_trans a9 (a10))⟩ h lo3 S.hct (Nat.le_trans S.hctl (by omega)) (by rcases h with rfl | rfl; exact S.c6; exact S.c7) (by decide) (by omega)
      fun h' tk D its nn oct' t' F' N' e1 e2 e3 => ret h' tk D its nn _ fr tf oct' _ F' N' e2 (fresh_st_elem h e1 S.c6 S.c7) e3
  · have key : ∀ wd : Int, ((k = 3 ∧ wd = 1) ∨ (k = 4 ∧ wd = 2) ∨ (k = 5 ∧ wd = 3)) → wpAny (model PySem.Challenge.rw_rg0220_01.row.prog w) (ktrTop (1 + claimMargin + 1) (callerA.deeper (lawEnv L fa cd)).units (lawA L fa cd).guards (Str.ofString "law") lawScope L fa cd [(Str.ofString "bank", L + 1)] []) (call (.ref 947) [.ref mx, .int k tk]) QV E s := fun wd hw => 
      fresh_bits_U (wd := wd) (rest := rest) B F X T rfl N (mem (List.Mem.tail _ (List.Mem.tail _ (List.Mem.head _)))) (mem (List.Mem.tail _ (List.Mem.tail _ (List.Mem.tail _ (List.Mem.head _))))) (mem (List.Mem.tail _ (List.Mem.tail _ (List.Mem.tail _ (List.Mem.tail _ (List.Mem.head _)))))) (mem (List.Mem.tail _ (List.Mem.tail _ (List.Mem.tail _ (List.Mem.tail _ (List.Mem.tail _ (List.Mem.tail _ (List.Mem.head _)))))))) (mem (List.Mem.tail _ (List.Mem.tail _ (List.Mem.tail _ (List.Mem.tail _ (List.Mem.tail _ (List.Mem.tail _ (List.Mem.tail _ (List.Mem.head _))))))))) (mem (List.Mem.tail _ (List.Mem.tail _ (List.Mem.tail _ (List.Mem.tail _ (List.Mem.tail _ (List.Mem.tail _ (List.Mem.tail _ (List.Mem.tail _ (List.Mem.head _)))))))))) (fun p hp => mem (List.mem_append_right [_, _, _, _, _, _, _, _, _, _, _, _] (hr p hp))) (off_sub S.off (List.forall_mem_cons.mpr ⟨.tail _ (.tail _ (.head _)), List.forall_mem_cons.mpr ⟨.tail _ (.tail _ (.tail _ (.head _))), List.forall_mem_cons.mpr ⟨.tail _ (.tail _ (.tail _ (.tail _ (.head _)))), List.forall_mem_cons.mpr ⟨.tail _ (.tail _ (.tail _ (.tail _ (.tail _ (.tail _ (.head _)))))), List.forall_mem_cons.mpr ⟨.tail _ (.tail _ (.tail _ (.tail _ (.tail _ (.tail _ (.tail _ (.head _))))))), List.forall_mem_cons.mpr ⟨.tail _ (.tail _ (.tail _ (.tail _ (.tail _ (.tail _ (.tail _ (.tail _ (.head _)))))))), List.forall_mem_nil _⟩⟩⟩⟩⟩⟩)) ⟨a3, a4, (Nat.lt_trans a5 (Nat.lt_trans a6 (a7))), a8, a9⟩ hw lo2 S.hcv (Nat.le_trans S.hlen (by omega)) S.hcl (by decide) (by omega)
        fun h' tk D its nn r F' N' e1 e2 e3 => ret h' tk D its nn _ fr tf oct kct F' N' e1 (fresh_st_bits hw e2 S.hct S.c6 S.c7) e3
    rcases h with h | h | h
    · exact key 1 (.inl ⟨h, rfl⟩)
    · exact key 2 (.inr (.inl ⟨h, rfl⟩))
    · exact key 3 (.inr (.inr ⟨h, rfl⟩))
end
end Mine
end
section
open PySem PySem.W PyProof.Rows
set_option Elab.async false
set_option maxRecDepth 100000
namespace Mine
theorem valueAt_of_mem {k : Int} {v : Value} : ∀ {kb : List (Int × Value)}, (kb.map (·.1)).Nodup → (k, v) ∈ kb → valueAt kb k = some v
  | [], _, h => nomatch h
  | q :: kb, hn, h => by
    rw [List.map_cons, List.nodup_cons] at hn
    unfold valueAt
    rcases List.mem_cons.mp h with e | h
    · rw [← e, List.find?_cons_of_pos (by simp)]
      rfl
    · have : q.1 ≠ k := fun e => hn.1 (by rw [e]; exact List.mem_map.mpr ⟨_, h, rfl⟩)
      rw [List.find?_cons_of_neg (by simpa using this)]
      exact valueAt_of_mem hn.2 h
theorem hits_same {A : Around} {s : Shared} {kb : List (Int × Value)} (hn : (kb.map (·.1)).Nodup) : ∀ {r : List (Int × Value)}, (∀ p ∈ r, p ∈ kb) → KeqHits A s kb r true
  | [], _ => .nil
  | (k, v) :: r, h => by
    have h1 : valueAt kb k = some v := valueAt_of_mem hn (h _ List.mem_cons_self)
    exact KeqHits.hit (e := true) (b := true) h1 (SeqAt.EqAt.same v) (hits_same hn fun p hp => h p (List.mem_cons_of_mem _ hp))
section
variable {prog : Program} {w : World} {A : Around} {E : Value → Shared → Prop} {s : Shared} {h₀ : Heap} {L : Addr} {m : Str → Option Value} {news : List (Addr × Obj)} {Q : Value → Shared → Prop}
theorem dict_ne_same {a b : Addr} {oa ob : Obj} {kvs : List (Int × Value)} (N : News h₀ L s.heap news) (ma : (a, oa) ∈ news) (mb : (b, ob) ∈ news) (ha : (a == sysModules) = false) (hb : (b == sysModules) = false)
    (da : oa.IsDictOf (PySem.intKind prog w) kvs) (db : ob.IsDictOf (PySem.intKind prog w) kvs) (hu : A.units < cLine) (h : Q (.bool false) s) : wpAny (model prog w) A (compareOp .NotEq (.ref a) (.ref b)) Q E s := by
  have d1 := kda_dict N ma da
  have d2 := kda_dict N mb db
  have hn : (kvs.map (·.1)).Nodup := by
    obtain ⟨_, _, _, _, _, _, _, _, hn⟩ := d1
    exact hn
  refine keq_ne (r := true) ha hb d1 d2 hu (fun _ => hits_same hn fun _ hp => hp) ?_
  simpa using h
theorem dict_copy {o : Obj} {d : Addr} {kvs : List (Int × Value)} (F : Fr h₀ L s.heap m) (N : News h₀ L s.heap news) (hbig : sysModules < h₀.objs.size) (hp : (d, o) ∈ news) (lo : (d == sysModules) = false) (hd : o.IsDictOf (PySem.intKind prog w) kvs) (hsz : kvs.length ≤ 1000)
    (k : ∀ (D : Nat) h' o', Fr h₀ L h' m → News h₀ L h' ((D, o') :: news) → (D == sysModules) = false → o'.IsDictOf (PySem.intKind prog w) kvs → (∀ p ∈ news, p.1 < D) → Q (.ref D) { s with heap := h' }) :
    wpAny (model prog w) A (call (.type "dict") [.ref d]) Q E s := by
  refine kt_call_dict lo (kda_dict N hp hd) (by rw [sizeLine_eq]; omega) fun h' hm hs => ?_
  obtain ⟨o', ho', hd'⟩ := Heap.dictOf_iff.mp hm
  have N1 := News.push F N { cls := .type "dict", data := .dict #[] }
  exact k _ h' o' ((F.push _).change hs (N1 _ (.head _)).2.1 (N1.fresh (.head _))) (N1.setHead N.apart hs ho') (F.notModules hbig) hd' fun p hp => Heap.lt_size (N p hp).1
end
theorem kind_bound {r : Int} (h0 : 0 ≤ r) (h1 : r < 8) : 1 ≤ ([1, 2, 3, 4, 5, 6, 7, 3] : List Int).getD r.toNat 0 ∧ ([1, 2, 3, 4, 5, 6, 7, 3] : List Int).getD r.toNat 0 ≤ 7 := by
  have h : r.toNat < 8 := (Int.toNat_lt h0).mpr h1
  revert h
  generalize r.toNat = n
  exact (by decide : ∀ n < 8, 1 ≤ ([1, 2, 3, 4, 5, 6, 7, 3] : List Int).getD n 0 ∧ ([1, 2, 3, 4, 5, 6, 7, 3] : List Int).getD n 0 ≤ 7) n
section
variable {w : World} {p : Program} {loose : List Str} {mean : ExcName → Option Value} {mg mb : Str → Option Value} {fa : Nat} {cd : Value} {base h₀ : Heap} {L : Nat} {m : Str → Option Value} {s : Shared} {Q E : Value → Shared → Prop}
    {bx bd wl D lc tc c1 c2 nl bv n2 : Nat} {news rest : List (Addr × Obj)} {k : Int} {tk : Tok} {cvs tvs : List Value} {cls : List Cl3} {es : List (Int × Cl3)} {c : Cl3}
    {bk : Bk} {q : Nat → Tok}
theorem right_L
    (B : Below callerA base [] h₀) (F : Fr h₀ L s.heap m) (X : (K w.params).In h₀) (T : Top p loose mean mg mb h₀)
    (N : News h₀ L s.heap news) (m1 : (bx, instObj 782 bd) ∈ news) (m2 : (bd, dictOf (bankEs bk nl wl bv) 14) ∈ news)
    (m3 : (wl, listOf (wlL q).toArray n2) ∈ news) (m4 : (lc, listOf cvs.toArray c1) ∈ news) (m5 : (tc, listOf tvs.toArray c2) ∈ news)
    (hrest : ∀ p ∈ rest, p ∈ news) (hoff : OwnOff rest [bx, bd, wl, lc, tc]) (hne : bd < bx ∧ bx < wl ∧ wl < tc ∧ tc < lc) (hD : ClIn rest (.ref D) c) (hcl : ClAll rest cvs cls) (htl : TAll rest tvs es) (hl1 : cvs.length ≤ 500) (hl2 : tvs.length ≤ 500)
    (hok : RightOk k c cls es)
    (ret : ∀ h' tk, Fr h₀ L h' m → News h₀ L h' news → Q (.bool true) { s with heap := h', toks := tk }) :
    wpAny (model PySem.Challenge.rw_rg0220_01.row.prog w) (lawA L fa cd) (call (.ref 1008) [.ref bx, .int k tk, .ref D, .ref lc, .ref tc]) Q E s := by
  have hu := @law_units L fa cd
  rw [lawA_eq]
  exact right_U B F X T rfl N m1 m2 m3 m4 m5 hrest hoff hne hD hcl htl hl1 hl2 hok (by decide) hu ret
end
end Mine
end
section
open PySem PySem.W PyProof.Rows
set_option Elab.async false
namespace Mine
local macro_rules | `(tactic| k_ne) => `(tactic| (refine neN ?_; (try dsimp only); with_reducible first | exact Nat.ne_of_lt (by assumption) | exact Nat.ne_of_gt (by assumption) | assumption | exact Ne.symm (by assumption)))
local macro_rules | `(tactic| walk_at "execs cons") => `(tactic| (k_here; refine Mine.toks_cons ?_; intro tk'; (try dsimp only); (try k_fold)))
local macro_rules | `(tactic| walk_at "exec For Name Call cons nil") => `(tactic| (k_here; refine Mine.Stp.out (n := 21) ?_))
local macro_rules | `(tactic| walk_at "pyIter ref") => `(tactic| (k_here; refine Mine.Stop.out ?_))
local macro_rules | `(tactic| walk_at "call type:range") => `(tactic| (k_here; refine Mine.Stp.out (n := 22) ?_))
local macro_rules | `(tactic| walk_at "call ref") => `(tactic| (k_here; (with_reducible show wpAny _ _ (call (Value.ref 989) [Value.ref _, Value.int _ _]) _ _ _); refine Mine.Stp.out (n := 6) ?_))
local macro_rules | `(tactic| walk_at "call ref") => `(tactic| (k_here; (with_reducible show wpAny _ _ (call (Value.ref 1003) _) _ _ _); refine Mine.Stp.out (n := 23) ?_))
set_option maxRecDepth 100000 in
set_option maxHeartbeats 1000000 in
theorem law_4 {w : World} {p : Program} {loose : List Str} {mean : ExcName → Option Value} {mg mb : Str → Option Value} {fa : Nat} {cd : Value} {base h₀ : Heap} {L : Nat} {s : Shared} {Q : Flow → Shared → Prop}
    {mug lc bx bd wl kd mx md cv ct mo vl nl bv told : Nat} {omug ocv oct oc : Obj} {tn : Tok} {vs : List Value} {ns : List Int} {c n2 n3 nt : Nat} {tf : Tok}
    {bk : Bk}
    {mk : Bk} {kq q : Nat → Tok}
    {u : Str → Option Value}
    (B : Below callerA base [] h₀) (X : (K w.params).In h₀) (T : Top p loose mean mg mb h₀)
    (F : Fr h₀ L s.heap (kstB u [(Str.ofString "kinds", .ref kd), (Str.ofString "maker", .ref mx), (Str.ofString "told", .ref told), (Str.ofString "mug", .ref mug)])) (hc : oc.data = .cell (some (.ref bx)))
    (N : News h₀ L s.heap ((mug, omug) :: (lc, listOf vs.toArray c) :: (bx, instObj 782 bd) :: (bd, dictOf (bankEs bk nl wl bv) 14) ::
      (wl, listOf (wlL q).toArray n2) :: (kd, listOf (kdL kq).toArray n3) ::
      (mx, instObj 978 md) :: (md, dictOf (mkEs mk bx mo vl cv ct 0 tf) 7) :: (cv, ocv) :: (ct, oct) :: (L + 1, oc) :: (told, listOf #[] nt) :: []))
    (lo : (mug == sysModules) = false) (hmug : omug.IsDictOf (PySem.strKind PySem.Challenge.rw_rg0220_01.row.prog w) [(Str.ofString "cells", .ref lc), (Str.ofString "at", .int 0 tn)])
    (lo2 : (cv == sysModules) = false) (hcv : ocv.IsDictOf (PySem.intKind PySem.Challenge.rw_rg0220_01.row.prog w) []) (hct : oct.IsDictOf (PySem.intKind PySem.Challenge.rw_rg0220_01.row.prog w) [])
    (hI : IntsAre vs ns) (hlen : ns.length ≤ 60) (hne : @Ne Nat mug lc) (hne1 : @Ne Nat (L + 1) lc) (hne2 : mug < bd ∧ lc < bd ∧ bd < bx ∧ bx < wl ∧ wl < told ∧ told < kd ∧ kd < md ∧ md < mx ∧ mx < cv ∧ cv < ct ∧ L + 1 < mug)
    (ret : ∀ h' tk m nx, (fun i m nx => Names mug told kd mx m ∧ ∃ r : JRec, nx = (mug, r.omug) :: (lc, listOf vs.toArray c) :: (bx, instObj 782 bd) :: (bd, dictOf (bankEs bk nl wl bv) 14) ::
      (wl, listOf (wlL q).toArray n2) :: (kd, listOf (kdL kq).toArray n3) ::
      (mx, instObj 978 md) :: (md, dictOf (mkEs mk bx mo vl cv ct r.fr r.tf) 7) :: (cv, r.ocv) :: (ct, r.oct) :: (L + 1, oc) :: (told, listOf r.tvs.toArray r.nt) :: r.rest ∧ LawSt w lc r.omug r.ocv r.oct r.n r.tn r.fr r.kvs r.kct r.cls r.es r.tvs r.rest [mug, lc, bx, bd, wl, kd, mx, md, cv, ct, L + 1, told] 8) 0 m nx → Fr h₀ L h' m → News h₀ L h' nx → Q .next { s with heap := h', toks := tk }) :
    Does w L fa cd (lawStm 3) Q s := by
  constructor
  have aOrd := hne2
  obtain ⟨a1, a2, a3, a4, a5, a6, a7, a8, a9, a10, a11⟩ := hne2
  have aAll : mug < bd ∧ lc < bd ∧ bd < bx ∧ bx < wl ∧ wl < kd ∧ kd < md ∧ md < mx ∧ mx < cv := ⟨a1, a2, a3, a4, Nat.lt_trans a5 a6, a7, a8, a9⟩
  have b1 : mug < bx := Nat.lt_trans a1 a3
  have b2 : mug < wl := Nat.lt_trans b1 a4
  have b3 : mug < told := Nat.lt_trans b2 a5
  have b4 : mug < kd := Nat.lt_trans b3 a6
  have b5 : mug < md := Nat.lt_trans b4 a7
  have b6 : mug < mx := Nat.lt_trans b5 a8
  have b7 : mug < cv := Nat.lt_trans b6 a9
  have b8 : mug < ct := Nat.lt_trans b7 a10
  have b9 : bd < wl := Nat.lt_trans a3 a4
  have b10 : bd < told := Nat.lt_trans b9 a5
  have b11 : bd < kd := Nat.lt_trans b10 a6
  have b12 : bd < md := Nat.lt_trans b11 a7
  have b13 : bd < mx := Nat.lt_trans b12 a8
  have b14 : bd < cv := Nat.lt_trans b13 a9
  have b15 : lc < cv := Nat.lt_trans a2 b14
  have b16 : bx < told := Nat.lt_trans a4 a5
  have b17 : bx < kd := Nat.lt_trans b16 a6
  have b18 : bx < md := Nat.lt_trans b17 a7
  have b19 : bx < mx := Nat.lt_trans b18 a8
  have b20 : bx < cv := Nat.lt_trans b19 a9
  have b21 : wl < kd := Nat.lt_trans a5 a6
  have b22 : wl < md := Nat.lt_trans b21 a7
  have b23 : wl < mx := Nat.lt_trans b22 a8
  have b24 : wl < cv := Nat.lt_trans b23 a9
  have b25 : kd < mx := Nat.lt_trans a7 a8
  have b26 : kd < cv := Nat.lt_trans b25 a9
  have b27 : md < cv := Nat.lt_trans a8 a9
  have b28 : L + 1 < cv := Nat.lt_trans a11 b7
  have b29 : told < md := Nat.lt_trans a6 a7
  have b30 : told < mx := Nat.lt_trans b29 a8
  have b31 : told < cv := Nat.lt_trans b30 a9
  have b32 : told < ct := Nat.lt_trans b31 a10
  have b33 : lc < told := Nat.lt_trans a2 b10
  have b34 : L + 1 < told := Nat.lt_trans a11 b3
  w_on
  revert X
  k_fill
  intro X
  w_strict ((conv in (exec _ _) => arg 1; whnf); (all_goals try k_fold); repeat' (first | (with_reducible refine Mine.Stp.mk (n := 21) ?_; (rename Fr _ _ _ _ => lF'); (with_unfolding_all refine' For_invVF lF' (by exact rfl) (by exact rfl) ?_; k_whole)) | (with_reducible refine Mine.Stp.mk (n := 22) ?_; k_dflt (refine' range1_rows (by k_asm) (by k_asm) ?_); intro zqh' zqtk' zqt₁' zqu₁' zqv₁' zqR' zqF' zqN' zqS') | (with_reducible refine Mine.Stp.mk (n := 6) ?_; k_dflt (refine' gulp_L (by k_asm) (by k_asm) (by k_asm) (by k_asm) (by k_asm) (by k_updF) (by k_asm) (by k_mem) (by assumption) (by assumption) (by assumption) (by first | assumption | omega) (by first | assumption | omega) (by assumption) (by first | decide | omega) (by first | decide | omega) ?_); intro zqh' zqtk' zqr' zqtr' zqomug' zqtn' zqF' zqN' zqhmug' zqhr0' zqhr1') | (with_reducible refine Mine.Stp.mk (n := 23) ?_; k_dflt (refine' class_U (by k_asm) (by k_asm) (by k_asm) (by k_asm) (by k_asm) (by assumption) (by assumption) (by k_asm) (by assumption) (by first | assumption | omega) (by assumption) (by assumption) (by assumption) (by assumption) (by first | assumption | omega) (by assumption) (by first | assumption | omega) (by first | assumption | omega) ?_); intro zqh' zqtk' zqD' zqits' zqnn' zqcc' zqomug' zqn' zqtn' zqocv' zqfr' zqtf' zqF' zqN' zqe1' zqe2' zqe3' zqe4' zqe5' zqe6' zqe7' zqe8' zqe9') | (k_unfold; (try dsimp only)) | (k_end; wrow_close) | walk1 | (dsimp only; walk1) | (leave1; (try dsimp only)) | fail "no step"))
  refine Stop.mk ?_
  with_reducible rename (0 : Int) ≤ _ => r0
  with_reducible rename @LT.lt Int _ _ _ => r1
  obtain ⟨k, hk⟩ := Int.eq_ofNat_of_zero_le r0
  with_reducible rename IsRange _ _ _ _ _ _ _ _ => R9
  with_reducible rename Fr _ _ _ _ => F9
  with_reducible rename News _ _ _ _ => N9
  with_reducible rename Obj.IsDictOf _ _ _ => hm9
  rw [hk] at R9 r1
  have hk8 : k < 8 := lt8n r1 rfl
  clear hk r0 r1
  refine rng_loop (n := k) (fun i m nx => Names mug told kd mx m ∧ ∃ r : JRec, nx = (mug, r.omug) :: (lc, listOf vs.toArray c) :: (bx, instObj 782 bd) :: (bd, dictOf (bankEs bk nl wl bv) 14) ::
      (wl, listOf (wlL q).toArray n2) :: (kd, listOf (kdL kq).toArray n3) ::
      (mx, instObj 978 md) :: (md, dictOf (mkEs mk bx mo vl cv ct r.fr r.tf) 7) :: (cv, r.ocv) :: (ct, r.oct) :: (L + 1, oc) :: (told, listOf r.tvs.toArray r.nt) :: r.rest ∧ LawSt w lc r.omug r.ocv r.oct r.n r.tn r.fr r.kvs r.kct r.cls r.es r.tvs r.rest [mug, lc, bx, bd, wl, kd, mx, md, cv, ct, L + 1, told] i) (by rfl) R9 (small_nat (Nat.lt_of_lt_of_le hk8 (by decide))) (rangeSize_nat _ _) F9 N9 ?j0 ?turn ?done
  case j0 =>
    exact ⟨names_kst, ⟨_, _, _, _, _, _, _, _, _, _, _, _, _, []⟩, rfl, LawSt.start hm9 (show (0 : Int) ≤ 0 + 1 by decide) (show (0 : Int) + 1 ≤ 2 by decide) hcv hct⟩
  case done =>
    intro m1 nx h tk hj F1 N1
    obtain ⟨hn, r, e, S⟩ := hj
    exact ret h tk m1 nx ⟨hn, r, e, S.mono (Nat.le_of_lt hk8)⟩ F1 N1
  case turn =>
    intro i t m1 nx h tk own hi hoff hj F1 N1
    k_fold
    obtain ⟨hn, r, rfl, S⟩ := hj
    clear F9 N9 R9 hm9 hcv hct hmug ret
    have F2 := hn.fr F1
    clear F1
    simp only [List.cons_append] at N1
    have hoff2 : OwnOff own [mug, lc, bx, bd, wl, kd, mx, md, cv, ct, L + 1, told] := ownOff_lit (l := [_, _, _, _, _, _, _, _, _, _, _, _]) hoff (fun b hb => hb)
    have off9 := off9_of (o1 := r.oct) (o2 := oc) (o3 := listOf r.tvs.toArray r.nt) aOrd hne1 (ownOff_app S.off hoff2)
    have S0 := S
    have s1 := S0.hm
    have s2 := S0.n0
    have s3 := S0.n1
    have s4 := S0.hcv
    have s5 := S0.hlen
    have s8 := S0.f0
    have s9 := S0.f1
    have M := bnd4 hk8 hi s3 s5 s8 s9
    have m1 := M.1
    have m2 := M.2.1
    have m3 := M.2.2.1
    have m4 := M.2.2.2
    clear M
    w_strict (repeat' (first | (with_reducible refine Mine.Stp.mk (n := 21) ?_; (rename Fr _ _ _ _ => lF'); (with_unfolding_all refine' For_invVF lF' (by exact rfl) (by exact rfl) ?_; k_whole)) | (with_reducible refine Mine.Stp.mk (n := 22) ?_; k_dflt (refine' range1_rows (by k_asm) (by k_asm) ?_); intro zqh' zqtk' zqt₁' zqu₁' zqv₁' zqR' zqF' zqN' zqS') | (with_reducible refine Mine.Stp.mk (n := 6) ?_; k_dflt (refine' gulp_L (by k_asm) (by k_asm) (by k_asm) (by k_asm) (by k_asm) (by k_updF) (by k_asm) (by k_mem) (by assumption) (by assumption) (by assumption) (by first | assumption | omega) (by first | assumption | omega) (by assumption) (by first | decide | omega) (by first | decide | omega) ?_); intro zqh' zqtk' zqr' zqtr' zqomug' zqtn' zqF' zqN' zqhmug' zqhr0' zqhr1') | (with_reducible refine Mine.Stp.mk (n := 23) ?_; k_dflt (refine' class_U (by k_asm) (by k_asm) (by k_asm) (by k_asm) (by k_asm) (by assumption) (by assumption) (by k_asm) (by assumption) (by first | assumption | omega) (by assumption) (by assumption) (by assumption) (by assumption) (by first | assumption | omega) (by assumption) (by first | assumption | omega) (by first | assumption | omega) ?_); intro zqh' zqtk' zqD' zqits' zqnn' zqcc' zqomug' zqn' zqtn' zqocv' zqfr' zqtf' zqF' zqN' zqe1' zqe2' zqe3' zqe4' zqe5' zqe6' zqe7' zqe8' zqe9') | (k_unfold; (try dsimp only)) | (k_end; wrow_close) | walk1 | (dsimp only; walk1) | (leave1; (try dsimp only)) | fail "no step"))
    with_reducible rename Fr h₀ L _ _ => F9
    with_reducible rename News h₀ L _ (_ :: _) => N9
    with_reducible rename Heap.get? _ _ = none => e9
    with_reducible rename _ ≤ max _ 200 => e8
    with_reducible rename Cl3.Is _ _ => e5
    with_reducible rename Cl3.Ok _ _ => e6
    obtain ⟨cls2, S2⟩ := S0.cls (by assumption) (by assumption) (by assumption) (by assumption) e5 e6 (by assumption) e8 (not_adr (l := [_, _, _, _, _, _, _, _, _, _, _, _]) N1 e9 (fun b hb => hb))
    exact InvEndG.intro (nx := _ :: _ :: _ :: _ :: _ :: _ :: _ :: _ :: _ :: _ :: _ :: _ :: _ :: r.rest) F9 N9 ⟨names_lap, ⟨_, _, _, _, _, _, _, _, _, _, _, _, _, _⟩, rfl, S2⟩ (ownOff_ins (l := [_, _, _, _, _, _, _, _, _, _, _, _]) (l' := [_, _, _, _, _, _, _, _, _, _, _, _]) hoff rfl (own_ne (l := _ :: _ :: _ :: _ :: _ :: _ :: _ :: _ :: _ :: _ :: _ :: _ :: r.rest) N1 e9)) (mem_ins (l := [_, _, _, _, _, _, _, _, _, _, _, _])) (mem_own (l := [_, _, _, _, _, _, _, _, _, _, _, _]))
end Mine
end
section
open PySem PySem.W PyProof.Rows
set_option Elab.async false
namespace Mine
local macro_rules | `(tactic| k_ne) => `(tactic| (refine neN ?_; (try dsimp only); with_reducible first | exact Nat.ne_of_lt (by assumption) | exact Nat.ne_of_gt (by assumption) | assumption | exact Ne.symm (by assumption)))
local macro_rules | `(tactic| walk_at "execs cons") => `(tactic| (k_here; refine Mine.toks_cons ?_; intro tk'; (try dsimp only); (try k_fold)))
set_option hygiene false
local macro_rules | `(tactic| k_lt $h:ident) => `(tactic| (k_dflt (have kx1 : @LT.lt Nat _ mug _ := $h (mug, _) (by k_mem)); k_dflt (have kx2 : @LT.lt Nat _ told _ := $h (told, _) (by k_mem)); k_dflt (have kx3 : @LT.lt Nat _ cv _ := $h (cv, _) (by k_mem)); k_dflt (have kx4 : @LT.lt Nat _ ct _ := $h (ct, _) (by k_mem))))
set_option hygiene true
local macro_rules | `(tactic| k_ne) => `(tactic| (refine neN ?_; (try dsimp only); with_reducible first | exact Nat.ne_of_lt (by assumption) | exact Nat.ne_of_gt (by assumption) | assumption | exact Ne.symm (by assumption)))
local macro_rules | `(tactic| walk_at "execs cons") => `(tactic| (k_here; refine Mine.toks_cons ?_; intro tk'; (try dsimp only); (try k_fold)))
local macro_rules | `(tactic| walk_at "exec For Name Call cons nil") => `(tactic| (k_here; refine Mine.Stp.out (n := 21) ?_))
local macro_rules | `(tactic| walk_at "pyIter ref") => `(tactic| (k_here; refine Mine.Stop.out ?_))
local macro_rules | `(tactic| walk_at "call type:range") => `(tactic| (k_here; refine Mine.Stp.out (n := 22) ?_))
local macro_rules | `(tactic| walk_at "call ref") => `(tactic| (k_here; (with_reducible show wpAny _ _ (call (Value.ref 989) [Value.ref _, Value.int _ _]) _ _ _); refine Mine.Stp.out (n := 6) ?_))
local macro_rules | `(tactic| k_all) => `(tactic| assumption)
local macro_rules | `(tactic| walk_at "call type:dict") => `(tactic| (k_here; (with_reducible show wpAny _ _ (call (Value.type "dict") [Value.ref _]) _ _ _); refine Mine.Stp.out (n := 24) ?_))
local macro_rules | `(tactic| walk_at "compareOp NotEq ref ref") => `(tactic| (k_here; refine Mine.Stp.out (n := 25) ?_))
local macro_rules | `(tactic| walk_at "call builtin:dict.values") => `(tactic| (k_here; refine Mine.Stp.out (n := 26) ?_))
local macro_rules | `(tactic| walk_at "call type:list") => `(tactic| (k_here; refine Mine.Stp.out (n := 27) ?_))
local macro_rules | `(tactic| walk_at "call builtin:list.append") => `(tactic| (k_here; refine Mine.Stp.out (n := 1) ?_))
local macro_rules | `(tactic| walk_at "setItem ref int") => `(tactic| (k_here; refine Mine.Stp.out (n := 3) ?_))
local macro_rules | `(tactic| walk_at "call ref") => `(tactic| (k_here; (with_reducible show wpAny _ _ (call (Value.ref 947) _) _ _ _); refine Mine.Stop.out ?_))
local macro_rules | `(tactic| walk_at "call ref") => `(tactic| (k_here; (with_reducible show wpAny _ _ (call (Value.ref 1008) _) _ _ _); refine Mine.Stop.out ?_))
set_option maxRecDepth 100000 in
set_option maxHeartbeats 1000000 in
theorem law_5 {w : World} {p : Program} {loose : List Str} {mean : ExcName → Option Value} {mg mb : Str → Option Value} {fa : Nat} {cd : Value} {base h₀ : Heap} {L : Nat} {s : Shared} {Q : Flow → Shared → Prop}
    {mug lc bx bd wl kd mx md cv ct mo vl nl bv told : Nat} {omug ocv oct oc : Obj} {tn : Tok} {vs : List Value} {ns : List Int} {c n2 n3 nt : Nat} {tf : Tok}
    {bk : Bk}
    {mk : Bk} {kq q : Nat → Tok}
    {m₀ : Str → Option Value} {nx₀ : List (Addr × Obj)}
    (B : Below callerA base [] h₀) (X : (K w.params).In h₀) (T : Top p loose mean mg mb h₀)
    (J₀ : (fun i m nx => Names mug told kd mx m ∧ ∃ r : JRec, nx = (mug, r.omug) :: (lc, listOf vs.toArray c) :: (bx, instObj 782 bd) :: (bd, dictOf (bankEs bk nl wl bv) 14) ::
      (wl, listOf (wlL q).toArray n2) :: (kd, listOf (kdL kq).toArray n3) ::
      (mx, instObj 978 md) :: (md, dictOf (mkEs mk bx mo vl cv ct r.fr r.tf) 7) :: (cv, r.ocv) :: (ct, r.oct) :: (L + 1, oc) :: (told, listOf r.tvs.toArray r.nt) :: r.rest ∧ LawSt w lc r.omug r.ocv r.oct r.n r.tn r.fr r.kvs r.kct r.cls r.es r.tvs r.rest [mug, lc, bx, bd, wl, kd, mx, md, cv, ct, L + 1, told] 8) 0 m₀ nx₀) (F : Fr h₀ L s.heap m₀) (hc : oc.data = .cell (some (.ref bx)))
    (N : News h₀ L s.heap nx₀)
    (lo : (mug == sysModules) = false) (lo2 : (cv == sysModules) = false) (lo3 : (ct == sysModules) = false)
    (hI : IntsAre vs ns) (hlen : ns.length ≤ 60) (hne : @Ne Nat mug lc) (hne1 : @Ne Nat (L + 1) lc) (hne2 : mug < bd ∧ lc < bd ∧ bd < bx ∧ bx < wl ∧ wl < told ∧ told < kd ∧ kd < md ∧ md < mx ∧ mx < cv ∧ cv < ct ∧ L + 1 < mug)
    (ret : ∀ h' tk m nx, Fr h₀ L h' m → News h₀ L h' nx → Q .next { s with heap := h', toks := tk }) :
    Does w L fa cd (lawStm 4) Q s := by
  constructor
  have aOrd := hne2
  obtain ⟨a1, a2, a3, a4, a5, a6, a7, a8, a9, a10, a11⟩ := hne2
  have aAll : mug < bd ∧ lc < bd ∧ bd < bx ∧ bx < wl ∧ wl < kd ∧ kd < md ∧ md < mx ∧ mx < cv := ⟨a1, a2, a3, a4, Nat.lt_trans a5 a6, a7, a8, a9⟩
  have b1 : mug < bx := Nat.lt_trans a1 a3
  have b2 : mug < wl := Nat.lt_trans b1 a4
  have b3 : mug < told := Nat.lt_trans b2 a5
  have b4 : mug < kd := Nat.lt_trans b3 a6
  have b5 : mug < md := Nat.lt_trans b4 a7
  have b6 : mug < mx := Nat.lt_trans b5 a8
  have b7 : mug < cv := Nat.lt_trans b6 a9
  have b8 : mug < ct := Nat.lt_trans b7 a10
  have b9 : bd < wl := Nat.lt_trans a3 a4
  have b10 : bd < told := Nat.lt_trans b9 a5
  have b11 : bd < kd := Nat.lt_trans b10 a6
  have b12 : bd < md := Nat.lt_trans b11 a7
  have b13 : bd < mx := Nat.lt_trans b12 a8
  have b14 : bd < cv := Nat.lt_trans b13 a9
  have b15 : lc < cv := Nat.lt_trans a2 b14
  have b16 : bx < told := Nat.lt_trans a4 a5
  have b17 : bx < kd := Nat.lt_trans b16 a6
  have b18 : bx < md := Nat.lt_trans b17 a7
  have b19 : bx < mx := Nat.lt_trans b18 a8
  have b20 : bx < cv := Nat.lt_trans b19 a9
  have b21 : wl < kd := Nat.lt_trans a5 a6
  have b22 : wl < md := Nat.lt_trans b21 a7
  have b23 : wl < mx := Nat.lt_trans b22 a8
  have b24 : wl < cv := Nat.lt_trans b23 a9
  have b25 : kd < mx := Nat.lt_trans a7 a8
  have b26 : kd < cv := Nat.lt_trans b25 a9
  have b27 : md < cv := Nat.lt_trans a8 a9
  have b28 : L + 1 < cv := Nat.lt_trans a11 b7
  have b29 : told < md := Nat.lt_trans a6 a7
  have b30 : told < mx := Nat.lt_trans b29 a8
  have b31 : told < cv := Nat.lt_trans b30 a9
  have b32 : told < ct := Nat.lt_trans b31 a10
  have b33 : lc < told := Nat.lt_trans a2 b10
  have b34 : L + 1 < told := Nat.lt_trans a11 b3
  obtain ⟨hn, r0, rfl, S⟩ := J₀
  rw [hn.eq] at F
  have s1 := S.hm
  have s2 := S.n0
  have s3 := S.n1
  have m0 := bnd0 s3
  have s10 := S.off
  w_on
  revert X
  k_fill
  intro X
  w_strict ((conv in (exec _ _) => arg 1; whnf); (all_goals try k_fold); repeat' (first | (with_reducible refine Mine.Stp.mk (n := 21) ?_; (rename Fr _ _ _ _ => lF'); (with_unfolding_all refine' For_invVF lF' (by exact rfl) (by exact rfl) ?_; k_whole)) | (with_reducible refine Mine.Stp.mk (n := 22) ?_; k_dflt (refine' range1_rows (by k_asm) (by k_asm) ?_); intro zqh' zqtk' zqt₁' zqu₁' zqv₁' zqR' zqF' zqN' zqS') | (with_reducible refine Mine.Stp.mk (n := 6) ?_; k_dflt (refine' gulp_L (by k_asm) (by k_asm) (by k_asm) (by k_asm) (by k_asm) (by k_updF) (by k_asm) (by k_mem) (by assumption) (by assumption) (by assumption) (by first | assumption | omega) (by first | assumption | omega) (by assumption) (by first | decide | omega) (by first | decide | omega) ?_); intro zqh' zqtk' zqr' zqtr' zqomug' zqtn' zqF' zqN' zqhmug' zqhr0' zqhr1') | (with_reducible refine Mine.Stp.mk (n := 24) ?_; k_dflt (refine' dict_copy (by k_asm) (by k_asm) (by exact modules_low (Top.nolimit (by k_asm))) (by k_mem) (by assumption) (by assumption) (by first | assumption | omega) ?_); intro zqD' zqh' zqo' zqF' zqN' zqlo' zqhd' zql1; (try k_lt zql1)) | (with_reducible refine Mine.Stp.mk (n := 25) ?_; k_dflt (refine' dict_ne_same (by k_asm) (by k_mem) (by k_mem) (by assumption) (by assumption) (by assumption) (by assumption) (by exact Nat.le_of_ble_eq_true rfl) ?_)) | (with_reducible refine Mine.Stp.mk (n := 26) ?_; k_dflt (refine' kdl_view_values (knd := PySem.intKind _ _) (by k_asm) (by k_asm) (by k_mem) (by assumption) (by assumption) ?_); intro zqD' zqh' zqF' zqN' zql1; (try k_lt zql1)) | (with_reducible refine Mine.Stp.mk (n := 27) ?_; k_dflt (refine' kdl_list_valuesP (knd := PySem.intKind _ _) (by exact rfl) (by k_asm) (by k_asm) (by k_mem) (by k_mem) (by assumption) (by first | assumption | omega) ?_); intro zqD' zqc' zqh' zqtk' zqF' zqN' zql1) | (with_reducible refine Mine.Stp.mk (n := 1) ?_; k_dflt (refine' append_K (by k_asm) (by k_asm) (by k_upd) ?_ (by first | size_fits | (simp only [List.size_toArray, List.length_toArray]; rw [sizeLine_eq]; first | assumption | omega)); k_whole); intro zqh' zqF' zqN'; (try k_sweep)) | (with_reducible refine Mine.Stp.mk (n := 3) ?_; k_dflt (refine' setItem_v (knd := PySem.intKind _ _) (intKind_is _ _ _ _) (by k_asm) (by k_asm) (by k_updF) (by k_asm) (by first | assumption | omega) ?_); intro zqh' zqo' zqF' zqN' zqhd'; (try dsimp only at zqN')) | (k_unfold; (try dsimp only)) | (k_end; wrow_close) | walk1 | (dsimp only; walk1) | (leave1; (try dsimp only)) | fail "no step"))
  refine Stop.mk ?_
  with_reducible rename (0 : Int) ≤ _ => r9
  with_reducible rename @LT.lt Int _ _ _ => r1
  obtain ⟨k, hk⟩ := Int.eq_ofNat_of_zero_le (show (0 : Int) ≤ 4 + _ from Int.add_nonneg (by decide) r9)
  with_reducible rename IsRange _ _ _ _ _ _ _ _ => R9
  with_reducible rename Fr _ _ _ _ => F9
  with_reducible rename News _ _ _ _ => N9
  with_reducible rename Obj.IsDictOf _ _ [_, _] => hm9
  rw [hk] at R9
  have hk8 : k < 16 := lt16 r1 hk
  clear hk r9 r1 s1 s2 s3 m0
  refine rng_loop (n := k) (fun i m nx => Names mug told kd mx m ∧ ∃ r : JRec, nx = (mug, r.omug) :: (lc, listOf vs.toArray c) :: (bx, instObj 782 bd) :: (bd, dictOf (bankEs bk nl wl bv) 14) ::
      (wl, listOf (wlL q).toArray n2) :: (kd, listOf (kdL kq).toArray n3) ::
      (mx, instObj 978 md) :: (md, dictOf (mkEs mk bx mo vl cv ct r.fr r.tf) 7) :: (cv, r.ocv) :: (ct, r.oct) :: (L + 1, oc) :: (told, listOf r.tvs.toArray r.nt) :: r.rest ∧ LawSt w lc r.omug r.ocv r.oct r.n r.tn r.fr r.kvs r.kct r.cls r.es r.tvs r.rest [mug, lc, bx, bd, wl, kd, mx, md, cv, ct, L + 1, told] (9 + i)) (by rfl) R9 (small_nat hk8) (rangeSize_nat _ _) F9 N9 ?j0 ?turn ?done
  case j0 => exact ⟨names_kst, ⟨_, _, _, _, _, _, _, _, _, _, _, _, _, r0.rest⟩, rfl, S.gulp hm9⟩
  case done => exact fun m1 nx h tk _ F1 N1 => ret h tk m1 nx F1 N1
  case turn =>
    intro i t m1 nx h tk own hi hoff hj F1 N1
    clear F9 N9 R9 hm9 ret hn S
    k_fold
    obtain ⟨hn, r, rfl, S⟩ := hj
    have F2 := hn.fr F1
    clear F1
    simp only [List.cons_append] at N1
    have hoff2 : OwnOff own [mug, lc, bx, bd, wl, kd, mx, md, cv, ct, L + 1, told] := ownOff_lit (l := [_, _, _, _, _, _, _, _, _, _, _, _]) hoff (fun b hb => hb)
    have hT : OwnOff (r.rest ++ own) [mug, lc, bx, bd, wl, kd, mx, md, cv, ct, L + 1, told] := ownOff_app S.off hoff2
    have tmug : ∀ p ∈ r.rest ++ own, p.1 ≠ mug := hT.ne (.head _)
    have ttold : ∀ p ∈ r.rest ++ own, p.1 ≠ told := hT.ne (.tail _ (.tail _ (.tail _ (.tail _ (.tail _ (.tail _ (.tail _ (.tail _ (.tail _ (.tail _ (.tail _ (.head _))))))))))))
    have tcv : ∀ p ∈ r.rest ++ own, p.1 ≠ cv := hT.ne (.tail _ (.tail _ (.tail _ (.tail _ (.tail _ (.tail _ (.tail _ (.tail _ (.head _)))))))))
    have hAbove := above12 aOrd
    have S0 := S
    have s1 := S0.hm
    have s2 := S0.n0
    have s3 := S0.n1
    have s4 := S0.hcv
    have s5 := S0.hlen
    have s8 := S0.f0
    have s9 := S0.f1
    have s15 := S0.htl
    have s16 := S0.hel
    have M := bnd5 hk8 hi s2 s3 s5 s16 s15.length
    have m1 := M.1
    have m2 := M.2.1
    have m3 := M.2.2.1
    have m4 := M.2.2.2.1
    have m5 := M.2.2.2.2.1
    have m6 := M.2.2.2.2.2.1
    have m7 := M.2.2.2.2.2.2.1
    have m8 := M.2.2.2.2.2.2.2.1
    have m9 := M.2.2.2.2.2.2.2.2.1
    have m10 := M.2.2.2.2.2.2.2.2.2
    clear M
    w_strict (repeat' (first | (with_reducible refine Mine.Stp.mk (n := 21) ?_; (rename Fr _ _ _ _ => lF'); (with_unfolding_all refine' For_invVF lF' (by exact rfl) (by exact rfl) ?_; k_whole)) | (with_reducible refine Mine.Stp.mk (n := 22) ?_; k_dflt (refine' range1_rows (by k_asm) (by k_asm) ?_); intro zqh' zqtk' zqt₁' zqu₁' zqv₁' zqR' zqF' zqN' zqS') | (with_reducible refine Mine.Stp.mk (n := 6) ?_; k_dflt (refine' gulp_L (by k_asm) (by k_asm) (by k_asm) (by k_asm) (by k_asm) (by k_updF) (by k_asm) (by k_mem) (by assumption) (by assumption) (by assumption) (by first | assumption | omega) (by first | assumption | omega) (by assumption) (by first | decide | omega) (by first | decide | omega) ?_); intro zqh' zqtk' zqr' zqtr' zqomug' zqtn' zqF' zqN' zqhmug' zqhr0' zqhr1') | (with_reducible refine Mine.Stp.mk (n := 24) ?_; k_dflt (refine' dict_copy (by k_asm) (by k_asm) (by exact modules_low (Top.nolimit (by k_asm))) (by k_mem) (by assumption) (by assumption) (by first | assumption | omega) ?_); intro zqD' zqh' zqo' zqF' zqN' zqlo' zqhd' zql1; (try k_lt zql1)) | (with_reducible refine Mine.Stp.mk (n := 25) ?_; k_dflt (refine' dict_ne_same (by k_asm) (by k_mem) (by k_mem) (by assumption) (by assumption) (by assumption) (by assumption) (by exact Nat.le_of_ble_eq_true rfl) ?_)) | (with_reducible refine Mine.Stp.mk (n := 26) ?_; k_dflt (refine' kdl_view_values (knd := PySem.intKind _ _) (by k_asm) (by k_asm) (by k_mem) (by assumption) (by assumption) ?_); intro zqD' zqh' zqF' zqN' zql1; (try k_lt zql1)) | (with_reducible refine Mine.Stp.mk (n := 27) ?_; k_dflt (refine' kdl_list_valuesP (knd := PySem.intKind _ _) (by exact rfl) (by k_asm) (by k_asm) (by k_mem) (by k_mem) (by assumption) (by first | assumption | omega) ?_); intro zqD' zqc' zqh' zqtk' zqF' zqN' zql1) | (with_reducible refine Mine.Stp.mk (n := 1) ?_; k_dflt (refine' append_K (by k_asm) (by k_asm) (by k_upd) ?_ (by first | size_fits | (simp only [List.size_toArray, List.length_toArray]; rw [sizeLine_eq]; first | assumption | omega)); k_whole); intro zqh' zqF' zqN'; (try k_sweep)) | (with_reducible refine Mine.Stp.mk (n := 3) ?_; k_dflt (refine' setItem_v (knd := PySem.intKind _ _) (intKind_is _ _ _ _) (by k_asm) (by k_asm) (by k_updF) (by k_asm) (by first | assumption | omega) ?_); intro zqh' zqo' zqF' zqN' zqhd'; (try dsimp only at zqN')) | (k_unfold; (try dsimp only)) | (k_end; wrow_close) | walk1 | (dsimp only; walk1) | (leave1; (try dsimp only)) | fail "no step"))
    refine Stop.mk ?_
    with_reducible rename (0 : Int) ≤ _ => r0
    with_reducible rename @LT.lt Int _ _ _ => r1
    have hkb := kind_bound r0 r1
    with_reducible rename Fr h₀ L _ _ => F9
    with_reducible rename News h₀ L _ (_ :: _) => N9
    with_reducible rename Obj.IsDictOf (PySem.strKind _ _) _ [_, _] => hm9
    refine fresh_L (pre := [_, _]) B F9 X T N9 ?hp (sub_mdct hT) (fun p hp => List.mem_append_left _ hp) (S0.gulp hm9) (by first | assumption | omega) lo2 lo3 ⟨a1, a2, a3, a4, a5, a6, a7, a8, a9, a10, a11⟩ hne1 hkb ?_
    case hp =>
      refine List.forall_mem_cons.mpr ⟨⟨Nat.ne_of_gt (Nat.lt_trans b27 (by assumption)), Nat.ne_of_gt (by assumption)⟩, List.forall_mem_cons.mpr ⟨⟨Nat.ne_of_gt (Nat.lt_trans b27 (by assumption)), Nat.ne_of_gt (by assumption)⟩, List.forall_mem_nil _⟩⟩
    generalize List.getD _ _ _ = kv at *
    intro h2 tk2 D its nn cc fr2 tf2 o4 kct2 F10 N10 hi2 R2 l2
    simp only [List.cons_append, List.nil_append] at N10 l2
    have ktD : @LT.lt Nat _ ct D := l2 (ct, _) (by k_mem)
    have kD1 : mug < D := Nat.lt_trans b8 ktD
    have kD2 : told < D := Nat.lt_trans b32 ktD
    have kD3 : cv < D := Nat.lt_trans a10 ktD
    w_strict (repeat' (first | (with_reducible refine Mine.Stp.mk (n := 21) ?_; (rename Fr _ _ _ _ => lF'); (with_unfolding_all refine' For_invVF lF' (by exact rfl) (by exact rfl) ?_; k_whole)) | (with_reducible refine Mine.Stp.mk (n := 22) ?_; k_dflt (refine' range1_rows (by k_asm) (by k_asm) ?_); intro zqh' zqtk' zqt₁' zqu₁' zqv₁' zqR' zqF' zqN' zqS') | (with_reducible refine Mine.Stp.mk (n := 6) ?_; k_dflt (refine' gulp_L (by k_asm) (by k_asm) (by k_asm) (by k_asm) (by k_asm) (by k_updF) (by k_asm) (by k_mem) (by assumption) (by assumption) (by assumption) (by first | assumption | omega) (by first | assumption | omega) (by assumption) (by first | decide | omega) (by first | decide | omega) ?_); intro zqh' zqtk' zqr' zqtr' zqomug' zqtn' zqF' zqN' zqhmug' zqhr0' zqhr1') | (with_reducible refine Mine.Stp.mk (n := 24) ?_; k_dflt (refine' dict_copy (by k_asm) (by k_asm) (by exact modules_low (Top.nolimit (by k_asm))) (by k_mem) (by assumption) (by assumption) (by first | assumption | omega) ?_); intro zqD' zqh' zqo' zqF' zqN' zqlo' zqhd' zql1; (try k_lt zql1)) | (with_reducible refine Mine.Stp.mk (n := 25) ?_; k_dflt (refine' dict_ne_same (by k_asm) (by k_mem) (by k_mem) (by assumption) (by assumption) (by assumption) (by assumption) (by exact Nat.le_of_ble_eq_true rfl) ?_)) | (with_reducible refine Mine.Stp.mk (n := 26) ?_; k_dflt (refine' kdl_view_values (knd := PySem.intKind _ _) (by k_asm) (by k_asm) (by k_mem) (by assumption) (by assumption) ?_); intro zqD' zqh' zqF' zqN' zql1; (try k_lt zql1)) | (with_reducible refine Mine.Stp.mk (n := 27) ?_; k_dflt (refine' kdl_list_valuesP (knd := PySem.intKind _ _) (by exact rfl) (by k_asm) (by k_asm) (by k_mem) (by k_mem) (by assumption) (by first | assumption | omega) ?_); intro zqD' zqc' zqh' zqtk' zqF' zqN' zql1) | (with_reducible refine Mine.Stp.mk (n := 1) ?_; k_dflt (refine' append_K (by k_asm) (by k_asm) (by k_upd) ?_ (by first | size_fits | (simp only [List.size_toArray, List.length_toArray]; rw [sizeLine_eq]; first | assumption | omega)); k_whole); intro zqh' zqF' zqN'; (try k_sweep)) | (with_reducible refine Mine.Stp.mk (n := 3) ?_; k_dflt (refine' setItem_v (knd := PySem.intKind _ _) (intKind_is _ _ _ _) (by k_asm) (by k_asm) (by k_updF) (by k_asm) (by first | assumption | omega) ?_); intro zqh' zqo' zqF' zqN' zqhd'; (try dsimp only at zqN')) | (k_unfold; (try dsimp only)) | (k_end; wrow_close) | walk1 | (dsimp only; walk1) | (leave1; (try dsimp only)) | fail "no step"))
    refine Stop.mk ?_
    with_reducible rename Fr h₀ L _ _ => F9b
    with_reducible rename News h₀ L _ ((_, listOf _ _) :: _) => N9b
    with_reducible rename ∀ p ∈ _ :: (_, tupOf _ _) :: _, _ => l3
    have kDB : @LT.lt Nat _ D _ := l3 (D, _) (by k_mem)
    have kE1 := Nat.lt_trans kD1 kDB
    have kE2 := Nat.lt_trans kD2 kDB
    have kE3 := Nat.lt_trans kD3 kDB
    refine right_L (rest := (D, tupOf its.toArray nn) :: r.rest) (es := r.es) (cls := r.cls) (c := cc) B F9b X T N9b (by k_mem) (by k_mem) (by k_mem) (by k_mem) (by k_mem) (List.forall_mem_cons.mpr ⟨by k_mem, fun p hp => List.mem_append_right [_, _, _, _, _, _, _, _, _, _, _, _, _, _, _, _, _] (List.mem_append_left own hp)⟩)
      (off_lt (off_ins4 (sub_right S0.off) fun p hp => Nat.ne_of_lt (l3 p (List.mem_append_right [_, _, _, _, _, _, _, _, _, _, _, _, _, _, _, _] (List.mem_append_left own hp)))) ?hDn) ⟨a3, a4, a5, ?hB⟩ ⟨D, its, nn, rfl, List.mem_cons_self, hi2⟩ (S0.hcl.mono fun _ h => List.mem_cons_of_mem _ h) (S0.htl.mono fun _ h => List.mem_cons_of_mem _ h) (by rw [List.length_map]; omega) (by first | assumption | omega) R2.right ?_
    case hB => exact Nat.lt_trans kD2 kDB
    case hDn =>
      simp only [List.mem_cons, List.not_mem_nil, or_false, not_or]
      exact ⟨Nat.ne_of_gt (Nat.lt_trans b20 kD3), Nat.ne_of_gt (Nat.lt_trans b14 kD3), Nat.ne_of_gt (Nat.lt_trans b24 kD3), Nat.ne_of_lt kDB, Nat.ne_of_gt kD2⟩
    intro h3 tk3 F11 N11
    w_strict (repeat' (first | (with_reducible refine Mine.Stp.mk (n := 21) ?_; (rename Fr _ _ _ _ => lF'); (with_unfolding_all refine' For_invVF lF' (by exact rfl) (by exact rfl) ?_; k_whole)) | (with_reducible refine Mine.Stp.mk (n := 22) ?_; k_dflt (refine' range1_rows (by k_asm) (by k_asm) ?_); intro zqh' zqtk' zqt₁' zqu₁' zqv₁' zqR' zqF' zqN' zqS') | (with_reducible refine Mine.Stp.mk (n := 6) ?_; k_dflt (refine' gulp_L (by k_asm) (by k_asm) (by k_asm) (by k_asm) (by k_asm) (by k_updF) (by k_asm) (by k_mem) (by assumption) (by assumption) (by assumption) (by first | assumption | omega) (by first | assumption | omega) (by assumption) (by first | decide | omega) (by first | decide | omega) ?_); intro zqh' zqtk' zqr' zqtr' zqomug' zqtn' zqF' zqN' zqhmug' zqhr0' zqhr1') | (with_reducible refine Mine.Stp.mk (n := 24) ?_; k_dflt (refine' dict_copy (by k_asm) (by k_asm) (by exact modules_low (Top.nolimit (by k_asm))) (by k_mem) (by assumption) (by assumption) (by first | assumption | omega) ?_); intro zqD' zqh' zqo' zqF' zqN' zqlo' zqhd' zql1; (try k_lt zql1)) | (with_reducible refine Mine.Stp.mk (n := 25) ?_; k_dflt (refine' dict_ne_same (by k_asm) (by k_mem) (by k_mem) (by assumption) (by assumption) (by assumption) (by assumption) (by exact Nat.le_of_ble_eq_true rfl) ?_)) | (with_reducible refine Mine.Stp.mk (n := 26) ?_; k_dflt (refine' kdl_view_values (knd := PySem.intKind _ _) (by k_asm) (by k_asm) (by k_mem) (by assumption) (by assumption) ?_); intro zqD' zqh' zqF' zqN' zql1; (try k_lt zql1)) | (with_reducible refine Mine.Stp.mk (n := 27) ?_; k_dflt (refine' kdl_list_valuesP (knd := PySem.intKind _ _) (by exact rfl) (by k_asm) (by k_asm) (by k_mem) (by k_mem) (by assumption) (by first | assumption | omega) ?_); intro zqD' zqc' zqh' zqtk' zqF' zqN' zql1) | (with_reducible refine Mine.Stp.mk (n := 1) ?_; k_dflt (refine' append_K (by k_asm) (by k_asm) (by k_upd) ?_ (by first | size_fits | (simp only [List.size_toArray, List.length_toArray]; rw [sizeLine_eq]; first | assumption | omega)); k_whole); intro zqh' zqF' zqN'; (try k_sweep)) | (with_reducible refine Mine.Stp.mk (n := 3) ?_; k_dflt (refine' setItem_v (knd := PySem.intKind _ _) (intKind_is _ _ _ _) (by k_asm) (by k_asm) (by k_updF) (by k_asm) (by first | assumption | omega) ?_); intro zqh' zqo' zqF' zqN' zqhd'; (try dsimp only at zqN')) | (k_unfold; (try dsimp only)) | (k_end; wrow_close) | walk1 | (dsimp only; walk1) | (leave1; (try dsimp only)) | fail "no step"))
    · with_reducible rename Fr h₀ L _ _ => F9c
      with_reducible rename News h₀ L _ ((_, _) :: _) => N9c
      with_reducible rename @LT.lt Nat _ ct _ => cT
      with_reducible rename ∀ p ∈ _ :: _, _ => l4
      with_reducible rename Obj.IsDictOf (PySem.strKind _ _) _ [_, _] => hm9c
      obtain ⟨cls2, S2⟩ := S0.fresh_set (nn := nn) (nn' := 0) R2 hi2 hm9c rfl (hAbove D ktD) (hAbove _ cT) (by assumption)
      simp only [List.push_toArray] at N9c
      exact InvEndG.intro (nx := _ :: _ :: _ :: _ :: _ :: _ :: _ :: _ :: _ :: _ :: _ :: _ :: (_, tupOf #[Value.int kv _, .ref D] 0) :: (D, tupOf its.toArray nn) :: r.rest) F9c N9c ⟨names_all, ⟨_, _, _, _, _, _, _, _, _, _, _, _, _, _⟩, rfl, S2 _⟩
        (ownOff_ins (l := [_, _, _, _, _, _, _, _, _, _, _, _]) (l' := [_, _, _, _, _, _, _, _, _, _, _, _]) (ownOff_ins (l := [_, _, _, _, _, _, _, _, _, _, _, _]) (l' := [_, _, _, _, _, _, _, _, _, _, _, _]) hoff rfl (fun p hp => Nat.ne_of_lt (l2 p (List.mem_append_right [_, _, _, _, _, _, _, _, _, _, _, _, _, _] (List.mem_append_right r.rest hp))))) rfl (fun p hp => Nat.ne_of_lt (l4 p (List.mem_append_right [_, _, _, _, _, _, _, _, _, _, _, _, _, _, _, _, _] (List.mem_append_right r.rest hp)))))
        (mem_ins2 (pre := [_, _, _, _, _, _]) (l := [_, _, _, _, _, _, _, _, _, _, _, _]) (List.mem_cons_self) (by exact List.Mem.tail _ (List.Mem.tail _ (List.Mem.tail _ (List.Mem.head _))))) (mem_own2 (pre := [_, _, _, _, _, _]) (l := [_, _, _, _, _, _, _, _, _, _, _, _]))
    · with_reducible rename Fr h₀ L _ _ => F9c
      with_reducible rename News h₀ L _ ((_, _) :: _) => N9c
      with_reducible rename @LT.lt Nat _ ct _ => cT
      with_reducible rename ∀ p ∈ _ :: _, _ => l4
      with_reducible rename Obj.IsDictOf (PySem.strKind _ _) _ [_, _] => hm9c
      have S1 := fun tk : Tok => S0.fresh (tk := tk) (nn := nn) (nn' := 0) R2 hi2 hm9c rfl (hAbove D ktD) (hAbove _ cT)
      simp only [List.push_toArray] at N9c
      exact InvEndG.intro (nx := _ :: _ :: _ :: _ :: _ :: _ :: _ :: _ :: _ :: _ :: _ :: _ :: (_, tupOf #[Value.int kv _, .ref D] 0) :: (D, tupOf its.toArray nn) :: r.rest) F9c N9c ⟨names_all, ⟨_, _, _, _, _, _, _, _, _, _, _, _, _, _⟩, rfl, S1 _⟩
        (ownOff_ins (l := [_, _, _, _, _, _, _, _, _, _, _, _]) (l' := [_, _, _, _, _, _, _, _, _, _, _, _]) (ownOff_ins (l := [_, _, _, _, _, _, _, _, _, _, _, _]) (l' := [_, _, _, _, _, _, _, _, _, _, _, _]) hoff rfl (fun p hp => Nat.ne_of_lt (l2 p (List.mem_append_right [_, _, _, _, _, _, _, _, _, _, _, _, _, _] (List.mem_append_right r.rest hp))))) rfl (fun p hp => Nat.ne_of_lt (l4 p (List.mem_append_right [_, _, _, _, _, _, _, _, _, _, _, _, _, _, _, _, _] (List.mem_append_right r.rest hp)))))
        (mem_ins2 (pre := [_, _, _, _, _, _]) (l := [_, _, _, _, _, _, _, _, _, _, _, _]) (List.mem_cons_self) (by exact List.Mem.tail _ (List.Mem.tail _ (List.Mem.tail _ (List.Mem.head _))))) (mem_own2 (pre := [_, _, _, _, _, _]) (l := [_, _, _, _, _, _, _, _, _, _, _, _]))
end Mine
end
section
open PySem PySem.W PyProof.Rows
set_option Elab.async false
namespace Mine
set_option maxRecDepth 100000
theorem lawBody_eq : lawBody = [lawStm 0, lawStm 1, lawStm 2, lawStm 3, lawStm 4, lawStm 5] := by rfl
set_option maxHeartbeats 200000 in
theorem law_6 {w : World} {L fa : Nat} {cd : Value} {s : Shared} {Q : Flow → Shared → Prop} (ret : Q (.ret (.bool true)) s) :
    Does w L fa cd (lawStm 5) Q s := by
  constructor
  w_on
  w_strict ((conv in (exec _ _) => arg 1; whnf); (all_goals try k_fold); k_steps)
  all_goals assumption
theorem law_goal {w : World} {p : Program} {loose : List Str} {mean : ExcName → Option Value} {mg mb : Str → Option Value} {h₀ base : Heap} {L fa : Nat} {cd : Value} {s : Shared} {Q : Flow → Shared → Prop} {E : Value → Shared → Prop}
    {u : Str → Option Value} {lp : Nat} {vs : List Value} {ns : List Int} {oc : Obj}
    (B : Below callerA base [] h₀) (X : (K w.params).In h₀) (T : Top p loose mean mg mb h₀)
    (F : Fr h₀ L s.heap u) (hu : u (Str.ofString "script") = some (.ref lp))
    (N : News h₀ L s.heap [(L + 1, oc)]) (hc : oc.data = .cell none) (hL : h₀.IsList lp vs.toArray) (hI : IntsAre vs ns) (hlen : ns.length ≤ 63)
    (ret : ∀ h' tk m', Fr h₀ L h' m' → Q (.ret (.bool true)) { s with heap := h', toks := tk }) :
    LawGoal w L fa cd Q E s := by
  have F0 : Fr h₀ L s.heap (kstB u [(Str.ofString "script", .ref lp)]) := by
    have e : kstB u [(Str.ofString "script", .ref lp)] = u := by
      funext z
      show (if z = Str.ofString "script" then some (Value.ref lp) else u z) = u z
      split
      · next q => rw [q, hu]
      · rfl
    rw [e]
    exact F
  refine law_start lawBody_eq ?_
  refine step ?_
  refine (law_1 B X T F0 N hc hL hI hlen ?_)
  intro h1 tk1 mug told bx bd nl wl bv lc oc1 omug1 obv1 bk w1 w2 w3 y1 y2 y3 tn n1 n2 n3 c ys ns1 F1 hc1 N1 lo1 hbv1 lom hm1 hI1 hl1 ord1
  refine NextQ.go ?_
  refine step ?_
  refine (law_2 B X T F1 hc1 N1 lo1 hbv1 .nil WideFree.nil ord1 ?_)
  intro h2 tk2 bt b1 b2 b3 w4 w5 w6 y4 y5 y6 m1 m2 obv2 kvs2 D2 F2 N2 hD2 hb2
  refine NextQ.go ?_
  refine step ?_
  refine (law_3 B X T F2 hc1 N2 ord1 hb2 ?_)
  intro h3 tk3 kd mx md cv ct mo vl ocv oct mk tf q kq m3 m4 F3 N3 lo3 hcv3 lo4 hct3 ord3
  have nm : Names mug told kd mx (kstB (kstB u [(Str.ofString "script", .ref lp)]) [(Str.ofString "kinds", .ref kd), (Str.ofString "maker", .ref mx), (Str.ofString "bits", .ref bt), (Str.ofString "told", .ref told), (Str.ofString "mug", .ref mug)]) := by
    simp only [Names, kstB]
    exact ⟨if_pos True.intro, (if_neg (by decide)).trans (if_pos True.intro), (if_neg (by decide)).trans ((if_neg (by decide)).trans ((if_neg (by decide)).trans (if_pos True.intro))), (if_neg (by decide)).trans ((if_neg (by decide)).trans ((if_neg (by decide)).trans ((if_neg (by decide)).trans (if_pos True.intro))))⟩
  rw [nm.eq] at F3
  obtain ⟨o1, o2, o3, o4, o5, o6, o7, o8, o9, o10⟩ := ord1
  obtain ⟨p1, p2, p3, p4, p5, p6⟩ := ord3
  have ord4 : mug < bd ∧ lc < bd ∧ bd < bx ∧ bx < wl ∧ wl < told ∧ told < kd ∧ kd < md ∧ md < mx ∧ mx < cv ∧ cv < ct ∧ L + 1 < mug := ⟨o4, o5, o6, Nat.lt_trans o7 o8, p1, p2, p3, p4, p5, p6, o1⟩
  refine NextQ.go ?_
  refine step ?_
  refine (law_4 B X T F3 hc1 N3 lom hm1 lo3 hcv3 hct3 hI1 hl1 o2 o3 ord4 ?_)
  intro h4 tk4 m4' nx4 J4 F4 N4
  refine NextQ.go ?_
  refine step ?_
  refine (law_5 (omug := omug1) (ocv := ocv) (oct := oct) (tn := tn) (nt := 0) (tf := tf) B X T J4 F4 hc1 N4 lom lo3 lo4 hI1 hl1 o2 o3 ord4 ?_)
  intro h5 tk5 m5 nx5 F5 N5
  refine NextQ.go ?_
  refine step ?_
  refine (law_6 ?_)
  exact NextQ.ret (ret h5 tk5 m5 F5)
end Mine
end
section
open PySem PySem.W PyProof.Rows
set_option Elab.async false
set_option maxRecDepth 100000
namespace Mine
theorem law_post {args : List WData} : PySem.Challenge.rw_rg0220_01.row.claim.post args (.bool true) args = true := by
  refine postW_of (r := PySem.Challenge.rw_rg0220_01.row.toRowW) (X := true) ?_ ?_ rfl
  · show WShape.has [] (.bool true) .bool = true
    first | rfl | wrow_shape | simp [WShape.has]
  · show WTm.value [] (.eq .res (.lit (.bool true))) _ = some (.bool true)
    first | rfl | wtm_val | simp [WTm.value]
end Mine
end
section
open PySem PySem.W PyProof.Rows
set_option Elab.async false
namespace Mine
set_option maxRecDepth 100000 in
set_option maxHeartbeats 2000000 in
theorem T2 : PySem.Challenge.rw_rg0220_01.Holds := by
  w_on
  refine holds_law said fun said' => ?_
  refine holds_open (q := Q) (loose := looseN) (Xt := Xt0) (XP := XL Q []) (Yf := Hook.obs Hk) (Ya := Hook.val Hk) (YP := Hook.says Hk) (N := 12686) left0 (Hook.of Hk) (Hook.keeps Hk) (fun s e => xl_of s (Bool.and_eq_true_iff.mp e).1) XL.keeps (by rfl) (by rfl) (by rfl) (fun s e => recFacts_of (Bool.and_eq_true_iff.mp e).2) (by rfl) (by first | assumption | decide +kernel) (by decide +kernel) ⟨rfl, rfl, rfl, rfl, rfl, by decide +kernel⟩ ?hw ?hc
  case hw => w_witness2
  case hc =>
    w_strict (k_fill; intro w s₀ s₁ mg mb G Y fa o pm cd doc dV kV ho hd hcd hD hmg hg args vals as hpre hlay hrd hwl hlo; have KX := kIn_of Y; have X := (Ground.X G).1; have V := (Ground.X G).2; refine Ground.open G ?_; intro T B D TE TW; (try (refine guard_noD D (by decide +kernel) ?_; clear D)); obtain ⟨_, _, M⟩ := bmod_of_top T; have TA := at_of_top T; (try (obtain ⟨_, _, he, B0⟩ := based_of_top T rfl hmg ho hd; have he' : cd = _ := he; subst he'; clear he)); clear hmg; wrow_args hpre hlay hrd hwl hlo; (all_goals ((first | refine callC_kw (enter_call ?_) | refine enter_call ?_ | refine callC_kw (enter_callW ?_) | refine enter_callW ?_); w_top on; (try refine codeAny_mono ?_ (fun _ _ g => GoodW.toG g)); have K0 := below_caller (Top.heap T); w_call any ho hd hcd hD T F; clear hd TA; k_drop; skip)); (all_goals try k_fold); refine cast (LawGoal_def _ _ _ _ _ _ _) ?_; with_reducible rename Below _ _ _ _ => K9; with_reducible rename Frag.In _ _ => X9; (rename Fr _ _ _ _ => F9); (rename News _ _ _ _ => N9); (rename Top _ _ _ _ _ _ => T9); (rename Obj.data _ = Data.cell _ => c9); (rename Heap.IsList _ _ _ => l9); (rename IntsAre _ _ => i9); (rename ¬ _ => n9); refine law_goal K9 X9 T9 F9 ?hu N9 ?hc l9 i9 (by omega) ?ret; (case hu => with_unfolding_all rfl); (case hc => (refine c9.trans ?_; first | rfl | (with_unfolding_all rfl))); (case ret => (intro h' tk m' F'; k_unfold; (try dsimp only); exact goodW_bool F' (by assumption) (raisesW_false (fun p hp => absurd hp (List.not_mem_nil))) law_post)))
end Mine
end
theorem PySem.Challenge.cw_rg0220_01_holds : PySem.Challenge.rw_rg0220_01.Holds :=
  Mine.T2
