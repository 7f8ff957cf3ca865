import PyProof.Rows.All
import Wide.All
import OpenK.AllK
import Wide.FinOn
import Lean
import PySem.Challenge.RW_pb0271_01
open PySem PySem.W PyProof.Rows PySem.Calls
set_option Elab.async false
set_option maxRecDepth 100000
set_option genInjectivity false
set_option genSizeOf false
set_option genSizeOfSpec false
namespace Ob
set_option linter.all false
noncomputable abbrev pg : Program := PySem.Challenge.pw_pb0271_01
noncomputable def noSt : Stmt := .Pass ⟨nat_lit 0, nat_lit 0, nat_lit 0, nat_lit 0⟩
noncomputable def nth : List Stmt → Nat → Stmt
  | [], _ => noSt
  | s :: _, 0 => s
  | _ :: l, n + 1 => nth l n
noncomputable def st (i : Nat) : Stmt := nth pg.main.body i
noncomputable def cB : Stmt → List Stmt
  | .ClassDef _ _ _ b _ _ _ _ _ _ _ => b
  | _ => []
noncomputable def fP : Stmt → Arguments
  | .FunctionDef _ ps _ _ _ _ _ _ _ _ => ps
  | _ => default
noncomputable def fB : Stmt → List Stmt
  | .FunctionDef _ _ b _ _ _ _ _ _ _ => b
  | _ => []
noncomputable def fS : Stmt → Scope
  | .FunctionDef _ _ _ _ _ _ sc _ _ _ => sc
  | _ => default
noncomputable def RES : Str := match st (nat_lit 51) with
  | .Assign _ (.Constant (.str x) _ _) _ => x
  | _ => Str.empty
noncomputable abbrev v (x : String) (t : Nat) : Value := .str (Str.ofString x) t
noncomputable abbrev r (a : Nat) : Value := .ref a
noncomputable abbrev e (P : Params) (x : String) (t : Nat) (y : Value) : DictEntry := ⟨PyData.keyHash P (Str.ofString x), .str (Str.ofString x) t, y⟩
noncomputable abbrev tp (l : List Value) : Obj := ⟨.type "tuple", none, .seq ⟨l⟩ (nat_lit 0), ⟨[]⟩⟩
noncomputable abbrev co (l : List Value) : Obj := ⟨.type "code", none, .fields ⟨l⟩, ⟨[]⟩⟩
noncomputable abbrev nf (l : List Value) : Obj := ⟨.none, none, .fields ⟨l⟩, ⟨[]⟩⟩
noncomputable abbrev dc (l : List DictEntry) (n : Nat) : Obj := ⟨.type "dict", none, .dict ⟨l⟩ n, ⟨[]⟩⟩
@[reducible] noncomputable def o11 (P : Params) : Obj := tp []
@[reducible] noncomputable def o12 (P : Params) : Obj := nf []
@[reducible] noncomputable def o13 (P : Params) : Obj := co [(v "<module>" (nat_lit 182)), (v "<module>" (nat_lit 183)), (v "/claim/cut.py" (nat_lit 184)), (Value.int (.ofNat (nat_lit 1)) (nat_lit 0)), (Value.int (.ofNat (nat_lit 0)) (nat_lit 0)), (Value.int (.ofNat (nat_lit 0)) (nat_lit 0)), (Value.int (.ofNat (nat_lit 0)) (nat_lit 0)), (Value.int (.ofNat (nat_lit 0)) (nat_lit 0)), (r (nat_lit 11)), (Value.bool Bool.false), (Value.int (.ofNat (nat_lit 181)) (nat_lit 0)), (r (nat_lit 12)), Value.none, Value.none, Value.none, Value.none, (Value.int (.ofNat (nat_lit 185)) (nat_lit 0)), (Value.int (.ofNat (nat_lit 1)) (nat_lit 0)), (v "/claim/cut.py" (nat_lit 186))]
@[reducible] noncomputable def o14 (P : Params) : Obj := (Obj.mk (Value.type "frame") none Data.plain ⟨[(some (r (nat_lit 13))), (some (r (nat_lit 3))), (some (r (nat_lit 3))), none, (some (v "__main__" (nat_lit 164))), none, (some (r (nat_lit 0)))]⟩)
noncomputable def HA (P : Params) : Heap := ⟨⟨boot_o_0 P :: boot_o_1 P :: boot_o_2 P :: boot_o_3 P :: boot_o_4 P :: boot_o_5 P :: boot_o_6 P :: boot_o_7 P :: boot_o_8 P :: boot_o_9 P :: boot_o_10 P :: o11 P :: o12 P :: o13 P :: o14 P :: []⟩, {}⟩
noncomputable def TB (P : Params) : BT := (.node (boot_o_0 P) (.node (boot_o_1 P) (.node (boot_o_3 P) (.node (boot_o_7 P) .nil .nil) (.node (o11 P) .nil .nil)) (.node (boot_o_5 P) (.node (boot_o_9 P) .nil .nil) (.node (o13 P) .nil .nil))) (.node (boot_o_2 P) (.node (boot_o_4 P) (.node (boot_o_8 P) .nil .nil) (.node (o12 P) .nil .nil)) (.node (boot_o_6 P) (.node (boot_o_10 P) .nil .nil) (.node (o14 P) .nil .nil))))
@[reducible] noncomputable def o2_0 (P : Params) : Obj := (Obj.mk Value.none none (Data.dict ⟨[(e P "type.__subclasses__.Exception.0" (nat_lit 232) (Value.int (.ofNat (nat_lit 47)) (nat_lit 0))), (e P "type.__subclasses__.Exception.n" (nat_lit 233) (Value.int (.ofNat (nat_lit 1)) (nat_lit 0)))]⟩ (nat_lit 2)) ⟨[]⟩)
@[reducible] noncomputable def o3_0 (P : Params) : Obj := dc [(e P "__name__" (nat_lit 165) (v "ledgerspeak.decimals" (nat_lit 268))), (e P "__doc__" (nat_lit 166) Value.none), (e P "__package__" (nat_lit 167) Value.none), (e P "__loader__" (nat_lit 168) (Value.builtin "__main__.__loader__#opaque")), (e P "__spec__" (nat_lit 169) Value.none), (e P "__annotations__" (nat_lit 170) (r (nat_lit 6))), (e P "__builtins__" (nat_lit 171) (r (nat_lit 4))), (e P "__file__" (nat_lit 173) (v "/claim/cut.py" (nat_lit 172))), (e P "__cached__" (nat_lit 174) Value.none), (e P "_wall" (nat_lit 193) (r (nat_lit 21))), (e P "LedgerError" (nat_lit 235) (r (nat_lit 47))), (e P "TokenFault" (nat_lit 251) (r (nat_lit 60))), (e P "GrammarFault" (nat_lit 267) (r (nat_lit 72))), (e P "FIGURES" (nat_lit 271) (v "0123456789" (nat_lit 270))), (e P "cut_quotient" (nat_lit 279) (r (nat_lit 81))), (e P "decimal" (nat_lit 288) (r (nat_lit 89))), (e P "negated" (nat_lit 295) (r (nat_lit 96))), (e P "units_at" (nat_lit 306) (r (nat_lit 103))), (e P "is_whole" (nat_lit 313) (r (nat_lit 110)))] (nat_lit 19)
@[reducible] noncomputable def o12_1 (P : Params) : Obj := nf [(Value.int (.ofNat (nat_lit 1)) (nat_lit 0)), (Value.int (.ofNat (nat_lit 0)) (nat_lit 0)), (r (nat_lit 20)), (Value.int (.ofNat (nat_lit 5)) (nat_lit 0)), (Value.int (.ofNat (nat_lit 0)) (nat_lit 0)), (r (nat_lit 27)), (Value.int (.ofNat (nat_lit 14)) (nat_lit 0)), (Value.int (.ofNat (nat_lit 0)) (nat_lit 0)), (r (nat_lit 56)), (Value.int (.ofNat (nat_lit 16)) (nat_lit 0)), (Value.int (.ofNat (nat_lit 0)) (nat_lit 0)), (r (nat_lit 68)), (Value.int (.ofNat (nat_lit 20)) (nat_lit 0)), (Value.int (.ofNat (nat_lit 0)) (nat_lit 0)), (r (nat_lit 80)), (Value.int (.ofNat (nat_lit 24)) (nat_lit 0)), (Value.int (.ofNat (nat_lit 0)) (nat_lit 0)), (r (nat_lit 88)), (Value.int (.ofNat (nat_lit 31)) (nat_lit 0)), (Value.int (.ofNat (nat_lit 0)) (nat_lit 0)), (r (nat_lit 95)), (Value.int (.ofNat (nat_lit 33)) (nat_lit 0)), (Value.int (.ofNat (nat_lit 0)) (nat_lit 0)), (r (nat_lit 102)), (Value.int (.ofNat (nat_lit 41)) (nat_lit 0)), (Value.int (.ofNat (nat_lit 0)) (nat_lit 0)), (r (nat_lit 109))]
@[reducible] noncomputable def o15 (P : Params) : Obj := tp []
@[reducible] noncomputable def o16 (P : Params) : Obj := nf []
@[reducible] noncomputable def o17 (P : Params) : Obj := tp [(v "k" (nat_lit 190))]
@[reducible] noncomputable def o18 (P : Params) : Obj := tp []
@[reducible] noncomputable def o19 (P : Params) : Obj := (Obj.mk Value.none none (Data.func (FuncData.mk (Str.ofString "_wall") (Str.ofString "_wall") (fP (st 0)) (FuncBody.stmts (fB (st 0))) (fS (st 0)) (nat_lit 0) [] Value.none Value.none Value.none Value.none none Value.none Value.none (nat_lit 0))) ⟨[]⟩)
@[reducible] noncomputable def o20 (P : Params) : Obj := co [(v "_wall" (nat_lit 187)), (v "_wall" (nat_lit 188)), (v "/claim/cut.py" (nat_lit 189)), (Value.int (.ofNat (nat_lit 1)) (nat_lit 0)), (Value.int (.ofNat (nat_lit 1)) (nat_lit 0)), (Value.int (.ofNat (nat_lit 0)) (nat_lit 0)), (Value.int (.ofNat (nat_lit 0)) (nat_lit 0)), (Value.int (.ofNat (nat_lit 3)) (nat_lit 0)), (r (nat_lit 15)), (Value.bool Bool.true), (Value.int (.ofNat (nat_lit 181)) (nat_lit 0)), (r (nat_lit 16)), Value.none, (r (nat_lit 17)), (r (nat_lit 18)), (r (nat_lit 19)), (Value.int (.ofNat (nat_lit 191)) (nat_lit 0)), (Value.int (.ofNat (nat_lit 1)) (nat_lit 0)), (v "/claim/cut.py" (nat_lit 192))]
@[reducible] noncomputable def o21 (P : Params) : Obj := (Obj.mk (Value.type "function") none (Data.func (FuncData.mk (Str.ofString "_wall") (Str.ofString "_wall") (fP (st 0)) (FuncBody.stmts (fB (st 0))) (fS (st 0)) (nat_lit 3) [] Value.none Value.none Value.none (v "__main__" (nat_lit 164)) none (r (nat_lit 20)) Value.none (nat_lit 0))) ⟨[]⟩)
@[reducible] noncomputable def o22 (P : Params) : Obj := tp [(Value.type "Exception")]
@[reducible] noncomputable def o23 (P : Params) : Obj := (Obj.mk (Value.type "builtin_function_or_method") none (Data.fields ⟨[(Value.builtin "type.__prepare__"), (Value.type "type")]⟩) ⟨[]⟩)
@[reducible] noncomputable def o24 (P : Params) : Obj := dc [(e P "__module__" (nat_lit 203) (v "ledgerspeak.errors" (nat_lit 194))), (e P "__qualname__" (nat_lit 205) (v "LedgerError" (nat_lit 204))), (e P "__firstlineno__" (nat_lit 207) (Value.int (.ofNat (nat_lit 5)) (nat_lit 206))), (e P "__init__" (nat_lit 218) (r (nat_lit 37))), (e P "told" (nat_lit 225) (r (nat_lit 44))), (e P "__static_attributes__" (nat_lit 228) (r (nat_lit 45)))] (nat_lit 6)
@[reducible] noncomputable def o25 (P : Params) : Obj := tp []
@[reducible] noncomputable def o26 (P : Params) : Obj := nf [(Value.int (.ofNat (nat_lit 7)) (nat_lit 0)), (Value.int (.ofNat (nat_lit 4)) (nat_lit 0)), (r (nat_lit 36)), (Value.int (.ofNat (nat_lit 12)) (nat_lit 0)), (Value.int (.ofNat (nat_lit 4)) (nat_lit 0)), (r (nat_lit 43))]
@[reducible] noncomputable def o27 (P : Params) : Obj := co [(v "LedgerError" (nat_lit 198)), (v "LedgerError" (nat_lit 199)), (v "/claim/cut.py" (nat_lit 200)), (Value.int (.ofNat (nat_lit 5)) (nat_lit 0)), (Value.int (.ofNat (nat_lit 0)) (nat_lit 0)), (Value.int (.ofNat (nat_lit 0)) (nat_lit 0)), (Value.int (.ofNat (nat_lit 0)) (nat_lit 0)), (Value.int (.ofNat (nat_lit 0)) (nat_lit 0)), (r (nat_lit 25)), (Value.bool Bool.false), (Value.int (.ofNat (nat_lit 181)) (nat_lit 0)), (r (nat_lit 26)), Value.none, Value.none, Value.none, Value.none, (Value.int (.ofNat (nat_lit 201)) (nat_lit 0)), (Value.int (.ofNat (nat_lit 5)) (nat_lit 0)), (v "/claim/cut.py" (nat_lit 202))]
@[reducible] noncomputable def o28 (P : Params) : Obj := (Obj.mk (Value.type "frame") none Data.plain ⟨[(some (r (nat_lit 27))), (some (r (nat_lit 3))), (some (r (nat_lit 24))), none, (some (v "ledgerspeak.errors" (nat_lit 194))), none, (some (r (nat_lit 0)))]⟩)
@[reducible] noncomputable def o29 (P : Params) : Obj := tp [(Value.int (.ofNat (nat_lit 0)) (nat_lit 208)), (Value.int (.ofNat (nat_lit 0)) (nat_lit 209))]
@[reducible] noncomputable def o30 (P : Params) : Obj := tp [(r (nat_lit 29))]
@[reducible] noncomputable def o31 (P : Params) : Obj := tp []
@[reducible] noncomputable def o32 (P : Params) : Obj := nf []
@[reducible] noncomputable def o33 (P : Params) : Obj := tp [(v "self" (nat_lit 213)), (v "what" (nat_lit 214)), (v "at" (nat_lit 215))]
@[reducible] noncomputable def o34 (P : Params) : Obj := tp []
@[reducible] noncomputable def o35 (P : Params) : Obj := (Obj.mk Value.none none (Data.func (FuncData.mk (Str.ofString "__init__") (Str.ofString "LedgerError.__init__") (fP (nth (cB (st 2)) 0)) (FuncBody.stmts (fB (nth (cB (st 2)) 0))) (fS (nth (cB (st 2)) 0)) (nat_lit 0) [] Value.none Value.none Value.none Value.none none Value.none Value.none (nat_lit 0))) ⟨[]⟩)
@[reducible] noncomputable def o36 (P : Params) : Obj := co [(v "__init__" (nat_lit 210)), (v "LedgerError.__init__" (nat_lit 211)), (v "/claim/cut.py" (nat_lit 212)), (Value.int (.ofNat (nat_lit 7)) (nat_lit 0)), (Value.int (.ofNat (nat_lit 3)) (nat_lit 0)), (Value.int (.ofNat (nat_lit 0)) (nat_lit 0)), (Value.int (.ofNat (nat_lit 0)) (nat_lit 0)), (Value.int (.ofNat (nat_lit 3)) (nat_lit 0)), (r (nat_lit 31)), (Value.bool Bool.true), (Value.int (.ofNat (nat_lit 181)) (nat_lit 0)), (r (nat_lit 32)), Value.none, (r (nat_lit 33)), (r (nat_lit 34)), (r (nat_lit 35)), (Value.int (.ofNat (nat_lit 216)) (nat_lit 0)), (Value.int (.ofNat (nat_lit 7)) (nat_lit 0)), (v "/claim/cut.py" (nat_lit 217))]
@[reducible] noncomputable def o37 (P : Params) : Obj := (Obj.mk (Value.type "function") none (Data.func (FuncData.mk (Str.ofString "__init__") (Str.ofString "LedgerError.__init__") (fP (nth (cB (st 2)) 0)) (FuncBody.stmts (fB (nth (cB (st 2)) 0))) (fS (nth (cB (st 2)) 0)) (nat_lit 3) [] (r (nat_lit 30)) Value.none Value.none (v "ledgerspeak.errors" (nat_lit 194)) none (r (nat_lit 36)) Value.none (nat_lit 0))) ⟨[]⟩)
@[reducible] noncomputable def o38 (P : Params) : Obj := tp []
@[reducible] noncomputable def o39 (P : Params) : Obj := nf []
@[reducible] noncomputable def o40 (P : Params) : Obj := tp [(v "self" (nat_lit 222))]
@[reducible] noncomputable def o41 (P : Params) : Obj := tp []
@[reducible] noncomputable def o42 (P : Params) : Obj := (Obj.mk Value.none none (Data.func (FuncData.mk (Str.ofString "told") (Str.ofString "LedgerError.told") (fP (nth (cB (st 2)) 1)) (FuncBody.stmts (fB (nth (cB (st 2)) 1))) (fS (nth (cB (st 56)) 1)) (nat_lit 0) [] Value.none Value.none Value.none Value.none none Value.none Value.none (nat_lit 0))) ⟨[]⟩)
@[reducible] noncomputable def o43 (P : Params) : Obj := co [(v "told" (nat_lit 219)), (v "LedgerError.told" (nat_lit 220)), (v "/claim/cut.py" (nat_lit 221)), (Value.int (.ofNat (nat_lit 12)) (nat_lit 0)), (Value.int (.ofNat (nat_lit 1)) (nat_lit 0)), (Value.int (.ofNat (nat_lit 0)) (nat_lit 0)), (Value.int (.ofNat (nat_lit 0)) (nat_lit 0)), (Value.int (.ofNat (nat_lit 3)) (nat_lit 0)), (r (nat_lit 38)), (Value.bool Bool.true), (Value.int (.ofNat (nat_lit 181)) (nat_lit 0)), (r (nat_lit 39)), Value.none, (r (nat_lit 40)), (r (nat_lit 41)), (r (nat_lit 42)), (Value.int (.ofNat (nat_lit 223)) (nat_lit 0)), (Value.int (.ofNat (nat_lit 12)) (nat_lit 0)), (v "/claim/cut.py" (nat_lit 224))]
@[reducible] noncomputable def o44 (P : Params) : Obj := (Obj.mk (Value.type "function") none (Data.func (FuncData.mk (Str.ofString "told") (Str.ofString "LedgerError.told") (fP (nth (cB (st 2)) 1)) (FuncBody.stmts (fB (nth (cB (st 2)) 1))) (fS (nth (cB (st 56)) 1)) (nat_lit 3) [] Value.none Value.none Value.none (v "ledgerspeak.errors" (nat_lit 194)) none (r (nat_lit 43)) Value.none (nat_lit 0))) ⟨[]⟩)
@[reducible] noncomputable def o45 (P : Params) : Obj := tp [(v "at" (nat_lit 226)), (v "what" (nat_lit 227))]
@[reducible] noncomputable def o46 (P : Params) : Obj := dc [(e P "__module__" (nat_lit 203) (v "ledgerspeak.errors" (nat_lit 194))), (e P "__firstlineno__" (nat_lit 207) (Value.int (.ofNat (nat_lit 5)) (nat_lit 206))), (e P "__init__" (nat_lit 218) (r (nat_lit 37))), (e P "told" (nat_lit 225) (r (nat_lit 44))), (e P "__static_attributes__" (nat_lit 228) (r (nat_lit 45))), (e P "__weakref__" (nat_lit 230) (r (nat_lit 48))), (e P "__doc__" (nat_lit 231) Value.none)] (nat_lit 3)
@[reducible] noncomputable def o47 (P : Params) : Obj := (Obj.mk (Value.type "type") none (Data.cls (ClassData.mk (Str.ofString "LedgerError") [(Value.type "Exception")] [(r (nat_lit 47)), (Value.type "Exception"), (Value.type "BaseException"), (Value.type "object")] (nat_lit 46) (Str.ofString "LedgerError") Bool.true [] [(r (nat_lit 60)), (r (nat_lit 72))] Bool.false none Bool.false)) ⟨[(some (r (nat_lit 22))), none, (some (v "LedgerError" (nat_lit 196))), (some (v "LedgerError" (nat_lit 204))), (some (Value.builtin "Exception.__new__")), (some (Value.bool Bool.true))]⟩)
@[reducible] noncomputable def o48 (P : Params) : Obj := (Obj.mk (Value.type "getset_descriptor") none (Data.fields ⟨[(v "__weakref__" (nat_lit 229)), (r (nat_lit 47)), (Value.builtin "ExceptionGroup.__weakref__"), Value.none]⟩) ⟨[]⟩)
@[reducible] noncomputable def o49 (P : Params) : Obj := (Obj.mk (Value.type "super") none (Data.fields ⟨[(r (nat_lit 47)), (r (nat_lit 47)), (r (nat_lit 47))]⟩) ⟨[]⟩)
@[reducible] noncomputable def o50 (P : Params) : Obj := (Obj.mk (Value.type "builtin_function_or_method") none (Data.fields ⟨[(Value.builtin "object.__init_subclass__"), (r (nat_lit 47))]⟩) ⟨[]⟩)
@[reducible] noncomputable def o51 (P : Params) : Obj := tp [(r (nat_lit 47))]
@[reducible] noncomputable def o52 (P : Params) : Obj := (Obj.mk (Value.type "builtin_function_or_method") none (Data.fields ⟨[(Value.builtin "type.__prepare__"), (Value.type "type")]⟩) ⟨[]⟩)
@[reducible] noncomputable def o53 (P : Params) : Obj := dc [(e P "__module__" (nat_lit 243) (v "ledgerspeak.errors" (nat_lit 194))), (e P "__qualname__" (nat_lit 245) (v "TokenFault" (nat_lit 244))), (e P "__firstlineno__" (nat_lit 247) (Value.int (.ofNat (nat_lit 14)) (nat_lit 246))), (e P "__static_attributes__" (nat_lit 248) (r (nat_lit 58)))] (nat_lit 4)
@[reducible] noncomputable def o54 (P : Params) : Obj := tp []
@[reducible] noncomputable def o55 (P : Params) : Obj := nf []
@[reducible] noncomputable def o56 (P : Params) : Obj := co [(v "TokenFault" (nat_lit 238)), (v "TokenFault" (nat_lit 239)), (v "/claim/cut.py" (nat_lit 240)), (Value.int (.ofNat (nat_lit 14)) (nat_lit 0)), (Value.int (.ofNat (nat_lit 0)) (nat_lit 0)), (Value.int (.ofNat (nat_lit 0)) (nat_lit 0)), (Value.int (.ofNat (nat_lit 0)) (nat_lit 0)), (Value.int (.ofNat (nat_lit 0)) (nat_lit 0)), (r (nat_lit 54)), (Value.bool Bool.false), (Value.int (.ofNat (nat_lit 181)) (nat_lit 0)), (r (nat_lit 55)), Value.none, Value.none, Value.none, Value.none, (Value.int (.ofNat (nat_lit 241)) (nat_lit 0)), (Value.int (.ofNat (nat_lit 14)) (nat_lit 0)), (v "/claim/cut.py" (nat_lit 242))]
@[reducible] noncomputable def o57 (P : Params) : Obj := (Obj.mk (Value.type "frame") none Data.plain ⟨[(some (r (nat_lit 56))), (some (r (nat_lit 3))), (some (r (nat_lit 53))), none, (some (v "ledgerspeak.errors" (nat_lit 194))), none, (some (r (nat_lit 0)))]⟩)
@[reducible] noncomputable def o58 (P : Params) : Obj := tp []
@[reducible] noncomputable def o59 (P : Params) : Obj := dc [(e P "__module__" (nat_lit 243) (v "ledgerspeak.errors" (nat_lit 194))), (e P "__firstlineno__" (nat_lit 247) (Value.int (.ofNat (nat_lit 14)) (nat_lit 246))), (e P "__static_attributes__" (nat_lit 248) (r (nat_lit 58))), (e P "__doc__" (nat_lit 249) Value.none)] (nat_lit 2)
@[reducible] noncomputable def o60 (P : Params) : Obj := (Obj.mk (Value.type "type") none (Data.cls (ClassData.mk (Str.ofString "TokenFault") [(r (nat_lit 47))] [(r (nat_lit 60)), (r (nat_lit 47)), (Value.type "Exception"), (Value.type "BaseException"), (Value.type "object")] (nat_lit 59) (Str.ofString "TokenFault") Bool.true [] [] Bool.false none Bool.false)) ⟨[(some (r (nat_lit 51))), none, (some (v "TokenFault" (nat_lit 236))), (some (v "TokenFault" (nat_lit 244))), (some (Value.builtin "Exception.__new__")), (some (Value.bool Bool.true))]⟩)
@[reducible] noncomputable def o61 (P : Params) : Obj := (Obj.mk (Value.type "super") none (Data.fields ⟨[(r (nat_lit 60)), (r (nat_lit 60)), (r (nat_lit 60))]⟩) ⟨[]⟩)
@[reducible] noncomputable def o62 (P : Params) : Obj := (Obj.mk (Value.type "builtin_function_or_method") none (Data.fields ⟨[(Value.builtin "object.__init_subclass__"), (r (nat_lit 60))]⟩) ⟨[]⟩)
@[reducible] noncomputable def o63 (P : Params) : Obj := tp [(r (nat_lit 47))]
@[reducible] noncomputable def o64 (P : Params) : Obj := (Obj.mk (Value.type "builtin_function_or_method") none (Data.fields ⟨[(Value.builtin "type.__prepare__"), (Value.type "type")]⟩) ⟨[]⟩)
@[reducible] noncomputable def o65 (P : Params) : Obj := dc [(e P "__module__" (nat_lit 259) (v "ledgerspeak.errors" (nat_lit 194))), (e P "__qualname__" (nat_lit 261) (v "GrammarFault" (nat_lit 260))), (e P "__firstlineno__" (nat_lit 263) (Value.int (.ofNat (nat_lit 16)) (nat_lit 262))), (e P "__static_attributes__" (nat_lit 264) (r (nat_lit 70)))] (nat_lit 4)
@[reducible] noncomputable def o66 (P : Params) : Obj := tp []
@[reducible] noncomputable def o67 (P : Params) : Obj := nf []
@[reducible] noncomputable def o68 (P : Params) : Obj := co [(v "GrammarFault" (nat_lit 254)), (v "GrammarFault" (nat_lit 255)), (v "/claim/cut.py" (nat_lit 256)), (Value.int (.ofNat (nat_lit 16)) (nat_lit 0)), (Value.int (.ofNat (nat_lit 0)) (nat_lit 0)), (Value.int (.ofNat (nat_lit 0)) (nat_lit 0)), (Value.int (.ofNat (nat_lit 0)) (nat_lit 0)), (Value.int (.ofNat (nat_lit 0)) (nat_lit 0)), (r (nat_lit 66)), (Value.bool Bool.false), (Value.int (.ofNat (nat_lit 181)) (nat_lit 0)), (r (nat_lit 67)), Value.none, Value.none, Value.none, Value.none, (Value.int (.ofNat (nat_lit 257)) (nat_lit 0)), (Value.int (.ofNat (nat_lit 16)) (nat_lit 0)), (v "/claim/cut.py" (nat_lit 258))]
@[reducible] noncomputable def o69 (P : Params) : Obj := (Obj.mk (Value.type "frame") none Data.plain ⟨[(some (r (nat_lit 68))), (some (r (nat_lit 3))), (some (r (nat_lit 65))), none, (some (v "ledgerspeak.errors" (nat_lit 194))), none, (some (r (nat_lit 0)))]⟩)
@[reducible] noncomputable def o70 (P : Params) : Obj := tp []
@[reducible] noncomputable def o71 (P : Params) : Obj := dc [(e P "__module__" (nat_lit 259) (v "ledgerspeak.errors" (nat_lit 194))), (e P "__firstlineno__" (nat_lit 263) (Value.int (.ofNat (nat_lit 16)) (nat_lit 262))), (e P "__static_attributes__" (nat_lit 264) (r (nat_lit 70))), (e P "__doc__" (nat_lit 265) Value.none)] (nat_lit 2)
@[reducible] noncomputable def o72 (P : Params) : Obj := (Obj.mk (Value.type "type") none (Data.cls (ClassData.mk (Str.ofString "GrammarFault") [(r (nat_lit 47))] [(r (nat_lit 72)), (r (nat_lit 47)), (Value.type "Exception"), (Value.type "BaseException"), (Value.type "object")] (nat_lit 71) (Str.ofString "GrammarFault") Bool.true [] [] Bool.false none Bool.false)) ⟨[(some (r (nat_lit 63))), none, (some (v "GrammarFault" (nat_lit 252))), (some (v "GrammarFault" (nat_lit 260))), (some (Value.builtin "Exception.__new__")), (some (Value.bool Bool.true))]⟩)
@[reducible] noncomputable def o73 (P : Params) : Obj := (Obj.mk (Value.type "super") none (Data.fields ⟨[(r (nat_lit 72)), (r (nat_lit 72)), (r (nat_lit 72))]⟩) ⟨[]⟩)
@[reducible] noncomputable def o74 (P : Params) : Obj := (Obj.mk (Value.type "builtin_function_or_method") none (Data.fields ⟨[(Value.builtin "object.__init_subclass__"), (r (nat_lit 72))]⟩) ⟨[]⟩)
@[reducible] noncomputable def o75 (P : Params) : Obj := tp []
@[reducible] noncomputable def o76 (P : Params) : Obj := nf []
@[reducible] noncomputable def o77 (P : Params) : Obj := tp [(v "top" (nat_lit 275)), (v "bottom" (nat_lit 276))]
@[reducible] noncomputable def o78 (P : Params) : Obj := tp []
@[reducible] noncomputable def o79 (P : Params) : Obj := (Obj.mk Value.none none (Data.func (FuncData.mk (Str.ofString "cut_quotient") (Str.ofString "cut_quotient") (fP (st 7)) (FuncBody.stmts (fB (st 7))) (fS (st 7)) (nat_lit 0) [] Value.none Value.none Value.none Value.none none Value.none Value.none (nat_lit 0))) ⟨[]⟩)
@[reducible] noncomputable def o80 (P : Params) : Obj := co [(v "cut_quotient" (nat_lit 272)), (v "cut_quotient" (nat_lit 273)), (v "/claim/cut.py" (nat_lit 274)), (Value.int (.ofNat (nat_lit 20)) (nat_lit 0)), (Value.int (.ofNat (nat_lit 2)) (nat_lit 0)), (Value.int (.ofNat (nat_lit 0)) (nat_lit 0)), (Value.int (.ofNat (nat_lit 0)) (nat_lit 0)), (Value.int (.ofNat (nat_lit 3)) (nat_lit 0)), (r (nat_lit 75)), (Value.bool Bool.true), (Value.int (.ofNat (nat_lit 181)) (nat_lit 0)), (r (nat_lit 76)), Value.none, (r (nat_lit 77)), (r (nat_lit 78)), (r (nat_lit 79)), (Value.int (.ofNat (nat_lit 277)) (nat_lit 0)), (Value.int (.ofNat (nat_lit 20)) (nat_lit 0)), (v "/claim/cut.py" (nat_lit 278))]
@[reducible] noncomputable def o81 (P : Params) : Obj := (Obj.mk (Value.type "function") none (Data.func (FuncData.mk (Str.ofString "cut_quotient") (Str.ofString "cut_quotient") (fP (st 7)) (FuncBody.stmts (fB (st 7))) (fS (st 7)) (nat_lit 3) [] Value.none Value.none Value.none (v "ledgerspeak.decimals" (nat_lit 268)) none (r (nat_lit 80)) Value.none (nat_lit 0))) ⟨[]⟩)
@[reducible] noncomputable def o82 (P : Params) : Obj := tp [(Value.int (.ofNat (nat_lit 0)) (nat_lit 280))]
@[reducible] noncomputable def o83 (P : Params) : Obj := tp []
@[reducible] noncomputable def o84 (P : Params) : Obj := nf []
@[reducible] noncomputable def o85 (P : Params) : Obj := tp [(v "units" (nat_lit 284)), (v "scale" (nat_lit 285))]
@[reducible] noncomputable def o86 (P : Params) : Obj := tp []
@[reducible] noncomputable def o87 (P : Params) : Obj := (Obj.mk Value.none none (Data.func (FuncData.mk (Str.ofString "decimal") (Str.ofString "decimal") (fP (st 8)) (FuncBody.stmts (fB (st 8))) (fS (st 8)) (nat_lit 0) [] Value.none Value.none Value.none Value.none none Value.none Value.none (nat_lit 0))) ⟨[]⟩)
@[reducible] noncomputable def o88 (P : Params) : Obj := co [(v "decimal" (nat_lit 281)), (v "decimal" (nat_lit 282)), (v "/claim/cut.py" (nat_lit 283)), (Value.int (.ofNat (nat_lit 24)) (nat_lit 0)), (Value.int (.ofNat (nat_lit 2)) (nat_lit 0)), (Value.int (.ofNat (nat_lit 0)) (nat_lit 0)), (Value.int (.ofNat (nat_lit 0)) (nat_lit 0)), (Value.int (.ofNat (nat_lit 3)) (nat_lit 0)), (r (nat_lit 83)), (Value.bool Bool.true), (Value.int (.ofNat (nat_lit 181)) (nat_lit 0)), (r (nat_lit 84)), Value.none, (r (nat_lit 85)), (r (nat_lit 86)), (r (nat_lit 87)), (Value.int (.ofNat (nat_lit 286)) (nat_lit 0)), (Value.int (.ofNat (nat_lit 24)) (nat_lit 0)), (v "/claim/cut.py" (nat_lit 287))]
@[reducible] noncomputable def o89 (P : Params) : Obj := (Obj.mk (Value.type "function") none (Data.func (FuncData.mk (Str.ofString "decimal") (Str.ofString "decimal") (fP (st 8)) (FuncBody.stmts (fB (st 8))) (fS (st 8)) (nat_lit 3) [] (r (nat_lit 82)) Value.none Value.none (v "ledgerspeak.decimals" (nat_lit 268)) none (r (nat_lit 88)) Value.none (nat_lit 0))) ⟨[]⟩)
@[reducible] noncomputable def o90 (P : Params) : Obj := tp []
@[reducible] noncomputable def o91 (P : Params) : Obj := nf []
@[reducible] noncomputable def o92 (P : Params) : Obj := tp [(v "a" (nat_lit 292))]
@[reducible] noncomputable def o93 (P : Params) : Obj := tp []
@[reducible] noncomputable def o94 (P : Params) : Obj := (Obj.mk Value.none none (Data.func (FuncData.mk (Str.ofString "negated") (Str.ofString "negated") (fP (st 9)) (FuncBody.stmts (fB (st 9))) (fS (st 11)) (nat_lit 0) [] Value.none Value.none Value.none Value.none none Value.none Value.none (nat_lit 0))) ⟨[]⟩)
@[reducible] noncomputable def o95 (P : Params) : Obj := co [(v "negated" (nat_lit 289)), (v "negated" (nat_lit 290)), (v "/claim/cut.py" (nat_lit 291)), (Value.int (.ofNat (nat_lit 31)) (nat_lit 0)), (Value.int (.ofNat (nat_lit 1)) (nat_lit 0)), (Value.int (.ofNat (nat_lit 0)) (nat_lit 0)), (Value.int (.ofNat (nat_lit 0)) (nat_lit 0)), (Value.int (.ofNat (nat_lit 3)) (nat_lit 0)), (r (nat_lit 90)), (Value.bool Bool.true), (Value.int (.ofNat (nat_lit 181)) (nat_lit 0)), (r (nat_lit 91)), Value.none, (r (nat_lit 92)), (r (nat_lit 93)), (r (nat_lit 94)), (Value.int (.ofNat (nat_lit 293)) (nat_lit 0)), (Value.int (.ofNat (nat_lit 31)) (nat_lit 0)), (v "/claim/cut.py" (nat_lit 294))]
@[reducible] noncomputable def o96 (P : Params) : Obj := (Obj.mk (Value.type "function") none (Data.func (FuncData.mk (Str.ofString "negated") (Str.ofString "negated") (fP (st 9)) (FuncBody.stmts (fB (st 9))) (fS (st 11)) (nat_lit 3) [] Value.none Value.none Value.none (v "ledgerspeak.decimals" (nat_lit 268)) none (r (nat_lit 95)) Value.none (nat_lit 0))) ⟨[]⟩)
@[reducible] noncomputable def o97 (P : Params) : Obj := tp []
@[reducible] noncomputable def o98 (P : Params) : Obj := nf []
@[reducible] noncomputable def o99 (P : Params) : Obj := tp [(v "a" (nat_lit 299)), (v "scale" (nat_lit 300)), (v "is_rounded" (nat_lit 301)), (v "size" (nat_lit 302)), (v "half" (nat_lit 303))]
@[reducible] noncomputable def o100 (P : Params) : Obj := tp []
@[reducible] noncomputable def o101 (P : Params) : Obj := (Obj.mk Value.none none (Data.func (FuncData.mk (Str.ofString "units_at") (Str.ofString "units_at") (fP (st 10)) (FuncBody.stmts (fB (st 10))) (fS (st 10)) (nat_lit 0) [] Value.none Value.none Value.none Value.none none Value.none Value.none (nat_lit 0))) ⟨[]⟩)
@[reducible] noncomputable def o102 (P : Params) : Obj := co [(v "units_at" (nat_lit 296)), (v "units_at" (nat_lit 297)), (v "/claim/cut.py" (nat_lit 298)), (Value.int (.ofNat (nat_lit 33)) (nat_lit 0)), (Value.int (.ofNat (nat_lit 3)) (nat_lit 0)), (Value.int (.ofNat (nat_lit 0)) (nat_lit 0)), (Value.int (.ofNat (nat_lit 0)) (nat_lit 0)), (Value.int (.ofNat (nat_lit 3)) (nat_lit 0)), (r (nat_lit 97)), (Value.bool Bool.true), (Value.int (.ofNat (nat_lit 181)) (nat_lit 0)), (r (nat_lit 98)), Value.none, (r (nat_lit 99)), (r (nat_lit 100)), (r (nat_lit 101)), (Value.int (.ofNat (nat_lit 304)) (nat_lit 0)), (Value.int (.ofNat (nat_lit 33)) (nat_lit 0)), (v "/claim/cut.py" (nat_lit 305))]
@[reducible] noncomputable def o103 (P : Params) : Obj := (Obj.mk (Value.type "function") none (Data.func (FuncData.mk (Str.ofString "units_at") (Str.ofString "units_at") (fP (st 10)) (FuncBody.stmts (fB (st 10))) (fS (st 10)) (nat_lit 3) [] Value.none Value.none Value.none (v "ledgerspeak.decimals" (nat_lit 268)) none (r (nat_lit 102)) Value.none (nat_lit 0))) ⟨[]⟩)
@[reducible] noncomputable def o104 (P : Params) : Obj := tp []
@[reducible] noncomputable def o105 (P : Params) : Obj := nf []
@[reducible] noncomputable def o106 (P : Params) : Obj := tp [(v "a" (nat_lit 310))]
@[reducible] noncomputable def o107 (P : Params) : Obj := tp []
@[reducible] noncomputable def o108 (P : Params) : Obj := (Obj.mk Value.none none (Data.func (FuncData.mk (Str.ofString "is_whole") (Str.ofString "is_whole") (fP (st 11)) (FuncBody.stmts (fB (st 11))) (fS (st 11)) (nat_lit 0) [] Value.none Value.none Value.none Value.none none Value.none Value.none (nat_lit 0))) ⟨[]⟩)
@[reducible] noncomputable def o109 (P : Params) : Obj := co [(v "is_whole" (nat_lit 307)), (v "is_whole" (nat_lit 308)), (v "/claim/cut.py" (nat_lit 309)), (Value.int (.ofNat (nat_lit 41)) (nat_lit 0)), (Value.int (.ofNat (nat_lit 1)) (nat_lit 0)), (Value.int (.ofNat (nat_lit 0)) (nat_lit 0)), (Value.int (.ofNat (nat_lit 0)) (nat_lit 0)), (Value.int (.ofNat (nat_lit 3)) (nat_lit 0)), (r (nat_lit 104)), (Value.bool Bool.true), (Value.int (.ofNat (nat_lit 181)) (nat_lit 0)), (r (nat_lit 105)), Value.none, (r (nat_lit 106)), (r (nat_lit 107)), (r (nat_lit 108)), (Value.int (.ofNat (nat_lit 311)) (nat_lit 0)), (Value.int (.ofNat (nat_lit 41)) (nat_lit 0)), (v "/claim/cut.py" (nat_lit 312))]
@[reducible] noncomputable def o110 (P : Params) : Obj := (Obj.mk (Value.type "function") none (Data.func (FuncData.mk (Str.ofString "is_whole") (Str.ofString "is_whole") (fP (st 11)) (FuncBody.stmts (fB (st 11))) (fS (st 11)) (nat_lit 3) [] Value.none Value.none Value.none (v "ledgerspeak.decimals" (nat_lit 268)) none (r (nat_lit 109)) Value.none (nat_lit 0))) ⟨[]⟩)
noncomputable def T1 (P : Params) : BT := (.node (boot_o_0 P) (.node (boot_o_1 P) (.node (o3_0 P) (.node (boot_o_7 P) (.node (o15 P) (.node (o31 P) (.node (o63 P) .nil .nil) (.node (o95 P) .nil .nil)) (.node (o47 P) (.node (o79 P) .nil .nil) .nil)) (.node (o23 P) (.node (o39 P) (.node (o71 P) .nil .nil) (.node (o103 P) .nil .nil)) (.node (o55 P) (.node (o87 P) .nil .nil) .nil))) (.node (o11 P) (.node (o19 P) (.node (o35 P) (.node (o67 P) .nil .nil) (.node (o99 P) .nil .nil)) (.node (o51 P) (.node (o83 P) .nil .nil) .nil)) (.node (o27 P) (.node (o43 P) (.node (o75 P) .nil .nil) (.node (o107 P) .nil .nil)) (.node (o59 P) (.node (o91 P) .nil .nil) .nil)))) (.node (boot_o_5 P) (.node (boot_o_9 P) (.node (o17 P) (.node (o33 P) (.node (o65 P) .nil .nil) (.node (o97 P) .nil .nil)) (.node (o49 P) (.node (o81 P) .nil .nil) .nil)) (.node (o25 P) (.node (o41 P) (.node (o73 P) .nil .nil) (.node (o105 P) .nil .nil)) (.node (o57 P) (.node (o89 P) .nil .nil) .nil))) (.node (o13 P) (.node (o21 P) (.node (o37 P) (.node (o69 P) .nil .nil) (.node (o101 P) .nil .nil)) (.node (o53 P) (.node (o85 P) .nil .nil) .nil)) (.node (o29 P) (.node (o45 P) (.node (o77 P) .nil .nil) (.node (o109 P) .nil .nil)) (.node (o61 P) (.node (o93 P) .nil .nil) .nil))))) (.node (o2_0 P) (.node (boot_o_4 P) (.node (boot_o_8 P) (.node (o16 P) (.node (o32 P) (.node (o64 P) .nil .nil) (.node (o96 P) .nil .nil)) (.node (o48 P) (.node (o80 P) .nil .nil) .nil)) (.node (o24 P) (.node (o40 P) (.node (o72 P) .nil .nil) (.node (o104 P) .nil .nil)) (.node (o56 P) (.node (o88 P) .nil .nil) .nil))) (.node (o12_1 P) (.node (o20 P) (.node (o36 P) (.node (o68 P) .nil .nil) (.node (o100 P) .nil .nil)) (.node (o52 P) (.node (o84 P) .nil .nil) .nil)) (.node (o28 P) (.node (o44 P) (.node (o76 P) .nil .nil) (.node (o108 P) .nil .nil)) (.node (o60 P) (.node (o92 P) .nil .nil) .nil)))) (.node (boot_o_6 P) (.node (boot_o_10 P) (.node (o18 P) (.node (o34 P) (.node (o66 P) .nil .nil) (.node (o98 P) .nil .nil)) (.node (o50 P) (.node (o82 P) .nil .nil) .nil)) (.node (o26 P) (.node (o42 P) (.node (o74 P) .nil .nil) (.node (o106 P) .nil .nil)) (.node (o58 P) (.node (o90 P) .nil .nil) .nil))) (.node (o14 P) (.node (o22 P) (.node (o38 P) (.node (o70 P) .nil .nil) (.node (o102 P) .nil .nil)) (.node (o54 P) (.node (o86 P) .nil .nil) .nil)) (.node (o30 P) (.node (o46 P) (.node (o78 P) .nil .nil) (.node (o110 P) .nil .nil)) (.node (o62 P) (.node (o94 P) .nil .nil) .nil))))))
@[reducible] noncomputable def o3_1 (P : Params) : Obj := dc [(e P "__name__" (nat_lit 165) (v "ledgerspeak.references" (nat_lit 343))), (e P "__doc__" (nat_lit 166) Value.none), (e P "__package__" (nat_lit 167) Value.none), (e P "__loader__" (nat_lit 168) (Value.builtin "__main__.__loader__#opaque")), (e P "__spec__" (nat_lit 169) Value.none), (e P "__annotations__" (nat_lit 170) (r (nat_lit 6))), (e P "__builtins__" (nat_lit 171) (r (nat_lit 4))), (e P "__file__" (nat_lit 173) (v "/claim/cut.py" (nat_lit 172))), (e P "__cached__" (nat_lit 174) Value.none), (e P "_wall" (nat_lit 193) (r (nat_lit 21))), (e P "LedgerError" (nat_lit 235) (r (nat_lit 47))), (e P "TokenFault" (nat_lit 251) (r (nat_lit 60))), (e P "GrammarFault" (nat_lit 267) (r (nat_lit 72))), (e P "FIGURES" (nat_lit 271) (v "0123456789" (nat_lit 270))), (e P "cut_quotient" (nat_lit 279) (r (nat_lit 81))), (e P "decimal" (nat_lit 288) (r (nat_lit 89))), (e P "negated" (nat_lit 295) (r (nat_lit 96))), (e P "units_at" (nat_lit 306) (r (nat_lit 103))), (e P "is_whole" (nat_lit 313) (r (nat_lit 110))), (e P "whole_of" (nat_lit 320) (r (nat_lit 117))), (e P "worth_of" (nat_lit 329) (r (nat_lit 124))), (e P "read_decimal" (nat_lit 342) (r (nat_lit 131))), (e P "MOST_SUBSCRIPTS" (nat_lit 346) (Value.int (.ofNat (nat_lit 7)) (nat_lit 345))), (e P "FIGURE_NAMES" (nat_lit 380) (r (nat_lit 132))), (e P "is_part_next" (nat_lit 389) (r (nat_lit 139))), (e P "read_subscripts" (nat_lit 398) (r (nat_lit 146))), (e P "read_part" (nat_lit 408) (r (nat_lit 153)))] (nat_lit 27)
@[reducible] noncomputable def o12_2 (P : Params) : Obj := nf [(Value.int (.ofNat (nat_lit 1)) (nat_lit 0)), (Value.int (.ofNat (nat_lit 0)) (nat_lit 0)), (r (nat_lit 20)), (Value.int (.ofNat (nat_lit 5)) (nat_lit 0)), (Value.int (.ofNat (nat_lit 0)) (nat_lit 0)), (r (nat_lit 27)), (Value.int (.ofNat (nat_lit 14)) (nat_lit 0)), (Value.int (.ofNat (nat_lit 0)) (nat_lit 0)), (r (nat_lit 56)), (Value.int (.ofNat (nat_lit 16)) (nat_lit 0)), (Value.int (.ofNat (nat_lit 0)) (nat_lit 0)), (r (nat_lit 68)), (Value.int (.ofNat (nat_lit 20)) (nat_lit 0)), (Value.int (.ofNat (nat_lit 0)) (nat_lit 0)), (r (nat_lit 80)), (Value.int (.ofNat (nat_lit 24)) (nat_lit 0)), (Value.int (.ofNat (nat_lit 0)) (nat_lit 0)), (r (nat_lit 88)), (Value.int (.ofNat (nat_lit 31)) (nat_lit 0)), (Value.int (.ofNat (nat_lit 0)) (nat_lit 0)), (r (nat_lit 95)), (Value.int (.ofNat (nat_lit 33)) (nat_lit 0)), (Value.int (.ofNat (nat_lit 0)) (nat_lit 0)), (r (nat_lit 102)), (Value.int (.ofNat (nat_lit 41)) (nat_lit 0)), (Value.int (.ofNat (nat_lit 0)) (nat_lit 0)), (r (nat_lit 109)), (Value.int (.ofNat (nat_lit 43)) (nat_lit 0)), (Value.int (.ofNat (nat_lit 0)) (nat_lit 0)), (r (nat_lit 116)), (Value.int (.ofNat (nat_lit 45)) (nat_lit 0)), (Value.int (.ofNat (nat_lit 0)) (nat_lit 0)), (r (nat_lit 123)), (Value.int (.ofNat (nat_lit 50)) (nat_lit 0)), (Value.int (.ofNat (nat_lit 0)) (nat_lit 0)), (r (nat_lit 130)), (Value.int (.ofNat (nat_lit 68)) (nat_lit 0)), (Value.int (.ofNat (nat_lit 0)) (nat_lit 0)), (r (nat_lit 138)), (Value.int (.ofNat (nat_lit 81)) (nat_lit 0)), (Value.int (.ofNat (nat_lit 0)) (nat_lit 0)), (r (nat_lit 145)), (Value.int (.ofNat (nat_lit 89)) (nat_lit 0)), (Value.int (.ofNat (nat_lit 0)) (nat_lit 0)), (r (nat_lit 152))]
@[reducible] noncomputable def o111 (P : Params) : Obj := tp []
@[reducible] noncomputable def o112 (P : Params) : Obj := nf []
@[reducible] noncomputable def o113 (P : Params) : Obj := tp [(v "a" (nat_lit 317))]
@[reducible] noncomputable def o114 (P : Params) : Obj := tp []
@[reducible] noncomputable def o115 (P : Params) : Obj := (Obj.mk Value.none none (Data.func (FuncData.mk (Str.ofString "whole_of") (Str.ofString "whole_of") (fP (st 12)) (FuncBody.stmts (fB (st 12))) (fS (st 12)) (nat_lit 0) [] Value.none Value.none Value.none Value.none none Value.none Value.none (nat_lit 0))) ⟨[]⟩)
@[reducible] noncomputable def o116 (P : Params) : Obj := co [(v "whole_of" (nat_lit 314)), (v "whole_of" (nat_lit 315)), (v "/claim/cut.py" (nat_lit 316)), (Value.int (.ofNat (nat_lit 43)) (nat_lit 0)), (Value.int (.ofNat (nat_lit 1)) (nat_lit 0)), (Value.int (.ofNat (nat_lit 0)) (nat_lit 0)), (Value.int (.ofNat (nat_lit 0)) (nat_lit 0)), (Value.int (.ofNat (nat_lit 3)) (nat_lit 0)), (r (nat_lit 111)), (Value.bool Bool.true), (Value.int (.ofNat (nat_lit 181)) (nat_lit 0)), (r (nat_lit 112)), Value.none, (r (nat_lit 113)), (r (nat_lit 114)), (r (nat_lit 115)), (Value.int (.ofNat (nat_lit 318)) (nat_lit 0)), (Value.int (.ofNat (nat_lit 43)) (nat_lit 0)), (v "/claim/cut.py" (nat_lit 319))]
@[reducible] noncomputable def o117 (P : Params) : Obj := (Obj.mk (Value.type "function") none (Data.func (FuncData.mk (Str.ofString "whole_of") (Str.ofString "whole_of") (fP (st 12)) (FuncBody.stmts (fB (st 12))) (fS (st 12)) (nat_lit 3) [] Value.none Value.none Value.none (v "ledgerspeak.decimals" (nat_lit 268)) none (r (nat_lit 116)) Value.none (nat_lit 0))) ⟨[]⟩)
@[reducible] noncomputable def o118 (P : Params) : Obj := tp []
@[reducible] noncomputable def o119 (P : Params) : Obj := nf []
@[reducible] noncomputable def o120 (P : Params) : Obj := tp [(v "figures" (nat_lit 324)), (v "number" (nat_lit 325)), (v "figure" (nat_lit 326))]
@[reducible] noncomputable def o121 (P : Params) : Obj := tp []
@[reducible] noncomputable def o122 (P : Params) : Obj := (Obj.mk Value.none none (Data.func (FuncData.mk (Str.ofString "worth_of") (Str.ofString "worth_of") (fP (st 13)) (FuncBody.stmts (fB (st 13))) (fS (st 13)) (nat_lit 0) [] Value.none Value.none Value.none Value.none none Value.none Value.none (nat_lit 0))) ⟨[]⟩)
@[reducible] noncomputable def o123 (P : Params) : Obj := co [(v "worth_of" (nat_lit 321)), (v "worth_of" (nat_lit 322)), (v "/claim/cut.py" (nat_lit 323)), (Value.int (.ofNat (nat_lit 45)) (nat_lit 0)), (Value.int (.ofNat (nat_lit 1)) (nat_lit 0)), (Value.int (.ofNat (nat_lit 0)) (nat_lit 0)), (Value.int (.ofNat (nat_lit 0)) (nat_lit 0)), (Value.int (.ofNat (nat_lit 3)) (nat_lit 0)), (r (nat_lit 118)), (Value.bool Bool.true), (Value.int (.ofNat (nat_lit 181)) (nat_lit 0)), (r (nat_lit 119)), Value.none, (r (nat_lit 120)), (r (nat_lit 121)), (r (nat_lit 122)), (Value.int (.ofNat (nat_lit 327)) (nat_lit 0)), (Value.int (.ofNat (nat_lit 45)) (nat_lit 0)), (v "/claim/cut.py" (nat_lit 328))]
@[reducible] noncomputable def o124 (P : Params) : Obj := (Obj.mk (Value.type "function") none (Data.func (FuncData.mk (Str.ofString "worth_of") (Str.ofString "worth_of") (fP (st 13)) (FuncBody.stmts (fB (st 13))) (fS (st 13)) (nat_lit 3) [] Value.none Value.none Value.none (v "ledgerspeak.decimals" (nat_lit 268)) none (r (nat_lit 123)) Value.none (nat_lit 0))) ⟨[]⟩)
@[reducible] noncomputable def o125 (P : Params) : Obj := tp []
@[reducible] noncomputable def o126 (P : Params) : Obj := nf []
@[reducible] noncomputable def o127 (P : Params) : Obj := tp [(v "text" (nat_lit 333)), (v "begin" (nat_lit 334)), (v "ahead" (nat_lit 335)), (v "behind" (nat_lit 336)), (v "point" (nat_lit 337)), (v "at" (nat_lit 338)), (v "units" (nat_lit 339))]
@[reducible] noncomputable def o128 (P : Params) : Obj := tp []
@[reducible] noncomputable def o129 (P : Params) : Obj := (Obj.mk Value.none none (Data.func (FuncData.mk (Str.ofString "read_decimal") (Str.ofString "read_decimal") (fP (st 14)) (FuncBody.stmts (fB (st 14))) (fS (st 14)) (nat_lit 0) [] Value.none Value.none Value.none Value.none none Value.none Value.none (nat_lit 0))) ⟨[]⟩)
@[reducible] noncomputable def o130 (P : Params) : Obj := co [(v "read_decimal" (nat_lit 330)), (v "read_decimal" (nat_lit 331)), (v "/claim/cut.py" (nat_lit 332)), (Value.int (.ofNat (nat_lit 50)) (nat_lit 0)), (Value.int (.ofNat (nat_lit 1)) (nat_lit 0)), (Value.int (.ofNat (nat_lit 0)) (nat_lit 0)), (Value.int (.ofNat (nat_lit 0)) (nat_lit 0)), (Value.int (.ofNat (nat_lit 3)) (nat_lit 0)), (r (nat_lit 125)), (Value.bool Bool.true), (Value.int (.ofNat (nat_lit 181)) (nat_lit 0)), (r (nat_lit 126)), Value.none, (r (nat_lit 127)), (r (nat_lit 128)), (r (nat_lit 129)), (Value.int (.ofNat (nat_lit 340)) (nat_lit 0)), (Value.int (.ofNat (nat_lit 50)) (nat_lit 0)), (v "/claim/cut.py" (nat_lit 341))]
@[reducible] noncomputable def o131 (P : Params) : Obj := (Obj.mk (Value.type "function") none (Data.func (FuncData.mk (Str.ofString "read_decimal") (Str.ofString "read_decimal") (fP (st 14)) (FuncBody.stmts (fB (st 14))) (fS (st 14)) (nat_lit 3) [] Value.none Value.none Value.none (v "ledgerspeak.decimals" (nat_lit 268)) none (r (nat_lit 130)) Value.none (nat_lit 0))) ⟨[]⟩)
@[reducible] noncomputable def o132 (P : Params) : Obj := dc [(e P "ZERO" (nat_lit 347) (v "ZERO" (nat_lit 348))), (e P "ZEROS" (nat_lit 349) (v "ZERO" (nat_lit 350))), (e P "ZEROES" (nat_lit 351) (v "ZERO" (nat_lit 352))), (e P "SPACE" (nat_lit 353) (v "SPACE" (nat_lit 354))), (e P "SPACES" (nat_lit 355) (v "SPACE" (nat_lit 356))), (e P "HIGH-VALUE" (nat_lit 357) (v "HIGH" (nat_lit 358))), (e P "HIGH-VALUES" (nat_lit 359) (v "HIGH" (nat_lit 360))), (e P "LOW-VALUE" (nat_lit 361) (v "LOW" (nat_lit 362))), (e P "LOW-VALUES" (nat_lit 363) (v "LOW" (nat_lit 364))), (e P "QUOTE" (nat_lit 365) (v "QUOTE" (nat_lit 366))), (e P "QUOTES" (nat_lit 367) (v "QUOTE" (nat_lit 368)))] (nat_lit 11)
@[reducible] noncomputable def o133 (P : Params) : Obj := tp []
@[reducible] noncomputable def o134 (P : Params) : Obj := nf []
@[reducible] noncomputable def o135 (P : Params) : Obj := tp [(v "reader" (nat_lit 384)), (v "depth" (nat_lit 385)), (v "ahead" (nat_lit 386))]
@[reducible] noncomputable def o136 (P : Params) : Obj := tp []
@[reducible] noncomputable def o137 (P : Params) : Obj := (Obj.mk Value.none none (Data.func (FuncData.mk (Str.ofString "is_part_next") (Str.ofString "is_part_next") (fP (st 18)) (FuncBody.stmts (fB (st 18))) (fS (st 18)) (nat_lit 0) [] Value.none Value.none Value.none Value.none none Value.none Value.none (nat_lit 0))) ⟨[]⟩)
@[reducible] noncomputable def o138 (P : Params) : Obj := co [(v "is_part_next" (nat_lit 381)), (v "is_part_next" (nat_lit 382)), (v "/claim/cut.py" (nat_lit 383)), (Value.int (.ofNat (nat_lit 68)) (nat_lit 0)), (Value.int (.ofNat (nat_lit 1)) (nat_lit 0)), (Value.int (.ofNat (nat_lit 0)) (nat_lit 0)), (Value.int (.ofNat (nat_lit 0)) (nat_lit 0)), (Value.int (.ofNat (nat_lit 3)) (nat_lit 0)), (r (nat_lit 133)), (Value.bool Bool.true), (Value.int (.ofNat (nat_lit 181)) (nat_lit 0)), (r (nat_lit 134)), Value.none, (r (nat_lit 135)), (r (nat_lit 136)), (r (nat_lit 137)), (Value.int (.ofNat (nat_lit 387)) (nat_lit 0)), (Value.int (.ofNat (nat_lit 68)) (nat_lit 0)), (v "/claim/cut.py" (nat_lit 388))]
@[reducible] noncomputable def o139 (P : Params) : Obj := (Obj.mk (Value.type "function") none (Data.func (FuncData.mk (Str.ofString "is_part_next") (Str.ofString "is_part_next") (fP (st 18)) (FuncBody.stmts (fB (st 18))) (fS (st 18)) (nat_lit 3) [] Value.none Value.none Value.none (v "ledgerspeak.references" (nat_lit 343)) none (r (nat_lit 138)) Value.none (nat_lit 0))) ⟨[]⟩)
@[reducible] noncomputable def o140 (P : Params) : Obj := tp []
@[reducible] noncomputable def o141 (P : Params) : Obj := nf []
@[reducible] noncomputable def o142 (P : Params) : Obj := tp [(v "reader" (nat_lit 393)), (v "read_expr" (nat_lit 394)), (v "found" (nat_lit 395))]
@[reducible] noncomputable def o143 (P : Params) : Obj := tp []
@[reducible] noncomputable def o144 (P : Params) : Obj := (Obj.mk Value.none none (Data.func (FuncData.mk (Str.ofString "read_subscripts") (Str.ofString "read_subscripts") (fP (st 19)) (FuncBody.stmts (fB (st 19))) (fS (st 19)) (nat_lit 0) [] Value.none Value.none Value.none Value.none none Value.none Value.none (nat_lit 0))) ⟨[]⟩)
@[reducible] noncomputable def o145 (P : Params) : Obj := co [(v "read_subscripts" (nat_lit 390)), (v "read_subscripts" (nat_lit 391)), (v "/claim/cut.py" (nat_lit 392)), (Value.int (.ofNat (nat_lit 81)) (nat_lit 0)), (Value.int (.ofNat (nat_lit 2)) (nat_lit 0)), (Value.int (.ofNat (nat_lit 0)) (nat_lit 0)), (Value.int (.ofNat (nat_lit 0)) (nat_lit 0)), (Value.int (.ofNat (nat_lit 3)) (nat_lit 0)), (r (nat_lit 140)), (Value.bool Bool.true), (Value.int (.ofNat (nat_lit 181)) (nat_lit 0)), (r (nat_lit 141)), Value.none, (r (nat_lit 142)), (r (nat_lit 143)), (r (nat_lit 144)), (Value.int (.ofNat (nat_lit 396)) (nat_lit 0)), (Value.int (.ofNat (nat_lit 81)) (nat_lit 0)), (v "/claim/cut.py" (nat_lit 397))]
@[reducible] noncomputable def o146 (P : Params) : Obj := (Obj.mk (Value.type "function") none (Data.func (FuncData.mk (Str.ofString "read_subscripts") (Str.ofString "read_subscripts") (fP (st 19)) (FuncBody.stmts (fB (st 19))) (fS (st 19)) (nat_lit 3) [] Value.none Value.none Value.none (v "ledgerspeak.references" (nat_lit 343)) none (r (nat_lit 145)) Value.none (nat_lit 0))) ⟨[]⟩)
@[reducible] noncomputable def o147 (P : Params) : Obj := tp []
@[reducible] noncomputable def o148 (P : Params) : Obj := nf []
@[reducible] noncomputable def o149 (P : Params) : Obj := tp [(v "reader" (nat_lit 402)), (v "read_expr" (nat_lit 403)), (v "begin" (nat_lit 404)), (v "length" (nat_lit 405))]
@[reducible] noncomputable def o150 (P : Params) : Obj := tp []
@[reducible] noncomputable def o151 (P : Params) : Obj := (Obj.mk Value.none none (Data.func (FuncData.mk (Str.ofString "read_part") (Str.ofString "read_part") (fP (st 20)) (FuncBody.stmts (fB (st 20))) (fS (st 20)) (nat_lit 0) [] Value.none Value.none Value.none Value.none none Value.none Value.none (nat_lit 0))) ⟨[]⟩)
@[reducible] noncomputable def o152 (P : Params) : Obj := co [(v "read_part" (nat_lit 399)), (v "read_part" (nat_lit 400)), (v "/claim/cut.py" (nat_lit 401)), (Value.int (.ofNat (nat_lit 89)) (nat_lit 0)), (Value.int (.ofNat (nat_lit 2)) (nat_lit 0)), (Value.int (.ofNat (nat_lit 0)) (nat_lit 0)), (Value.int (.ofNat (nat_lit 0)) (nat_lit 0)), (Value.int (.ofNat (nat_lit 3)) (nat_lit 0)), (r (nat_lit 147)), (Value.bool Bool.true), (Value.int (.ofNat (nat_lit 181)) (nat_lit 0)), (r (nat_lit 148)), Value.none, (r (nat_lit 149)), (r (nat_lit 150)), (r (nat_lit 151)), (Value.int (.ofNat (nat_lit 406)) (nat_lit 0)), (Value.int (.ofNat (nat_lit 89)) (nat_lit 0)), (v "/claim/cut.py" (nat_lit 407))]
@[reducible] noncomputable def o153 (P : Params) : Obj := (Obj.mk (Value.type "function") none (Data.func (FuncData.mk (Str.ofString "read_part") (Str.ofString "read_part") (fP (st 20)) (FuncBody.stmts (fB (st 20))) (fS (st 20)) (nat_lit 3) [] Value.none Value.none Value.none (v "ledgerspeak.references" (nat_lit 343)) none (r (nat_lit 152)) Value.none (nat_lit 0))) ⟨[]⟩)
noncomputable def T2 (P : Params) : BT := (.node (boot_o_0 P) (.node (boot_o_1 P) (.node (o3_1 P) (.node (boot_o_7 P) (.node (o15 P) (.node (o31 P) (.node (o63 P) (.node (o127 P) .nil .nil) .nil) (.node (o95 P) .nil .nil)) (.node (o47 P) (.node (o79 P) (.node (o143 P) .nil .nil) .nil) (.node (o111 P) .nil .nil))) (.node (o23 P) (.node (o39 P) (.node (o71 P) (.node (o135 P) .nil .nil) .nil) (.node (o103 P) .nil .nil)) (.node (o55 P) (.node (o87 P) (.node (o151 P) .nil .nil) .nil) (.node (o119 P) .nil .nil)))) (.node (o11 P) (.node (o19 P) (.node (o35 P) (.node (o67 P) (.node (o131 P) .nil .nil) .nil) (.node (o99 P) .nil .nil)) (.node (o51 P) (.node (o83 P) (.node (o147 P) .nil .nil) .nil) (.node (o115 P) .nil .nil))) (.node (o27 P) (.node (o43 P) (.node (o75 P) (.node (o139 P) .nil .nil) .nil) (.node (o107 P) .nil .nil)) (.node (o59 P) (.node (o91 P) .nil .nil) (.node (o123 P) .nil .nil))))) (.node (boot_o_5 P) (.node (boot_o_9 P) (.node (o17 P) (.node (o33 P) (.node (o65 P) (.node (o129 P) .nil .nil) .nil) (.node (o97 P) .nil .nil)) (.node (o49 P) (.node (o81 P) (.node (o145 P) .nil .nil) .nil) (.node (o113 P) .nil .nil))) (.node (o25 P) (.node (o41 P) (.node (o73 P) (.node (o137 P) .nil .nil) .nil) (.node (o105 P) .nil .nil)) (.node (o57 P) (.node (o89 P) (.node (o153 P) .nil .nil) .nil) (.node (o121 P) .nil .nil)))) (.node (o13 P) (.node (o21 P) (.node (o37 P) (.node (o69 P) (.node (o133 P) .nil .nil) .nil) (.node (o101 P) .nil .nil)) (.node (o53 P) (.node (o85 P) (.node (o149 P) .nil .nil) .nil) (.node (o117 P) .nil .nil))) (.node (o29 P) (.node (o45 P) (.node (o77 P) (.node (o141 P) .nil .nil) .nil) (.node (o109 P) .nil .nil)) (.node (o61 P) (.node (o93 P) .nil .nil) (.node (o125 P) .nil .nil)))))) (.node (o2_0 P) (.node (boot_o_4 P) (.node (boot_o_8 P) (.node (o16 P) (.node (o32 P) (.node (o64 P) (.node (o128 P) .nil .nil) .nil) (.node (o96 P) .nil .nil)) (.node (o48 P) (.node (o80 P) (.node (o144 P) .nil .nil) .nil) (.node (o112 P) .nil .nil))) (.node (o24 P) (.node (o40 P) (.node (o72 P) (.node (o136 P) .nil .nil) .nil) (.node (o104 P) .nil .nil)) (.node (o56 P) (.node (o88 P) (.node (o152 P) .nil .nil) .nil) (.node (o120 P) .nil .nil)))) (.node (o12_2 P) (.node (o20 P) (.node (o36 P) (.node (o68 P) (.node (o132 P) .nil .nil) .nil) (.node (o100 P) .nil .nil)) (.node (o52 P) (.node (o84 P) (.node (o148 P) .nil .nil) .nil) (.node (o116 P) .nil .nil))) (.node (o28 P) (.node (o44 P) (.node (o76 P) (.node (o140 P) .nil .nil) .nil) (.node (o108 P) .nil .nil)) (.node (o60 P) (.node (o92 P) .nil .nil) (.node (o124 P) .nil .nil))))) (.node (boot_o_6 P) (.node (boot_o_10 P) (.node (o18 P) (.node (o34 P) (.node (o66 P) (.node (o130 P) .nil .nil) .nil) (.node (o98 P) .nil .nil)) (.node (o50 P) (.node (o82 P) (.node (o146 P) .nil .nil) .nil) (.node (o114 P) .nil .nil))) (.node (o26 P) (.node (o42 P) (.node (o74 P) (.node (o138 P) .nil .nil) .nil) (.node (o106 P) .nil .nil)) (.node (o58 P) (.node (o90 P) .nil .nil) (.node (o122 P) .nil .nil)))) (.node (o14 P) (.node (o22 P) (.node (o38 P) (.node (o70 P) (.node (o134 P) .nil .nil) .nil) (.node (o102 P) .nil .nil)) (.node (o54 P) (.node (o86 P) (.node (o150 P) .nil .nil) .nil) (.node (o118 P) .nil .nil))) (.node (o30 P) (.node (o46 P) (.node (o78 P) (.node (o142 P) .nil .nil) .nil) (.node (o110 P) .nil .nil)) (.node (o62 P) (.node (o94 P) .nil .nil) (.node (o126 P) .nil .nil)))))))
@[reducible] noncomputable def o3_2 (P : Params) : Obj := dc [(e P "__name__" (nat_lit 165) (v "ledgerspeak.reader" (nat_lit 629))), (e P "__doc__" (nat_lit 166) Value.none), (e P "__package__" (nat_lit 167) Value.none), (e P "__loader__" (nat_lit 168) (Value.builtin "__main__.__loader__#opaque")), (e P "__spec__" (nat_lit 169) Value.none), (e P "__annotations__" (nat_lit 170) (r (nat_lit 6))), (e P "__builtins__" (nat_lit 171) (r (nat_lit 4))), (e P "__file__" (nat_lit 173) (v "/claim/cut.py" (nat_lit 172))), (e P "__cached__" (nat_lit 174) Value.none), (e P "_wall" (nat_lit 193) (r (nat_lit 21))), (e P "LedgerError" (nat_lit 235) (r (nat_lit 47))), (e P "TokenFault" (nat_lit 251) (r (nat_lit 60))), (e P "GrammarFault" (nat_lit 267) (r (nat_lit 72))), (e P "FIGURES" (nat_lit 271) (v "0123456789" (nat_lit 270))), (e P "cut_quotient" (nat_lit 279) (r (nat_lit 81))), (e P "decimal" (nat_lit 288) (r (nat_lit 89))), (e P "negated" (nat_lit 295) (r (nat_lit 96))), (e P "units_at" (nat_lit 306) (r (nat_lit 103))), (e P "is_whole" (nat_lit 313) (r (nat_lit 110))), (e P "whole_of" (nat_lit 320) (r (nat_lit 117))), (e P "worth_of" (nat_lit 329) (r (nat_lit 124))), (e P "read_decimal" (nat_lit 342) (r (nat_lit 131))), (e P "MOST_SUBSCRIPTS" (nat_lit 346) (Value.int (.ofNat (nat_lit 7)) (nat_lit 345))), (e P "FIGURE_NAMES" (nat_lit 380) (r (nat_lit 132))), (e P "is_part_next" (nat_lit 389) (r (nat_lit 139))), (e P "read_subscripts" (nat_lit 398) (r (nat_lit 146))), (e P "read_part" (nat_lit 408) (r (nat_lit 153))), (e P "read_ref" (nat_lit 420) (r (nat_lit 160))), (e P "read_all" (nat_lit 428) (r (nat_lit 167))), (e P "read_figure" (nat_lit 435) (r (nat_lit 174))), (e P "read_operand" (nat_lit 444) (r (nat_lit 181))), (e P "MOST_DEEP" (nat_lit 448) (Value.int (.ofNat (nat_lit 20)) (nat_lit 447))), (e P "read_expression" (nat_lit 455) (r (nat_lit 188))), (e P "sign_among" (nat_lit 464) (r (nat_lit 195))), (e P "read_sum" (nat_lit 474) (r (nat_lit 202))), (e P "read_product" (nat_lit 484) (r (nat_lit 209))), (e P "read_factor" (nat_lit 495) (r (nat_lit 216))), (e P "is_lone_number" (nat_lit 504) (r (nat_lit 223))), (e P "read_power" (nat_lit 513) (r (nat_lit 230))), (e P "read_primary" (nat_lit 523) (r (nat_lit 237))), (e P "FIGURE_WORDS" (nat_lit 527) (v " ZERO ZEROS ZEROES SPACE SPACES HIGH-VALUE HIGH-VALUES LOW-VALUE LOW-VALUES QUOTE QUOTES ALL " (nat_lit 526))), (e P "word_ahead" (nat_lit 537) (r (nat_lit 244))), (e P "begins_operand" (nat_lit 544) (r (nat_lit 251))), (e P "ref_here" (nat_lit 551) (r (nat_lit 258))), (e P "refuse_at" (nat_lit 560) (r (nat_lit 265))), (e P "operand_here" (nat_lit 569) (r (nat_lit 272))), (e P "text_here" (nat_lit 578) (r (nat_lit 279))), (e P "begins_text" (nat_lit 585) (r (nat_lit 286))), (e P "bounds_here" (nat_lit 594) (r (nat_lit 293))), (e P "opens_count" (nat_lit 603) (r (nat_lit 300))), (e P "counted_rows" (nat_lit 616) (r (nat_lit 307))), (e P "tallied_rows" (nat_lit 628) (r (nat_lit 314))), (e P "MOST_OCTET" (nat_lit 632) (Value.int (.ofNat (nat_lit 255)) (nat_lit 631))), (e P "RESERVED" (nat_lit 634) (Value.str RES (nat_lit 633))), (e P "is_reserved" (nat_lit 641) (r (nat_lit 321))), (e P "octets_of_text" (nat_lit 647) (r (nat_lit 326)))] (nat_lit 56)
@[reducible] noncomputable def o12_3 (P : Params) : Obj := nf ((Value.int (.ofNat (nat_lit 1)) (nat_lit 0)) :: (Value.int (.ofNat (nat_lit 0)) (nat_lit 0)) :: (r (nat_lit 20)) :: (Value.int (.ofNat (nat_lit 5)) (nat_lit 0)) :: (Value.int (.ofNat (nat_lit 0)) (nat_lit 0)) :: (r (nat_lit 27)) :: (Value.int (.ofNat (nat_lit 14)) (nat_lit 0)) :: (Value.int (.ofNat (nat_lit 0)) (nat_lit 0)) :: (r (nat_lit 56)) :: (Value.int (.ofNat (nat_lit 16)) (nat_lit 0)) :: (Value.int (.ofNat (nat_lit 0)) (nat_lit 0)) :: (r (nat_lit 68)) :: (Value.int (.ofNat (nat_lit 20)) (nat_lit 0)) :: (Value.int (.ofNat (nat_lit 0)) (nat_lit 0)) :: (r (nat_lit 80)) :: (Value.int (.ofNat (nat_lit 24)) (nat_lit 0)) :: (Value.int (.ofNat (nat_lit 0)) (nat_lit 0)) :: (r (nat_lit 88)) :: (Value.int (.ofNat (nat_lit 31)) (nat_lit 0)) :: (Value.int (.ofNat (nat_lit 0)) (nat_lit 0)) :: (r (nat_lit 95)) :: (Value.int (.ofNat (nat_lit 33)) (nat_lit 0)) :: (Value.int (.ofNat (nat_lit 0)) (nat_lit 0)) :: (r (nat_lit 102)) :: (Value.int (.ofNat (nat_lit 41)) (nat_lit 0)) :: (Value.int (.ofNat (nat_lit 0)) (nat_lit 0)) :: (r (nat_lit 109)) :: (Value.int (.ofNat (nat_lit 43)) (nat_lit 0)) :: (Value.int (.ofNat (nat_lit 0)) (nat_lit 0)) :: (r (nat_lit 116)) :: (Value.int (.ofNat (nat_lit 45)) (nat_lit 0)) :: (Value.int (.ofNat (nat_lit 0)) (nat_lit 0)) :: (r (nat_lit 123)) :: (Value.int (.ofNat (nat_lit 50)) (nat_lit 0)) :: (Value.int (.ofNat (nat_lit 0)) (nat_lit 0)) :: (r (nat_lit 130)) :: (Value.int (.ofNat (nat_lit 68)) (nat_lit 0)) :: (Value.int (.ofNat (nat_lit 0)) (nat_lit 0)) :: (r (nat_lit 138)) :: (Value.int (.ofNat (nat_lit 81)) (nat_lit 0)) :: (Value.int (.ofNat (nat_lit 0)) (nat_lit 0)) :: (r (nat_lit 145)) :: (Value.int (.ofNat (nat_lit 89)) (nat_lit 0)) :: (Value.int (.ofNat (nat_lit 0)) (nat_lit 0)) :: (r (nat_lit 152)) :: (Value.int (.ofNat (nat_lit 96)) (nat_lit 0)) :: (Value.int (.ofNat (nat_lit 0)) (nat_lit 0)) :: (r (nat_lit 159)) :: (Value.int (.ofNat (nat_lit 106)) (nat_lit 0)) :: (Value.int (.ofNat (nat_lit 0)) (nat_lit 0)) :: (r (nat_lit 166)) :: (Value.int (.ofNat (nat_lit 113)) (nat_lit 0)) :: (Value.int (.ofNat (nat_lit 0)) (nat_lit 0)) :: (r (nat_lit 173)) :: (Value.int (.ofNat (nat_lit 117)) (nat_lit 0)) :: (Value.int (.ofNat (nat_lit 0)) (nat_lit 0)) :: (r (nat_lit 180)) :: (Value.int (.ofNat (nat_lit 128)) (nat_lit 0)) :: (Value.int (.ofNat (nat_lit 0)) (nat_lit 0)) :: (r (nat_lit 187)) :: (Value.int (.ofNat (nat_lit 130)) (nat_lit 0)) :: (Value.int (.ofNat (nat_lit 0)) (nat_lit 0)) :: (r (nat_lit 194)) :: (Value.int (.ofNat (nat_lit 135)) (nat_lit 0)) :: (Value.int (.ofNat (nat_lit 0)) (nat_lit 0)) :: (r (nat_lit 201)) :: (Value.int (.ofNat (nat_lit 143)) (nat_lit 0)) :: (Value.int (.ofNat (nat_lit 0)) (nat_lit 0)) :: (r (nat_lit 208)) :: (Value.int (.ofNat (nat_lit 149)) (nat_lit 0)) :: (Value.int (.ofNat (nat_lit 0)) (nat_lit 0)) :: (r (nat_lit 215)) :: (Value.int (.ofNat (nat_lit 159)) (nat_lit 0)) :: (Value.int (.ofNat (nat_lit 0)) (nat_lit 0)) :: (r (nat_lit 222)) :: (Value.int (.ofNat (nat_lit 164)) (nat_lit 0)) :: (Value.int (.ofNat (nat_lit 0)) (nat_lit 0)) :: (r (nat_lit 229)) :: (Value.int (.ofNat (nat_lit 170)) (nat_lit 0)) :: (Value.int (.ofNat (nat_lit 0)) (nat_lit 0)) :: (r (nat_lit 236)) :: (Value.int (.ofNat (nat_lit 180)) (nat_lit 0)) :: (Value.int (.ofNat (nat_lit 0)) (nat_lit 0)) :: (r (nat_lit 243)) :: (Value.int (.ofNat (nat_lit 183)) (nat_lit 0)) :: (Value.int (.ofNat (nat_lit 0)) (nat_lit 0)) :: (r (nat_lit 250)) :: (Value.int (.ofNat (nat_lit 187)) (nat_lit 0)) :: (Value.int (.ofNat (nat_lit 0)) (nat_lit 0)) :: (r (nat_lit 257)) :: (Value.int (.ofNat (nat_lit 191)) (nat_lit 0)) :: (Value.int (.ofNat (nat_lit 0)) (nat_lit 0)) :: (r (nat_lit 264)) :: (Value.int (.ofNat (nat_lit 195)) (nat_lit 0)) :: (Value.int (.ofNat (nat_lit 0)) (nat_lit 0)) :: (r (nat_lit 271)) :: (Value.int (.ofNat (nat_lit 199)) (nat_lit 0)) :: (Value.int (.ofNat (nat_lit 0)) (nat_lit 0)) :: (r (nat_lit 278)) :: (Value.int (.ofNat (nat_lit 205)) (nat_lit 0)) :: (Value.int (.ofNat (nat_lit 0)) (nat_lit 0)) :: (r (nat_lit 285)) :: (Value.int (.ofNat (nat_lit 207)) (nat_lit 0)) :: (Value.int (.ofNat (nat_lit 0)) (nat_lit 0)) :: (r (nat_lit 292)) :: (Value.int (.ofNat (nat_lit 218)) (nat_lit 0)) :: (Value.int (.ofNat (nat_lit 0)) (nat_lit 0)) :: (r (nat_lit 299)) :: (Value.int (.ofNat (nat_lit 226)) (nat_lit 0)) :: (Value.int (.ofNat (nat_lit 0)) (nat_lit 0)) :: (r (nat_lit 306)) :: (Value.int (.ofNat (nat_lit 233)) (nat_lit 0)) :: (Value.int (.ofNat (nat_lit 0)) (nat_lit 0)) :: (r (nat_lit 313)) :: (Value.int (.ofNat (nat_lit 255)) (nat_lit 0)) :: (Value.int (.ofNat (nat_lit 0)) (nat_lit 0)) :: (r (nat_lit 320)) :: (Value.int (.ofNat (nat_lit 257)) (nat_lit 0)) :: (Value.int (.ofNat (nat_lit 0)) (nat_lit 0)) :: (r (nat_lit 325)) :: [])
@[reducible] noncomputable def o154 (P : Params) : Obj := tp []
@[reducible] noncomputable def o155 (P : Params) : Obj := nf []
@[reducible] noncomputable def o156 (P : Params) : Obj := tp [(v "reader" (nat_lit 412)), (v "read_expr" (nat_lit 413)), (v "name" (nat_lit 414)), (v "qualifiers" (nat_lit 415)), (v "subscripts" (nat_lit 416)), (v "part" (nat_lit 417))]
@[reducible] noncomputable def o157 (P : Params) : Obj := tp []
@[reducible] noncomputable def o158 (P : Params) : Obj := (Obj.mk Value.none none (Data.func (FuncData.mk (Str.ofString "read_ref") (Str.ofString "read_ref") (fP (st 21)) (FuncBody.stmts (fB (st 21))) (fS (st 21)) (nat_lit 0) [] Value.none Value.none Value.none Value.none none Value.none Value.none (nat_lit 0))) ⟨[]⟩)
@[reducible] noncomputable def o159 (P : Params) : Obj := co [(v "read_ref" (nat_lit 409)), (v "read_ref" (nat_lit 410)), (v "/claim/cut.py" (nat_lit 411)), (Value.int (.ofNat (nat_lit 96)) (nat_lit 0)), (Value.int (.ofNat (nat_lit 2)) (nat_lit 0)), (Value.int (.ofNat (nat_lit 0)) (nat_lit 0)), (Value.int (.ofNat (nat_lit 0)) (nat_lit 0)), (Value.int (.ofNat (nat_lit 3)) (nat_lit 0)), (r (nat_lit 154)), (Value.bool Bool.true), (Value.int (.ofNat (nat_lit 181)) (nat_lit 0)), (r (nat_lit 155)), Value.none, (r (nat_lit 156)), (r (nat_lit 157)), (r (nat_lit 158)), (Value.int (.ofNat (nat_lit 418)) (nat_lit 0)), (Value.int (.ofNat (nat_lit 96)) (nat_lit 0)), (v "/claim/cut.py" (nat_lit 419))]
@[reducible] noncomputable def o160 (P : Params) : Obj := (Obj.mk (Value.type "function") none (Data.func (FuncData.mk (Str.ofString "read_ref") (Str.ofString "read_ref") (fP (st 21)) (FuncBody.stmts (fB (st 21))) (fS (st 21)) (nat_lit 3) [] Value.none Value.none Value.none (v "ledgerspeak.references" (nat_lit 343)) none (r (nat_lit 159)) Value.none (nat_lit 0))) ⟨[]⟩)
@[reducible] noncomputable def o161 (P : Params) : Obj := tp []
@[reducible] noncomputable def o162 (P : Params) : Obj := nf []
@[reducible] noncomputable def o163 (P : Params) : Obj := tp [(v "reader" (nat_lit 424)), (v "figure" (nat_lit 425))]
@[reducible] noncomputable def o164 (P : Params) : Obj := tp []
@[reducible] noncomputable def o165 (P : Params) : Obj := (Obj.mk Value.none none (Data.func (FuncData.mk (Str.ofString "read_all") (Str.ofString "read_all") (fP (st 22)) (FuncBody.stmts (fB (st 22))) (fS (st 22)) (nat_lit 0) [] Value.none Value.none Value.none Value.none none Value.none Value.none (nat_lit 0))) ⟨[]⟩)
@[reducible] noncomputable def o166 (P : Params) : Obj := co [(v "read_all" (nat_lit 421)), (v "read_all" (nat_lit 422)), (v "/claim/cut.py" (nat_lit 423)), (Value.int (.ofNat (nat_lit 106)) (nat_lit 0)), (Value.int (.ofNat (nat_lit 1)) (nat_lit 0)), (Value.int (.ofNat (nat_lit 0)) (nat_lit 0)), (Value.int (.ofNat (nat_lit 0)) (nat_lit 0)), (Value.int (.ofNat (nat_lit 3)) (nat_lit 0)), (r (nat_lit 161)), (Value.bool Bool.true), (Value.int (.ofNat (nat_lit 181)) (nat_lit 0)), (r (nat_lit 162)), Value.none, (r (nat_lit 163)), (r (nat_lit 164)), (r (nat_lit 165)), (Value.int (.ofNat (nat_lit 426)) (nat_lit 0)), (Value.int (.ofNat (nat_lit 106)) (nat_lit 0)), (v "/claim/cut.py" (nat_lit 427))]
@[reducible] noncomputable def o167 (P : Params) : Obj := (Obj.mk (Value.type "function") none (Data.func (FuncData.mk (Str.ofString "read_all") (Str.ofString "read_all") (fP (st 22)) (FuncBody.stmts (fB (st 22))) (fS (st 22)) (nat_lit 3) [] Value.none Value.none Value.none (v "ledgerspeak.references" (nat_lit 343)) none (r (nat_lit 166)) Value.none (nat_lit 0))) ⟨[]⟩)
@[reducible] noncomputable def o168 (P : Params) : Obj := tp []
@[reducible] noncomputable def o169 (P : Params) : Obj := nf []
@[reducible] noncomputable def o170 (P : Params) : Obj := tp [(v "reader" (nat_lit 432))]
@[reducible] noncomputable def o171 (P : Params) : Obj := tp []
@[reducible] noncomputable def o172 (P : Params) : Obj := (Obj.mk Value.none none (Data.func (FuncData.mk (Str.ofString "read_figure") (Str.ofString "read_figure") (fP (st 23)) (FuncBody.stmts (fB (st 23))) (fS (st 23)) (nat_lit 0) [] Value.none Value.none Value.none Value.none none Value.none Value.none (nat_lit 0))) ⟨[]⟩)
@[reducible] noncomputable def o173 (P : Params) : Obj := co [(v "read_figure" (nat_lit 429)), (v "read_figure" (nat_lit 430)), (v "/claim/cut.py" (nat_lit 431)), (Value.int (.ofNat (nat_lit 113)) (nat_lit 0)), (Value.int (.ofNat (nat_lit 1)) (nat_lit 0)), (Value.int (.ofNat (nat_lit 0)) (nat_lit 0)), (Value.int (.ofNat (nat_lit 0)) (nat_lit 0)), (Value.int (.ofNat (nat_lit 3)) (nat_lit 0)), (r (nat_lit 168)), (Value.bool Bool.true), (Value.int (.ofNat (nat_lit 181)) (nat_lit 0)), (r (nat_lit 169)), Value.none, (r (nat_lit 170)), (r (nat_lit 171)), (r (nat_lit 172)), (Value.int (.ofNat (nat_lit 433)) (nat_lit 0)), (Value.int (.ofNat (nat_lit 113)) (nat_lit 0)), (v "/claim/cut.py" (nat_lit 434))]
@[reducible] noncomputable def o174 (P : Params) : Obj := (Obj.mk (Value.type "function") none (Data.func (FuncData.mk (Str.ofString "read_figure") (Str.ofString "read_figure") (fP (st 23)) (FuncBody.stmts (fB (st 23))) (fS (st 23)) (nat_lit 3) [] Value.none Value.none Value.none (v "ledgerspeak.references" (nat_lit 343)) none (r (nat_lit 173)) Value.none (nat_lit 0))) ⟨[]⟩)
@[reducible] noncomputable def o175 (P : Params) : Obj := tp []
@[reducible] noncomputable def o176 (P : Params) : Obj := nf []
@[reducible] noncomputable def o177 (P : Params) : Obj := tp [(v "reader" (nat_lit 439)), (v "read_expr" (nat_lit 440)), (v "figure" (nat_lit 441))]
@[reducible] noncomputable def o178 (P : Params) : Obj := tp []
@[reducible] noncomputable def o179 (P : Params) : Obj := (Obj.mk Value.none none (Data.func (FuncData.mk (Str.ofString "read_operand") (Str.ofString "read_operand") (fP (st 24)) (FuncBody.stmts (fB (st 24))) (fS (st 24)) (nat_lit 0) [] Value.none Value.none Value.none Value.none none Value.none Value.none (nat_lit 0))) ⟨[]⟩)
@[reducible] noncomputable def o180 (P : Params) : Obj := co [(v "read_operand" (nat_lit 436)), (v "read_operand" (nat_lit 437)), (v "/claim/cut.py" (nat_lit 438)), (Value.int (.ofNat (nat_lit 117)) (nat_lit 0)), (Value.int (.ofNat (nat_lit 2)) (nat_lit 0)), (Value.int (.ofNat (nat_lit 0)) (nat_lit 0)), (Value.int (.ofNat (nat_lit 0)) (nat_lit 0)), (Value.int (.ofNat (nat_lit 3)) (nat_lit 0)), (r (nat_lit 175)), (Value.bool Bool.true), (Value.int (.ofNat (nat_lit 181)) (nat_lit 0)), (r (nat_lit 176)), Value.none, (r (nat_lit 177)), (r (nat_lit 178)), (r (nat_lit 179)), (Value.int (.ofNat (nat_lit 442)) (nat_lit 0)), (Value.int (.ofNat (nat_lit 117)) (nat_lit 0)), (v "/claim/cut.py" (nat_lit 443))]
@[reducible] noncomputable def o181 (P : Params) : Obj := (Obj.mk (Value.type "function") none (Data.func (FuncData.mk (Str.ofString "read_operand") (Str.ofString "read_operand") (fP (st 24)) (FuncBody.stmts (fB (st 24))) (fS (st 24)) (nat_lit 3) [] Value.none Value.none Value.none (v "ledgerspeak.references" (nat_lit 343)) none (r (nat_lit 180)) Value.none (nat_lit 0))) ⟨[]⟩)
@[reducible] noncomputable def o182 (P : Params) : Obj := tp []
@[reducible] noncomputable def o183 (P : Params) : Obj := nf []
@[reducible] noncomputable def o184 (P : Params) : Obj := tp [(v "reader" (nat_lit 452))]
@[reducible] noncomputable def o185 (P : Params) : Obj := tp []
@[reducible] noncomputable def o186 (P : Params) : Obj := (Obj.mk Value.none none (Data.func (FuncData.mk (Str.ofString "read_expression") (Str.ofString "read_expression") (fP (st 27)) (FuncBody.stmts (fB (st 27))) (fS (st 27)) (nat_lit 0) [] Value.none Value.none Value.none Value.none none Value.none Value.none (nat_lit 0))) ⟨[]⟩)
@[reducible] noncomputable def o187 (P : Params) : Obj := co [(v "read_expression" (nat_lit 449)), (v "read_expression" (nat_lit 450)), (v "/claim/cut.py" (nat_lit 451)), (Value.int (.ofNat (nat_lit 128)) (nat_lit 0)), (Value.int (.ofNat (nat_lit 1)) (nat_lit 0)), (Value.int (.ofNat (nat_lit 0)) (nat_lit 0)), (Value.int (.ofNat (nat_lit 0)) (nat_lit 0)), (Value.int (.ofNat (nat_lit 3)) (nat_lit 0)), (r (nat_lit 182)), (Value.bool Bool.true), (Value.int (.ofNat (nat_lit 181)) (nat_lit 0)), (r (nat_lit 183)), Value.none, (r (nat_lit 184)), (r (nat_lit 185)), (r (nat_lit 186)), (Value.int (.ofNat (nat_lit 453)) (nat_lit 0)), (Value.int (.ofNat (nat_lit 128)) (nat_lit 0)), (v "/claim/cut.py" (nat_lit 454))]
@[reducible] noncomputable def o188 (P : Params) : Obj := (Obj.mk (Value.type "function") none (Data.func (FuncData.mk (Str.ofString "read_expression") (Str.ofString "read_expression") (fP (st 27)) (FuncBody.stmts (fB (st 27))) (fS (st 27)) (nat_lit 3) [] Value.none Value.none Value.none (v "ledgerspeak.expressions" (nat_lit 445)) none (r (nat_lit 187)) Value.none (nat_lit 0))) ⟨[]⟩)
@[reducible] noncomputable def o189 (P : Params) : Obj := tp []
@[reducible] noncomputable def o190 (P : Params) : Obj := nf []
@[reducible] noncomputable def o191 (P : Params) : Obj := tp [(v "reader" (nat_lit 459)), (v "signs" (nat_lit 460)), (v "token" (nat_lit 461))]
@[reducible] noncomputable def o192 (P : Params) : Obj := tp []
@[reducible] noncomputable def o193 (P : Params) : Obj := (Obj.mk Value.none none (Data.func (FuncData.mk (Str.ofString "sign_among") (Str.ofString "sign_among") (fP (st 28)) (FuncBody.stmts (fB (st 28))) (fS (st 28)) (nat_lit 0) [] Value.none Value.none Value.none Value.none none Value.none Value.none (nat_lit 0))) ⟨[]⟩)
@[reducible] noncomputable def o194 (P : Params) : Obj := co [(v "sign_among" (nat_lit 456)), (v "sign_among" (nat_lit 457)), (v "/claim/cut.py" (nat_lit 458)), (Value.int (.ofNat (nat_lit 130)) (nat_lit 0)), (Value.int (.ofNat (nat_lit 2)) (nat_lit 0)), (Value.int (.ofNat (nat_lit 0)) (nat_lit 0)), (Value.int (.ofNat (nat_lit 0)) (nat_lit 0)), (Value.int (.ofNat (nat_lit 3)) (nat_lit 0)), (r (nat_lit 189)), (Value.bool Bool.true), (Value.int (.ofNat (nat_lit 181)) (nat_lit 0)), (r (nat_lit 190)), Value.none, (r (nat_lit 191)), (r (nat_lit 192)), (r (nat_lit 193)), (Value.int (.ofNat (nat_lit 462)) (nat_lit 0)), (Value.int (.ofNat (nat_lit 130)) (nat_lit 0)), (v "/claim/cut.py" (nat_lit 463))]
@[reducible] noncomputable def o195 (P : Params) : Obj := (Obj.mk (Value.type "function") none (Data.func (FuncData.mk (Str.ofString "sign_among") (Str.ofString "sign_among") (fP (st 28)) (FuncBody.stmts (fB (st 28))) (fS (st 28)) (nat_lit 3) [] Value.none Value.none Value.none (v "ledgerspeak.expressions" (nat_lit 445)) none (r (nat_lit 194)) Value.none (nat_lit 0))) ⟨[]⟩)
@[reducible] noncomputable def o196 (P : Params) : Obj := tp []
@[reducible] noncomputable def o197 (P : Params) : Obj := nf []
@[reducible] noncomputable def o198 (P : Params) : Obj := tp [(v "reader" (nat_lit 468)), (v "depth" (nat_lit 469)), (v "found" (nat_lit 470)), (v "sign" (nat_lit 471))]
@[reducible] noncomputable def o199 (P : Params) : Obj := tp []
@[reducible] noncomputable def o200 (P : Params) : Obj := (Obj.mk Value.none none (Data.func (FuncData.mk (Str.ofString "read_sum") (Str.ofString "read_sum") (fP (st 29)) (FuncBody.stmts (fB (st 29))) (fS (st 29)) (nat_lit 0) [] Value.none Value.none Value.none Value.none none Value.none Value.none (nat_lit 0))) ⟨[]⟩)
@[reducible] noncomputable def o201 (P : Params) : Obj := co [(v "read_sum" (nat_lit 465)), (v "read_sum" (nat_lit 466)), (v "/claim/cut.py" (nat_lit 467)), (Value.int (.ofNat (nat_lit 135)) (nat_lit 0)), (Value.int (.ofNat (nat_lit 2)) (nat_lit 0)), (Value.int (.ofNat (nat_lit 0)) (nat_lit 0)), (Value.int (.ofNat (nat_lit 0)) (nat_lit 0)), (Value.int (.ofNat (nat_lit 3)) (nat_lit 0)), (r (nat_lit 196)), (Value.bool Bool.true), (Value.int (.ofNat (nat_lit 181)) (nat_lit 0)), (r (nat_lit 197)), Value.none, (r (nat_lit 198)), (r (nat_lit 199)), (r (nat_lit 200)), (Value.int (.ofNat (nat_lit 472)) (nat_lit 0)), (Value.int (.ofNat (nat_lit 135)) (nat_lit 0)), (v "/claim/cut.py" (nat_lit 473))]
@[reducible] noncomputable def o202 (P : Params) : Obj := (Obj.mk (Value.type "function") none (Data.func (FuncData.mk (Str.ofString "read_sum") (Str.ofString "read_sum") (fP (st 29)) (FuncBody.stmts (fB (st 29))) (fS (st 29)) (nat_lit 3) [] Value.none Value.none Value.none (v "ledgerspeak.expressions" (nat_lit 445)) none (r (nat_lit 201)) Value.none (nat_lit 0))) ⟨[]⟩)
@[reducible] noncomputable def o203 (P : Params) : Obj := tp []
@[reducible] noncomputable def o204 (P : Params) : Obj := nf []
@[reducible] noncomputable def o205 (P : Params) : Obj := tp [(v "reader" (nat_lit 478)), (v "depth" (nat_lit 479)), (v "found" (nat_lit 480)), (v "sign" (nat_lit 481))]
@[reducible] noncomputable def o206 (P : Params) : Obj := tp []
@[reducible] noncomputable def o207 (P : Params) : Obj := (Obj.mk Value.none none (Data.func (FuncData.mk (Str.ofString "read_product") (Str.ofString "read_product") (fP (st 30)) (FuncBody.stmts (fB (st 30))) (fS (st 30)) (nat_lit 0) [] Value.none Value.none Value.none Value.none none Value.none Value.none (nat_lit 0))) ⟨[]⟩)
@[reducible] noncomputable def o208 (P : Params) : Obj := co [(v "read_product" (nat_lit 475)), (v "read_product" (nat_lit 476)), (v "/claim/cut.py" (nat_lit 477)), (Value.int (.ofNat (nat_lit 143)) (nat_lit 0)), (Value.int (.ofNat (nat_lit 2)) (nat_lit 0)), (Value.int (.ofNat (nat_lit 0)) (nat_lit 0)), (Value.int (.ofNat (nat_lit 0)) (nat_lit 0)), (Value.int (.ofNat (nat_lit 3)) (nat_lit 0)), (r (nat_lit 203)), (Value.bool Bool.true), (Value.int (.ofNat (nat_lit 181)) (nat_lit 0)), (r (nat_lit 204)), Value.none, (r (nat_lit 205)), (r (nat_lit 206)), (r (nat_lit 207)), (Value.int (.ofNat (nat_lit 482)) (nat_lit 0)), (Value.int (.ofNat (nat_lit 143)) (nat_lit 0)), (v "/claim/cut.py" (nat_lit 483))]
@[reducible] noncomputable def o209 (P : Params) : Obj := (Obj.mk (Value.type "function") none (Data.func (FuncData.mk (Str.ofString "read_product") (Str.ofString "read_product") (fP (st 30)) (FuncBody.stmts (fB (st 30))) (fS (st 30)) (nat_lit 3) [] Value.none Value.none Value.none (v "ledgerspeak.expressions" (nat_lit 445)) none (r (nat_lit 208)) Value.none (nat_lit 0))) ⟨[]⟩)
@[reducible] noncomputable def o210 (P : Params) : Obj := tp []
@[reducible] noncomputable def o211 (P : Params) : Obj := nf []
@[reducible] noncomputable def o212 (P : Params) : Obj := tp [(v "reader" (nat_lit 488)), (v "depth" (nat_lit 489)), (v "sign" (nat_lit 490)), (v "is_own" (nat_lit 491)), (v "found" (nat_lit 492))]
@[reducible] noncomputable def o213 (P : Params) : Obj := tp []
@[reducible] noncomputable def o214 (P : Params) : Obj := (Obj.mk Value.none none (Data.func (FuncData.mk (Str.ofString "read_factor") (Str.ofString "read_factor") (fP (st 31)) (FuncBody.stmts (fB (st 31))) (fS (st 31)) (nat_lit 0) [] Value.none Value.none Value.none Value.none none Value.none Value.none (nat_lit 0))) ⟨[]⟩)
@[reducible] noncomputable def o215 (P : Params) : Obj := co [(v "read_factor" (nat_lit 485)), (v "read_factor" (nat_lit 486)), (v "/claim/cut.py" (nat_lit 487)), (Value.int (.ofNat (nat_lit 149)) (nat_lit 0)), (Value.int (.ofNat (nat_lit 2)) (nat_lit 0)), (Value.int (.ofNat (nat_lit 0)) (nat_lit 0)), (Value.int (.ofNat (nat_lit 0)) (nat_lit 0)), (Value.int (.ofNat (nat_lit 3)) (nat_lit 0)), (r (nat_lit 210)), (Value.bool Bool.true), (Value.int (.ofNat (nat_lit 181)) (nat_lit 0)), (r (nat_lit 211)), Value.none, (r (nat_lit 212)), (r (nat_lit 213)), (r (nat_lit 214)), (Value.int (.ofNat (nat_lit 493)) (nat_lit 0)), (Value.int (.ofNat (nat_lit 149)) (nat_lit 0)), (v "/claim/cut.py" (nat_lit 494))]
@[reducible] noncomputable def o216 (P : Params) : Obj := (Obj.mk (Value.type "function") none (Data.func (FuncData.mk (Str.ofString "read_factor") (Str.ofString "read_factor") (fP (st 31)) (FuncBody.stmts (fB (st 31))) (fS (st 31)) (nat_lit 3) [] Value.none Value.none Value.none (v "ledgerspeak.expressions" (nat_lit 445)) none (r (nat_lit 215)) Value.none (nat_lit 0))) ⟨[]⟩)
@[reducible] noncomputable def o217 (P : Params) : Obj := tp []
@[reducible] noncomputable def o218 (P : Params) : Obj := nf []
@[reducible] noncomputable def o219 (P : Params) : Obj := tp [(v "reader" (nat_lit 499)), (v "token" (nat_lit 500)), (v "behind" (nat_lit 501))]
@[reducible] noncomputable def o220 (P : Params) : Obj := tp []
@[reducible] noncomputable def o221 (P : Params) : Obj := (Obj.mk Value.none none (Data.func (FuncData.mk (Str.ofString "is_lone_number") (Str.ofString "is_lone_number") (fP (st 32)) (FuncBody.stmts (fB (st 32))) (fS (st 32)) (nat_lit 0) [] Value.none Value.none Value.none Value.none none Value.none Value.none (nat_lit 0))) ⟨[]⟩)
@[reducible] noncomputable def o222 (P : Params) : Obj := co [(v "is_lone_number" (nat_lit 496)), (v "is_lone_number" (nat_lit 497)), (v "/claim/cut.py" (nat_lit 498)), (Value.int (.ofNat (nat_lit 159)) (nat_lit 0)), (Value.int (.ofNat (nat_lit 1)) (nat_lit 0)), (Value.int (.ofNat (nat_lit 0)) (nat_lit 0)), (Value.int (.ofNat (nat_lit 0)) (nat_lit 0)), (Value.int (.ofNat (nat_lit 3)) (nat_lit 0)), (r (nat_lit 217)), (Value.bool Bool.true), (Value.int (.ofNat (nat_lit 181)) (nat_lit 0)), (r (nat_lit 218)), Value.none, (r (nat_lit 219)), (r (nat_lit 220)), (r (nat_lit 221)), (Value.int (.ofNat (nat_lit 502)) (nat_lit 0)), (Value.int (.ofNat (nat_lit 159)) (nat_lit 0)), (v "/claim/cut.py" (nat_lit 503))]
@[reducible] noncomputable def o223 (P : Params) : Obj := (Obj.mk (Value.type "function") none (Data.func (FuncData.mk (Str.ofString "is_lone_number") (Str.ofString "is_lone_number") (fP (st 32)) (FuncBody.stmts (fB (st 32))) (fS (st 32)) (nat_lit 3) [] Value.none Value.none Value.none (v "ledgerspeak.expressions" (nat_lit 445)) none (r (nat_lit 222)) Value.none (nat_lit 0))) ⟨[]⟩)
@[reducible] noncomputable def o224 (P : Params) : Obj := tp []
@[reducible] noncomputable def o225 (P : Params) : Obj := nf []
@[reducible] noncomputable def o226 (P : Params) : Obj := tp [(v "reader" (nat_lit 508)), (v "depth" (nat_lit 509)), (v "found" (nat_lit 510))]
@[reducible] noncomputable def o227 (P : Params) : Obj := tp []
@[reducible] noncomputable def o228 (P : Params) : Obj := (Obj.mk Value.none none (Data.func (FuncData.mk (Str.ofString "read_power") (Str.ofString "read_power") (fP (st 33)) (FuncBody.stmts (fB (st 33))) (fS (st 33)) (nat_lit 0) [] Value.none Value.none Value.none Value.none none Value.none Value.none (nat_lit 0))) ⟨[]⟩)
@[reducible] noncomputable def o229 (P : Params) : Obj := co [(v "read_power" (nat_lit 505)), (v "read_power" (nat_lit 506)), (v "/claim/cut.py" (nat_lit 507)), (Value.int (.ofNat (nat_lit 164)) (nat_lit 0)), (Value.int (.ofNat (nat_lit 2)) (nat_lit 0)), (Value.int (.ofNat (nat_lit 0)) (nat_lit 0)), (Value.int (.ofNat (nat_lit 0)) (nat_lit 0)), (Value.int (.ofNat (nat_lit 3)) (nat_lit 0)), (r (nat_lit 224)), (Value.bool Bool.true), (Value.int (.ofNat (nat_lit 181)) (nat_lit 0)), (r (nat_lit 225)), Value.none, (r (nat_lit 226)), (r (nat_lit 227)), (r (nat_lit 228)), (Value.int (.ofNat (nat_lit 511)) (nat_lit 0)), (Value.int (.ofNat (nat_lit 164)) (nat_lit 0)), (v "/claim/cut.py" (nat_lit 512))]
@[reducible] noncomputable def o230 (P : Params) : Obj := (Obj.mk (Value.type "function") none (Data.func (FuncData.mk (Str.ofString "read_power") (Str.ofString "read_power") (fP (st 33)) (FuncBody.stmts (fB (st 33))) (fS (st 33)) (nat_lit 3) [] Value.none Value.none Value.none (v "ledgerspeak.expressions" (nat_lit 445)) none (r (nat_lit 229)) Value.none (nat_lit 0))) ⟨[]⟩)
@[reducible] noncomputable def o231 (P : Params) : Obj := tp []
@[reducible] noncomputable def o232 (P : Params) : Obj := nf []
@[reducible] noncomputable def o233 (P : Params) : Obj := tp [(v "reader" (nat_lit 517)), (v "depth" (nat_lit 518)), (v "found" (nat_lit 519))]
@[reducible] noncomputable def o234 (P : Params) : Obj := tp [(v "depth" (nat_lit 520))]
@[reducible] noncomputable def o235 (P : Params) : Obj := (Obj.mk Value.none none (Data.func (FuncData.mk (Str.ofString "read_primary") (Str.ofString "read_primary") (fP (st 34)) (FuncBody.stmts (fB (st 34))) (fS (st 34)) (nat_lit 0) [] Value.none Value.none Value.none Value.none none Value.none Value.none (nat_lit 0))) ⟨[]⟩)
@[reducible] noncomputable def o236 (P : Params) : Obj := co [(v "read_primary" (nat_lit 514)), (v "read_primary" (nat_lit 515)), (v "/claim/cut.py" (nat_lit 516)), (Value.int (.ofNat (nat_lit 170)) (nat_lit 0)), (Value.int (.ofNat (nat_lit 2)) (nat_lit 0)), (Value.int (.ofNat (nat_lit 0)) (nat_lit 0)), (Value.int (.ofNat (nat_lit 0)) (nat_lit 0)), (Value.int (.ofNat (nat_lit 3)) (nat_lit 0)), (r (nat_lit 231)), (Value.bool Bool.true), (Value.int (.ofNat (nat_lit 181)) (nat_lit 0)), (r (nat_lit 232)), Value.none, (r (nat_lit 233)), (r (nat_lit 234)), (r (nat_lit 235)), (Value.int (.ofNat (nat_lit 521)) (nat_lit 0)), (Value.int (.ofNat (nat_lit 170)) (nat_lit 0)), (v "/claim/cut.py" (nat_lit 522))]
@[reducible] noncomputable def o237 (P : Params) : Obj := (Obj.mk (Value.type "function") none (Data.func (FuncData.mk (Str.ofString "read_primary") (Str.ofString "read_primary") (fP (st 34)) (FuncBody.stmts (fB (st 34))) (fS (st 34)) (nat_lit 3) [] Value.none Value.none Value.none (v "ledgerspeak.expressions" (nat_lit 445)) none (r (nat_lit 236)) Value.none (nat_lit 0))) ⟨[]⟩)
@[reducible] noncomputable def o238 (P : Params) : Obj := tp []
@[reducible] noncomputable def o239 (P : Params) : Obj := nf []
@[reducible] noncomputable def o240 (P : Params) : Obj := tp [(v "reader" (nat_lit 531)), (v "ahead" (nat_lit 532)), (v "word" (nat_lit 533)), (v "token" (nat_lit 534))]
@[reducible] noncomputable def o241 (P : Params) : Obj := tp []
@[reducible] noncomputable def o242 (P : Params) : Obj := (Obj.mk Value.none none (Data.func (FuncData.mk (Str.ofString "word_ahead") (Str.ofString "word_ahead") (fP (st 37)) (FuncBody.stmts (fB (st 37))) (fS (st 37)) (nat_lit 0) [] Value.none Value.none Value.none Value.none none Value.none Value.none (nat_lit 0))) ⟨[]⟩)
@[reducible] noncomputable def o243 (P : Params) : Obj := co [(v "word_ahead" (nat_lit 528)), (v "word_ahead" (nat_lit 529)), (v "/claim/cut.py" (nat_lit 530)), (Value.int (.ofNat (nat_lit 180)) (nat_lit 0)), (Value.int (.ofNat (nat_lit 3)) (nat_lit 0)), (Value.int (.ofNat (nat_lit 0)) (nat_lit 0)), (Value.int (.ofNat (nat_lit 0)) (nat_lit 0)), (Value.int (.ofNat (nat_lit 3)) (nat_lit 0)), (r (nat_lit 238)), (Value.bool Bool.true), (Value.int (.ofNat (nat_lit 181)) (nat_lit 0)), (r (nat_lit 239)), Value.none, (r (nat_lit 240)), (r (nat_lit 241)), (r (nat_lit 242)), (Value.int (.ofNat (nat_lit 535)) (nat_lit 0)), (Value.int (.ofNat (nat_lit 180)) (nat_lit 0)), (v "/claim/cut.py" (nat_lit 536))]
@[reducible] noncomputable def o244 (P : Params) : Obj := (Obj.mk (Value.type "function") none (Data.func (FuncData.mk (Str.ofString "word_ahead") (Str.ofString "word_ahead") (fP (st 37)) (FuncBody.stmts (fB (st 37))) (fS (st 37)) (nat_lit 3) [] Value.none Value.none Value.none (v "ledgerspeak.readarith" (nat_lit 524)) none (r (nat_lit 243)) Value.none (nat_lit 0))) ⟨[]⟩)
@[reducible] noncomputable def o245 (P : Params) : Obj := tp []
@[reducible] noncomputable def o246 (P : Params) : Obj := nf []
@[reducible] noncomputable def o247 (P : Params) : Obj := tp [(v "reader" (nat_lit 541))]
@[reducible] noncomputable def o248 (P : Params) : Obj := tp []
@[reducible] noncomputable def o249 (P : Params) : Obj := (Obj.mk Value.none none (Data.func (FuncData.mk (Str.ofString "begins_operand") (Str.ofString "begins_operand") (fP (st 38)) (FuncBody.stmts (fB (st 38))) (fS (st 38)) (nat_lit 0) [] Value.none Value.none Value.none Value.none none Value.none Value.none (nat_lit 0))) ⟨[]⟩)
@[reducible] noncomputable def o250 (P : Params) : Obj := co [(v "begins_operand" (nat_lit 538)), (v "begins_operand" (nat_lit 539)), (v "/claim/cut.py" (nat_lit 540)), (Value.int (.ofNat (nat_lit 183)) (nat_lit 0)), (Value.int (.ofNat (nat_lit 1)) (nat_lit 0)), (Value.int (.ofNat (nat_lit 0)) (nat_lit 0)), (Value.int (.ofNat (nat_lit 0)) (nat_lit 0)), (Value.int (.ofNat (nat_lit 3)) (nat_lit 0)), (r (nat_lit 245)), (Value.bool Bool.true), (Value.int (.ofNat (nat_lit 181)) (nat_lit 0)), (r (nat_lit 246)), Value.none, (r (nat_lit 247)), (r (nat_lit 248)), (r (nat_lit 249)), (Value.int (.ofNat (nat_lit 542)) (nat_lit 0)), (Value.int (.ofNat (nat_lit 183)) (nat_lit 0)), (v "/claim/cut.py" (nat_lit 543))]
@[reducible] noncomputable def o251 (P : Params) : Obj := (Obj.mk (Value.type "function") none (Data.func (FuncData.mk (Str.ofString "begins_operand") (Str.ofString "begins_operand") (fP (st 38)) (FuncBody.stmts (fB (st 38))) (fS (st 38)) (nat_lit 3) [] Value.none Value.none Value.none (v "ledgerspeak.readarith" (nat_lit 524)) none (r (nat_lit 250)) Value.none (nat_lit 0))) ⟨[]⟩)
@[reducible] noncomputable def o252 (P : Params) : Obj := tp []
@[reducible] noncomputable def o253 (P : Params) : Obj := nf []
@[reducible] noncomputable def o254 (P : Params) : Obj := tp [(v "reader" (nat_lit 548))]
@[reducible] noncomputable def o255 (P : Params) : Obj := tp []
@[reducible] noncomputable def o256 (P : Params) : Obj := (Obj.mk Value.none none (Data.func (FuncData.mk (Str.ofString "ref_here") (Str.ofString "ref_here") (fP (st 39)) (FuncBody.stmts (fB (st 39))) (fS (st 39)) (nat_lit 0) [] Value.none Value.none Value.none Value.none none Value.none Value.none (nat_lit 0))) ⟨[]⟩)
@[reducible] noncomputable def o257 (P : Params) : Obj := co [(v "ref_here" (nat_lit 545)), (v "ref_here" (nat_lit 546)), (v "/claim/cut.py" (nat_lit 547)), (Value.int (.ofNat (nat_lit 187)) (nat_lit 0)), (Value.int (.ofNat (nat_lit 1)) (nat_lit 0)), (Value.int (.ofNat (nat_lit 0)) (nat_lit 0)), (Value.int (.ofNat (nat_lit 0)) (nat_lit 0)), (Value.int (.ofNat (nat_lit 3)) (nat_lit 0)), (r (nat_lit 252)), (Value.bool Bool.true), (Value.int (.ofNat (nat_lit 181)) (nat_lit 0)), (r (nat_lit 253)), Value.none, (r (nat_lit 254)), (r (nat_lit 255)), (r (nat_lit 256)), (Value.int (.ofNat (nat_lit 549)) (nat_lit 0)), (Value.int (.ofNat (nat_lit 187)) (nat_lit 0)), (v "/claim/cut.py" (nat_lit 550))]
@[reducible] noncomputable def o258 (P : Params) : Obj := (Obj.mk (Value.type "function") none (Data.func (FuncData.mk (Str.ofString "ref_here") (Str.ofString "ref_here") (fP (st 39)) (FuncBody.stmts (fB (st 39))) (fS (st 39)) (nat_lit 3) [] Value.none Value.none Value.none (v "ledgerspeak.readarith" (nat_lit 524)) none (r (nat_lit 257)) Value.none (nat_lit 0))) ⟨[]⟩)
@[reducible] noncomputable def o259 (P : Params) : Obj := tp []
@[reducible] noncomputable def o260 (P : Params) : Obj := nf []
@[reducible] noncomputable def o261 (P : Params) : Obj := tp [(v "reader" (nat_lit 555)), (v "mark" (nat_lit 556)), (v "what" (nat_lit 557))]
@[reducible] noncomputable def o262 (P : Params) : Obj := tp []
@[reducible] noncomputable def o263 (P : Params) : Obj := (Obj.mk Value.none none (Data.func (FuncData.mk (Str.ofString "refuse_at") (Str.ofString "refuse_at") (fP (st 40)) (FuncBody.stmts (fB (st 40))) (fS (st 40)) (nat_lit 0) [] Value.none Value.none Value.none Value.none none Value.none Value.none (nat_lit 0))) ⟨[]⟩)
@[reducible] noncomputable def o264 (P : Params) : Obj := co [(v "refuse_at" (nat_lit 552)), (v "refuse_at" (nat_lit 553)), (v "/claim/cut.py" (nat_lit 554)), (Value.int (.ofNat (nat_lit 191)) (nat_lit 0)), (Value.int (.ofNat (nat_lit 3)) (nat_lit 0)), (Value.int (.ofNat (nat_lit 0)) (nat_lit 0)), (Value.int (.ofNat (nat_lit 0)) (nat_lit 0)), (Value.int (.ofNat (nat_lit 3)) (nat_lit 0)), (r (nat_lit 259)), (Value.bool Bool.true), (Value.int (.ofNat (nat_lit 181)) (nat_lit 0)), (r (nat_lit 260)), Value.none, (r (nat_lit 261)), (r (nat_lit 262)), (r (nat_lit 263)), (Value.int (.ofNat (nat_lit 558)) (nat_lit 0)), (Value.int (.ofNat (nat_lit 191)) (nat_lit 0)), (v "/claim/cut.py" (nat_lit 559))]
@[reducible] noncomputable def o265 (P : Params) : Obj := (Obj.mk (Value.type "function") none (Data.func (FuncData.mk (Str.ofString "refuse_at") (Str.ofString "refuse_at") (fP (st 40)) (FuncBody.stmts (fB (st 40))) (fS (st 40)) (nat_lit 3) [] Value.none Value.none Value.none (v "ledgerspeak.readarith" (nat_lit 524)) none (r (nat_lit 264)) Value.none (nat_lit 0))) ⟨[]⟩)
@[reducible] noncomputable def o266 (P : Params) : Obj := tp []
@[reducible] noncomputable def o267 (P : Params) : Obj := nf []
@[reducible] noncomputable def o268 (P : Params) : Obj := tp [(v "reader" (nat_lit 566))]
@[reducible] noncomputable def o269 (P : Params) : Obj := tp []
@[reducible] noncomputable def o270 (P : Params) : Obj := (Obj.mk Value.none none (Data.func (FuncData.mk (Str.ofString "operand_here") (Str.ofString "operand_here") (fP (st 42)) (FuncBody.stmts (fB (st 42))) (fS (st 42)) (nat_lit 0) [] Value.none Value.none Value.none Value.none none Value.none Value.none (nat_lit 0))) ⟨[]⟩)
@[reducible] noncomputable def o271 (P : Params) : Obj := co [(v "operand_here" (nat_lit 563)), (v "operand_here" (nat_lit 564)), (v "/claim/cut.py" (nat_lit 565)), (Value.int (.ofNat (nat_lit 195)) (nat_lit 0)), (Value.int (.ofNat (nat_lit 1)) (nat_lit 0)), (Value.int (.ofNat (nat_lit 0)) (nat_lit 0)), (Value.int (.ofNat (nat_lit 0)) (nat_lit 0)), (Value.int (.ofNat (nat_lit 3)) (nat_lit 0)), (r (nat_lit 266)), (Value.bool Bool.true), (Value.int (.ofNat (nat_lit 181)) (nat_lit 0)), (r (nat_lit 267)), Value.none, (r (nat_lit 268)), (r (nat_lit 269)), (r (nat_lit 270)), (Value.int (.ofNat (nat_lit 567)) (nat_lit 0)), (Value.int (.ofNat (nat_lit 195)) (nat_lit 0)), (v "/claim/cut.py" (nat_lit 568))]
@[reducible] noncomputable def o272 (P : Params) : Obj := (Obj.mk (Value.type "function") none (Data.func (FuncData.mk (Str.ofString "operand_here") (Str.ofString "operand_here") (fP (st 42)) (FuncBody.stmts (fB (st 42))) (fS (st 42)) (nat_lit 3) [] Value.none Value.none Value.none (v "ledgerspeak.readdata" (nat_lit 561)) none (r (nat_lit 271)) Value.none (nat_lit 0))) ⟨[]⟩)
@[reducible] noncomputable def o273 (P : Params) : Obj := tp []
@[reducible] noncomputable def o274 (P : Params) : Obj := nf []
@[reducible] noncomputable def o275 (P : Params) : Obj := tp [(v "reader" (nat_lit 573)), (v "mark" (nat_lit 574)), (v "operand" (nat_lit 575))]
@[reducible] noncomputable def o276 (P : Params) : Obj := tp []
@[reducible] noncomputable def o277 (P : Params) : Obj := (Obj.mk Value.none none (Data.func (FuncData.mk (Str.ofString "text_here") (Str.ofString "text_here") (fP (st 43)) (FuncBody.stmts (fB (st 43))) (fS (st 43)) (nat_lit 0) [] Value.none Value.none Value.none Value.none none Value.none Value.none (nat_lit 0))) ⟨[]⟩)
@[reducible] noncomputable def o278 (P : Params) : Obj := co [(v "text_here" (nat_lit 570)), (v "text_here" (nat_lit 571)), (v "/claim/cut.py" (nat_lit 572)), (Value.int (.ofNat (nat_lit 199)) (nat_lit 0)), (Value.int (.ofNat (nat_lit 1)) (nat_lit 0)), (Value.int (.ofNat (nat_lit 0)) (nat_lit 0)), (Value.int (.ofNat (nat_lit 0)) (nat_lit 0)), (Value.int (.ofNat (nat_lit 3)) (nat_lit 0)), (r (nat_lit 273)), (Value.bool Bool.true), (Value.int (.ofNat (nat_lit 181)) (nat_lit 0)), (r (nat_lit 274)), Value.none, (r (nat_lit 275)), (r (nat_lit 276)), (r (nat_lit 277)), (Value.int (.ofNat (nat_lit 576)) (nat_lit 0)), (Value.int (.ofNat (nat_lit 199)) (nat_lit 0)), (v "/claim/cut.py" (nat_lit 577))]
@[reducible] noncomputable def o279 (P : Params) : Obj := (Obj.mk (Value.type "function") none (Data.func (FuncData.mk (Str.ofString "text_here") (Str.ofString "text_here") (fP (st 43)) (FuncBody.stmts (fB (st 43))) (fS (st 43)) (nat_lit 3) [] Value.none Value.none Value.none (v "ledgerspeak.readdata" (nat_lit 561)) none (r (nat_lit 278)) Value.none (nat_lit 0))) ⟨[]⟩)
@[reducible] noncomputable def o280 (P : Params) : Obj := tp []
@[reducible] noncomputable def o281 (P : Params) : Obj := nf []
@[reducible] noncomputable def o282 (P : Params) : Obj := tp [(v "reader" (nat_lit 582))]
@[reducible] noncomputable def o283 (P : Params) : Obj := tp []
@[reducible] noncomputable def o284 (P : Params) : Obj := (Obj.mk Value.none none (Data.func (FuncData.mk (Str.ofString "begins_text") (Str.ofString "begins_text") (fP (st 44)) (FuncBody.stmts (fB (st 44))) (fS (st 44)) (nat_lit 0) [] Value.none Value.none Value.none Value.none none Value.none Value.none (nat_lit 0))) ⟨[]⟩)
@[reducible] noncomputable def o285 (P : Params) : Obj := co [(v "begins_text" (nat_lit 579)), (v "begins_text" (nat_lit 580)), (v "/claim/cut.py" (nat_lit 581)), (Value.int (.ofNat (nat_lit 205)) (nat_lit 0)), (Value.int (.ofNat (nat_lit 1)) (nat_lit 0)), (Value.int (.ofNat (nat_lit 0)) (nat_lit 0)), (Value.int (.ofNat (nat_lit 0)) (nat_lit 0)), (Value.int (.ofNat (nat_lit 3)) (nat_lit 0)), (r (nat_lit 280)), (Value.bool Bool.true), (Value.int (.ofNat (nat_lit 181)) (nat_lit 0)), (r (nat_lit 281)), Value.none, (r (nat_lit 282)), (r (nat_lit 283)), (r (nat_lit 284)), (Value.int (.ofNat (nat_lit 583)) (nat_lit 0)), (Value.int (.ofNat (nat_lit 205)) (nat_lit 0)), (v "/claim/cut.py" (nat_lit 584))]
@[reducible] noncomputable def o286 (P : Params) : Obj := (Obj.mk (Value.type "function") none (Data.func (FuncData.mk (Str.ofString "begins_text") (Str.ofString "begins_text") (fP (st 44)) (FuncBody.stmts (fB (st 44))) (fS (st 44)) (nat_lit 3) [] Value.none Value.none Value.none (v "ledgerspeak.readdata" (nat_lit 561)) none (r (nat_lit 285)) Value.none (nat_lit 0))) ⟨[]⟩)
@[reducible] noncomputable def o287 (P : Params) : Obj := tp []
@[reducible] noncomputable def o288 (P : Params) : Obj := nf []
@[reducible] noncomputable def o289 (P : Params) : Obj := tp [(v "reader" (nat_lit 589)), (v "before" (nat_lit 590)), (v "after" (nat_lit 591))]
@[reducible] noncomputable def o290 (P : Params) : Obj := tp []
@[reducible] noncomputable def o291 (P : Params) : Obj := (Obj.mk Value.none none (Data.func (FuncData.mk (Str.ofString "bounds_here") (Str.ofString "bounds_here") (fP (st 45)) (FuncBody.stmts (fB (st 45))) (fS (st 45)) (nat_lit 0) [] Value.none Value.none Value.none Value.none none Value.none Value.none (nat_lit 0))) ⟨[]⟩)
@[reducible] noncomputable def o292 (P : Params) : Obj := co [(v "bounds_here" (nat_lit 586)), (v "bounds_here" (nat_lit 587)), (v "/claim/cut.py" (nat_lit 588)), (Value.int (.ofNat (nat_lit 207)) (nat_lit 0)), (Value.int (.ofNat (nat_lit 1)) (nat_lit 0)), (Value.int (.ofNat (nat_lit 0)) (nat_lit 0)), (Value.int (.ofNat (nat_lit 0)) (nat_lit 0)), (Value.int (.ofNat (nat_lit 3)) (nat_lit 0)), (r (nat_lit 287)), (Value.bool Bool.true), (Value.int (.ofNat (nat_lit 181)) (nat_lit 0)), (r (nat_lit 288)), Value.none, (r (nat_lit 289)), (r (nat_lit 290)), (r (nat_lit 291)), (Value.int (.ofNat (nat_lit 592)) (nat_lit 0)), (Value.int (.ofNat (nat_lit 207)) (nat_lit 0)), (v "/claim/cut.py" (nat_lit 593))]
@[reducible] noncomputable def o293 (P : Params) : Obj := (Obj.mk (Value.type "function") none (Data.func (FuncData.mk (Str.ofString "bounds_here") (Str.ofString "bounds_here") (fP (st 45)) (FuncBody.stmts (fB (st 45))) (fS (st 45)) (nat_lit 3) [] Value.none Value.none Value.none (v "ledgerspeak.readdata" (nat_lit 561)) none (r (nat_lit 292)) Value.none (nat_lit 0))) ⟨[]⟩)
@[reducible] noncomputable def o294 (P : Params) : Obj := tp []
@[reducible] noncomputable def o295 (P : Params) : Obj := nf []
@[reducible] noncomputable def o296 (P : Params) : Obj := tp [(v "reader" (nat_lit 598)), (v "mark" (nat_lit 599)), (v "is_count" (nat_lit 600))]
@[reducible] noncomputable def o297 (P : Params) : Obj := tp []
@[reducible] noncomputable def o298 (P : Params) : Obj := (Obj.mk Value.none none (Data.func (FuncData.mk (Str.ofString "opens_count") (Str.ofString "opens_count") (fP (st 46)) (FuncBody.stmts (fB (st 46))) (fS (st 46)) (nat_lit 0) [] Value.none Value.none Value.none Value.none none Value.none Value.none (nat_lit 0))) ⟨[]⟩)
@[reducible] noncomputable def o299 (P : Params) : Obj := co [(v "opens_count" (nat_lit 595)), (v "opens_count" (nat_lit 596)), (v "/claim/cut.py" (nat_lit 597)), (Value.int (.ofNat (nat_lit 218)) (nat_lit 0)), (Value.int (.ofNat (nat_lit 1)) (nat_lit 0)), (Value.int (.ofNat (nat_lit 0)) (nat_lit 0)), (Value.int (.ofNat (nat_lit 0)) (nat_lit 0)), (Value.int (.ofNat (nat_lit 3)) (nat_lit 0)), (r (nat_lit 294)), (Value.bool Bool.true), (Value.int (.ofNat (nat_lit 181)) (nat_lit 0)), (r (nat_lit 295)), Value.none, (r (nat_lit 296)), (r (nat_lit 297)), (r (nat_lit 298)), (Value.int (.ofNat (nat_lit 601)) (nat_lit 0)), (Value.int (.ofNat (nat_lit 218)) (nat_lit 0)), (v "/claim/cut.py" (nat_lit 602))]
@[reducible] noncomputable def o300 (P : Params) : Obj := (Obj.mk (Value.type "function") none (Data.func (FuncData.mk (Str.ofString "opens_count") (Str.ofString "opens_count") (fP (st 46)) (FuncBody.stmts (fB (st 46))) (fS (st 46)) (nat_lit 3) [] Value.none Value.none Value.none (v "ledgerspeak.readdata" (nat_lit 561)) none (r (nat_lit 299)) Value.none (nat_lit 0))) ⟨[]⟩)
@[reducible] noncomputable def o301 (P : Params) : Obj := tp []
@[reducible] noncomputable def o302 (P : Params) : Obj := nf []
@[reducible] noncomputable def o303 (P : Params) : Obj := tp [(v "reader" (nat_lit 607)), (v "count" (nat_lit 608)), (v "kind" (nat_lit 609)), (v "rows" (nat_lit 610)), (v "operand" (nat_lit 611)), (v "before" (nat_lit 612)), (v "after" (nat_lit 613))]
@[reducible] noncomputable def o304 (P : Params) : Obj := tp []
@[reducible] noncomputable def o305 (P : Params) : Obj := (Obj.mk Value.none none (Data.func (FuncData.mk (Str.ofString "counted_rows") (Str.ofString "counted_rows") (fP (st 47)) (FuncBody.stmts (fB (st 47))) (fS (st 47)) (nat_lit 0) [] Value.none Value.none Value.none Value.none none Value.none Value.none (nat_lit 0))) ⟨[]⟩)
@[reducible] noncomputable def o306 (P : Params) : Obj := co [(v "counted_rows" (nat_lit 604)), (v "counted_rows" (nat_lit 605)), (v "/claim/cut.py" (nat_lit 606)), (Value.int (.ofNat (nat_lit 226)) (nat_lit 0)), (Value.int (.ofNat (nat_lit 3)) (nat_lit 0)), (Value.int (.ofNat (nat_lit 0)) (nat_lit 0)), (Value.int (.ofNat (nat_lit 0)) (nat_lit 0)), (Value.int (.ofNat (nat_lit 3)) (nat_lit 0)), (r (nat_lit 301)), (Value.bool Bool.true), (Value.int (.ofNat (nat_lit 181)) (nat_lit 0)), (r (nat_lit 302)), Value.none, (r (nat_lit 303)), (r (nat_lit 304)), (r (nat_lit 305)), (Value.int (.ofNat (nat_lit 614)) (nat_lit 0)), (Value.int (.ofNat (nat_lit 226)) (nat_lit 0)), (v "/claim/cut.py" (nat_lit 615))]
@[reducible] noncomputable def o307 (P : Params) : Obj := (Obj.mk (Value.type "function") none (Data.func (FuncData.mk (Str.ofString "counted_rows") (Str.ofString "counted_rows") (fP (st 47)) (FuncBody.stmts (fB (st 47))) (fS (st 47)) (nat_lit 3) [] Value.none Value.none Value.none (v "ledgerspeak.readdata" (nat_lit 561)) none (r (nat_lit 306)) Value.none (nat_lit 0))) ⟨[]⟩)
@[reducible] noncomputable def o308 (P : Params) : Obj := tp []
@[reducible] noncomputable def o309 (P : Params) : Obj := nf []
@[reducible] noncomputable def o310 (P : Params) : Obj := tp [(v "reader" (nat_lit 620)), (v "rows" (nat_lit 621)), (v "count" (nat_lit 622)), (v "found" (nat_lit 623)), (v "before" (nat_lit 624)), (v "after" (nat_lit 625))]
@[reducible] noncomputable def o311 (P : Params) : Obj := tp []
@[reducible] noncomputable def o312 (P : Params) : Obj := (Obj.mk Value.none none (Data.func (FuncData.mk (Str.ofString "tallied_rows") (Str.ofString "tallied_rows") (fP (st 48)) (FuncBody.stmts (fB (st 48))) (fS (st 48)) (nat_lit 0) [] Value.none Value.none Value.none Value.none none Value.none Value.none (nat_lit 0))) ⟨[]⟩)
@[reducible] noncomputable def o313 (P : Params) : Obj := co [(v "tallied_rows" (nat_lit 617)), (v "tallied_rows" (nat_lit 618)), (v "/claim/cut.py" (nat_lit 619)), (Value.int (.ofNat (nat_lit 233)) (nat_lit 0)), (Value.int (.ofNat (nat_lit 1)) (nat_lit 0)), (Value.int (.ofNat (nat_lit 0)) (nat_lit 0)), (Value.int (.ofNat (nat_lit 0)) (nat_lit 0)), (Value.int (.ofNat (nat_lit 3)) (nat_lit 0)), (r (nat_lit 308)), (Value.bool Bool.true), (Value.int (.ofNat (nat_lit 181)) (nat_lit 0)), (r (nat_lit 309)), Value.none, (r (nat_lit 310)), (r (nat_lit 311)), (r (nat_lit 312)), (Value.int (.ofNat (nat_lit 626)) (nat_lit 0)), (Value.int (.ofNat (nat_lit 233)) (nat_lit 0)), (v "/claim/cut.py" (nat_lit 627))]
@[reducible] noncomputable def o314 (P : Params) : Obj := (Obj.mk (Value.type "function") none (Data.func (FuncData.mk (Str.ofString "tallied_rows") (Str.ofString "tallied_rows") (fP (st 48)) (FuncBody.stmts (fB (st 48))) (fS (st 48)) (nat_lit 3) [] Value.none Value.none Value.none (v "ledgerspeak.readdata" (nat_lit 561)) none (r (nat_lit 313)) Value.none (nat_lit 0))) ⟨[]⟩)
@[reducible] noncomputable def o315 (P : Params) : Obj := tp []
@[reducible] noncomputable def o316 (P : Params) : Obj := nf []
@[reducible] noncomputable def o317 (P : Params) : Obj := tp [(v "word" (nat_lit 638))]
@[reducible] noncomputable def o318 (P : Params) : Obj := tp []
@[reducible] noncomputable def o319 (P : Params) : Obj := (Obj.mk Value.none none (Data.func (FuncData.mk (Str.ofString "is_reserved") (Str.ofString "is_reserved") (fP (st 52)) (FuncBody.stmts (fB (st 52))) (fS (st 52)) (nat_lit 0) [] Value.none Value.none Value.none Value.none none Value.none Value.none (nat_lit 0))) ⟨[]⟩)
@[reducible] noncomputable def o320 (P : Params) : Obj := co [(v "is_reserved" (nat_lit 635)), (v "is_reserved" (nat_lit 636)), (v "/claim/cut.py" (nat_lit 637)), (Value.int (.ofNat (nat_lit 255)) (nat_lit 0)), (Value.int (.ofNat (nat_lit 1)) (nat_lit 0)), (Value.int (.ofNat (nat_lit 0)) (nat_lit 0)), (Value.int (.ofNat (nat_lit 0)) (nat_lit 0)), (Value.int (.ofNat (nat_lit 3)) (nat_lit 0)), (r (nat_lit 315)), (Value.bool Bool.true), (Value.int (.ofNat (nat_lit 181)) (nat_lit 0)), (r (nat_lit 316)), Value.none, (r (nat_lit 317)), (r (nat_lit 318)), (r (nat_lit 319)), (Value.int (.ofNat (nat_lit 639)) (nat_lit 0)), (Value.int (.ofNat (nat_lit 255)) (nat_lit 0)), (v "/claim/cut.py" (nat_lit 640))]
@[reducible] noncomputable def o321 (P : Params) : Obj := (Obj.mk (Value.type "function") none (Data.func (FuncData.mk (Str.ofString "is_reserved") (Str.ofString "is_reserved") (fP (st 52)) (FuncBody.stmts (fB (st 52))) (fS (st 52)) (nat_lit 3) [] Value.none Value.none Value.none (v "ledgerspeak.reader" (nat_lit 629)) none (r (nat_lit 320)) Value.none (nat_lit 0))) ⟨[]⟩)
@[reducible] noncomputable def o322 (P : Params) : Obj := tp []
@[reducible] noncomputable def o323 (P : Params) : Obj := nf []
@[reducible] noncomputable def o324 (P : Params) : Obj := (Obj.mk Value.none none (Data.func (FuncData.mk (Str.ofString "octets_of_text") (Str.ofString "octets_of_text") (fP (st 53)) (FuncBody.stmts (fB (st 53))) (fS (st 53)) (nat_lit 0) [] Value.none Value.none Value.none Value.none none Value.none Value.none (nat_lit 0))) ⟨[]⟩)
@[reducible] noncomputable def o325 (P : Params) : Obj := co [(v "octets_of_text" (nat_lit 642)), (v "octets_of_text" (nat_lit 643)), (v "/claim/cut.py" (nat_lit 644)), (Value.int (.ofNat (nat_lit 257)) (nat_lit 0)), (Value.int (.ofNat (nat_lit 1)) (nat_lit 0)), (Value.int (.ofNat (nat_lit 0)) (nat_lit 0)), (Value.int (.ofNat (nat_lit 0)) (nat_lit 0)), (Value.int (.ofNat (nat_lit 3)) (nat_lit 0)), (r (nat_lit 322)), (Value.bool Bool.true), (Value.int (.ofNat (nat_lit 181)) (nat_lit 0)), (r (nat_lit 323)), Value.none, Value.none, Value.none, (r (nat_lit 324)), (Value.int (.ofNat (nat_lit 645)) (nat_lit 0)), (Value.int (.ofNat (nat_lit 257)) (nat_lit 0)), (v "/claim/cut.py" (nat_lit 646))]
@[reducible] noncomputable def o326 (P : Params) : Obj := (Obj.mk (Value.type "function") none (Data.func (FuncData.mk (Str.ofString "octets_of_text") (Str.ofString "octets_of_text") (fP (st 53)) (FuncBody.stmts (fB (st 53))) (fS (st 53)) (nat_lit 3) [] Value.none Value.none Value.none (v "ledgerspeak.reader" (nat_lit 629)) none (r (nat_lit 325)) Value.none (nat_lit 0))) ⟨[]⟩)
noncomputable def T3 (P : Params) : BT := (.node (boot_o_0 P) (.node (boot_o_1 P) (.node (o3_2 P) (.node (boot_o_7 P) (.node (o15 P) (.node (o31 P) (.node (o63 P) (.node (o127 P) (.node (o255 P) .nil .nil) .nil) (.node (o191 P) (.node (o319 P) .nil .nil) .nil)) (.node (o95 P) (.node (o159 P) (.node (o287 P) .nil .nil) .nil) (.node (o223 P) .nil .nil))) (.node (o47 P) (.node (o79 P) (.node (o143 P) (.node (o271 P) .nil .nil) .nil) (.node (o207 P) .nil .nil)) (.node (o111 P) (.node (o175 P) (.node (o303 P) .nil .nil) .nil) (.node (o239 P) .nil .nil)))) (.node (o23 P) (.node (o39 P) (.node (o71 P) (.node (o135 P) (.node (o263 P) .nil .nil) .nil) (.node (o199 P) .nil .nil)) (.node (o103 P) (.node (o167 P) (.node (o295 P) .nil .nil) .nil) (.node (o231 P) .nil .nil))) (.node (o55 P) (.node (o87 P) (.node (o151 P) (.node (o279 P) .nil .nil) .nil) (.node (o215 P) .nil .nil)) (.node (o119 P) (.node (o183 P) (.node (o311 P) .nil .nil) .nil) (.node (o247 P) .nil .nil))))) (.node (o11 P) (.node (o19 P) (.node (o35 P) (.node (o67 P) (.node (o131 P) (.node (o259 P) .nil .nil) .nil) (.node (o195 P) (.node (o323 P) .nil .nil) .nil)) (.node (o99 P) (.node (o163 P) (.node (o291 P) .nil .nil) .nil) (.node (o227 P) .nil .nil))) (.node (o51 P) (.node (o83 P) (.node (o147 P) (.node (o275 P) .nil .nil) .nil) (.node (o211 P) .nil .nil)) (.node (o115 P) (.node (o179 P) (.node (o307 P) .nil .nil) .nil) (.node (o243 P) .nil .nil)))) (.node (o27 P) (.node (o43 P) (.node (o75 P) (.node (o139 P) (.node (o267 P) .nil .nil) .nil) (.node (o203 P) .nil .nil)) (.node (o107 P) (.node (o171 P) (.node (o299 P) .nil .nil) .nil) (.node (o235 P) .nil .nil))) (.node (o59 P) (.node (o91 P) (.node (o155 P) (.node (o283 P) .nil .nil) .nil) (.node (o219 P) .nil .nil)) (.node (o123 P) (.node (o187 P) (.node (o315 P) .nil .nil) .nil) (.node (o251 P) .nil .nil)))))) (.node (boot_o_5 P) (.node (boot_o_9 P) (.node (o17 P) (.node (o33 P) (.node (o65 P) (.node (o129 P) (.node (o257 P) .nil .nil) .nil) (.node (o193 P) (.node (o321 P) .nil .nil) .nil)) (.node (o97 P) (.node (o161 P) (.node (o289 P) .nil .nil) .nil) (.node (o225 P) .nil .nil))) (.node (o49 P) (.node (o81 P) (.node (o145 P) (.node (o273 P) .nil .nil) .nil) (.node (o209 P) .nil .nil)) (.node (o113 P) (.node (o177 P) (.node (o305 P) .nil .nil) .nil) (.node (o241 P) .nil .nil)))) (.node (o25 P) (.node (o41 P) (.node (o73 P) (.node (o137 P) (.node (o265 P) .nil .nil) .nil) (.node (o201 P) .nil .nil)) (.node (o105 P) (.node (o169 P) (.node (o297 P) .nil .nil) .nil) (.node (o233 P) .nil .nil))) (.node (o57 P) (.node (o89 P) (.node (o153 P) (.node (o281 P) .nil .nil) .nil) (.node (o217 P) .nil .nil)) (.node (o121 P) (.node (o185 P) (.node (o313 P) .nil .nil) .nil) (.node (o249 P) .nil .nil))))) (.node (o13 P) (.node (o21 P) (.node (o37 P) (.node (o69 P) (.node (o133 P) (.node (o261 P) .nil .nil) .nil) (.node (o197 P) (.node (o325 P) .nil .nil) .nil)) (.node (o101 P) (.node (o165 P) (.node (o293 P) .nil .nil) .nil) (.node (o229 P) .nil .nil))) (.node (o53 P) (.node (o85 P) (.node (o149 P) (.node (o277 P) .nil .nil) .nil) (.node (o213 P) .nil .nil)) (.node (o117 P) (.node (o181 P) (.node (o309 P) .nil .nil) .nil) (.node (o245 P) .nil .nil)))) (.node (o29 P) (.node (o45 P) (.node (o77 P) (.node (o141 P) (.node (o269 P) .nil .nil) .nil) (.node (o205 P) .nil .nil)) (.node (o109 P) (.node (o173 P) (.node (o301 P) .nil .nil) .nil) (.node (o237 P) .nil .nil))) (.node (o61 P) (.node (o93 P) (.node (o157 P) (.node (o285 P) .nil .nil) .nil) (.node (o221 P) .nil .nil)) (.node (o125 P) (.node (o189 P) (.node (o317 P) .nil .nil) .nil) (.node (o253 P) .nil .nil))))))) (.node (o2_0 P) (.node (boot_o_4 P) (.node (boot_o_8 P) (.node (o16 P) (.node (o32 P) (.node (o64 P) (.node (o128 P) (.node (o256 P) .nil .nil) .nil) (.node (o192 P) (.node (o320 P) .nil .nil) .nil)) (.node (o96 P) (.node (o160 P) (.node (o288 P) .nil .nil) .nil) (.node (o224 P) .nil .nil))) (.node (o48 P) (.node (o80 P) (.node (o144 P) (.node (o272 P) .nil .nil) .nil) (.node (o208 P) .nil .nil)) (.node (o112 P) (.node (o176 P) (.node (o304 P) .nil .nil) .nil) (.node (o240 P) .nil .nil)))) (.node (o24 P) (.node (o40 P) (.node (o72 P) (.node (o136 P) (.node (o264 P) .nil .nil) .nil) (.node (o200 P) .nil .nil)) (.node (o104 P) (.node (o168 P) (.node (o296 P) .nil .nil) .nil) (.node (o232 P) .nil .nil))) (.node (o56 P) (.node (o88 P) (.node (o152 P) (.node (o280 P) .nil .nil) .nil) (.node (o216 P) .nil .nil)) (.node (o120 P) (.node (o184 P) (.node (o312 P) .nil .nil) .nil) (.node (o248 P) .nil .nil))))) (.node (o12_3 P) (.node (o20 P) (.node (o36 P) (.node (o68 P) (.node (o132 P) (.node (o260 P) .nil .nil) .nil) (.node (o196 P) (.node (o324 P) .nil .nil) .nil)) (.node (o100 P) (.node (o164 P) (.node (o292 P) .nil .nil) .nil) (.node (o228 P) .nil .nil))) (.node (o52 P) (.node (o84 P) (.node (o148 P) (.node (o276 P) .nil .nil) .nil) (.node (o212 P) .nil .nil)) (.node (o116 P) (.node (o180 P) (.node (o308 P) .nil .nil) .nil) (.node (o244 P) .nil .nil)))) (.node (o28 P) (.node (o44 P) (.node (o76 P) (.node (o140 P) (.node (o268 P) .nil .nil) .nil) (.node (o204 P) .nil .nil)) (.node (o108 P) (.node (o172 P) (.node (o300 P) .nil .nil) .nil) (.node (o236 P) .nil .nil))) (.node (o60 P) (.node (o92 P) (.node (o156 P) (.node (o284 P) .nil .nil) .nil) (.node (o220 P) .nil .nil)) (.node (o124 P) (.node (o188 P) (.node (o316 P) .nil .nil) .nil) (.node (o252 P) .nil .nil)))))) (.node (boot_o_6 P) (.node (boot_o_10 P) (.node (o18 P) (.node (o34 P) (.node (o66 P) (.node (o130 P) (.node (o258 P) .nil .nil) .nil) (.node (o194 P) (.node (o322 P) .nil .nil) .nil)) (.node (o98 P) (.node (o162 P) (.node (o290 P) .nil .nil) .nil) (.node (o226 P) .nil .nil))) (.node (o50 P) (.node (o82 P) (.node (o146 P) (.node (o274 P) .nil .nil) .nil) (.node (o210 P) .nil .nil)) (.node (o114 P) (.node (o178 P) (.node (o306 P) .nil .nil) .nil) (.node (o242 P) .nil .nil)))) (.node (o26 P) (.node (o42 P) (.node (o74 P) (.node (o138 P) (.node (o266 P) .nil .nil) .nil) (.node (o202 P) .nil .nil)) (.node (o106 P) (.node (o170 P) (.node (o298 P) .nil .nil) .nil) (.node (o234 P) .nil .nil))) (.node (o58 P) (.node (o90 P) (.node (o154 P) (.node (o282 P) .nil .nil) .nil) (.node (o218 P) .nil .nil)) (.node (o122 P) (.node (o186 P) (.node (o314 P) .nil .nil) .nil) (.node (o250 P) .nil .nil))))) (.node (o14 P) (.node (o22 P) (.node (o38 P) (.node (o70 P) (.node (o134 P) (.node (o262 P) .nil .nil) .nil) (.node (o198 P) (.node (o326 P) .nil .nil) .nil)) (.node (o102 P) (.node (o166 P) (.node (o294 P) .nil .nil) .nil) (.node (o230 P) .nil .nil))) (.node (o54 P) (.node (o86 P) (.node (o150 P) (.node (o278 P) .nil .nil) .nil) (.node (o214 P) .nil .nil)) (.node (o118 P) (.node (o182 P) (.node (o310 P) .nil .nil) .nil) (.node (o246 P) .nil .nil)))) (.node (o30 P) (.node (o46 P) (.node (o78 P) (.node (o142 P) (.node (o270 P) .nil .nil) .nil) (.node (o206 P) .nil .nil)) (.node (o110 P) (.node (o174 P) (.node (o302 P) .nil .nil) .nil) (.node (o238 P) .nil .nil))) (.node (o62 P) (.node (o94 P) (.node (o158 P) (.node (o286 P) .nil .nil) .nil) (.node (o222 P) .nil .nil)) (.node (o126 P) (.node (o190 P) (.node (o318 P) .nil .nil) .nil) (.node (o254 P) .nil .nil))))))))
@[reducible] noncomputable def o3_3 (P : Params) : Obj := dc [(e P "__name__" (nat_lit 165) (v "ledgerspeak.reader" (nat_lit 629))), (e P "__doc__" (nat_lit 166) Value.none), (e P "__package__" (nat_lit 167) Value.none), (e P "__loader__" (nat_lit 168) (Value.builtin "__main__.__loader__#opaque")), (e P "__spec__" (nat_lit 169) Value.none), (e P "__annotations__" (nat_lit 170) (r (nat_lit 6))), (e P "__builtins__" (nat_lit 171) (r (nat_lit 4))), (e P "__file__" (nat_lit 173) (v "/claim/cut.py" (nat_lit 172))), (e P "__cached__" (nat_lit 174) Value.none), (e P "_wall" (nat_lit 193) (r (nat_lit 21))), (e P "LedgerError" (nat_lit 235) (r (nat_lit 47))), (e P "TokenFault" (nat_lit 251) (r (nat_lit 60))), (e P "GrammarFault" (nat_lit 267) (r (nat_lit 72))), (e P "FIGURES" (nat_lit 271) (v "0123456789" (nat_lit 270))), (e P "cut_quotient" (nat_lit 279) (r (nat_lit 81))), (e P "decimal" (nat_lit 288) (r (nat_lit 89))), (e P "negated" (nat_lit 295) (r (nat_lit 96))), (e P "units_at" (nat_lit 306) (r (nat_lit 103))), (e P "is_whole" (nat_lit 313) (r (nat_lit 110))), (e P "whole_of" (nat_lit 320) (r (nat_lit 117))), (e P "worth_of" (nat_lit 329) (r (nat_lit 124))), (e P "read_decimal" (nat_lit 342) (r (nat_lit 131))), (e P "MOST_SUBSCRIPTS" (nat_lit 346) (Value.int (.ofNat (nat_lit 7)) (nat_lit 345))), (e P "FIGURE_NAMES" (nat_lit 380) (r (nat_lit 132))), (e P "is_part_next" (nat_lit 389) (r (nat_lit 139))), (e P "read_subscripts" (nat_lit 398) (r (nat_lit 146))), (e P "read_part" (nat_lit 408) (r (nat_lit 153))), (e P "read_ref" (nat_lit 420) (r (nat_lit 160))), (e P "read_all" (nat_lit 428) (r (nat_lit 167))), (e P "read_figure" (nat_lit 435) (r (nat_lit 174))), (e P "read_operand" (nat_lit 444) (r (nat_lit 181))), (e P "MOST_DEEP" (nat_lit 448) (Value.int (.ofNat (nat_lit 20)) (nat_lit 447))), (e P "read_expression" (nat_lit 455) (r (nat_lit 188))), (e P "sign_among" (nat_lit 464) (r (nat_lit 195))), (e P "read_sum" (nat_lit 474) (r (nat_lit 202))), (e P "read_product" (nat_lit 484) (r (nat_lit 209))), (e P "read_factor" (nat_lit 495) (r (nat_lit 216))), (e P "is_lone_number" (nat_lit 504) (r (nat_lit 223))), (e P "read_power" (nat_lit 513) (r (nat_lit 230))), (e P "read_primary" (nat_lit 523) (r (nat_lit 237))), (e P "FIGURE_WORDS" (nat_lit 527) (v " ZERO ZEROS ZEROES SPACE SPACES HIGH-VALUE HIGH-VALUES LOW-VALUE LOW-VALUES QUOTE QUOTES ALL " (nat_lit 526))), (e P "word_ahead" (nat_lit 537) (r (nat_lit 244))), (e P "begins_operand" (nat_lit 544) (r (nat_lit 251))), (e P "ref_here" (nat_lit 551) (r (nat_lit 258))), (e P "refuse_at" (nat_lit 560) (r (nat_lit 265))), (e P "operand_here" (nat_lit 569) (r (nat_lit 272))), (e P "text_here" (nat_lit 578) (r (nat_lit 279))), (e P "begins_text" (nat_lit 585) (r (nat_lit 286))), (e P "bounds_here" (nat_lit 594) (r (nat_lit 293))), (e P "opens_count" (nat_lit 603) (r (nat_lit 300))), (e P "counted_rows" (nat_lit 616) (r (nat_lit 307))), (e P "tallied_rows" (nat_lit 628) (r (nat_lit 314))), (e P "MOST_OCTET" (nat_lit 632) (Value.int (.ofNat (nat_lit 255)) (nat_lit 631))), (e P "RESERVED" (nat_lit 634) (Value.str RES (nat_lit 633))), (e P "is_reserved" (nat_lit 641) (r (nat_lit 321))), (e P "octets_of_text" (nat_lit 647) (r (nat_lit 326))), (e P "Reader" (nat_lit 853) (r (nat_lit 495)))] (nat_lit 57)
@[reducible] noncomputable def o12_4 (P : Params) : Obj := nf ((Value.int (.ofNat (nat_lit 1)) (nat_lit 0)) :: (Value.int (.ofNat (nat_lit 0)) (nat_lit 0)) :: (r (nat_lit 20)) :: (Value.int (.ofNat (nat_lit 5)) (nat_lit 0)) :: (Value.int (.ofNat (nat_lit 0)) (nat_lit 0)) :: (r (nat_lit 27)) :: (Value.int (.ofNat (nat_lit 14)) (nat_lit 0)) :: (Value.int (.ofNat (nat_lit 0)) (nat_lit 0)) :: (r (nat_lit 56)) :: (Value.int (.ofNat (nat_lit 16)) (nat_lit 0)) :: (Value.int (.ofNat (nat_lit 0)) (nat_lit 0)) :: (r (nat_lit 68)) :: (Value.int (.ofNat (nat_lit 20)) (nat_lit 0)) :: (Value.int (.ofNat (nat_lit 0)) (nat_lit 0)) :: (r (nat_lit 80)) :: (Value.int (.ofNat (nat_lit 24)) (nat_lit 0)) :: (Value.int (.ofNat (nat_lit 0)) (nat_lit 0)) :: (r (nat_lit 88)) :: (Value.int (.ofNat (nat_lit 31)) (nat_lit 0)) :: (Value.int (.ofNat (nat_lit 0)) (nat_lit 0)) :: (r (nat_lit 95)) :: (Value.int (.ofNat (nat_lit 33)) (nat_lit 0)) :: (Value.int (.ofNat (nat_lit 0)) (nat_lit 0)) :: (r (nat_lit 102)) :: (Value.int (.ofNat (nat_lit 41)) (nat_lit 0)) :: (Value.int (.ofNat (nat_lit 0)) (nat_lit 0)) :: (r (nat_lit 109)) :: (Value.int (.ofNat (nat_lit 43)) (nat_lit 0)) :: (Value.int (.ofNat (nat_lit 0)) (nat_lit 0)) :: (r (nat_lit 116)) :: (Value.int (.ofNat (nat_lit 45)) (nat_lit 0)) :: (Value.int (.ofNat (nat_lit 0)) (nat_lit 0)) :: (r (nat_lit 123)) :: (Value.int (.ofNat (nat_lit 50)) (nat_lit 0)) :: (Value.int (.ofNat (nat_lit 0)) (nat_lit 0)) :: (r (nat_lit 130)) :: (Value.int (.ofNat (nat_lit 68)) (nat_lit 0)) :: (Value.int (.ofNat (nat_lit 0)) (nat_lit 0)) :: (r (nat_lit 138)) :: (Value.int (.ofNat (nat_lit 81)) (nat_lit 0)) :: (Value.int (.ofNat (nat_lit 0)) (nat_lit 0)) :: (r (nat_lit 145)) :: (Value.int (.ofNat (nat_lit 89)) (nat_lit 0)) :: (Value.int (.ofNat (nat_lit 0)) (nat_lit 0)) :: (r (nat_lit 152)) :: (Value.int (.ofNat (nat_lit 96)) (nat_lit 0)) :: (Value.int (.ofNat (nat_lit 0)) (nat_lit 0)) :: (r (nat_lit 159)) :: (Value.int (.ofNat (nat_lit 106)) (nat_lit 0)) :: (Value.int (.ofNat (nat_lit 0)) (nat_lit 0)) :: (r (nat_lit 166)) :: (Value.int (.ofNat (nat_lit 113)) (nat_lit 0)) :: (Value.int (.ofNat (nat_lit 0)) (nat_lit 0)) :: (r (nat_lit 173)) :: (Value.int (.ofNat (nat_lit 117)) (nat_lit 0)) :: (Value.int (.ofNat (nat_lit 0)) (nat_lit 0)) :: (r (nat_lit 180)) :: (Value.int (.ofNat (nat_lit 128)) (nat_lit 0)) :: (Value.int (.ofNat (nat_lit 0)) (nat_lit 0)) :: (r (nat_lit 187)) :: (Value.int (.ofNat (nat_lit 130)) (nat_lit 0)) :: (Value.int (.ofNat (nat_lit 0)) (nat_lit 0)) :: (r (nat_lit 194)) :: (Value.int (.ofNat (nat_lit 135)) (nat_lit 0)) :: (Value.int (.ofNat (nat_lit 0)) (nat_lit 0)) :: (r (nat_lit 201)) :: (Value.int (.ofNat (nat_lit 143)) (nat_lit 0)) :: (Value.int (.ofNat (nat_lit 0)) (nat_lit 0)) :: (r (nat_lit 208)) :: (Value.int (.ofNat (nat_lit 149)) (nat_lit 0)) :: (Value.int (.ofNat (nat_lit 0)) (nat_lit 0)) :: (r (nat_lit 215)) :: (Value.int (.ofNat (nat_lit 159)) (nat_lit 0)) :: (Value.int (.ofNat (nat_lit 0)) (nat_lit 0)) :: (r (nat_lit 222)) :: (Value.int (.ofNat (nat_lit 164)) (nat_lit 0)) :: (Value.int (.ofNat (nat_lit 0)) (nat_lit 0)) :: (r (nat_lit 229)) :: (Value.int (.ofNat (nat_lit 170)) (nat_lit 0)) :: (Value.int (.ofNat (nat_lit 0)) (nat_lit 0)) :: (r (nat_lit 236)) :: (Value.int (.ofNat (nat_lit 180)) (nat_lit 0)) :: (Value.int (.ofNat (nat_lit 0)) (nat_lit 0)) :: (r (nat_lit 243)) :: (Value.int (.ofNat (nat_lit 183)) (nat_lit 0)) :: (Value.int (.ofNat (nat_lit 0)) (nat_lit 0)) :: (r (nat_lit 250)) :: (Value.int (.ofNat (nat_lit 187)) (nat_lit 0)) :: (Value.int (.ofNat (nat_lit 0)) (nat_lit 0)) :: (r (nat_lit 257)) :: (Value.int (.ofNat (nat_lit 191)) (nat_lit 0)) :: (Value.int (.ofNat (nat_lit 0)) (nat_lit 0)) :: (r (nat_lit 264)) :: (Value.int (.ofNat (nat_lit 195)) (nat_lit 0)) :: (Value.int (.ofNat (nat_lit 0)) (nat_lit 0)) :: (r (nat_lit 271)) :: (Value.int (.ofNat (nat_lit 199)) (nat_lit 0)) :: (Value.int (.ofNat (nat_lit 0)) (nat_lit 0)) :: (r (nat_lit 278)) :: (Value.int (.ofNat (nat_lit 205)) (nat_lit 0)) :: (Value.int (.ofNat (nat_lit 0)) (nat_lit 0)) :: (r (nat_lit 285)) :: (Value.int (.ofNat (nat_lit 207)) (nat_lit 0)) :: (Value.int (.ofNat (nat_lit 0)) (nat_lit 0)) :: (r (nat_lit 292)) :: (Value.int (.ofNat (nat_lit 218)) (nat_lit 0)) :: (Value.int (.ofNat (nat_lit 0)) (nat_lit 0)) :: (r (nat_lit 299)) :: (Value.int (.ofNat (nat_lit 226)) (nat_lit 0)) :: (Value.int (.ofNat (nat_lit 0)) (nat_lit 0)) :: (r (nat_lit 306)) :: (Value.int (.ofNat (nat_lit 233)) (nat_lit 0)) :: (Value.int (.ofNat (nat_lit 0)) (nat_lit 0)) :: (r (nat_lit 313)) :: (Value.int (.ofNat (nat_lit 255)) (nat_lit 0)) :: (Value.int (.ofNat (nat_lit 0)) (nat_lit 0)) :: (r (nat_lit 320)) :: (Value.int (.ofNat (nat_lit 257)) (nat_lit 0)) :: (Value.int (.ofNat (nat_lit 0)) (nat_lit 0)) :: (r (nat_lit 325)) :: (Value.int (.ofNat (nat_lit 262)) (nat_lit 0)) :: (Value.int (.ofNat (nat_lit 0)) (nat_lit 0)) :: (r (nat_lit 332)) :: [])
@[reducible] noncomputable def o327 (P : Params) : Obj := tp []
@[reducible] noncomputable def o328 (P : Params) : Obj := (Obj.mk (Value.type "builtin_function_or_method") none (Data.fields ⟨[(Value.builtin "type.__prepare__"), (Value.type "type")]⟩) ⟨[]⟩)
@[reducible] noncomputable def o329 (P : Params) : Obj := dc [(e P "__module__" (nat_lit 655) (v "ledgerspeak.reader" (nat_lit 629))), (e P "__qualname__" (nat_lit 657) (v "Reader" (nat_lit 656))), (e P "__firstlineno__" (nat_lit 659) (Value.int (.ofNat (nat_lit 262)) (nat_lit 658))), (e P "__init__" (nat_lit 669) (r (nat_lit 341))), (e P "peek" (nat_lit 678) (r (nat_lit 349))), (e P "is_done" (nat_lit 685) (r (nat_lit 356))), (e P "fault" (nat_lit 693) (r (nat_lit 363))), (e P "take" (nat_lit 701) (r (nat_lit 370))), (e P "is_kind" (nat_lit 712) (r (nat_lit 378))), (e P "is_word" (nat_lit 722) (r (nat_lit 385))), (e P "skip" (nat_lit 730) (r (nat_lit 392))), (e P "need" (nat_lit 738) (r (nat_lit 399))), (e P "one_of" (nat_lit 747) (r (nat_lit 406))), (e P "word" (nat_lit 754) (r (nat_lit 413))), (e P "is_name" (nat_lit 763) (r (nat_lit 421))), (e P "name" (nat_lit 770) (r (nat_lit 428))), (e P "names" (nat_lit 777) (r (nat_lit 435))), (e P "is_sign" (nat_lit 787) (r (nat_lit 443))), (e P "skip_sign" (nat_lit 795) (r (nat_lit 450))), (e P "need_sign" (nat_lit 803) (r (nat_lit 457))), (e P "is_number" (nat_lit 810) (r (nat_lit 464))), (e P "signed" (nat_lit 819) (r (nat_lit 471))), (e P "whole" (nat_lit 827) (r (nat_lit 478))), (e P "literal" (nat_lit 834) (r (nat_lit 485))), (e P "octets" (nat_lit 842) (r (nat_lit 492))), (e P "__static_attributes__" (nat_lit 846) (r (nat_lit 493)))] (nat_lit 26)
@[reducible] noncomputable def o330 (P : Params) : Obj := tp []
@[reducible] noncomputable def o331 (P : Params) : Obj := nf ((Value.int (.ofNat (nat_lit 264)) (nat_lit 0)) :: (Value.int (.ofNat (nat_lit 4)) (nat_lit 0)) :: (r (nat_lit 340)) :: (Value.int (.ofNat (nat_lit 269)) (nat_lit 0)) :: (Value.int (.ofNat (nat_lit 4)) (nat_lit 0)) :: (r (nat_lit 348)) :: (Value.int (.ofNat (nat_lit 274)) (nat_lit 0)) :: (Value.int (.ofNat (nat_lit 4)) (nat_lit 0)) :: (r (nat_lit 355)) :: (Value.int (.ofNat (nat_lit 277)) (nat_lit 0)) :: (Value.int (.ofNat (nat_lit 4)) (nat_lit 0)) :: (r (nat_lit 362)) :: (Value.int (.ofNat (nat_lit 282)) (nat_lit 0)) :: (Value.int (.ofNat (nat_lit 4)) (nat_lit 0)) :: (r (nat_lit 369)) :: (Value.int (.ofNat (nat_lit 289)) (nat_lit 0)) :: (Value.int (.ofNat (nat_lit 4)) (nat_lit 0)) :: (r (nat_lit 377)) :: (Value.int (.ofNat (nat_lit 293)) (nat_lit 0)) :: (Value.int (.ofNat (nat_lit 4)) (nat_lit 0)) :: (r (nat_lit 384)) :: (Value.int (.ofNat (nat_lit 301)) (nat_lit 0)) :: (Value.int (.ofNat (nat_lit 4)) (nat_lit 0)) :: (r (nat_lit 391)) :: (Value.int (.ofNat (nat_lit 307)) (nat_lit 0)) :: (Value.int (.ofNat (nat_lit 4)) (nat_lit 0)) :: (r (nat_lit 398)) :: (Value.int (.ofNat (nat_lit 311)) (nat_lit 0)) :: (Value.int (.ofNat (nat_lit 4)) (nat_lit 0)) :: (r (nat_lit 405)) :: (Value.int (.ofNat (nat_lit 317)) (nat_lit 0)) :: (Value.int (.ofNat (nat_lit 4)) (nat_lit 0)) :: (r (nat_lit 412)) :: (Value.int (.ofNat (nat_lit 322)) (nat_lit 0)) :: (Value.int (.ofNat (nat_lit 4)) (nat_lit 0)) :: (r (nat_lit 420)) :: (Value.int (.ofNat (nat_lit 325)) (nat_lit 0)) :: (Value.int (.ofNat (nat_lit 4)) (nat_lit 0)) :: (r (nat_lit 427)) :: (Value.int (.ofNat (nat_lit 330)) (nat_lit 0)) :: (Value.int (.ofNat (nat_lit 4)) (nat_lit 0)) :: (r (nat_lit 434)) :: (Value.int (.ofNat (nat_lit 333)) (nat_lit 0)) :: (Value.int (.ofNat (nat_lit 4)) (nat_lit 0)) :: (r (nat_lit 442)) :: (Value.int (.ofNat (nat_lit 336)) (nat_lit 0)) :: (Value.int (.ofNat (nat_lit 4)) (nat_lit 0)) :: (r (nat_lit 449)) :: (Value.int (.ofNat (nat_lit 342)) (nat_lit 0)) :: (Value.int (.ofNat (nat_lit 4)) (nat_lit 0)) :: (r (nat_lit 456)) :: (Value.int (.ofNat (nat_lit 346)) (nat_lit 0)) :: (Value.int (.ofNat (nat_lit 4)) (nat_lit 0)) :: (r (nat_lit 463)) :: (Value.int (.ofNat (nat_lit 351)) (nat_lit 0)) :: (Value.int (.ofNat (nat_lit 4)) (nat_lit 0)) :: (r (nat_lit 470)) :: (Value.int (.ofNat (nat_lit 360)) (nat_lit 0)) :: (Value.int (.ofNat (nat_lit 4)) (nat_lit 0)) :: (r (nat_lit 477)) :: (Value.int (.ofNat (nat_lit 369)) (nat_lit 0)) :: (Value.int (.ofNat (nat_lit 4)) (nat_lit 0)) :: (r (nat_lit 484)) :: (Value.int (.ofNat (nat_lit 374)) (nat_lit 0)) :: (Value.int (.ofNat (nat_lit 4)) (nat_lit 0)) :: (r (nat_lit 491)) :: [])
@[reducible] noncomputable def o332 (P : Params) : Obj := co [(v "Reader" (nat_lit 650)), (v "Reader" (nat_lit 651)), (v "/claim/cut.py" (nat_lit 652)), (Value.int (.ofNat (nat_lit 262)) (nat_lit 0)), (Value.int (.ofNat (nat_lit 0)) (nat_lit 0)), (Value.int (.ofNat (nat_lit 0)) (nat_lit 0)), (Value.int (.ofNat (nat_lit 0)) (nat_lit 0)), (Value.int (.ofNat (nat_lit 0)) (nat_lit 0)), (r (nat_lit 330)), (Value.bool Bool.false), (Value.int (.ofNat (nat_lit 181)) (nat_lit 0)), (r (nat_lit 331)), Value.none, Value.none, Value.none, Value.none, (Value.int (.ofNat (nat_lit 653)) (nat_lit 0)), (Value.int (.ofNat (nat_lit 262)) (nat_lit 0)), (v "/claim/cut.py" (nat_lit 654))]
@[reducible] noncomputable def o333 (P : Params) : Obj := (Obj.mk (Value.type "frame") none Data.plain ⟨[(some (r (nat_lit 332))), (some (r (nat_lit 3))), (some (r (nat_lit 329))), none, (some (v "ledgerspeak.reader" (nat_lit 629))), none, (some (r (nat_lit 0)))]⟩)
@[reducible] noncomputable def o334 (P : Params) : Obj := tp [(Value.int (.ofNat (nat_lit 0)) (nat_lit 660))]
@[reducible] noncomputable def o335 (P : Params) : Obj := tp []
@[reducible] noncomputable def o336 (P : Params) : Obj := nf []
@[reducible] noncomputable def o337 (P : Params) : Obj := tp [(v "self" (nat_lit 664)), (v "tokens" (nat_lit 665)), (v "at" (nat_lit 666))]
@[reducible] noncomputable def o338 (P : Params) : Obj := tp []
@[reducible] noncomputable def o339 (P : Params) : Obj := (Obj.mk Value.none none (Data.func (FuncData.mk (Str.ofString "__init__") (Str.ofString "Reader.__init__") (fP (nth (cB (st 54)) 0)) (FuncBody.stmts (fB (nth (cB (st 54)) 0))) (fS (nth (cB (st 54)) 0)) (nat_lit 0) [] Value.none Value.none Value.none Value.none none Value.none Value.none (nat_lit 0))) ⟨[]⟩)
@[reducible] noncomputable def o340 (P : Params) : Obj := co [(v "__init__" (nat_lit 661)), (v "Reader.__init__" (nat_lit 662)), (v "/claim/cut.py" (nat_lit 663)), (Value.int (.ofNat (nat_lit 264)) (nat_lit 0)), (Value.int (.ofNat (nat_lit 3)) (nat_lit 0)), (Value.int (.ofNat (nat_lit 0)) (nat_lit 0)), (Value.int (.ofNat (nat_lit 0)) (nat_lit 0)), (Value.int (.ofNat (nat_lit 3)) (nat_lit 0)), (r (nat_lit 335)), (Value.bool Bool.true), (Value.int (.ofNat (nat_lit 181)) (nat_lit 0)), (r (nat_lit 336)), Value.none, (r (nat_lit 337)), (r (nat_lit 338)), (r (nat_lit 339)), (Value.int (.ofNat (nat_lit 667)) (nat_lit 0)), (Value.int (.ofNat (nat_lit 264)) (nat_lit 0)), (v "/claim/cut.py" (nat_lit 668))]
@[reducible] noncomputable def o341 (P : Params) : Obj := (Obj.mk (Value.type "function") none (Data.func (FuncData.mk (Str.ofString "__init__") (Str.ofString "Reader.__init__") (fP (nth (cB (st 54)) 0)) (FuncBody.stmts (fB (nth (cB (st 54)) 0))) (fS (nth (cB (st 54)) 0)) (nat_lit 3) [] (r (nat_lit 334)) Value.none Value.none (v "ledgerspeak.reader" (nat_lit 629)) none (r (nat_lit 340)) Value.none (nat_lit 0))) ⟨[]⟩)
@[reducible] noncomputable def o342 (P : Params) : Obj := tp [(Value.int (.ofNat (nat_lit 0)) (nat_lit 670))]
@[reducible] noncomputable def o343 (P : Params) : Obj := tp []
@[reducible] noncomputable def o344 (P : Params) : Obj := nf []
@[reducible] noncomputable def o345 (P : Params) : Obj := tp [(v "self" (nat_lit 674)), (v "ahead" (nat_lit 675))]
@[reducible] noncomputable def o346 (P : Params) : Obj := tp []
@[reducible] noncomputable def o347 (P : Params) : Obj := (Obj.mk Value.none none (Data.func (FuncData.mk (Str.ofString "peek") (Str.ofString "Reader.peek") (fP (nth (cB (st 54)) 1)) (FuncBody.stmts (fB (nth (cB (st 54)) 1))) (fS (nth (cB (st 54)) 1)) (nat_lit 0) [] Value.none Value.none Value.none Value.none none Value.none Value.none (nat_lit 0))) ⟨[]⟩)
@[reducible] noncomputable def o348 (P : Params) : Obj := co [(v "peek" (nat_lit 671)), (v "Reader.peek" (nat_lit 672)), (v "/claim/cut.py" (nat_lit 673)), (Value.int (.ofNat (nat_lit 269)) (nat_lit 0)), (Value.int (.ofNat (nat_lit 2)) (nat_lit 0)), (Value.int (.ofNat (nat_lit 0)) (nat_lit 0)), (Value.int (.ofNat (nat_lit 0)) (nat_lit 0)), (Value.int (.ofNat (nat_lit 3)) (nat_lit 0)), (r (nat_lit 343)), (Value.bool Bool.true), (Value.int (.ofNat (nat_lit 181)) (nat_lit 0)), (r (nat_lit 344)), Value.none, (r (nat_lit 345)), (r (nat_lit 346)), (r (nat_lit 347)), (Value.int (.ofNat (nat_lit 676)) (nat_lit 0)), (Value.int (.ofNat (nat_lit 269)) (nat_lit 0)), (v "/claim/cut.py" (nat_lit 677))]
@[reducible] noncomputable def o349 (P : Params) : Obj := (Obj.mk (Value.type "function") none (Data.func (FuncData.mk (Str.ofString "peek") (Str.ofString "Reader.peek") (fP (nth (cB (st 54)) 1)) (FuncBody.stmts (fB (nth (cB (st 54)) 1))) (fS (nth (cB (st 54)) 1)) (nat_lit 3) [] (r (nat_lit 342)) Value.none Value.none (v "ledgerspeak.reader" (nat_lit 629)) none (r (nat_lit 348)) Value.none (nat_lit 0))) ⟨[]⟩)
@[reducible] noncomputable def o350 (P : Params) : Obj := tp []
@[reducible] noncomputable def o351 (P : Params) : Obj := nf []
@[reducible] noncomputable def o352 (P : Params) : Obj := tp [(v "self" (nat_lit 682))]
@[reducible] noncomputable def o353 (P : Params) : Obj := tp []
@[reducible] noncomputable def o354 (P : Params) : Obj := (Obj.mk Value.none none (Data.func (FuncData.mk (Str.ofString "is_done") (Str.ofString "Reader.is_done") (fP (nth (cB (st 54)) 2)) (FuncBody.stmts (fB (nth (cB (st 54)) 2))) (fS (nth (cB (st 54)) 13)) (nat_lit 0) [] Value.none Value.none Value.none Value.none none Value.none Value.none (nat_lit 0))) ⟨[]⟩)
@[reducible] noncomputable def o355 (P : Params) : Obj := co [(v "is_done" (nat_lit 679)), (v "Reader.is_done" (nat_lit 680)), (v "/claim/cut.py" (nat_lit 681)), (Value.int (.ofNat (nat_lit 274)) (nat_lit 0)), (Value.int (.ofNat (nat_lit 1)) (nat_lit 0)), (Value.int (.ofNat (nat_lit 0)) (nat_lit 0)), (Value.int (.ofNat (nat_lit 0)) (nat_lit 0)), (Value.int (.ofNat (nat_lit 3)) (nat_lit 0)), (r (nat_lit 350)), (Value.bool Bool.true), (Value.int (.ofNat (nat_lit 181)) (nat_lit 0)), (r (nat_lit 351)), Value.none, (r (nat_lit 352)), (r (nat_lit 353)), (r (nat_lit 354)), (Value.int (.ofNat (nat_lit 683)) (nat_lit 0)), (Value.int (.ofNat (nat_lit 274)) (nat_lit 0)), (v "/claim/cut.py" (nat_lit 684))]
@[reducible] noncomputable def o356 (P : Params) : Obj := (Obj.mk (Value.type "function") none (Data.func (FuncData.mk (Str.ofString "is_done") (Str.ofString "Reader.is_done") (fP (nth (cB (st 54)) 2)) (FuncBody.stmts (fB (nth (cB (st 54)) 2))) (fS (nth (cB (st 54)) 13)) (nat_lit 3) [] Value.none Value.none Value.none (v "ledgerspeak.reader" (nat_lit 629)) none (r (nat_lit 355)) Value.none (nat_lit 0))) ⟨[]⟩)
@[reducible] noncomputable def o357 (P : Params) : Obj := tp []
@[reducible] noncomputable def o358 (P : Params) : Obj := nf []
@[reducible] noncomputable def o359 (P : Params) : Obj := tp [(v "self" (nat_lit 689)), (v "what" (nat_lit 690))]
@[reducible] noncomputable def o360 (P : Params) : Obj := tp []
@[reducible] noncomputable def o361 (P : Params) : Obj := (Obj.mk Value.none none (Data.func (FuncData.mk (Str.ofString "fault") (Str.ofString "Reader.fault") (fP (nth (cB (st 54)) 3)) (FuncBody.stmts (fB (nth (cB (st 54)) 3))) (fS (nth (cB (st 54)) 3)) (nat_lit 0) [] Value.none Value.none Value.none Value.none none Value.none Value.none (nat_lit 0))) ⟨[]⟩)
@[reducible] noncomputable def o362 (P : Params) : Obj := co [(v "fault" (nat_lit 686)), (v "Reader.fault" (nat_lit 687)), (v "/claim/cut.py" (nat_lit 688)), (Value.int (.ofNat (nat_lit 277)) (nat_lit 0)), (Value.int (.ofNat (nat_lit 2)) (nat_lit 0)), (Value.int (.ofNat (nat_lit 0)) (nat_lit 0)), (Value.int (.ofNat (nat_lit 0)) (nat_lit 0)), (Value.int (.ofNat (nat_lit 3)) (nat_lit 0)), (r (nat_lit 357)), (Value.bool Bool.true), (Value.int (.ofNat (nat_lit 181)) (nat_lit 0)), (r (nat_lit 358)), Value.none, (r (nat_lit 359)), (r (nat_lit 360)), (r (nat_lit 361)), (Value.int (.ofNat (nat_lit 691)) (nat_lit 0)), (Value.int (.ofNat (nat_lit 277)) (nat_lit 0)), (v "/claim/cut.py" (nat_lit 692))]
@[reducible] noncomputable def o363 (P : Params) : Obj := (Obj.mk (Value.type "function") none (Data.func (FuncData.mk (Str.ofString "fault") (Str.ofString "Reader.fault") (fP (nth (cB (st 54)) 3)) (FuncBody.stmts (fB (nth (cB (st 54)) 3))) (fS (nth (cB (st 54)) 3)) (nat_lit 3) [] Value.none Value.none Value.none (v "ledgerspeak.reader" (nat_lit 629)) none (r (nat_lit 362)) Value.none (nat_lit 0))) ⟨[]⟩)
@[reducible] noncomputable def o364 (P : Params) : Obj := tp []
@[reducible] noncomputable def o365 (P : Params) : Obj := nf []
@[reducible] noncomputable def o366 (P : Params) : Obj := tp [(v "self" (nat_lit 697)), (v "token" (nat_lit 698))]
@[reducible] noncomputable def o367 (P : Params) : Obj := tp []
@[reducible] noncomputable def o368 (P : Params) : Obj := (Obj.mk Value.none none (Data.func (FuncData.mk (Str.ofString "take") (Str.ofString "Reader.take") (fP (nth (cB (st 54)) 4)) (FuncBody.stmts (fB (nth (cB (st 54)) 4))) (fS (nth (cB (st 54)) 4)) (nat_lit 0) [] Value.none Value.none Value.none Value.none none Value.none Value.none (nat_lit 0))) ⟨[]⟩)
@[reducible] noncomputable def o369 (P : Params) : Obj := co [(v "take" (nat_lit 694)), (v "Reader.take" (nat_lit 695)), (v "/claim/cut.py" (nat_lit 696)), (Value.int (.ofNat (nat_lit 282)) (nat_lit 0)), (Value.int (.ofNat (nat_lit 1)) (nat_lit 0)), (Value.int (.ofNat (nat_lit 0)) (nat_lit 0)), (Value.int (.ofNat (nat_lit 0)) (nat_lit 0)), (Value.int (.ofNat (nat_lit 3)) (nat_lit 0)), (r (nat_lit 364)), (Value.bool Bool.true), (Value.int (.ofNat (nat_lit 181)) (nat_lit 0)), (r (nat_lit 365)), Value.none, (r (nat_lit 366)), (r (nat_lit 367)), (r (nat_lit 368)), (Value.int (.ofNat (nat_lit 699)) (nat_lit 0)), (Value.int (.ofNat (nat_lit 282)) (nat_lit 0)), (v "/claim/cut.py" (nat_lit 700))]
@[reducible] noncomputable def o370 (P : Params) : Obj := (Obj.mk (Value.type "function") none (Data.func (FuncData.mk (Str.ofString "take") (Str.ofString "Reader.take") (fP (nth (cB (st 54)) 4)) (FuncBody.stmts (fB (nth (cB (st 54)) 4))) (fS (nth (cB (st 54)) 4)) (nat_lit 3) [] Value.none Value.none Value.none (v "ledgerspeak.reader" (nat_lit 629)) none (r (nat_lit 369)) Value.none (nat_lit 0))) ⟨[]⟩)
@[reducible] noncomputable def o371 (P : Params) : Obj := tp [(Value.int (.ofNat (nat_lit 0)) (nat_lit 702))]
@[reducible] noncomputable def o372 (P : Params) : Obj := tp []
@[reducible] noncomputable def o373 (P : Params) : Obj := nf []
@[reducible] noncomputable def o374 (P : Params) : Obj := tp [(v "self" (nat_lit 706)), (v "kind" (nat_lit 707)), (v "ahead" (nat_lit 708)), (v "token" (nat_lit 709))]
@[reducible] noncomputable def o375 (P : Params) : Obj := tp []
@[reducible] noncomputable def o376 (P : Params) : Obj := (Obj.mk Value.none none (Data.func (FuncData.mk (Str.ofString "is_kind") (Str.ofString "Reader.is_kind") (fP (nth (cB (st 54)) 5)) (FuncBody.stmts (fB (nth (cB (st 54)) 5))) (fS (nth (cB (st 54)) 5)) (nat_lit 0) [] Value.none Value.none Value.none Value.none none Value.none Value.none (nat_lit 0))) ⟨[]⟩)
@[reducible] noncomputable def o377 (P : Params) : Obj := co [(v "is_kind" (nat_lit 703)), (v "Reader.is_kind" (nat_lit 704)), (v "/claim/cut.py" (nat_lit 705)), (Value.int (.ofNat (nat_lit 289)) (nat_lit 0)), (Value.int (.ofNat (nat_lit 3)) (nat_lit 0)), (Value.int (.ofNat (nat_lit 0)) (nat_lit 0)), (Value.int (.ofNat (nat_lit 0)) (nat_lit 0)), (Value.int (.ofNat (nat_lit 3)) (nat_lit 0)), (r (nat_lit 372)), (Value.bool Bool.true), (Value.int (.ofNat (nat_lit 181)) (nat_lit 0)), (r (nat_lit 373)), Value.none, (r (nat_lit 374)), (r (nat_lit 375)), (r (nat_lit 376)), (Value.int (.ofNat (nat_lit 710)) (nat_lit 0)), (Value.int (.ofNat (nat_lit 289)) (nat_lit 0)), (v "/claim/cut.py" (nat_lit 711))]
@[reducible] noncomputable def o378 (P : Params) : Obj := (Obj.mk (Value.type "function") none (Data.func (FuncData.mk (Str.ofString "is_kind") (Str.ofString "Reader.is_kind") (fP (nth (cB (st 54)) 5)) (FuncBody.stmts (fB (nth (cB (st 54)) 5))) (fS (nth (cB (st 54)) 5)) (nat_lit 3) [] (r (nat_lit 371)) Value.none Value.none (v "ledgerspeak.reader" (nat_lit 629)) none (r (nat_lit 377)) Value.none (nat_lit 0))) ⟨[]⟩)
@[reducible] noncomputable def o379 (P : Params) : Obj := tp []
@[reducible] noncomputable def o380 (P : Params) : Obj := nf []
@[reducible] noncomputable def o381 (P : Params) : Obj := tp [(v "self" (nat_lit 716)), (v "words" (nat_lit 717)), (v "ahead" (nat_lit 718)), (v "word" (nat_lit 719))]
@[reducible] noncomputable def o382 (P : Params) : Obj := tp []
@[reducible] noncomputable def o383 (P : Params) : Obj := (Obj.mk Value.none none (Data.func (FuncData.mk (Str.ofString "is_word") (Str.ofString "Reader.is_word") (fP (nth (cB (st 54)) 6)) (FuncBody.stmts (fB (nth (cB (st 54)) 6))) (fS (nth (cB (st 54)) 6)) (nat_lit 0) [] Value.none Value.none Value.none Value.none none Value.none Value.none (nat_lit 0))) ⟨[]⟩)
@[reducible] noncomputable def o384 (P : Params) : Obj := co [(v "is_word" (nat_lit 713)), (v "Reader.is_word" (nat_lit 714)), (v "/claim/cut.py" (nat_lit 715)), (Value.int (.ofNat (nat_lit 293)) (nat_lit 0)), (Value.int (.ofNat (nat_lit 2)) (nat_lit 0)), (Value.int (.ofNat (nat_lit 0)) (nat_lit 0)), (Value.int (.ofNat (nat_lit 0)) (nat_lit 0)), (Value.int (.ofNat (nat_lit 3)) (nat_lit 0)), (r (nat_lit 379)), (Value.bool Bool.true), (Value.int (.ofNat (nat_lit 181)) (nat_lit 0)), (r (nat_lit 380)), Value.none, (r (nat_lit 381)), (r (nat_lit 382)), (r (nat_lit 383)), (Value.int (.ofNat (nat_lit 720)) (nat_lit 0)), (Value.int (.ofNat (nat_lit 293)) (nat_lit 0)), (v "/claim/cut.py" (nat_lit 721))]
@[reducible] noncomputable def o385 (P : Params) : Obj := (Obj.mk (Value.type "function") none (Data.func (FuncData.mk (Str.ofString "is_word") (Str.ofString "Reader.is_word") (fP (nth (cB (st 54)) 6)) (FuncBody.stmts (fB (nth (cB (st 54)) 6))) (fS (nth (cB (st 54)) 6)) (nat_lit 3) [] Value.none Value.none Value.none (v "ledgerspeak.reader" (nat_lit 629)) none (r (nat_lit 384)) Value.none (nat_lit 0))) ⟨[]⟩)
@[reducible] noncomputable def o386 (P : Params) : Obj := tp []
@[reducible] noncomputable def o387 (P : Params) : Obj := nf []
@[reducible] noncomputable def o388 (P : Params) : Obj := tp [(v "self" (nat_lit 726)), (v "words" (nat_lit 727))]
@[reducible] noncomputable def o389 (P : Params) : Obj := tp []
@[reducible] noncomputable def o390 (P : Params) : Obj := (Obj.mk Value.none none (Data.func (FuncData.mk (Str.ofString "skip") (Str.ofString "Reader.skip") (fP (nth (cB (st 54)) 7)) (FuncBody.stmts (fB (nth (cB (st 54)) 7))) (fS (nth (cB (st 54)) 7)) (nat_lit 0) [] Value.none Value.none Value.none Value.none none Value.none Value.none (nat_lit 0))) ⟨[]⟩)
@[reducible] noncomputable def o391 (P : Params) : Obj := co [(v "skip" (nat_lit 723)), (v "Reader.skip" (nat_lit 724)), (v "/claim/cut.py" (nat_lit 725)), (Value.int (.ofNat (nat_lit 301)) (nat_lit 0)), (Value.int (.ofNat (nat_lit 2)) (nat_lit 0)), (Value.int (.ofNat (nat_lit 0)) (nat_lit 0)), (Value.int (.ofNat (nat_lit 0)) (nat_lit 0)), (Value.int (.ofNat (nat_lit 3)) (nat_lit 0)), (r (nat_lit 386)), (Value.bool Bool.true), (Value.int (.ofNat (nat_lit 181)) (nat_lit 0)), (r (nat_lit 387)), Value.none, (r (nat_lit 388)), (r (nat_lit 389)), (r (nat_lit 390)), (Value.int (.ofNat (nat_lit 728)) (nat_lit 0)), (Value.int (.ofNat (nat_lit 301)) (nat_lit 0)), (v "/claim/cut.py" (nat_lit 729))]
@[reducible] noncomputable def o392 (P : Params) : Obj := (Obj.mk (Value.type "function") none (Data.func (FuncData.mk (Str.ofString "skip") (Str.ofString "Reader.skip") (fP (nth (cB (st 54)) 7)) (FuncBody.stmts (fB (nth (cB (st 54)) 7))) (fS (nth (cB (st 54)) 7)) (nat_lit 3) [] Value.none Value.none Value.none (v "ledgerspeak.reader" (nat_lit 629)) none (r (nat_lit 391)) Value.none (nat_lit 0))) ⟨[]⟩)
@[reducible] noncomputable def o393 (P : Params) : Obj := tp []
@[reducible] noncomputable def o394 (P : Params) : Obj := nf []
@[reducible] noncomputable def o395 (P : Params) : Obj := tp [(v "self" (nat_lit 734)), (v "words" (nat_lit 735))]
@[reducible] noncomputable def o396 (P : Params) : Obj := tp []
@[reducible] noncomputable def o397 (P : Params) : Obj := (Obj.mk Value.none none (Data.func (FuncData.mk (Str.ofString "need") (Str.ofString "Reader.need") (fP (nth (cB (st 54)) 8)) (FuncBody.stmts (fB (nth (cB (st 54)) 8))) (fS (nth (cB (st 54)) 8)) (nat_lit 0) [] Value.none Value.none Value.none Value.none none Value.none Value.none (nat_lit 0))) ⟨[]⟩)
@[reducible] noncomputable def o398 (P : Params) : Obj := co [(v "need" (nat_lit 731)), (v "Reader.need" (nat_lit 732)), (v "/claim/cut.py" (nat_lit 733)), (Value.int (.ofNat (nat_lit 307)) (nat_lit 0)), (Value.int (.ofNat (nat_lit 2)) (nat_lit 0)), (Value.int (.ofNat (nat_lit 0)) (nat_lit 0)), (Value.int (.ofNat (nat_lit 0)) (nat_lit 0)), (Value.int (.ofNat (nat_lit 3)) (nat_lit 0)), (r (nat_lit 393)), (Value.bool Bool.true), (Value.int (.ofNat (nat_lit 181)) (nat_lit 0)), (r (nat_lit 394)), Value.none, (r (nat_lit 395)), (r (nat_lit 396)), (r (nat_lit 397)), (Value.int (.ofNat (nat_lit 736)) (nat_lit 0)), (Value.int (.ofNat (nat_lit 307)) (nat_lit 0)), (v "/claim/cut.py" (nat_lit 737))]
@[reducible] noncomputable def o399 (P : Params) : Obj := (Obj.mk (Value.type "function") none (Data.func (FuncData.mk (Str.ofString "need") (Str.ofString "Reader.need") (fP (nth (cB (st 54)) 8)) (FuncBody.stmts (fB (nth (cB (st 54)) 8))) (fS (nth (cB (st 54)) 8)) (nat_lit 3) [] Value.none Value.none Value.none (v "ledgerspeak.reader" (nat_lit 629)) none (r (nat_lit 398)) Value.none (nat_lit 0))) ⟨[]⟩)
@[reducible] noncomputable def o400 (P : Params) : Obj := tp []
@[reducible] noncomputable def o401 (P : Params) : Obj := nf []
@[reducible] noncomputable def o402 (P : Params) : Obj := tp [(v "self" (nat_lit 742)), (v "words" (nat_lit 743)), (v "word" (nat_lit 744))]
@[reducible] noncomputable def o403 (P : Params) : Obj := tp []
@[reducible] noncomputable def o404 (P : Params) : Obj := (Obj.mk Value.none none (Data.func (FuncData.mk (Str.ofString "one_of") (Str.ofString "Reader.one_of") (fP (nth (cB (st 54)) 9)) (FuncBody.stmts (fB (nth (cB (st 54)) 9))) (fS (nth (cB (st 54)) 9)) (nat_lit 0) [] Value.none Value.none Value.none Value.none none Value.none Value.none (nat_lit 0))) ⟨[]⟩)
@[reducible] noncomputable def o405 (P : Params) : Obj := co [(v "one_of" (nat_lit 739)), (v "Reader.one_of" (nat_lit 740)), (v "/claim/cut.py" (nat_lit 741)), (Value.int (.ofNat (nat_lit 311)) (nat_lit 0)), (Value.int (.ofNat (nat_lit 2)) (nat_lit 0)), (Value.int (.ofNat (nat_lit 0)) (nat_lit 0)), (Value.int (.ofNat (nat_lit 0)) (nat_lit 0)), (Value.int (.ofNat (nat_lit 3)) (nat_lit 0)), (r (nat_lit 400)), (Value.bool Bool.true), (Value.int (.ofNat (nat_lit 181)) (nat_lit 0)), (r (nat_lit 401)), Value.none, (r (nat_lit 402)), (r (nat_lit 403)), (r (nat_lit 404)), (Value.int (.ofNat (nat_lit 745)) (nat_lit 0)), (Value.int (.ofNat (nat_lit 311)) (nat_lit 0)), (v "/claim/cut.py" (nat_lit 746))]
@[reducible] noncomputable def o406 (P : Params) : Obj := (Obj.mk (Value.type "function") none (Data.func (FuncData.mk (Str.ofString "one_of") (Str.ofString "Reader.one_of") (fP (nth (cB (st 54)) 9)) (FuncBody.stmts (fB (nth (cB (st 54)) 9))) (fS (nth (cB (st 54)) 9)) (nat_lit 3) [] Value.none Value.none Value.none (v "ledgerspeak.reader" (nat_lit 629)) none (r (nat_lit 405)) Value.none (nat_lit 0))) ⟨[]⟩)
@[reducible] noncomputable def o407 (P : Params) : Obj := tp []
@[reducible] noncomputable def o408 (P : Params) : Obj := nf []
@[reducible] noncomputable def o409 (P : Params) : Obj := tp [(v "self" (nat_lit 751))]
@[reducible] noncomputable def o410 (P : Params) : Obj := tp []
@[reducible] noncomputable def o411 (P : Params) : Obj := (Obj.mk Value.none none (Data.func (FuncData.mk (Str.ofString "word") (Str.ofString "Reader.word") (fP (nth (cB (st 54)) 10)) (FuncBody.stmts (fB (nth (cB (st 54)) 10))) (fS (nth (cB (st 56)) 1)) (nat_lit 0) [] Value.none Value.none Value.none Value.none none Value.none Value.none (nat_lit 0))) ⟨[]⟩)
@[reducible] noncomputable def o412 (P : Params) : Obj := co [(v "word" (nat_lit 748)), (v "Reader.word" (nat_lit 749)), (v "/claim/cut.py" (nat_lit 750)), (Value.int (.ofNat (nat_lit 317)) (nat_lit 0)), (Value.int (.ofNat (nat_lit 1)) (nat_lit 0)), (Value.int (.ofNat (nat_lit 0)) (nat_lit 0)), (Value.int (.ofNat (nat_lit 0)) (nat_lit 0)), (Value.int (.ofNat (nat_lit 3)) (nat_lit 0)), (r (nat_lit 407)), (Value.bool Bool.true), (Value.int (.ofNat (nat_lit 181)) (nat_lit 0)), (r (nat_lit 408)), Value.none, (r (nat_lit 409)), (r (nat_lit 410)), (r (nat_lit 411)), (Value.int (.ofNat (nat_lit 752)) (nat_lit 0)), (Value.int (.ofNat (nat_lit 317)) (nat_lit 0)), (v "/claim/cut.py" (nat_lit 753))]
@[reducible] noncomputable def o413 (P : Params) : Obj := (Obj.mk (Value.type "function") none (Data.func (FuncData.mk (Str.ofString "word") (Str.ofString "Reader.word") (fP (nth (cB (st 54)) 10)) (FuncBody.stmts (fB (nth (cB (st 54)) 10))) (fS (nth (cB (st 56)) 1)) (nat_lit 3) [] Value.none Value.none Value.none (v "ledgerspeak.reader" (nat_lit 629)) none (r (nat_lit 412)) Value.none (nat_lit 0))) ⟨[]⟩)
@[reducible] noncomputable def o414 (P : Params) : Obj := tp [(Value.int (.ofNat (nat_lit 0)) (nat_lit 755))]
@[reducible] noncomputable def o415 (P : Params) : Obj := tp []
@[reducible] noncomputable def o416 (P : Params) : Obj := nf []
@[reducible] noncomputable def o417 (P : Params) : Obj := tp [(v "self" (nat_lit 759)), (v "ahead" (nat_lit 760))]
@[reducible] noncomputable def o418 (P : Params) : Obj := tp []
@[reducible] noncomputable def o419 (P : Params) : Obj := (Obj.mk Value.none none (Data.func (FuncData.mk (Str.ofString "is_name") (Str.ofString "Reader.is_name") (fP (nth (cB (st 54)) 11)) (FuncBody.stmts (fB (nth (cB (st 54)) 11))) (fS (nth (cB (st 54)) 11)) (nat_lit 0) [] Value.none Value.none Value.none Value.none none Value.none Value.none (nat_lit 0))) ⟨[]⟩)
@[reducible] noncomputable def o420 (P : Params) : Obj := co [(v "is_name" (nat_lit 756)), (v "Reader.is_name" (nat_lit 757)), (v "/claim/cut.py" (nat_lit 758)), (Value.int (.ofNat (nat_lit 322)) (nat_lit 0)), (Value.int (.ofNat (nat_lit 2)) (nat_lit 0)), (Value.int (.ofNat (nat_lit 0)) (nat_lit 0)), (Value.int (.ofNat (nat_lit 0)) (nat_lit 0)), (Value.int (.ofNat (nat_lit 3)) (nat_lit 0)), (r (nat_lit 415)), (Value.bool Bool.true), (Value.int (.ofNat (nat_lit 181)) (nat_lit 0)), (r (nat_lit 416)), Value.none, (r (nat_lit 417)), (r (nat_lit 418)), (r (nat_lit 419)), (Value.int (.ofNat (nat_lit 761)) (nat_lit 0)), (Value.int (.ofNat (nat_lit 322)) (nat_lit 0)), (v "/claim/cut.py" (nat_lit 762))]
@[reducible] noncomputable def o421 (P : Params) : Obj := (Obj.mk (Value.type "function") none (Data.func (FuncData.mk (Str.ofString "is_name") (Str.ofString "Reader.is_name") (fP (nth (cB (st 54)) 11)) (FuncBody.stmts (fB (nth (cB (st 54)) 11))) (fS (nth (cB (st 54)) 11)) (nat_lit 3) [] (r (nat_lit 414)) Value.none Value.none (v "ledgerspeak.reader" (nat_lit 629)) none (r (nat_lit 420)) Value.none (nat_lit 0))) ⟨[]⟩)
@[reducible] noncomputable def o422 (P : Params) : Obj := tp []
@[reducible] noncomputable def o423 (P : Params) : Obj := nf []
@[reducible] noncomputable def o424 (P : Params) : Obj := tp [(v "self" (nat_lit 767))]
@[reducible] noncomputable def o425 (P : Params) : Obj := tp []
@[reducible] noncomputable def o426 (P : Params) : Obj := (Obj.mk Value.none none (Data.func (FuncData.mk (Str.ofString "name") (Str.ofString "Reader.name") (fP (nth (cB (st 54)) 12)) (FuncBody.stmts (fB (nth (cB (st 54)) 12))) (fS (nth (cB (st 56)) 1)) (nat_lit 0) [] Value.none Value.none Value.none Value.none none Value.none Value.none (nat_lit 0))) ⟨[]⟩)
@[reducible] noncomputable def o427 (P : Params) : Obj := co [(v "name" (nat_lit 764)), (v "Reader.name" (nat_lit 765)), (v "/claim/cut.py" (nat_lit 766)), (Value.int (.ofNat (nat_lit 325)) (nat_lit 0)), (Value.int (.ofNat (nat_lit 1)) (nat_lit 0)), (Value.int (.ofNat (nat_lit 0)) (nat_lit 0)), (Value.int (.ofNat (nat_lit 0)) (nat_lit 0)), (Value.int (.ofNat (nat_lit 3)) (nat_lit 0)), (r (nat_lit 422)), (Value.bool Bool.true), (Value.int (.ofNat (nat_lit 181)) (nat_lit 0)), (r (nat_lit 423)), Value.none, (r (nat_lit 424)), (r (nat_lit 425)), (r (nat_lit 426)), (Value.int (.ofNat (nat_lit 768)) (nat_lit 0)), (Value.int (.ofNat (nat_lit 325)) (nat_lit 0)), (v "/claim/cut.py" (nat_lit 769))]
@[reducible] noncomputable def o428 (P : Params) : Obj := (Obj.mk (Value.type "function") none (Data.func (FuncData.mk (Str.ofString "name") (Str.ofString "Reader.name") (fP (nth (cB (st 54)) 12)) (FuncBody.stmts (fB (nth (cB (st 54)) 12))) (fS (nth (cB (st 56)) 1)) (nat_lit 3) [] Value.none Value.none Value.none (v "ledgerspeak.reader" (nat_lit 629)) none (r (nat_lit 427)) Value.none (nat_lit 0))) ⟨[]⟩)
@[reducible] noncomputable def o429 (P : Params) : Obj := tp []
@[reducible] noncomputable def o430 (P : Params) : Obj := nf []
@[reducible] noncomputable def o431 (P : Params) : Obj := tp [(v "self" (nat_lit 774))]
@[reducible] noncomputable def o432 (P : Params) : Obj := tp []
@[reducible] noncomputable def o433 (P : Params) : Obj := (Obj.mk Value.none none (Data.func (FuncData.mk (Str.ofString "names") (Str.ofString "Reader.names") (fP (nth (cB (st 54)) 13)) (FuncBody.stmts (fB (nth (cB (st 54)) 13))) (fS (nth (cB (st 54)) 13)) (nat_lit 0) [] Value.none Value.none Value.none Value.none none Value.none Value.none (nat_lit 0))) ⟨[]⟩)
@[reducible] noncomputable def o434 (P : Params) : Obj := co [(v "names" (nat_lit 771)), (v "Reader.names" (nat_lit 772)), (v "/claim/cut.py" (nat_lit 773)), (Value.int (.ofNat (nat_lit 330)) (nat_lit 0)), (Value.int (.ofNat (nat_lit 1)) (nat_lit 0)), (Value.int (.ofNat (nat_lit 0)) (nat_lit 0)), (Value.int (.ofNat (nat_lit 0)) (nat_lit 0)), (Value.int (.ofNat (nat_lit 3)) (nat_lit 0)), (r (nat_lit 429)), (Value.bool Bool.true), (Value.int (.ofNat (nat_lit 181)) (nat_lit 0)), (r (nat_lit 430)), Value.none, (r (nat_lit 431)), (r (nat_lit 432)), (r (nat_lit 433)), (Value.int (.ofNat (nat_lit 775)) (nat_lit 0)), (Value.int (.ofNat (nat_lit 330)) (nat_lit 0)), (v "/claim/cut.py" (nat_lit 776))]
@[reducible] noncomputable def o435 (P : Params) : Obj := (Obj.mk (Value.type "function") none (Data.func (FuncData.mk (Str.ofString "names") (Str.ofString "Reader.names") (fP (nth (cB (st 54)) 13)) (FuncBody.stmts (fB (nth (cB (st 54)) 13))) (fS (nth (cB (st 54)) 13)) (nat_lit 3) [] Value.none Value.none Value.none (v "ledgerspeak.reader" (nat_lit 629)) none (r (nat_lit 434)) Value.none (nat_lit 0))) ⟨[]⟩)
@[reducible] noncomputable def o436 (P : Params) : Obj := tp [(Value.int (.ofNat (nat_lit 0)) (nat_lit 778))]
@[reducible] noncomputable def o437 (P : Params) : Obj := tp []
@[reducible] noncomputable def o438 (P : Params) : Obj := nf []
@[reducible] noncomputable def o439 (P : Params) : Obj := tp [(v "self" (nat_lit 782)), (v "sign" (nat_lit 783)), (v "ahead" (nat_lit 784))]
@[reducible] noncomputable def o440 (P : Params) : Obj := tp []
@[reducible] noncomputable def o441 (P : Params) : Obj := (Obj.mk Value.none none (Data.func (FuncData.mk (Str.ofString "is_sign") (Str.ofString "Reader.is_sign") (fP (nth (cB (st 54)) 14)) (FuncBody.stmts (fB (nth (cB (st 54)) 14))) (fS (nth (cB (st 54)) 14)) (nat_lit 0) [] Value.none Value.none Value.none Value.none none Value.none Value.none (nat_lit 0))) ⟨[]⟩)
@[reducible] noncomputable def o442 (P : Params) : Obj := co [(v "is_sign" (nat_lit 779)), (v "Reader.is_sign" (nat_lit 780)), (v "/claim/cut.py" (nat_lit 781)), (Value.int (.ofNat (nat_lit 333)) (nat_lit 0)), (Value.int (.ofNat (nat_lit 3)) (nat_lit 0)), (Value.int (.ofNat (nat_lit 0)) (nat_lit 0)), (Value.int (.ofNat (nat_lit 0)) (nat_lit 0)), (Value.int (.ofNat (nat_lit 3)) (nat_lit 0)), (r (nat_lit 437)), (Value.bool Bool.true), (Value.int (.ofNat (nat_lit 181)) (nat_lit 0)), (r (nat_lit 438)), Value.none, (r (nat_lit 439)), (r (nat_lit 440)), (r (nat_lit 441)), (Value.int (.ofNat (nat_lit 785)) (nat_lit 0)), (Value.int (.ofNat (nat_lit 333)) (nat_lit 0)), (v "/claim/cut.py" (nat_lit 786))]
@[reducible] noncomputable def o443 (P : Params) : Obj := (Obj.mk (Value.type "function") none (Data.func (FuncData.mk (Str.ofString "is_sign") (Str.ofString "Reader.is_sign") (fP (nth (cB (st 54)) 14)) (FuncBody.stmts (fB (nth (cB (st 54)) 14))) (fS (nth (cB (st 54)) 14)) (nat_lit 3) [] (r (nat_lit 436)) Value.none Value.none (v "ledgerspeak.reader" (nat_lit 629)) none (r (nat_lit 442)) Value.none (nat_lit 0))) ⟨[]⟩)
@[reducible] noncomputable def o444 (P : Params) : Obj := tp []
@[reducible] noncomputable def o445 (P : Params) : Obj := nf []
@[reducible] noncomputable def o446 (P : Params) : Obj := tp [(v "self" (nat_lit 791)), (v "sign" (nat_lit 792))]
@[reducible] noncomputable def o447 (P : Params) : Obj := tp []
@[reducible] noncomputable def o448 (P : Params) : Obj := (Obj.mk Value.none none (Data.func (FuncData.mk (Str.ofString "skip_sign") (Str.ofString "Reader.skip_sign") (fP (nth (cB (st 54)) 15)) (FuncBody.stmts (fB (nth (cB (st 54)) 15))) (fS (nth (cB (st 54)) 16)) (nat_lit 0) [] Value.none Value.none Value.none Value.none none Value.none Value.none (nat_lit 0))) ⟨[]⟩)
@[reducible] noncomputable def o449 (P : Params) : Obj := co [(v "skip_sign" (nat_lit 788)), (v "Reader.skip_sign" (nat_lit 789)), (v "/claim/cut.py" (nat_lit 790)), (Value.int (.ofNat (nat_lit 336)) (nat_lit 0)), (Value.int (.ofNat (nat_lit 2)) (nat_lit 0)), (Value.int (.ofNat (nat_lit 0)) (nat_lit 0)), (Value.int (.ofNat (nat_lit 0)) (nat_lit 0)), (Value.int (.ofNat (nat_lit 3)) (nat_lit 0)), (r (nat_lit 444)), (Value.bool Bool.true), (Value.int (.ofNat (nat_lit 181)) (nat_lit 0)), (r (nat_lit 445)), Value.none, (r (nat_lit 446)), (r (nat_lit 447)), (r (nat_lit 448)), (Value.int (.ofNat (nat_lit 793)) (nat_lit 0)), (Value.int (.ofNat (nat_lit 336)) (nat_lit 0)), (v "/claim/cut.py" (nat_lit 794))]
@[reducible] noncomputable def o450 (P : Params) : Obj := (Obj.mk (Value.type "function") none (Data.func (FuncData.mk (Str.ofString "skip_sign") (Str.ofString "Reader.skip_sign") (fP (nth (cB (st 54)) 15)) (FuncBody.stmts (fB (nth (cB (st 54)) 15))) (fS (nth (cB (st 54)) 16)) (nat_lit 3) [] Value.none Value.none Value.none (v "ledgerspeak.reader" (nat_lit 629)) none (r (nat_lit 449)) Value.none (nat_lit 0))) ⟨[]⟩)
@[reducible] noncomputable def o451 (P : Params) : Obj := tp []
@[reducible] noncomputable def o452 (P : Params) : Obj := nf []
@[reducible] noncomputable def o453 (P : Params) : Obj := tp [(v "self" (nat_lit 799)), (v "sign" (nat_lit 800))]
@[reducible] noncomputable def o454 (P : Params) : Obj := tp []
@[reducible] noncomputable def o455 (P : Params) : Obj := (Obj.mk Value.none none (Data.func (FuncData.mk (Str.ofString "need_sign") (Str.ofString "Reader.need_sign") (fP (nth (cB (st 54)) 16)) (FuncBody.stmts (fB (nth (cB (st 54)) 16))) (fS (nth (cB (st 54)) 16)) (nat_lit 0) [] Value.none Value.none Value.none Value.none none Value.none Value.none (nat_lit 0))) ⟨[]⟩)
@[reducible] noncomputable def o456 (P : Params) : Obj := co [(v "need_sign" (nat_lit 796)), (v "Reader.need_sign" (nat_lit 797)), (v "/claim/cut.py" (nat_lit 798)), (Value.int (.ofNat (nat_lit 342)) (nat_lit 0)), (Value.int (.ofNat (nat_lit 2)) (nat_lit 0)), (Value.int (.ofNat (nat_lit 0)) (nat_lit 0)), (Value.int (.ofNat (nat_lit 0)) (nat_lit 0)), (Value.int (.ofNat (nat_lit 3)) (nat_lit 0)), (r (nat_lit 451)), (Value.bool Bool.true), (Value.int (.ofNat (nat_lit 181)) (nat_lit 0)), (r (nat_lit 452)), Value.none, (r (nat_lit 453)), (r (nat_lit 454)), (r (nat_lit 455)), (Value.int (.ofNat (nat_lit 801)) (nat_lit 0)), (Value.int (.ofNat (nat_lit 342)) (nat_lit 0)), (v "/claim/cut.py" (nat_lit 802))]
@[reducible] noncomputable def o457 (P : Params) : Obj := (Obj.mk (Value.type "function") none (Data.func (FuncData.mk (Str.ofString "need_sign") (Str.ofString "Reader.need_sign") (fP (nth (cB (st 54)) 16)) (FuncBody.stmts (fB (nth (cB (st 54)) 16))) (fS (nth (cB (st 54)) 16)) (nat_lit 3) [] Value.none Value.none Value.none (v "ledgerspeak.reader" (nat_lit 629)) none (r (nat_lit 456)) Value.none (nat_lit 0))) ⟨[]⟩)
@[reducible] noncomputable def o458 (P : Params) : Obj := tp []
@[reducible] noncomputable def o459 (P : Params) : Obj := nf []
@[reducible] noncomputable def o460 (P : Params) : Obj := tp [(v "self" (nat_lit 807))]
@[reducible] noncomputable def o461 (P : Params) : Obj := tp []
@[reducible] noncomputable def o462 (P : Params) : Obj := (Obj.mk Value.none none (Data.func (FuncData.mk (Str.ofString "is_number") (Str.ofString "Reader.is_number") (fP (nth (cB (st 54)) 17)) (FuncBody.stmts (fB (nth (cB (st 54)) 17))) (fS (nth (cB (st 56)) 1)) (nat_lit 0) [] Value.none Value.none Value.none Value.none none Value.none Value.none (nat_lit 0))) ⟨[]⟩)
@[reducible] noncomputable def o463 (P : Params) : Obj := co [(v "is_number" (nat_lit 804)), (v "Reader.is_number" (nat_lit 805)), (v "/claim/cut.py" (nat_lit 806)), (Value.int (.ofNat (nat_lit 346)) (nat_lit 0)), (Value.int (.ofNat (nat_lit 1)) (nat_lit 0)), (Value.int (.ofNat (nat_lit 0)) (nat_lit 0)), (Value.int (.ofNat (nat_lit 0)) (nat_lit 0)), (Value.int (.ofNat (nat_lit 3)) (nat_lit 0)), (r (nat_lit 458)), (Value.bool Bool.true), (Value.int (.ofNat (nat_lit 181)) (nat_lit 0)), (r (nat_lit 459)), Value.none, (r (nat_lit 460)), (r (nat_lit 461)), (r (nat_lit 462)), (Value.int (.ofNat (nat_lit 808)) (nat_lit 0)), (Value.int (.ofNat (nat_lit 346)) (nat_lit 0)), (v "/claim/cut.py" (nat_lit 809))]
@[reducible] noncomputable def o464 (P : Params) : Obj := (Obj.mk (Value.type "function") none (Data.func (FuncData.mk (Str.ofString "is_number") (Str.ofString "Reader.is_number") (fP (nth (cB (st 54)) 17)) (FuncBody.stmts (fB (nth (cB (st 54)) 17))) (fS (nth (cB (st 56)) 1)) (nat_lit 3) [] Value.none Value.none Value.none (v "ledgerspeak.reader" (nat_lit 629)) none (r (nat_lit 463)) Value.none (nat_lit 0))) ⟨[]⟩)
@[reducible] noncomputable def o465 (P : Params) : Obj := tp []
@[reducible] noncomputable def o466 (P : Params) : Obj := nf []
@[reducible] noncomputable def o467 (P : Params) : Obj := tp [(v "self" (nat_lit 814)), (v "is_below" (nat_lit 815)), (v "found" (nat_lit 816))]
@[reducible] noncomputable def o468 (P : Params) : Obj := tp []
@[reducible] noncomputable def o469 (P : Params) : Obj := (Obj.mk Value.none none (Data.func (FuncData.mk (Str.ofString "signed") (Str.ofString "Reader.signed") (fP (nth (cB (st 54)) 18)) (FuncBody.stmts (fB (nth (cB (st 54)) 18))) (fS (nth (cB (st 54)) 18)) (nat_lit 0) [] Value.none Value.none Value.none Value.none none Value.none Value.none (nat_lit 0))) ⟨[]⟩)
@[reducible] noncomputable def o470 (P : Params) : Obj := co [(v "signed" (nat_lit 811)), (v "Reader.signed" (nat_lit 812)), (v "/claim/cut.py" (nat_lit 813)), (Value.int (.ofNat (nat_lit 351)) (nat_lit 0)), (Value.int (.ofNat (nat_lit 1)) (nat_lit 0)), (Value.int (.ofNat (nat_lit 0)) (nat_lit 0)), (Value.int (.ofNat (nat_lit 0)) (nat_lit 0)), (Value.int (.ofNat (nat_lit 3)) (nat_lit 0)), (r (nat_lit 465)), (Value.bool Bool.true), (Value.int (.ofNat (nat_lit 181)) (nat_lit 0)), (r (nat_lit 466)), Value.none, (r (nat_lit 467)), (r (nat_lit 468)), (r (nat_lit 469)), (Value.int (.ofNat (nat_lit 817)) (nat_lit 0)), (Value.int (.ofNat (nat_lit 351)) (nat_lit 0)), (v "/claim/cut.py" (nat_lit 818))]
@[reducible] noncomputable def o471 (P : Params) : Obj := (Obj.mk (Value.type "function") none (Data.func (FuncData.mk (Str.ofString "signed") (Str.ofString "Reader.signed") (fP (nth (cB (st 54)) 18)) (FuncBody.stmts (fB (nth (cB (st 54)) 18))) (fS (nth (cB (st 54)) 18)) (nat_lit 3) [] Value.none Value.none Value.none (v "ledgerspeak.reader" (nat_lit 629)) none (r (nat_lit 470)) Value.none (nat_lit 0))) ⟨[]⟩)
@[reducible] noncomputable def o472 (P : Params) : Obj := tp []
@[reducible] noncomputable def o473 (P : Params) : Obj := nf []
@[reducible] noncomputable def o474 (P : Params) : Obj := tp [(v "self" (nat_lit 823)), (v "found" (nat_lit 824))]
@[reducible] noncomputable def o475 (P : Params) : Obj := tp []
@[reducible] noncomputable def o476 (P : Params) : Obj := (Obj.mk Value.none none (Data.func (FuncData.mk (Str.ofString "whole") (Str.ofString "Reader.whole") (fP (nth (cB (st 54)) 19)) (FuncBody.stmts (fB (nth (cB (st 54)) 19))) (fS (nth (cB (st 54)) 19)) (nat_lit 0) [] Value.none Value.none Value.none Value.none none Value.none Value.none (nat_lit 0))) ⟨[]⟩)
@[reducible] noncomputable def o477 (P : Params) : Obj := co [(v "whole" (nat_lit 820)), (v "Reader.whole" (nat_lit 821)), (v "/claim/cut.py" (nat_lit 822)), (Value.int (.ofNat (nat_lit 360)) (nat_lit 0)), (Value.int (.ofNat (nat_lit 1)) (nat_lit 0)), (Value.int (.ofNat (nat_lit 0)) (nat_lit 0)), (Value.int (.ofNat (nat_lit 0)) (nat_lit 0)), (Value.int (.ofNat (nat_lit 3)) (nat_lit 0)), (r (nat_lit 472)), (Value.bool Bool.true), (Value.int (.ofNat (nat_lit 181)) (nat_lit 0)), (r (nat_lit 473)), Value.none, (r (nat_lit 474)), (r (nat_lit 475)), (r (nat_lit 476)), (Value.int (.ofNat (nat_lit 825)) (nat_lit 0)), (Value.int (.ofNat (nat_lit 360)) (nat_lit 0)), (v "/claim/cut.py" (nat_lit 826))]
@[reducible] noncomputable def o478 (P : Params) : Obj := (Obj.mk (Value.type "function") none (Data.func (FuncData.mk (Str.ofString "whole") (Str.ofString "Reader.whole") (fP (nth (cB (st 54)) 19)) (FuncBody.stmts (fB (nth (cB (st 54)) 19))) (fS (nth (cB (st 54)) 19)) (nat_lit 3) [] Value.none Value.none Value.none (v "ledgerspeak.reader" (nat_lit 629)) none (r (nat_lit 477)) Value.none (nat_lit 0))) ⟨[]⟩)
@[reducible] noncomputable def o479 (P : Params) : Obj := tp []
@[reducible] noncomputable def o480 (P : Params) : Obj := nf []
@[reducible] noncomputable def o481 (P : Params) : Obj := tp [(v "self" (nat_lit 831))]
@[reducible] noncomputable def o482 (P : Params) : Obj := tp []
@[reducible] noncomputable def o483 (P : Params) : Obj := (Obj.mk Value.none none (Data.func (FuncData.mk (Str.ofString "literal") (Str.ofString "Reader.literal") (fP (nth (cB (st 54)) 20)) (FuncBody.stmts (fB (nth (cB (st 54)) 20))) (fS (nth (cB (st 56)) 1)) (nat_lit 0) [] Value.none Value.none Value.none Value.none none Value.none Value.none (nat_lit 0))) ⟨[]⟩)
@[reducible] noncomputable def o484 (P : Params) : Obj := co [(v "literal" (nat_lit 828)), (v "Reader.literal" (nat_lit 829)), (v "/claim/cut.py" (nat_lit 830)), (Value.int (.ofNat (nat_lit 369)) (nat_lit 0)), (Value.int (.ofNat (nat_lit 1)) (nat_lit 0)), (Value.int (.ofNat (nat_lit 0)) (nat_lit 0)), (Value.int (.ofNat (nat_lit 0)) (nat_lit 0)), (Value.int (.ofNat (nat_lit 3)) (nat_lit 0)), (r (nat_lit 479)), (Value.bool Bool.true), (Value.int (.ofNat (nat_lit 181)) (nat_lit 0)), (r (nat_lit 480)), Value.none, (r (nat_lit 481)), (r (nat_lit 482)), (r (nat_lit 483)), (Value.int (.ofNat (nat_lit 832)) (nat_lit 0)), (Value.int (.ofNat (nat_lit 369)) (nat_lit 0)), (v "/claim/cut.py" (nat_lit 833))]
@[reducible] noncomputable def o485 (P : Params) : Obj := (Obj.mk (Value.type "function") none (Data.func (FuncData.mk (Str.ofString "literal") (Str.ofString "Reader.literal") (fP (nth (cB (st 54)) 20)) (FuncBody.stmts (fB (nth (cB (st 54)) 20))) (fS (nth (cB (st 56)) 1)) (nat_lit 3) [] Value.none Value.none Value.none (v "ledgerspeak.reader" (nat_lit 629)) none (r (nat_lit 484)) Value.none (nat_lit 0))) ⟨[]⟩)
@[reducible] noncomputable def o486 (P : Params) : Obj := tp []
@[reducible] noncomputable def o487 (P : Params) : Obj := nf []
@[reducible] noncomputable def o488 (P : Params) : Obj := tp [(v "self" (nat_lit 838)), (v "found" (nat_lit 839))]
@[reducible] noncomputable def o489 (P : Params) : Obj := tp []
@[reducible] noncomputable def o490 (P : Params) : Obj := (Obj.mk Value.none none (Data.func (FuncData.mk (Str.ofString "octets") (Str.ofString "Reader.octets") (fP (nth (cB (st 54)) 21)) (FuncBody.stmts (fB (nth (cB (st 54)) 21))) (fS (nth (cB (st 54)) 21)) (nat_lit 0) [] Value.none Value.none Value.none Value.none none Value.none Value.none (nat_lit 0))) ⟨[]⟩)
@[reducible] noncomputable def o491 (P : Params) : Obj := co [(v "octets" (nat_lit 835)), (v "Reader.octets" (nat_lit 836)), (v "/claim/cut.py" (nat_lit 837)), (Value.int (.ofNat (nat_lit 374)) (nat_lit 0)), (Value.int (.ofNat (nat_lit 1)) (nat_lit 0)), (Value.int (.ofNat (nat_lit 0)) (nat_lit 0)), (Value.int (.ofNat (nat_lit 0)) (nat_lit 0)), (Value.int (.ofNat (nat_lit 3)) (nat_lit 0)), (r (nat_lit 486)), (Value.bool Bool.true), (Value.int (.ofNat (nat_lit 181)) (nat_lit 0)), (r (nat_lit 487)), Value.none, (r (nat_lit 488)), (r (nat_lit 489)), (r (nat_lit 490)), (Value.int (.ofNat (nat_lit 840)) (nat_lit 0)), (Value.int (.ofNat (nat_lit 374)) (nat_lit 0)), (v "/claim/cut.py" (nat_lit 841))]
@[reducible] noncomputable def o492 (P : Params) : Obj := (Obj.mk (Value.type "function") none (Data.func (FuncData.mk (Str.ofString "octets") (Str.ofString "Reader.octets") (fP (nth (cB (st 54)) 21)) (FuncBody.stmts (fB (nth (cB (st 54)) 21))) (fS (nth (cB (st 54)) 21)) (nat_lit 3) [] Value.none Value.none Value.none (v "ledgerspeak.reader" (nat_lit 629)) none (r (nat_lit 491)) Value.none (nat_lit 0))) ⟨[]⟩)
@[reducible] noncomputable def o493 (P : Params) : Obj := tp [(v "at" (nat_lit 843)), (v "named" (nat_lit 844)), (v "tokens" (nat_lit 845))]
@[reducible] noncomputable def o494 (P : Params) : Obj := dc [(e P "__module__" (nat_lit 655) (v "ledgerspeak.reader" (nat_lit 629))), (e P "__firstlineno__" (nat_lit 659) (Value.int (.ofNat (nat_lit 262)) (nat_lit 658))), (e P "__init__" (nat_lit 669) (r (nat_lit 341))), (e P "peek" (nat_lit 678) (r (nat_lit 349))), (e P "is_done" (nat_lit 685) (r (nat_lit 356))), (e P "fault" (nat_lit 693) (r (nat_lit 363))), (e P "take" (nat_lit 701) (r (nat_lit 370))), (e P "is_kind" (nat_lit 712) (r (nat_lit 378))), (e P "is_word" (nat_lit 722) (r (nat_lit 385))), (e P "skip" (nat_lit 730) (r (nat_lit 392))), (e P "need" (nat_lit 738) (r (nat_lit 399))), (e P "one_of" (nat_lit 747) (r (nat_lit 406))), (e P "word" (nat_lit 754) (r (nat_lit 413))), (e P "is_name" (nat_lit 763) (r (nat_lit 421))), (e P "name" (nat_lit 770) (r (nat_lit 428))), (e P "names" (nat_lit 777) (r (nat_lit 435))), (e P "is_sign" (nat_lit 787) (r (nat_lit 443))), (e P "skip_sign" (nat_lit 795) (r (nat_lit 450))), (e P "need_sign" (nat_lit 803) (r (nat_lit 457))), (e P "is_number" (nat_lit 810) (r (nat_lit 464))), (e P "signed" (nat_lit 819) (r (nat_lit 471))), (e P "whole" (nat_lit 827) (r (nat_lit 478))), (e P "literal" (nat_lit 834) (r (nat_lit 485))), (e P "octets" (nat_lit 842) (r (nat_lit 492))), (e P "__static_attributes__" (nat_lit 846) (r (nat_lit 493))), (e P "__dict__" (nat_lit 848) (r (nat_lit 496))), (e P "__weakref__" (nat_lit 850) (r (nat_lit 497))), (e P "__doc__" (nat_lit 851) Value.none)] (nat_lit 4)
@[reducible] noncomputable def o495 (P : Params) : Obj := (Obj.mk (Value.type "type") none (Data.cls (ClassData.mk (Str.ofString "Reader") [(Value.type "object")] [(r (nat_lit 495)), (Value.type "object")] (nat_lit 494) (Str.ofString "Reader") Bool.true [] [] Bool.false none Bool.false)) ⟨[none, none, (some (v "Reader" (nat_lit 648))), (some (v "Reader" (nat_lit 656))), (some (Value.builtin "object.__new__")), (some (Value.bool Bool.true))]⟩)
@[reducible] noncomputable def o496 (P : Params) : Obj := (Obj.mk (Value.type "getset_descriptor") none (Data.fields ⟨[(v "__dict__" (nat_lit 847)), (r (nat_lit 495)), (Value.builtin "function.__dict__"), (Value.builtin "function.__dict__#set")]⟩) ⟨[]⟩)
@[reducible] noncomputable def o497 (P : Params) : Obj := (Obj.mk (Value.type "getset_descriptor") none (Data.fields ⟨[(v "__weakref__" (nat_lit 849)), (r (nat_lit 495)), (Value.builtin "ExceptionGroup.__weakref__"), Value.none]⟩) ⟨[]⟩)
@[reducible] noncomputable def o498 (P : Params) : Obj := (Obj.mk (Value.type "super") none (Data.fields ⟨[(r (nat_lit 495)), (r (nat_lit 495)), (r (nat_lit 495))]⟩) ⟨[]⟩)
@[reducible] noncomputable def o499 (P : Params) : Obj := (Obj.mk (Value.type "builtin_function_or_method") none (Data.fields ⟨[(Value.builtin "object.__init_subclass__"), (r (nat_lit 495))]⟩) ⟨[]⟩)
noncomputable def T4 (P : Params) : BT := (.node (boot_o_0 P) (.node (boot_o_1 P) (.node (o3_3 P) (.node (boot_o_7 P) (.node (o15 P) (.node (o31 P) (.node (o63 P) (.node (o127 P) (.node (o255 P) .nil .nil) (.node (o383 P) .nil .nil)) (.node (o191 P) (.node (o319 P) .nil .nil) (.node (o447 P) .nil .nil))) (.node (o95 P) (.node (o159 P) (.node (o287 P) .nil .nil) (.node (o415 P) .nil .nil)) (.node (o223 P) (.node (o351 P) .nil .nil) (.node (o479 P) .nil .nil)))) (.node (o47 P) (.node (o79 P) (.node (o143 P) (.node (o271 P) .nil .nil) (.node (o399 P) .nil .nil)) (.node (o207 P) (.node (o335 P) .nil .nil) (.node (o463 P) .nil .nil))) (.node (o111 P) (.node (o175 P) (.node (o303 P) .nil .nil) (.node (o431 P) .nil .nil)) (.node (o239 P) (.node (o367 P) .nil .nil) (.node (o495 P) .nil .nil))))) (.node (o23 P) (.node (o39 P) (.node (o71 P) (.node (o135 P) (.node (o263 P) .nil .nil) (.node (o391 P) .nil .nil)) (.node (o199 P) (.node (o327 P) .nil .nil) (.node (o455 P) .nil .nil))) (.node (o103 P) (.node (o167 P) (.node (o295 P) .nil .nil) (.node (o423 P) .nil .nil)) (.node (o231 P) (.node (o359 P) .nil .nil) (.node (o487 P) .nil .nil)))) (.node (o55 P) (.node (o87 P) (.node (o151 P) (.node (o279 P) .nil .nil) (.node (o407 P) .nil .nil)) (.node (o215 P) (.node (o343 P) .nil .nil) (.node (o471 P) .nil .nil))) (.node (o119 P) (.node (o183 P) (.node (o311 P) .nil .nil) (.node (o439 P) .nil .nil)) (.node (o247 P) (.node (o375 P) .nil .nil) .nil))))) (.node (o11 P) (.node (o19 P) (.node (o35 P) (.node (o67 P) (.node (o131 P) (.node (o259 P) .nil .nil) (.node (o387 P) .nil .nil)) (.node (o195 P) (.node (o323 P) .nil .nil) (.node (o451 P) .nil .nil))) (.node (o99 P) (.node (o163 P) (.node (o291 P) .nil .nil) (.node (o419 P) .nil .nil)) (.node (o227 P) (.node (o355 P) .nil .nil) (.node (o483 P) .nil .nil)))) (.node (o51 P) (.node (o83 P) (.node (o147 P) (.node (o275 P) .nil .nil) (.node (o403 P) .nil .nil)) (.node (o211 P) (.node (o339 P) .nil .nil) (.node (o467 P) .nil .nil))) (.node (o115 P) (.node (o179 P) (.node (o307 P) .nil .nil) (.node (o435 P) .nil .nil)) (.node (o243 P) (.node (o371 P) .nil .nil) (.node (o499 P) .nil .nil))))) (.node (o27 P) (.node (o43 P) (.node (o75 P) (.node (o139 P) (.node (o267 P) .nil .nil) (.node (o395 P) .nil .nil)) (.node (o203 P) (.node (o331 P) .nil .nil) (.node (o459 P) .nil .nil))) (.node (o107 P) (.node (o171 P) (.node (o299 P) .nil .nil) (.node (o427 P) .nil .nil)) (.node (o235 P) (.node (o363 P) .nil .nil) (.node (o491 P) .nil .nil)))) (.node (o59 P) (.node (o91 P) (.node (o155 P) (.node (o283 P) .nil .nil) (.node (o411 P) .nil .nil)) (.node (o219 P) (.node (o347 P) .nil .nil) (.node (o475 P) .nil .nil))) (.node (o123 P) (.node (o187 P) (.node (o315 P) .nil .nil) (.node (o443 P) .nil .nil)) (.node (o251 P) (.node (o379 P) .nil .nil) .nil)))))) (.node (boot_o_5 P) (.node (boot_o_9 P) (.node (o17 P) (.node (o33 P) (.node (o65 P) (.node (o129 P) (.node (o257 P) .nil .nil) (.node (o385 P) .nil .nil)) (.node (o193 P) (.node (o321 P) .nil .nil) (.node (o449 P) .nil .nil))) (.node (o97 P) (.node (o161 P) (.node (o289 P) .nil .nil) (.node (o417 P) .nil .nil)) (.node (o225 P) (.node (o353 P) .nil .nil) (.node (o481 P) .nil .nil)))) (.node (o49 P) (.node (o81 P) (.node (o145 P) (.node (o273 P) .nil .nil) (.node (o401 P) .nil .nil)) (.node (o209 P) (.node (o337 P) .nil .nil) (.node (o465 P) .nil .nil))) (.node (o113 P) (.node (o177 P) (.node (o305 P) .nil .nil) (.node (o433 P) .nil .nil)) (.node (o241 P) (.node (o369 P) .nil .nil) (.node (o497 P) .nil .nil))))) (.node (o25 P) (.node (o41 P) (.node (o73 P) (.node (o137 P) (.node (o265 P) .nil .nil) (.node (o393 P) .nil .nil)) (.node (o201 P) (.node (o329 P) .nil .nil) (.node (o457 P) .nil .nil))) (.node (o105 P) (.node (o169 P) (.node (o297 P) .nil .nil) (.node (o425 P) .nil .nil)) (.node (o233 P) (.node (o361 P) .nil .nil) (.node (o489 P) .nil .nil)))) (.node (o57 P) (.node (o89 P) (.node (o153 P) (.node (o281 P) .nil .nil) (.node (o409 P) .nil .nil)) (.node (o217 P) (.node (o345 P) .nil .nil) (.node (o473 P) .nil .nil))) (.node (o121 P) (.node (o185 P) (.node (o313 P) .nil .nil) (.node (o441 P) .nil .nil)) (.node (o249 P) (.node (o377 P) .nil .nil) .nil))))) (.node (o13 P) (.node (o21 P) (.node (o37 P) (.node (o69 P) (.node (o133 P) (.node (o261 P) .nil .nil) (.node (o389 P) .nil .nil)) (.node (o197 P) (.node (o325 P) .nil .nil) (.node (o453 P) .nil .nil))) (.node (o101 P) (.node (o165 P) (.node (o293 P) .nil .nil) (.node (o421 P) .nil .nil)) (.node (o229 P) (.node (o357 P) .nil .nil) (.node (o485 P) .nil .nil)))) (.node (o53 P) (.node (o85 P) (.node (o149 P) (.node (o277 P) .nil .nil) (.node (o405 P) .nil .nil)) (.node (o213 P) (.node (o341 P) .nil .nil) (.node (o469 P) .nil .nil))) (.node (o117 P) (.node (o181 P) (.node (o309 P) .nil .nil) (.node (o437 P) .nil .nil)) (.node (o245 P) (.node (o373 P) .nil .nil) .nil)))) (.node (o29 P) (.node (o45 P) (.node (o77 P) (.node (o141 P) (.node (o269 P) .nil .nil) (.node (o397 P) .nil .nil)) (.node (o205 P) (.node (o333 P) .nil .nil) (.node (o461 P) .nil .nil))) (.node (o109 P) (.node (o173 P) (.node (o301 P) .nil .nil) (.node (o429 P) .nil .nil)) (.node (o237 P) (.node (o365 P) .nil .nil) (.node (o493 P) .nil .nil)))) (.node (o61 P) (.node (o93 P) (.node (o157 P) (.node (o285 P) .nil .nil) (.node (o413 P) .nil .nil)) (.node (o221 P) (.node (o349 P) .nil .nil) (.node (o477 P) .nil .nil))) (.node (o125 P) (.node (o189 P) (.node (o317 P) .nil .nil) (.node (o445 P) .nil .nil)) (.node (o253 P) (.node (o381 P) .nil .nil) .nil))))))) (.node (o2_0 P) (.node (boot_o_4 P) (.node (boot_o_8 P) (.node (o16 P) (.node (o32 P) (.node (o64 P) (.node (o128 P) (.node (o256 P) .nil .nil) (.node (o384 P) .nil .nil)) (.node (o192 P) (.node (o320 P) .nil .nil) (.node (o448 P) .nil .nil))) (.node (o96 P) (.node (o160 P) (.node (o288 P) .nil .nil) (.node (o416 P) .nil .nil)) (.node (o224 P) (.node (o352 P) .nil .nil) (.node (o480 P) .nil .nil)))) (.node (o48 P) (.node (o80 P) (.node (o144 P) (.node (o272 P) .nil .nil) (.node (o400 P) .nil .nil)) (.node (o208 P) (.node (o336 P) .nil .nil) (.node (o464 P) .nil .nil))) (.node (o112 P) (.node (o176 P) (.node (o304 P) .nil .nil) (.node (o432 P) .nil .nil)) (.node (o240 P) (.node (o368 P) .nil .nil) (.node (o496 P) .nil .nil))))) (.node (o24 P) (.node (o40 P) (.node (o72 P) (.node (o136 P) (.node (o264 P) .nil .nil) (.node (o392 P) .nil .nil)) (.node (o200 P) (.node (o328 P) .nil .nil) (.node (o456 P) .nil .nil))) (.node (o104 P) (.node (o168 P) (.node (o296 P) .nil .nil) (.node (o424 P) .nil .nil)) (.node (o232 P) (.node (o360 P) .nil .nil) (.node (o488 P) .nil .nil)))) (.node (o56 P) (.node (o88 P) (.node (o152 P) (.node (o280 P) .nil .nil) (.node (o408 P) .nil .nil)) (.node (o216 P) (.node (o344 P) .nil .nil) (.node (o472 P) .nil .nil))) (.node (o120 P) (.node (o184 P) (.node (o312 P) .nil .nil) (.node (o440 P) .nil .nil)) (.node (o248 P) (.node (o376 P) .nil .nil) .nil))))) (.node (o12_4 P) (.node (o20 P) (.node (o36 P) (.node (o68 P) (.node (o132 P) (.node (o260 P) .nil .nil) (.node (o388 P) .nil .nil)) (.node (o196 P) (.node (o324 P) .nil .nil) (.node (o452 P) .nil .nil))) (.node (o100 P) (.node (o164 P) (.node (o292 P) .nil .nil) (.node (o420 P) .nil .nil)) (.node (o228 P) (.node (o356 P) .nil .nil) (.node (o484 P) .nil .nil)))) (.node (o52 P) (.node (o84 P) (.node (o148 P) (.node (o276 P) .nil .nil) (.node (o404 P) .nil .nil)) (.node (o212 P) (.node (o340 P) .nil .nil) (.node (o468 P) .nil .nil))) (.node (o116 P) (.node (o180 P) (.node (o308 P) .nil .nil) (.node (o436 P) .nil .nil)) (.node (o244 P) (.node (o372 P) .nil .nil) .nil)))) (.node (o28 P) (.node (o44 P) (.node (o76 P) (.node (o140 P) (.node (o268 P) .nil .nil) (.node (o396 P) .nil .nil)) (.node (o204 P) (.node (o332 P) .nil .nil) (.node (o460 P) .nil .nil))) (.node (o108 P) (.node (o172 P) (.node (o300 P) .nil .nil) (.node (o428 P) .nil .nil)) (.node (o236 P) (.node (o364 P) .nil .nil) (.node (o492 P) .nil .nil)))) (.node (o60 P) (.node (o92 P) (.node (o156 P) (.node (o284 P) .nil .nil) (.node (o412 P) .nil .nil)) (.node (o220 P) (.node (o348 P) .nil .nil) (.node (o476 P) .nil .nil))) (.node (o124 P) (.node (o188 P) (.node (o316 P) .nil .nil) (.node (o444 P) .nil .nil)) (.node (o252 P) (.node (o380 P) .nil .nil) .nil)))))) (.node (boot_o_6 P) (.node (boot_o_10 P) (.node (o18 P) (.node (o34 P) (.node (o66 P) (.node (o130 P) (.node (o258 P) .nil .nil) (.node (o386 P) .nil .nil)) (.node (o194 P) (.node (o322 P) .nil .nil) (.node (o450 P) .nil .nil))) (.node (o98 P) (.node (o162 P) (.node (o290 P) .nil .nil) (.node (o418 P) .nil .nil)) (.node (o226 P) (.node (o354 P) .nil .nil) (.node (o482 P) .nil .nil)))) (.node (o50 P) (.node (o82 P) (.node (o146 P) (.node (o274 P) .nil .nil) (.node (o402 P) .nil .nil)) (.node (o210 P) (.node (o338 P) .nil .nil) (.node (o466 P) .nil .nil))) (.node (o114 P) (.node (o178 P) (.node (o306 P) .nil .nil) (.node (o434 P) .nil .nil)) (.node (o242 P) (.node (o370 P) .nil .nil) (.node (o498 P) .nil .nil))))) (.node (o26 P) (.node (o42 P) (.node (o74 P) (.node (o138 P) (.node (o266 P) .nil .nil) (.node (o394 P) .nil .nil)) (.node (o202 P) (.node (o330 P) .nil .nil) (.node (o458 P) .nil .nil))) (.node (o106 P) (.node (o170 P) (.node (o298 P) .nil .nil) (.node (o426 P) .nil .nil)) (.node (o234 P) (.node (o362 P) .nil .nil) (.node (o490 P) .nil .nil)))) (.node (o58 P) (.node (o90 P) (.node (o154 P) (.node (o282 P) .nil .nil) (.node (o410 P) .nil .nil)) (.node (o218 P) (.node (o346 P) .nil .nil) (.node (o474 P) .nil .nil))) (.node (o122 P) (.node (o186 P) (.node (o314 P) .nil .nil) (.node (o442 P) .nil .nil)) (.node (o250 P) (.node (o378 P) .nil .nil) .nil))))) (.node (o14 P) (.node (o22 P) (.node (o38 P) (.node (o70 P) (.node (o134 P) (.node (o262 P) .nil .nil) (.node (o390 P) .nil .nil)) (.node (o198 P) (.node (o326 P) .nil .nil) (.node (o454 P) .nil .nil))) (.node (o102 P) (.node (o166 P) (.node (o294 P) .nil .nil) (.node (o422 P) .nil .nil)) (.node (o230 P) (.node (o358 P) .nil .nil) (.node (o486 P) .nil .nil)))) (.node (o54 P) (.node (o86 P) (.node (o150 P) (.node (o278 P) .nil .nil) (.node (o406 P) .nil .nil)) (.node (o214 P) (.node (o342 P) .nil .nil) (.node (o470 P) .nil .nil))) (.node (o118 P) (.node (o182 P) (.node (o310 P) .nil .nil) (.node (o438 P) .nil .nil)) (.node (o246 P) (.node (o374 P) .nil .nil) .nil)))) (.node (o30 P) (.node (o46 P) (.node (o78 P) (.node (o142 P) (.node (o270 P) .nil .nil) (.node (o398 P) .nil .nil)) (.node (o206 P) (.node (o334 P) .nil .nil) (.node (o462 P) .nil .nil))) (.node (o110 P) (.node (o174 P) (.node (o302 P) .nil .nil) (.node (o430 P) .nil .nil)) (.node (o238 P) (.node (o366 P) .nil .nil) (.node (o494 P) .nil .nil)))) (.node (o62 P) (.node (o94 P) (.node (o158 P) (.node (o286 P) .nil .nil) (.node (o414 P) .nil .nil)) (.node (o222 P) (.node (o350 P) .nil .nil) (.node (o478 P) .nil .nil))) (.node (o126 P) (.node (o190 P) (.node (o318 P) .nil .nil) (.node (o446 P) .nil .nil)) (.node (o254 P) (.node (o382 P) .nil .nil) .nil))))))))
@[reducible] noncomputable def o3_4 (P : Params) : Obj := dc ((e P "__name__" (nat_lit 165) (v "law_pb0271_01" (nat_lit 900))) :: (e P "__doc__" (nat_lit 166) Value.none) :: (e P "__package__" (nat_lit 167) Value.none) :: (e P "__loader__" (nat_lit 168) (Value.builtin "__main__.__loader__#opaque")) :: (e P "__spec__" (nat_lit 169) Value.none) :: (e P "__annotations__" (nat_lit 170) (r (nat_lit 6))) :: (e P "__builtins__" (nat_lit 171) (r (nat_lit 4))) :: (e P "__file__" (nat_lit 173) (v "/claim/cut.py" (nat_lit 172))) :: (e P "__cached__" (nat_lit 174) Value.none) :: (e P "_wall" (nat_lit 193) (r (nat_lit 21))) :: (e P "LedgerError" (nat_lit 235) (r (nat_lit 47))) :: (e P "TokenFault" (nat_lit 251) (r (nat_lit 60))) :: (e P "GrammarFault" (nat_lit 267) (r (nat_lit 72))) :: (e P "FIGURES" (nat_lit 271) (v "0123456789" (nat_lit 270))) :: (e P "cut_quotient" (nat_lit 279) (r (nat_lit 81))) :: (e P "decimal" (nat_lit 288) (r (nat_lit 89))) :: (e P "negated" (nat_lit 295) (r (nat_lit 96))) :: (e P "units_at" (nat_lit 306) (r (nat_lit 103))) :: (e P "is_whole" (nat_lit 313) (r (nat_lit 110))) :: (e P "whole_of" (nat_lit 320) (r (nat_lit 117))) :: (e P "worth_of" (nat_lit 329) (r (nat_lit 124))) :: (e P "read_decimal" (nat_lit 342) (r (nat_lit 131))) :: (e P "MOST_SUBSCRIPTS" (nat_lit 346) (Value.int (.ofNat (nat_lit 7)) (nat_lit 345))) :: (e P "FIGURE_NAMES" (nat_lit 380) (r (nat_lit 132))) :: (e P "is_part_next" (nat_lit 389) (r (nat_lit 139))) :: (e P "read_subscripts" (nat_lit 398) (r (nat_lit 146))) :: (e P "read_part" (nat_lit 408) (r (nat_lit 153))) :: (e P "read_ref" (nat_lit 420) (r (nat_lit 160))) :: (e P "read_all" (nat_lit 428) (r (nat_lit 167))) :: (e P "read_figure" (nat_lit 435) (r (nat_lit 174))) :: (e P "read_operand" (nat_lit 444) (r (nat_lit 181))) :: (e P "MOST_DEEP" (nat_lit 448) (Value.int (.ofNat (nat_lit 20)) (nat_lit 447))) :: (e P "read_expression" (nat_lit 455) (r (nat_lit 188))) :: (e P "sign_among" (nat_lit 464) (r (nat_lit 195))) :: (e P "read_sum" (nat_lit 474) (r (nat_lit 202))) :: (e P "read_product" (nat_lit 484) (r (nat_lit 209))) :: (e P "read_factor" (nat_lit 495) (r (nat_lit 216))) :: (e P "is_lone_number" (nat_lit 504) (r (nat_lit 223))) :: (e P "read_power" (nat_lit 513) (r (nat_lit 230))) :: (e P "read_primary" (nat_lit 523) (r (nat_lit 237))) :: (e P "FIGURE_WORDS" (nat_lit 527) (v " ZERO ZEROS ZEROES SPACE SPACES HIGH-VALUE HIGH-VALUES LOW-VALUE LOW-VALUES QUOTE QUOTES ALL " (nat_lit 526))) :: (e P "word_ahead" (nat_lit 537) (r (nat_lit 244))) :: (e P "begins_operand" (nat_lit 544) (r (nat_lit 251))) :: (e P "ref_here" (nat_lit 551) (r (nat_lit 258))) :: (e P "refuse_at" (nat_lit 560) (r (nat_lit 265))) :: (e P "operand_here" (nat_lit 569) (r (nat_lit 272))) :: (e P "text_here" (nat_lit 578) (r (nat_lit 279))) :: (e P "begins_text" (nat_lit 585) (r (nat_lit 286))) :: (e P "bounds_here" (nat_lit 594) (r (nat_lit 293))) :: (e P "opens_count" (nat_lit 603) (r (nat_lit 300))) :: (e P "counted_rows" (nat_lit 616) (r (nat_lit 307))) :: (e P "tallied_rows" (nat_lit 628) (r (nat_lit 314))) :: (e P "MOST_OCTET" (nat_lit 632) (Value.int (.ofNat (nat_lit 255)) (nat_lit 631))) :: (e P "RESERVED" (nat_lit 634) (Value.str RES (nat_lit 633))) :: (e P "is_reserved" (nat_lit 641) (r (nat_lit 321))) :: (e P "octets_of_text" (nat_lit 647) (r (nat_lit 326))) :: (e P "Reader" (nat_lit 853) (r (nat_lit 495))) :: (e P "Token" (nat_lit 899) (r (nat_lit 525))) :: (e P "_law_pen" (nat_lit 907) (r (nat_lit 534))) :: (e P "_law_draw" (nat_lit 918) (r (nat_lit 541))) :: (e P "_law_pick" (nat_lit 926) (r (nat_lit 548))) :: (e P "_law_words" (nat_lit 932) (r (nat_lit 553))) :: (e P "_law_reader" (nat_lit 938) (r (nat_lit 558))) :: (e P "_law_item" (nat_lit 945) (r (nat_lit 565))) :: (e P "_law_operand" (nat_lit 953) (r (nat_lit 572))) :: (e P "_law_bounds" (nat_lit 964) (r (nat_lit 579))) :: (e P "_law_sort" (nat_lit 979) (r (nat_lit 586))) :: (e P "_law_right" (nat_lit 997) (r (nat_lit 593))) :: (e P "law" (nat_lit 1003) (r (nat_lit 598))) :: []) (nat_lit 69)
@[reducible] noncomputable def o12_5 (P : Params) : Obj := nf ((Value.int (.ofNat (nat_lit 1)) (nat_lit 0)) :: (Value.int (.ofNat (nat_lit 0)) (nat_lit 0)) :: (r (nat_lit 20)) :: (Value.int (.ofNat (nat_lit 5)) (nat_lit 0)) :: (Value.int (.ofNat (nat_lit 0)) (nat_lit 0)) :: (r (nat_lit 27)) :: (Value.int (.ofNat (nat_lit 14)) (nat_lit 0)) :: (Value.int (.ofNat (nat_lit 0)) (nat_lit 0)) :: (r (nat_lit 56)) :: (Value.int (.ofNat (nat_lit 16)) (nat_lit 0)) :: (Value.int (.ofNat (nat_lit 0)) (nat_lit 0)) :: (r (nat_lit 68)) :: (Value.int (.ofNat (nat_lit 20)) (nat_lit 0)) :: (Value.int (.ofNat (nat_lit 0)) (nat_lit 0)) :: (r (nat_lit 80)) :: (Value.int (.ofNat (nat_lit 24)) (nat_lit 0)) :: (Value.int (.ofNat (nat_lit 0)) (nat_lit 0)) :: (r (nat_lit 88)) :: (Value.int (.ofNat (nat_lit 31)) (nat_lit 0)) :: (Value.int (.ofNat (nat_lit 0)) (nat_lit 0)) :: (r (nat_lit 95)) :: (Value.int (.ofNat (nat_lit 33)) (nat_lit 0)) :: (Value.int (.ofNat (nat_lit 0)) (nat_lit 0)) :: (r (nat_lit 102)) :: (Value.int (.ofNat (nat_lit 41)) (nat_lit 0)) :: (Value.int (.ofNat (nat_lit 0)) (nat_lit 0)) :: (r (nat_lit 109)) :: (Value.int (.ofNat (nat_lit 43)) (nat_lit 0)) :: (Value.int (.ofNat (nat_lit 0)) (nat_lit 0)) :: (r (nat_lit 116)) :: (Value.int (.ofNat (nat_lit 45)) (nat_lit 0)) :: (Value.int (.ofNat (nat_lit 0)) (nat_lit 0)) :: (r (nat_lit 123)) :: (Value.int (.ofNat (nat_lit 50)) (nat_lit 0)) :: (Value.int (.ofNat (nat_lit 0)) (nat_lit 0)) :: (r (nat_lit 130)) :: (Value.int (.ofNat (nat_lit 68)) (nat_lit 0)) :: (Value.int (.ofNat (nat_lit 0)) (nat_lit 0)) :: (r (nat_lit 138)) :: (Value.int (.ofNat (nat_lit 81)) (nat_lit 0)) :: (Value.int (.ofNat (nat_lit 0)) (nat_lit 0)) :: (r (nat_lit 145)) :: (Value.int (.ofNat (nat_lit 89)) (nat_lit 0)) :: (Value.int (.ofNat (nat_lit 0)) (nat_lit 0)) :: (r (nat_lit 152)) :: (Value.int (.ofNat (nat_lit 96)) (nat_lit 0)) :: (Value.int (.ofNat (nat_lit 0)) (nat_lit 0)) :: (r (nat_lit 159)) :: (Value.int (.ofNat (nat_lit 106)) (nat_lit 0)) :: (Value.int (.ofNat (nat_lit 0)) (nat_lit 0)) :: (r (nat_lit 166)) :: (Value.int (.ofNat (nat_lit 113)) (nat_lit 0)) :: (Value.int (.ofNat (nat_lit 0)) (nat_lit 0)) :: (r (nat_lit 173)) :: (Value.int (.ofNat (nat_lit 117)) (nat_lit 0)) :: (Value.int (.ofNat (nat_lit 0)) (nat_lit 0)) :: (r (nat_lit 180)) :: (Value.int (.ofNat (nat_lit 128)) (nat_lit 0)) :: (Value.int (.ofNat (nat_lit 0)) (nat_lit 0)) :: (r (nat_lit 187)) :: (Value.int (.ofNat (nat_lit 130)) (nat_lit 0)) :: (Value.int (.ofNat (nat_lit 0)) (nat_lit 0)) :: (r (nat_lit 194)) :: (Value.int (.ofNat (nat_lit 135)) (nat_lit 0)) :: (Value.int (.ofNat (nat_lit 0)) (nat_lit 0)) :: (r (nat_lit 201)) :: (Value.int (.ofNat (nat_lit 143)) (nat_lit 0)) :: (Value.int (.ofNat (nat_lit 0)) (nat_lit 0)) :: (r (nat_lit 208)) :: (Value.int (.ofNat (nat_lit 149)) (nat_lit 0)) :: (Value.int (.ofNat (nat_lit 0)) (nat_lit 0)) :: (r (nat_lit 215)) :: (Value.int (.ofNat (nat_lit 159)) (nat_lit 0)) :: (Value.int (.ofNat (nat_lit 0)) (nat_lit 0)) :: (r (nat_lit 222)) :: (Value.int (.ofNat (nat_lit 164)) (nat_lit 0)) :: (Value.int (.ofNat (nat_lit 0)) (nat_lit 0)) :: (r (nat_lit 229)) :: (Value.int (.ofNat (nat_lit 170)) (nat_lit 0)) :: (Value.int (.ofNat (nat_lit 0)) (nat_lit 0)) :: (r (nat_lit 236)) :: (Value.int (.ofNat (nat_lit 180)) (nat_lit 0)) :: (Value.int (.ofNat (nat_lit 0)) (nat_lit 0)) :: (r (nat_lit 243)) :: (Value.int (.ofNat (nat_lit 183)) (nat_lit 0)) :: (Value.int (.ofNat (nat_lit 0)) (nat_lit 0)) :: (r (nat_lit 250)) :: (Value.int (.ofNat (nat_lit 187)) (nat_lit 0)) :: (Value.int (.ofNat (nat_lit 0)) (nat_lit 0)) :: (r (nat_lit 257)) :: (Value.int (.ofNat (nat_lit 191)) (nat_lit 0)) :: (Value.int (.ofNat (nat_lit 0)) (nat_lit 0)) :: (r (nat_lit 264)) :: (Value.int (.ofNat (nat_lit 195)) (nat_lit 0)) :: (Value.int (.ofNat (nat_lit 0)) (nat_lit 0)) :: (r (nat_lit 271)) :: (Value.int (.ofNat (nat_lit 199)) (nat_lit 0)) :: (Value.int (.ofNat (nat_lit 0)) (nat_lit 0)) :: (r (nat_lit 278)) :: (Value.int (.ofNat (nat_lit 205)) (nat_lit 0)) :: (Value.int (.ofNat (nat_lit 0)) (nat_lit 0)) :: (r (nat_lit 285)) :: (Value.int (.ofNat (nat_lit 207)) (nat_lit 0)) :: (Value.int (.ofNat (nat_lit 0)) (nat_lit 0)) :: (r (nat_lit 292)) :: (Value.int (.ofNat (nat_lit 218)) (nat_lit 0)) :: (Value.int (.ofNat (nat_lit 0)) (nat_lit 0)) :: (r (nat_lit 299)) :: (Value.int (.ofNat (nat_lit 226)) (nat_lit 0)) :: (Value.int (.ofNat (nat_lit 0)) (nat_lit 0)) :: (r (nat_lit 306)) :: (Value.int (.ofNat (nat_lit 233)) (nat_lit 0)) :: (Value.int (.ofNat (nat_lit 0)) (nat_lit 0)) :: (r (nat_lit 313)) :: (Value.int (.ofNat (nat_lit 255)) (nat_lit 0)) :: (Value.int (.ofNat (nat_lit 0)) (nat_lit 0)) :: (r (nat_lit 320)) :: (Value.int (.ofNat (nat_lit 257)) (nat_lit 0)) :: (Value.int (.ofNat (nat_lit 0)) (nat_lit 0)) :: (r (nat_lit 325)) :: (Value.int (.ofNat (nat_lit 262)) (nat_lit 0)) :: (Value.int (.ofNat (nat_lit 0)) (nat_lit 0)) :: (r (nat_lit 332)) :: (Value.int (.ofNat (nat_lit 383)) (nat_lit 0)) :: (Value.int (.ofNat (nat_lit 0)) (nat_lit 0)) :: (r (nat_lit 505)) :: (Value.int (.ofNat (nat_lit 394)) (nat_lit 0)) :: (Value.int (.ofNat (nat_lit 0)) (nat_lit 0)) :: (r (nat_lit 533)) :: (Value.int (.ofNat (nat_lit 397)) (nat_lit 0)) :: (Value.int (.ofNat (nat_lit 0)) (nat_lit 0)) :: (r (nat_lit 540)) :: (Value.int (.ofNat (nat_lit 406)) (nat_lit 0)) :: (Value.int (.ofNat (nat_lit 0)) (nat_lit 0)) :: (r (nat_lit 547)) :: (Value.int (.ofNat (nat_lit 408)) (nat_lit 0)) :: (Value.int (.ofNat (nat_lit 0)) (nat_lit 0)) :: (r (nat_lit 552)) :: (Value.int (.ofNat (nat_lit 410)) (nat_lit 0)) :: (Value.int (.ofNat (nat_lit 0)) (nat_lit 0)) :: (r (nat_lit 557)) :: (Value.int (.ofNat (nat_lit 412)) (nat_lit 0)) :: (Value.int (.ofNat (nat_lit 0)) (nat_lit 0)) :: (r (nat_lit 564)) :: (Value.int (.ofNat (nat_lit 414)) (nat_lit 0)) :: (Value.int (.ofNat (nat_lit 0)) (nat_lit 0)) :: (r (nat_lit 571)) :: (Value.int (.ofNat (nat_lit 419)) (nat_lit 0)) :: (Value.int (.ofNat (nat_lit 0)) (nat_lit 0)) :: (r (nat_lit 578)) :: (Value.int (.ofNat (nat_lit 425)) (nat_lit 0)) :: (Value.int (.ofNat (nat_lit 0)) (nat_lit 0)) :: (r (nat_lit 585)) :: (Value.int (.ofNat (nat_lit 432)) (nat_lit 0)) :: (Value.int (.ofNat (nat_lit 0)) (nat_lit 0)) :: (r (nat_lit 592)) :: (Value.int (.ofNat (nat_lit 447)) (nat_lit 0)) :: (Value.int (.ofNat (nat_lit 0)) (nat_lit 0)) :: (r (nat_lit 597)) :: [])
@[reducible] noncomputable def o500 (P : Params) : Obj := tp []
@[reducible] noncomputable def o501 (P : Params) : Obj := (Obj.mk (Value.type "builtin_function_or_method") none (Data.fields ⟨[(Value.builtin "type.__prepare__"), (Value.type "type")]⟩) ⟨[]⟩)
@[reducible] noncomputable def o502 (P : Params) : Obj := dc [(e P "__module__" (nat_lit 863) (v "ledgerspeak.tokens" (nat_lit 854))), (e P "__qualname__" (nat_lit 865) (v "Token" (nat_lit 864))), (e P "__firstlineno__" (nat_lit 867) (Value.int (.ofNat (nat_lit 383)) (nat_lit 866))), (e P "__init__" (nat_lit 880) (r (nat_lit 515))), (e P "told" (nat_lit 887) (r (nat_lit 522))), (e P "__static_attributes__" (nat_lit 892) (r (nat_lit 523)))] (nat_lit 6)
@[reducible] noncomputable def o503 (P : Params) : Obj := tp []
@[reducible] noncomputable def o504 (P : Params) : Obj := nf [(Value.int (.ofNat (nat_lit 385)) (nat_lit 0)), (Value.int (.ofNat (nat_lit 4)) (nat_lit 0)), (r (nat_lit 514)), (Value.int (.ofNat (nat_lit 391)) (nat_lit 0)), (Value.int (.ofNat (nat_lit 4)) (nat_lit 0)), (r (nat_lit 521))]
@[reducible] noncomputable def o505 (P : Params) : Obj := co [(v "Token" (nat_lit 858)), (v "Token" (nat_lit 859)), (v "/claim/cut.py" (nat_lit 860)), (Value.int (.ofNat (nat_lit 383)) (nat_lit 0)), (Value.int (.ofNat (nat_lit 0)) (nat_lit 0)), (Value.int (.ofNat (nat_lit 0)) (nat_lit 0)), (Value.int (.ofNat (nat_lit 0)) (nat_lit 0)), (Value.int (.ofNat (nat_lit 0)) (nat_lit 0)), (r (nat_lit 503)), (Value.bool Bool.false), (Value.int (.ofNat (nat_lit 181)) (nat_lit 0)), (r (nat_lit 504)), Value.none, Value.none, Value.none, Value.none, (Value.int (.ofNat (nat_lit 861)) (nat_lit 0)), (Value.int (.ofNat (nat_lit 383)) (nat_lit 0)), (v "/claim/cut.py" (nat_lit 862))]
@[reducible] noncomputable def o506 (P : Params) : Obj := (Obj.mk (Value.type "frame") none Data.plain ⟨[(some (r (nat_lit 505))), (some (r (nat_lit 3))), (some (r (nat_lit 502))), none, (some (v "ledgerspeak.tokens" (nat_lit 854))), none, (some (r (nat_lit 0)))]⟩)
@[reducible] noncomputable def o507 (P : Params) : Obj := tp [(Value.int (.ofNat (nat_lit 0)) (nat_lit 868)), (Value.int (.ofNat (nat_lit 0)) (nat_lit 869))]
@[reducible] noncomputable def o508 (P : Params) : Obj := tp [(r (nat_lit 507)), (Value.bool Bool.false)]
@[reducible] noncomputable def o509 (P : Params) : Obj := tp []
@[reducible] noncomputable def o510 (P : Params) : Obj := nf []
@[reducible] noncomputable def o511 (P : Params) : Obj := tp [(v "self" (nat_lit 873)), (v "kind" (nat_lit 874)), (v "worth" (nat_lit 875)), (v "at" (nat_lit 876)), (v "is_in_a" (nat_lit 877))]
@[reducible] noncomputable def o512 (P : Params) : Obj := tp []
@[reducible] noncomputable def o513 (P : Params) : Obj := (Obj.mk Value.none none (Data.func (FuncData.mk (Str.ofString "__init__") (Str.ofString "Token.__init__") (fP (nth (cB (st 56)) 0)) (FuncBody.stmts (fB (nth (cB (st 56)) 0))) (fS (nth (cB (st 56)) 0)) (nat_lit 0) [] Value.none Value.none Value.none Value.none none Value.none Value.none (nat_lit 0))) ⟨[]⟩)
@[reducible] noncomputable def o514 (P : Params) : Obj := co [(v "__init__" (nat_lit 870)), (v "Token.__init__" (nat_lit 871)), (v "/claim/cut.py" (nat_lit 872)), (Value.int (.ofNat (nat_lit 385)) (nat_lit 0)), (Value.int (.ofNat (nat_lit 5)) (nat_lit 0)), (Value.int (.ofNat (nat_lit 0)) (nat_lit 0)), (Value.int (.ofNat (nat_lit 0)) (nat_lit 0)), (Value.int (.ofNat (nat_lit 3)) (nat_lit 0)), (r (nat_lit 509)), (Value.bool Bool.true), (Value.int (.ofNat (nat_lit 181)) (nat_lit 0)), (r (nat_lit 510)), Value.none, (r (nat_lit 511)), (r (nat_lit 512)), (r (nat_lit 513)), (Value.int (.ofNat (nat_lit 878)) (nat_lit 0)), (Value.int (.ofNat (nat_lit 385)) (nat_lit 0)), (v "/claim/cut.py" (nat_lit 879))]
@[reducible] noncomputable def o515 (P : Params) : Obj := (Obj.mk (Value.type "function") none (Data.func (FuncData.mk (Str.ofString "__init__") (Str.ofString "Token.__init__") (fP (nth (cB (st 56)) 0)) (FuncBody.stmts (fB (nth (cB (st 56)) 0))) (fS (nth (cB (st 56)) 0)) (nat_lit 3) [] (r (nat_lit 508)) Value.none Value.none (v "ledgerspeak.tokens" (nat_lit 854)) none (r (nat_lit 514)) Value.none (nat_lit 0))) ⟨[]⟩)
@[reducible] noncomputable def o516 (P : Params) : Obj := tp []
@[reducible] noncomputable def o517 (P : Params) : Obj := nf []
@[reducible] noncomputable def o518 (P : Params) : Obj := tp [(v "self" (nat_lit 884))]
@[reducible] noncomputable def o519 (P : Params) : Obj := tp []
@[reducible] noncomputable def o520 (P : Params) : Obj := (Obj.mk Value.none none (Data.func (FuncData.mk (Str.ofString "told") (Str.ofString "Token.told") (fP (nth (cB (st 56)) 1)) (FuncBody.stmts (fB (nth (cB (st 56)) 1))) (fS (nth (cB (st 56)) 1)) (nat_lit 0) [] Value.none Value.none Value.none Value.none none Value.none Value.none (nat_lit 0))) ⟨[]⟩)
@[reducible] noncomputable def o521 (P : Params) : Obj := co [(v "told" (nat_lit 881)), (v "Token.told" (nat_lit 882)), (v "/claim/cut.py" (nat_lit 883)), (Value.int (.ofNat (nat_lit 391)) (nat_lit 0)), (Value.int (.ofNat (nat_lit 1)) (nat_lit 0)), (Value.int (.ofNat (nat_lit 0)) (nat_lit 0)), (Value.int (.ofNat (nat_lit 0)) (nat_lit 0)), (Value.int (.ofNat (nat_lit 3)) (nat_lit 0)), (r (nat_lit 516)), (Value.bool Bool.true), (Value.int (.ofNat (nat_lit 181)) (nat_lit 0)), (r (nat_lit 517)), Value.none, (r (nat_lit 518)), (r (nat_lit 519)), (r (nat_lit 520)), (Value.int (.ofNat (nat_lit 885)) (nat_lit 0)), (Value.int (.ofNat (nat_lit 391)) (nat_lit 0)), (v "/claim/cut.py" (nat_lit 886))]
@[reducible] noncomputable def o522 (P : Params) : Obj := (Obj.mk (Value.type "function") none (Data.func (FuncData.mk (Str.ofString "told") (Str.ofString "Token.told") (fP (nth (cB (st 56)) 1)) (FuncBody.stmts (fB (nth (cB (st 56)) 1))) (fS (nth (cB (st 56)) 1)) (nat_lit 3) [] Value.none Value.none Value.none (v "ledgerspeak.tokens" (nat_lit 854)) none (r (nat_lit 521)) Value.none (nat_lit 0))) ⟨[]⟩)
@[reducible] noncomputable def o523 (P : Params) : Obj := tp [(v "at" (nat_lit 888)), (v "is_in_a" (nat_lit 889)), (v "kind" (nat_lit 890)), (v "worth" (nat_lit 891))]
@[reducible] noncomputable def o524 (P : Params) : Obj := dc [(e P "__module__" (nat_lit 863) (v "ledgerspeak.tokens" (nat_lit 854))), (e P "__firstlineno__" (nat_lit 867) (Value.int (.ofNat (nat_lit 383)) (nat_lit 866))), (e P "__init__" (nat_lit 880) (r (nat_lit 515))), (e P "told" (nat_lit 887) (r (nat_lit 522))), (e P "__static_attributes__" (nat_lit 892) (r (nat_lit 523))), (e P "__dict__" (nat_lit 894) (r (nat_lit 526))), (e P "__weakref__" (nat_lit 896) (r (nat_lit 527))), (e P "__doc__" (nat_lit 897) Value.none)] (nat_lit 4)
@[reducible] noncomputable def o525 (P : Params) : Obj := (Obj.mk (Value.type "type") none (Data.cls (ClassData.mk (Str.ofString "Token") [(Value.type "object")] [(r (nat_lit 525)), (Value.type "object")] (nat_lit 524) (Str.ofString "Token") Bool.true [] [] Bool.false none Bool.false)) ⟨[none, none, (some (v "Token" (nat_lit 856))), (some (v "Token" (nat_lit 864))), (some (Value.builtin "object.__new__")), (some (Value.bool Bool.true))]⟩)
@[reducible] noncomputable def o526 (P : Params) : Obj := (Obj.mk (Value.type "getset_descriptor") none (Data.fields ⟨[(v "__dict__" (nat_lit 893)), (r (nat_lit 525)), (Value.builtin "function.__dict__"), (Value.builtin "function.__dict__#set")]⟩) ⟨[]⟩)
@[reducible] noncomputable def o527 (P : Params) : Obj := (Obj.mk (Value.type "getset_descriptor") none (Data.fields ⟨[(v "__weakref__" (nat_lit 895)), (r (nat_lit 525)), (Value.builtin "ExceptionGroup.__weakref__"), Value.none]⟩) ⟨[]⟩)
@[reducible] noncomputable def o528 (P : Params) : Obj := (Obj.mk (Value.type "super") none (Data.fields ⟨[(r (nat_lit 525)), (r (nat_lit 525)), (r (nat_lit 525))]⟩) ⟨[]⟩)
@[reducible] noncomputable def o529 (P : Params) : Obj := (Obj.mk (Value.type "builtin_function_or_method") none (Data.fields ⟨[(Value.builtin "object.__init_subclass__"), (r (nat_lit 525))]⟩) ⟨[]⟩)
@[reducible] noncomputable def o530 (P : Params) : Obj := tp []
@[reducible] noncomputable def o531 (P : Params) : Obj := nf []
@[reducible] noncomputable def o532 (P : Params) : Obj := (Obj.mk Value.none none (Data.func (FuncData.mk (Str.ofString "_law_pen") (Str.ofString "_law_pen") (fP (st 58)) (FuncBody.stmts (fB (st 58))) (fS (st 58)) (nat_lit 0) [] Value.none Value.none Value.none Value.none none Value.none Value.none (nat_lit 0))) ⟨[]⟩)
@[reducible] noncomputable def o533 (P : Params) : Obj := co [(v "_law_pen" (nat_lit 902)), (v "_law_pen" (nat_lit 903)), (v "/claim/cut.py" (nat_lit 904)), (Value.int (.ofNat (nat_lit 394)) (nat_lit 0)), (Value.int (.ofNat (nat_lit 1)) (nat_lit 0)), (Value.int (.ofNat (nat_lit 0)) (nat_lit 0)), (Value.int (.ofNat (nat_lit 0)) (nat_lit 0)), (Value.int (.ofNat (nat_lit 3)) (nat_lit 0)), (r (nat_lit 530)), (Value.bool Bool.true), (Value.int (.ofNat (nat_lit 181)) (nat_lit 0)), (r (nat_lit 531)), Value.none, Value.none, Value.none, (r (nat_lit 532)), (Value.int (.ofNat (nat_lit 905)) (nat_lit 0)), (Value.int (.ofNat (nat_lit 394)) (nat_lit 0)), (v "/claim/cut.py" (nat_lit 906))]
@[reducible] noncomputable def o534 (P : Params) : Obj := (Obj.mk (Value.type "function") none (Data.func (FuncData.mk (Str.ofString "_law_pen") (Str.ofString "_law_pen") (fP (st 58)) (FuncBody.stmts (fB (st 58))) (fS (st 58)) (nat_lit 3) [] Value.none Value.none Value.none (v "law_pb0271_01" (nat_lit 900)) none (r (nat_lit 533)) Value.none (nat_lit 0))) ⟨[]⟩)
@[reducible] noncomputable def o535 (P : Params) : Obj := tp []
@[reducible] noncomputable def o536 (P : Params) : Obj := nf []
@[reducible] noncomputable def o537 (P : Params) : Obj := tp [(v "pen" (nat_lit 911)), (v "many" (nat_lit 912)), (v "turn" (nat_lit 913)), (v "fresh" (nat_lit 914)), (v "digit" (nat_lit 915))]
@[reducible] noncomputable def o538 (P : Params) : Obj := tp []
@[reducible] noncomputable def o539 (P : Params) : Obj := (Obj.mk Value.none none (Data.func (FuncData.mk (Str.ofString "_law_draw") (Str.ofString "_law_draw") (fP (st 59)) (FuncBody.stmts (fB (st 59))) (fS (st 59)) (nat_lit 0) [] Value.none Value.none Value.none Value.none none Value.none Value.none (nat_lit 0))) ⟨[]⟩)
@[reducible] noncomputable def o540 (P : Params) : Obj := co [(v "_law_draw" (nat_lit 908)), (v "_law_draw" (nat_lit 909)), (v "/claim/cut.py" (nat_lit 910)), (Value.int (.ofNat (nat_lit 397)) (nat_lit 0)), (Value.int (.ofNat (nat_lit 2)) (nat_lit 0)), (Value.int (.ofNat (nat_lit 0)) (nat_lit 0)), (Value.int (.ofNat (nat_lit 0)) (nat_lit 0)), (Value.int (.ofNat (nat_lit 3)) (nat_lit 0)), (r (nat_lit 535)), (Value.bool Bool.true), (Value.int (.ofNat (nat_lit 181)) (nat_lit 0)), (r (nat_lit 536)), Value.none, (r (nat_lit 537)), (r (nat_lit 538)), (r (nat_lit 539)), (Value.int (.ofNat (nat_lit 916)) (nat_lit 0)), (Value.int (.ofNat (nat_lit 397)) (nat_lit 0)), (v "/claim/cut.py" (nat_lit 917))]
@[reducible] noncomputable def o541 (P : Params) : Obj := (Obj.mk (Value.type "function") none (Data.func (FuncData.mk (Str.ofString "_law_draw") (Str.ofString "_law_draw") (fP (st 59)) (FuncBody.stmts (fB (st 59))) (fS (st 59)) (nat_lit 3) [] Value.none Value.none Value.none (v "law_pb0271_01" (nat_lit 900)) none (r (nat_lit 540)) Value.none (nat_lit 0))) ⟨[]⟩)
@[reducible] noncomputable def o542 (P : Params) : Obj := tp []
@[reducible] noncomputable def o543 (P : Params) : Obj := nf []
@[reducible] noncomputable def o544 (P : Params) : Obj := tp [(v "pen" (nat_lit 922)), (v "some" (nat_lit 923))]
@[reducible] noncomputable def o545 (P : Params) : Obj := tp []
@[reducible] noncomputable def o546 (P : Params) : Obj := (Obj.mk Value.none none (Data.func (FuncData.mk (Str.ofString "_law_pick") (Str.ofString "_law_pick") (fP (st 60)) (FuncBody.stmts (fB (st 60))) (fS (st 60)) (nat_lit 0) [] Value.none Value.none Value.none Value.none none Value.none Value.none (nat_lit 0))) ⟨[]⟩)
@[reducible] noncomputable def o547 (P : Params) : Obj := co [(v "_law_pick" (nat_lit 919)), (v "_law_pick" (nat_lit 920)), (v "/claim/cut.py" (nat_lit 921)), (Value.int (.ofNat (nat_lit 406)) (nat_lit 0)), (Value.int (.ofNat (nat_lit 2)) (nat_lit 0)), (Value.int (.ofNat (nat_lit 0)) (nat_lit 0)), (Value.int (.ofNat (nat_lit 0)) (nat_lit 0)), (Value.int (.ofNat (nat_lit 3)) (nat_lit 0)), (r (nat_lit 542)), (Value.bool Bool.true), (Value.int (.ofNat (nat_lit 181)) (nat_lit 0)), (r (nat_lit 543)), Value.none, (r (nat_lit 544)), (r (nat_lit 545)), (r (nat_lit 546)), (Value.int (.ofNat (nat_lit 924)) (nat_lit 0)), (Value.int (.ofNat (nat_lit 406)) (nat_lit 0)), (v "/claim/cut.py" (nat_lit 925))]
@[reducible] noncomputable def o548 (P : Params) : Obj := (Obj.mk (Value.type "function") none (Data.func (FuncData.mk (Str.ofString "_law_pick") (Str.ofString "_law_pick") (fP (st 60)) (FuncBody.stmts (fB (st 60))) (fS (st 60)) (nat_lit 3) [] Value.none Value.none Value.none (v "law_pb0271_01" (nat_lit 900)) none (r (nat_lit 547)) Value.none (nat_lit 0))) ⟨[]⟩)
@[reducible] noncomputable def o549 (P : Params) : Obj := tp []
@[reducible] noncomputable def o550 (P : Params) : Obj := nf []
@[reducible] noncomputable def o551 (P : Params) : Obj := (Obj.mk Value.none none (Data.func (FuncData.mk (Str.ofString "_law_words") (Str.ofString "_law_words") (fP (st 61)) (FuncBody.stmts (fB (st 61))) (fS (st 61)) (nat_lit 0) [] Value.none Value.none Value.none Value.none none Value.none Value.none (nat_lit 0))) ⟨[]⟩)
@[reducible] noncomputable def o552 (P : Params) : Obj := co [(v "_law_words" (nat_lit 927)), (v "_law_words" (nat_lit 928)), (v "/claim/cut.py" (nat_lit 929)), (Value.int (.ofNat (nat_lit 408)) (nat_lit 0)), (Value.int (.ofNat (nat_lit 1)) (nat_lit 0)), (Value.int (.ofNat (nat_lit 0)) (nat_lit 0)), (Value.int (.ofNat (nat_lit 0)) (nat_lit 0)), (Value.int (.ofNat (nat_lit 3)) (nat_lit 0)), (r (nat_lit 549)), (Value.bool Bool.true), (Value.int (.ofNat (nat_lit 181)) (nat_lit 0)), (r (nat_lit 550)), Value.none, Value.none, Value.none, (r (nat_lit 551)), (Value.int (.ofNat (nat_lit 930)) (nat_lit 0)), (Value.int (.ofNat (nat_lit 408)) (nat_lit 0)), (v "/claim/cut.py" (nat_lit 931))]
@[reducible] noncomputable def o553 (P : Params) : Obj := (Obj.mk (Value.type "function") none (Data.func (FuncData.mk (Str.ofString "_law_words") (Str.ofString "_law_words") (fP (st 61)) (FuncBody.stmts (fB (st 61))) (fS (st 61)) (nat_lit 3) [] Value.none Value.none Value.none (v "law_pb0271_01" (nat_lit 900)) none (r (nat_lit 552)) Value.none (nat_lit 0))) ⟨[]⟩)
@[reducible] noncomputable def o554 (P : Params) : Obj := tp []
@[reducible] noncomputable def o555 (P : Params) : Obj := nf []
@[reducible] noncomputable def o556 (P : Params) : Obj := (Obj.mk Value.none none (Data.func (FuncData.mk (Str.ofString "_law_reader") (Str.ofString "_law_reader") (fP (st 62)) (FuncBody.stmts (fB (st 62))) (fS (st 62)) (nat_lit 0) [] Value.none Value.none Value.none Value.none none Value.none Value.none (nat_lit 0))) ⟨[]⟩)
@[reducible] noncomputable def o557 (P : Params) : Obj := co [(v "_law_reader" (nat_lit 933)), (v "_law_reader" (nat_lit 934)), (v "/claim/cut.py" (nat_lit 935)), (Value.int (.ofNat (nat_lit 410)) (nat_lit 0)), (Value.int (.ofNat (nat_lit 1)) (nat_lit 0)), (Value.int (.ofNat (nat_lit 0)) (nat_lit 0)), (Value.int (.ofNat (nat_lit 0)) (nat_lit 0)), (Value.int (.ofNat (nat_lit 3)) (nat_lit 0)), (r (nat_lit 554)), (Value.bool Bool.true), (Value.int (.ofNat (nat_lit 181)) (nat_lit 0)), (r (nat_lit 555)), Value.none, Value.none, Value.none, (r (nat_lit 556)), (Value.int (.ofNat (nat_lit 936)) (nat_lit 0)), (Value.int (.ofNat (nat_lit 410)) (nat_lit 0)), (v "/claim/cut.py" (nat_lit 937))]
@[reducible] noncomputable def o558 (P : Params) : Obj := (Obj.mk (Value.type "function") none (Data.func (FuncData.mk (Str.ofString "_law_reader") (Str.ofString "_law_reader") (fP (st 62)) (FuncBody.stmts (fB (st 62))) (fS (st 62)) (nat_lit 3) [] Value.none Value.none Value.none (v "law_pb0271_01" (nat_lit 900)) none (r (nat_lit 557)) Value.none (nat_lit 0))) ⟨[]⟩)
@[reducible] noncomputable def o559 (P : Params) : Obj := tp []
@[reducible] noncomputable def o560 (P : Params) : Obj := nf []
@[reducible] noncomputable def o561 (P : Params) : Obj := tp [(v "name" (nat_lit 942))]
@[reducible] noncomputable def o562 (P : Params) : Obj := tp []
@[reducible] noncomputable def o563 (P : Params) : Obj := (Obj.mk Value.none none (Data.func (FuncData.mk (Str.ofString "_law_item") (Str.ofString "_law_item") (fP (st 63)) (FuncBody.stmts (fB (st 63))) (fS (st 63)) (nat_lit 0) [] Value.none Value.none Value.none Value.none none Value.none Value.none (nat_lit 0))) ⟨[]⟩)
@[reducible] noncomputable def o564 (P : Params) : Obj := co [(v "_law_item" (nat_lit 939)), (v "_law_item" (nat_lit 940)), (v "/claim/cut.py" (nat_lit 941)), (Value.int (.ofNat (nat_lit 412)) (nat_lit 0)), (Value.int (.ofNat (nat_lit 1)) (nat_lit 0)), (Value.int (.ofNat (nat_lit 0)) (nat_lit 0)), (Value.int (.ofNat (nat_lit 0)) (nat_lit 0)), (Value.int (.ofNat (nat_lit 3)) (nat_lit 0)), (r (nat_lit 559)), (Value.bool Bool.true), (Value.int (.ofNat (nat_lit 181)) (nat_lit 0)), (r (nat_lit 560)), Value.none, (r (nat_lit 561)), (r (nat_lit 562)), (r (nat_lit 563)), (Value.int (.ofNat (nat_lit 943)) (nat_lit 0)), (Value.int (.ofNat (nat_lit 412)) (nat_lit 0)), (v "/claim/cut.py" (nat_lit 944))]
@[reducible] noncomputable def o565 (P : Params) : Obj := (Obj.mk (Value.type "function") none (Data.func (FuncData.mk (Str.ofString "_law_item") (Str.ofString "_law_item") (fP (st 63)) (FuncBody.stmts (fB (st 63))) (fS (st 63)) (nat_lit 3) [] Value.none Value.none Value.none (v "law_pb0271_01" (nat_lit 900)) none (r (nat_lit 564)) Value.none (nat_lit 0))) ⟨[]⟩)
@[reducible] noncomputable def o566 (P : Params) : Obj := tp []
@[reducible] noncomputable def o567 (P : Params) : Obj := nf []
@[reducible] noncomputable def o568 (P : Params) : Obj := tp [(v "pen" (nat_lit 949)), (v "rows" (nat_lit 950))]
@[reducible] noncomputable def o569 (P : Params) : Obj := tp []
@[reducible] noncomputable def o570 (P : Params) : Obj := (Obj.mk Value.none none (Data.func (FuncData.mk (Str.ofString "_law_operand") (Str.ofString "_law_operand") (fP (st 64)) (FuncBody.stmts (fB (st 64))) (fS (st 64)) (nat_lit 0) [] Value.none Value.none Value.none Value.none none Value.none Value.none (nat_lit 0))) ⟨[]⟩)
@[reducible] noncomputable def o571 (P : Params) : Obj := co [(v "_law_operand" (nat_lit 946)), (v "_law_operand" (nat_lit 947)), (v "/claim/cut.py" (nat_lit 948)), (Value.int (.ofNat (nat_lit 414)) (nat_lit 0)), (Value.int (.ofNat (nat_lit 1)) (nat_lit 0)), (Value.int (.ofNat (nat_lit 0)) (nat_lit 0)), (Value.int (.ofNat (nat_lit 0)) (nat_lit 0)), (Value.int (.ofNat (nat_lit 3)) (nat_lit 0)), (r (nat_lit 566)), (Value.bool Bool.true), (Value.int (.ofNat (nat_lit 181)) (nat_lit 0)), (r (nat_lit 567)), Value.none, (r (nat_lit 568)), (r (nat_lit 569)), (r (nat_lit 570)), (Value.int (.ofNat (nat_lit 951)) (nat_lit 0)), (Value.int (.ofNat (nat_lit 414)) (nat_lit 0)), (v "/claim/cut.py" (nat_lit 952))]
@[reducible] noncomputable def o572 (P : Params) : Obj := (Obj.mk (Value.type "function") none (Data.func (FuncData.mk (Str.ofString "_law_operand") (Str.ofString "_law_operand") (fP (st 64)) (FuncBody.stmts (fB (st 64))) (fS (st 64)) (nat_lit 3) [] Value.none Value.none Value.none (v "law_pb0271_01" (nat_lit 900)) none (r (nat_lit 571)) Value.none (nat_lit 0))) ⟨[]⟩)
@[reducible] noncomputable def o573 (P : Params) : Obj := tp []
@[reducible] noncomputable def o574 (P : Params) : Obj := nf []
@[reducible] noncomputable def o575 (P : Params) : Obj := tp [(v "pen" (nat_lit 957)), (v "tokens" (nat_lit 958)), (v "told" (nat_lit 959)), (v "at" (nat_lit 960)), (v "more" (nat_lit 961))]
@[reducible] noncomputable def o576 (P : Params) : Obj := tp []
@[reducible] noncomputable def o577 (P : Params) : Obj := (Obj.mk Value.none none (Data.func (FuncData.mk (Str.ofString "_law_bounds") (Str.ofString "_law_bounds") (fP (st 65)) (FuncBody.stmts (fB (st 65))) (fS (st 65)) (nat_lit 0) [] Value.none Value.none Value.none Value.none none Value.none Value.none (nat_lit 0))) ⟨[]⟩)
@[reducible] noncomputable def o578 (P : Params) : Obj := co [(v "_law_bounds" (nat_lit 954)), (v "_law_bounds" (nat_lit 955)), (v "/claim/cut.py" (nat_lit 956)), (Value.int (.ofNat (nat_lit 419)) (nat_lit 0)), (Value.int (.ofNat (nat_lit 1)) (nat_lit 0)), (Value.int (.ofNat (nat_lit 0)) (nat_lit 0)), (Value.int (.ofNat (nat_lit 0)) (nat_lit 0)), (Value.int (.ofNat (nat_lit 3)) (nat_lit 0)), (r (nat_lit 573)), (Value.bool Bool.true), (Value.int (.ofNat (nat_lit 181)) (nat_lit 0)), (r (nat_lit 574)), Value.none, (r (nat_lit 575)), (r (nat_lit 576)), (r (nat_lit 577)), (Value.int (.ofNat (nat_lit 962)) (nat_lit 0)), (Value.int (.ofNat (nat_lit 419)) (nat_lit 0)), (v "/claim/cut.py" (nat_lit 963))]
@[reducible] noncomputable def o579 (P : Params) : Obj := (Obj.mk (Value.type "function") none (Data.func (FuncData.mk (Str.ofString "_law_bounds") (Str.ofString "_law_bounds") (fP (st 65)) (FuncBody.stmts (fB (st 65))) (fS (st 65)) (nat_lit 3) [] Value.none Value.none Value.none (v "law_pb0271_01" (nat_lit 900)) none (r (nat_lit 578)) Value.none (nat_lit 0))) ⟨[]⟩)
@[reducible] noncomputable def o580 (P : Params) : Obj := tp []
@[reducible] noncomputable def o581 (P : Params) : Obj := nf []
@[reducible] noncomputable def o582 (P : Params) : Obj := tp [(v "pen" (nat_lit 968)), (v "count" (nat_lit 969)), (v "word" (nat_lit 970)), (v "parts" (nat_lit 971)), (v "turn" (nat_lit 972)), (v "more" (nat_lit 973)), (v "tree" (nat_lit 974)), (v "bounds" (nat_lit 975)), (v "told" (nat_lit 976))]
@[reducible] noncomputable def o583 (P : Params) : Obj := tp []
@[reducible] noncomputable def o584 (P : Params) : Obj := (Obj.mk Value.none none (Data.func (FuncData.mk (Str.ofString "_law_sort") (Str.ofString "_law_sort") (fP (st 66)) (FuncBody.stmts (fB (st 66))) (fS (st 66)) (nat_lit 0) [] Value.none Value.none Value.none Value.none none Value.none Value.none (nat_lit 0))) ⟨[]⟩)
@[reducible] noncomputable def o585 (P : Params) : Obj := co [(v "_law_sort" (nat_lit 965)), (v "_law_sort" (nat_lit 966)), (v "/claim/cut.py" (nat_lit 967)), (Value.int (.ofNat (nat_lit 425)) (nat_lit 0)), (Value.int (.ofNat (nat_lit 2)) (nat_lit 0)), (Value.int (.ofNat (nat_lit 0)) (nat_lit 0)), (Value.int (.ofNat (nat_lit 0)) (nat_lit 0)), (Value.int (.ofNat (nat_lit 3)) (nat_lit 0)), (r (nat_lit 580)), (Value.bool Bool.true), (Value.int (.ofNat (nat_lit 181)) (nat_lit 0)), (r (nat_lit 581)), Value.none, (r (nat_lit 582)), (r (nat_lit 583)), (r (nat_lit 584)), (Value.int (.ofNat (nat_lit 977)) (nat_lit 0)), (Value.int (.ofNat (nat_lit 425)) (nat_lit 0)), (v "/claim/cut.py" (nat_lit 978))]
@[reducible] noncomputable def o586 (P : Params) : Obj := (Obj.mk (Value.type "function") none (Data.func (FuncData.mk (Str.ofString "_law_sort") (Str.ofString "_law_sort") (fP (st 66)) (FuncBody.stmts (fB (st 66))) (fS (st 66)) (nat_lit 3) [] Value.none Value.none Value.none (v "law_pb0271_01" (nat_lit 900)) none (r (nat_lit 585)) Value.none (nat_lit 0))) ⟨[]⟩)
@[reducible] noncomputable def o587 (P : Params) : Obj := tp []
@[reducible] noncomputable def o588 (P : Params) : Obj := nf []
@[reducible] noncomputable def o589 (P : Params) : Obj := tp [(v "counts" (nat_lit 983)), (v "behind" (nat_lit 984)), (v "once" (nat_lit 985)), (v "again" (nat_lit 986)), (v "rows" (nat_lit 987)), (v "count" (nat_lit 988)), (v "sorts" (nat_lit 989)), (v "word" (nat_lit 990)), (v "parts" (nat_lit 991)), (v "tokens" (nat_lit 992)), (v "row" (nat_lit 993)), (v "reader" (nat_lit 994))]
@[reducible] noncomputable def o590 (P : Params) : Obj := tp []
@[reducible] noncomputable def o591 (P : Params) : Obj := (Obj.mk Value.none none (Data.func (FuncData.mk (Str.ofString "_law_right") (Str.ofString "_law_right") (fP (st 67)) (FuncBody.stmts (fB (st 67))) (fS (st 67)) (nat_lit 0) [] Value.none Value.none Value.none Value.none none Value.none Value.none (nat_lit 0))) ⟨[]⟩)
@[reducible] noncomputable def o592 (P : Params) : Obj := co [(v "_law_right" (nat_lit 980)), (v "_law_right" (nat_lit 981)), (v "/claim/cut.py" (nat_lit 982)), (Value.int (.ofNat (nat_lit 432)) (nat_lit 0)), (Value.int (.ofNat (nat_lit 2)) (nat_lit 0)), (Value.int (.ofNat (nat_lit 0)) (nat_lit 0)), (Value.int (.ofNat (nat_lit 0)) (nat_lit 0)), (Value.int (.ofNat (nat_lit 3)) (nat_lit 0)), (r (nat_lit 587)), (Value.bool Bool.true), (Value.int (.ofNat (nat_lit 181)) (nat_lit 0)), (r (nat_lit 588)), Value.none, (r (nat_lit 589)), (r (nat_lit 590)), (r (nat_lit 591)), (Value.int (.ofNat (nat_lit 995)) (nat_lit 0)), (Value.int (.ofNat (nat_lit 432)) (nat_lit 0)), (v "/claim/cut.py" (nat_lit 996))]
@[reducible] noncomputable def o593 (P : Params) : Obj := (Obj.mk (Value.type "function") none (Data.func (FuncData.mk (Str.ofString "_law_right") (Str.ofString "_law_right") (fP (st 67)) (FuncBody.stmts (fB (st 67))) (fS (st 67)) (nat_lit 3) [] Value.none Value.none Value.none (v "law_pb0271_01" (nat_lit 900)) none (r (nat_lit 592)) Value.none (nat_lit 0))) ⟨[]⟩)
@[reducible] noncomputable def o594 (P : Params) : Obj := tp []
@[reducible] noncomputable def o595 (P : Params) : Obj := nf []
@[reducible] noncomputable def o596 (P : Params) : Obj := (Obj.mk Value.none none (Data.func (FuncData.mk (Str.ofString "law") (Str.ofString "law") (fP (st 68)) (FuncBody.stmts (fB (st 68))) (fS (st 68)) (nat_lit 0) [] Value.none Value.none Value.none Value.none none Value.none Value.none (nat_lit 0))) ⟨[]⟩)
@[reducible] noncomputable def o597 (P : Params) : Obj := co [(v "law" (nat_lit 998)), (v "law" (nat_lit 999)), (v "/claim/cut.py" (nat_lit 1000)), (Value.int (.ofNat (nat_lit 447)) (nat_lit 0)), (Value.int (.ofNat (nat_lit 1)) (nat_lit 0)), (Value.int (.ofNat (nat_lit 0)) (nat_lit 0)), (Value.int (.ofNat (nat_lit 0)) (nat_lit 0)), (Value.int (.ofNat (nat_lit 3)) (nat_lit 0)), (r (nat_lit 594)), (Value.bool Bool.true), (Value.int (.ofNat (nat_lit 181)) (nat_lit 0)), (r (nat_lit 595)), Value.none, Value.none, Value.none, (r (nat_lit 596)), (Value.int (.ofNat (nat_lit 1001)) (nat_lit 0)), (Value.int (.ofNat (nat_lit 447)) (nat_lit 0)), (v "/claim/cut.py" (nat_lit 1002))]
@[reducible] noncomputable def o598 (P : Params) : Obj := (Obj.mk (Value.type "function") none (Data.func (FuncData.mk (Str.ofString "law") (Str.ofString "law") (fP (st 68)) (FuncBody.stmts (fB (st 68))) (fS (st 68)) (nat_lit 3) [] Value.none Value.none Value.none (v "law_pb0271_01" (nat_lit 900)) none (r (nat_lit 597)) Value.none (nat_lit 0))) ⟨[]⟩)
noncomputable def T5 (P : Params) : BT := (.node (boot_o_0 P) (.node (boot_o_1 P) (.node (o3_4 P) (.node (boot_o_7 P) (.node (o15 P) (.node (o31 P) (.node (o63 P) (.node (o127 P) (.node (o255 P) (.node (o511 P) .nil .nil) .nil) (.node (o383 P) .nil .nil)) (.node (o191 P) (.node (o319 P) (.node (o575 P) .nil .nil) .nil) (.node (o447 P) .nil .nil))) (.node (o95 P) (.node (o159 P) (.node (o287 P) (.node (o543 P) .nil .nil) .nil) (.node (o415 P) .nil .nil)) (.node (o223 P) (.node (o351 P) .nil .nil) (.node (o479 P) .nil .nil)))) (.node (o47 P) (.node (o79 P) (.node (o143 P) (.node (o271 P) (.node (o527 P) .nil .nil) .nil) (.node (o399 P) .nil .nil)) (.node (o207 P) (.node (o335 P) (.node (o591 P) .nil .nil) .nil) (.node (o463 P) .nil .nil))) (.node (o111 P) (.node (o175 P) (.node (o303 P) (.node (o559 P) .nil .nil) .nil) (.node (o431 P) .nil .nil)) (.node (o239 P) (.node (o367 P) .nil .nil) (.node (o495 P) .nil .nil))))) (.node (o23 P) (.node (o39 P) (.node (o71 P) (.node (o135 P) (.node (o263 P) (.node (o519 P) .nil .nil) .nil) (.node (o391 P) .nil .nil)) (.node (o199 P) (.node (o327 P) (.node (o583 P) .nil .nil) .nil) (.node (o455 P) .nil .nil))) (.node (o103 P) (.node (o167 P) (.node (o295 P) (.node (o551 P) .nil .nil) .nil) (.node (o423 P) .nil .nil)) (.node (o231 P) (.node (o359 P) .nil .nil) (.node (o487 P) .nil .nil)))) (.node (o55 P) (.node (o87 P) (.node (o151 P) (.node (o279 P) (.node (o535 P) .nil .nil) .nil) (.node (o407 P) .nil .nil)) (.node (o215 P) (.node (o343 P) .nil .nil) (.node (o471 P) .nil .nil))) (.node (o119 P) (.node (o183 P) (.node (o311 P) (.node (o567 P) .nil .nil) .nil) (.node (o439 P) .nil .nil)) (.node (o247 P) (.node (o375 P) .nil .nil) (.node (o503 P) .nil .nil)))))) (.node (o11 P) (.node (o19 P) (.node (o35 P) (.node (o67 P) (.node (o131 P) (.node (o259 P) (.node (o515 P) .nil .nil) .nil) (.node (o387 P) .nil .nil)) (.node (o195 P) (.node (o323 P) (.node (o579 P) .nil .nil) .nil) (.node (o451 P) .nil .nil))) (.node (o99 P) (.node (o163 P) (.node (o291 P) (.node (o547 P) .nil .nil) .nil) (.node (o419 P) .nil .nil)) (.node (o227 P) (.node (o355 P) .nil .nil) (.node (o483 P) .nil .nil)))) (.node (o51 P) (.node (o83 P) (.node (o147 P) (.node (o275 P) (.node (o531 P) .nil .nil) .nil) (.node (o403 P) .nil .nil)) (.node (o211 P) (.node (o339 P) (.node (o595 P) .nil .nil) .nil) (.node (o467 P) .nil .nil))) (.node (o115 P) (.node (o179 P) (.node (o307 P) (.node (o563 P) .nil .nil) .nil) (.node (o435 P) .nil .nil)) (.node (o243 P) (.node (o371 P) .nil .nil) (.node (o499 P) .nil .nil))))) (.node (o27 P) (.node (o43 P) (.node (o75 P) (.node (o139 P) (.node (o267 P) (.node (o523 P) .nil .nil) .nil) (.node (o395 P) .nil .nil)) (.node (o203 P) (.node (o331 P) (.node (o587 P) .nil .nil) .nil) (.node (o459 P) .nil .nil))) (.node (o107 P) (.node (o171 P) (.node (o299 P) (.node (o555 P) .nil .nil) .nil) (.node (o427 P) .nil .nil)) (.node (o235 P) (.node (o363 P) .nil .nil) (.node (o491 P) .nil .nil)))) (.node (o59 P) (.node (o91 P) (.node (o155 P) (.node (o283 P) (.node (o539 P) .nil .nil) .nil) (.node (o411 P) .nil .nil)) (.node (o219 P) (.node (o347 P) .nil .nil) (.node (o475 P) .nil .nil))) (.node (o123 P) (.node (o187 P) (.node (o315 P) (.node (o571 P) .nil .nil) .nil) (.node (o443 P) .nil .nil)) (.node (o251 P) (.node (o379 P) .nil .nil) (.node (o507 P) .nil .nil))))))) (.node (boot_o_5 P) (.node (boot_o_9 P) (.node (o17 P) (.node (o33 P) (.node (o65 P) (.node (o129 P) (.node (o257 P) (.node (o513 P) .nil .nil) .nil) (.node (o385 P) .nil .nil)) (.node (o193 P) (.node (o321 P) (.node (o577 P) .nil .nil) .nil) (.node (o449 P) .nil .nil))) (.node (o97 P) (.node (o161 P) (.node (o289 P) (.node (o545 P) .nil .nil) .nil) (.node (o417 P) .nil .nil)) (.node (o225 P) (.node (o353 P) .nil .nil) (.node (o481 P) .nil .nil)))) (.node (o49 P) (.node (o81 P) (.node (o145 P) (.node (o273 P) (.node (o529 P) .nil .nil) .nil) (.node (o401 P) .nil .nil)) (.node (o209 P) (.node (o337 P) (.node (o593 P) .nil .nil) .nil) (.node (o465 P) .nil .nil))) (.node (o113 P) (.node (o177 P) (.node (o305 P) (.node (o561 P) .nil .nil) .nil) (.node (o433 P) .nil .nil)) (.node (o241 P) (.node (o369 P) .nil .nil) (.node (o497 P) .nil .nil))))) (.node (o25 P) (.node (o41 P) (.node (o73 P) (.node (o137 P) (.node (o265 P) (.node (o521 P) .nil .nil) .nil) (.node (o393 P) .nil .nil)) (.node (o201 P) (.node (o329 P) (.node (o585 P) .nil .nil) .nil) (.node (o457 P) .nil .nil))) (.node (o105 P) (.node (o169 P) (.node (o297 P) (.node (o553 P) .nil .nil) .nil) (.node (o425 P) .nil .nil)) (.node (o233 P) (.node (o361 P) .nil .nil) (.node (o489 P) .nil .nil)))) (.node (o57 P) (.node (o89 P) (.node (o153 P) (.node (o281 P) (.node (o537 P) .nil .nil) .nil) (.node (o409 P) .nil .nil)) (.node (o217 P) (.node (o345 P) .nil .nil) (.node (o473 P) .nil .nil))) (.node (o121 P) (.node (o185 P) (.node (o313 P) (.node (o569 P) .nil .nil) .nil) (.node (o441 P) .nil .nil)) (.node (o249 P) (.node (o377 P) .nil .nil) (.node (o505 P) .nil .nil)))))) (.node (o13 P) (.node (o21 P) (.node (o37 P) (.node (o69 P) (.node (o133 P) (.node (o261 P) (.node (o517 P) .nil .nil) .nil) (.node (o389 P) .nil .nil)) (.node (o197 P) (.node (o325 P) (.node (o581 P) .nil .nil) .nil) (.node (o453 P) .nil .nil))) (.node (o101 P) (.node (o165 P) (.node (o293 P) (.node (o549 P) .nil .nil) .nil) (.node (o421 P) .nil .nil)) (.node (o229 P) (.node (o357 P) .nil .nil) (.node (o485 P) .nil .nil)))) (.node (o53 P) (.node (o85 P) (.node (o149 P) (.node (o277 P) (.node (o533 P) .nil .nil) .nil) (.node (o405 P) .nil .nil)) (.node (o213 P) (.node (o341 P) (.node (o597 P) .nil .nil) .nil) (.node (o469 P) .nil .nil))) (.node (o117 P) (.node (o181 P) (.node (o309 P) (.node (o565 P) .nil .nil) .nil) (.node (o437 P) .nil .nil)) (.node (o245 P) (.node (o373 P) .nil .nil) (.node (o501 P) .nil .nil))))) (.node (o29 P) (.node (o45 P) (.node (o77 P) (.node (o141 P) (.node (o269 P) (.node (o525 P) .nil .nil) .nil) (.node (o397 P) .nil .nil)) (.node (o205 P) (.node (o333 P) (.node (o589 P) .nil .nil) .nil) (.node (o461 P) .nil .nil))) (.node (o109 P) (.node (o173 P) (.node (o301 P) (.node (o557 P) .nil .nil) .nil) (.node (o429 P) .nil .nil)) (.node (o237 P) (.node (o365 P) .nil .nil) (.node (o493 P) .nil .nil)))) (.node (o61 P) (.node (o93 P) (.node (o157 P) (.node (o285 P) (.node (o541 P) .nil .nil) .nil) (.node (o413 P) .nil .nil)) (.node (o221 P) (.node (o349 P) .nil .nil) (.node (o477 P) .nil .nil))) (.node (o125 P) (.node (o189 P) (.node (o317 P) (.node (o573 P) .nil .nil) .nil) (.node (o445 P) .nil .nil)) (.node (o253 P) (.node (o381 P) .nil .nil) (.node (o509 P) .nil .nil)))))))) (.node (o2_0 P) (.node (boot_o_4 P) (.node (boot_o_8 P) (.node (o16 P) (.node (o32 P) (.node (o64 P) (.node (o128 P) (.node (o256 P) (.node (o512 P) .nil .nil) .nil) (.node (o384 P) .nil .nil)) (.node (o192 P) (.node (o320 P) (.node (o576 P) .nil .nil) .nil) (.node (o448 P) .nil .nil))) (.node (o96 P) (.node (o160 P) (.node (o288 P) (.node (o544 P) .nil .nil) .nil) (.node (o416 P) .nil .nil)) (.node (o224 P) (.node (o352 P) .nil .nil) (.node (o480 P) .nil .nil)))) (.node (o48 P) (.node (o80 P) (.node (o144 P) (.node (o272 P) (.node (o528 P) .nil .nil) .nil) (.node (o400 P) .nil .nil)) (.node (o208 P) (.node (o336 P) (.node (o592 P) .nil .nil) .nil) (.node (o464 P) .nil .nil))) (.node (o112 P) (.node (o176 P) (.node (o304 P) (.node (o560 P) .nil .nil) .nil) (.node (o432 P) .nil .nil)) (.node (o240 P) (.node (o368 P) .nil .nil) (.node (o496 P) .nil .nil))))) (.node (o24 P) (.node (o40 P) (.node (o72 P) (.node (o136 P) (.node (o264 P) (.node (o520 P) .nil .nil) .nil) (.node (o392 P) .nil .nil)) (.node (o200 P) (.node (o328 P) (.node (o584 P) .nil .nil) .nil) (.node (o456 P) .nil .nil))) (.node (o104 P) (.node (o168 P) (.node (o296 P) (.node (o552 P) .nil .nil) .nil) (.node (o424 P) .nil .nil)) (.node (o232 P) (.node (o360 P) .nil .nil) (.node (o488 P) .nil .nil)))) (.node (o56 P) (.node (o88 P) (.node (o152 P) (.node (o280 P) (.node (o536 P) .nil .nil) .nil) (.node (o408 P) .nil .nil)) (.node (o216 P) (.node (o344 P) .nil .nil) (.node (o472 P) .nil .nil))) (.node (o120 P) (.node (o184 P) (.node (o312 P) (.node (o568 P) .nil .nil) .nil) (.node (o440 P) .nil .nil)) (.node (o248 P) (.node (o376 P) .nil .nil) (.node (o504 P) .nil .nil)))))) (.node (o12_5 P) (.node (o20 P) (.node (o36 P) (.node (o68 P) (.node (o132 P) (.node (o260 P) (.node (o516 P) .nil .nil) .nil) (.node (o388 P) .nil .nil)) (.node (o196 P) (.node (o324 P) (.node (o580 P) .nil .nil) .nil) (.node (o452 P) .nil .nil))) (.node (o100 P) (.node (o164 P) (.node (o292 P) (.node (o548 P) .nil .nil) .nil) (.node (o420 P) .nil .nil)) (.node (o228 P) (.node (o356 P) .nil .nil) (.node (o484 P) .nil .nil)))) (.node (o52 P) (.node (o84 P) (.node (o148 P) (.node (o276 P) (.node (o532 P) .nil .nil) .nil) (.node (o404 P) .nil .nil)) (.node (o212 P) (.node (o340 P) (.node (o596 P) .nil .nil) .nil) (.node (o468 P) .nil .nil))) (.node (o116 P) (.node (o180 P) (.node (o308 P) (.node (o564 P) .nil .nil) .nil) (.node (o436 P) .nil .nil)) (.node (o244 P) (.node (o372 P) .nil .nil) (.node (o500 P) .nil .nil))))) (.node (o28 P) (.node (o44 P) (.node (o76 P) (.node (o140 P) (.node (o268 P) (.node (o524 P) .nil .nil) .nil) (.node (o396 P) .nil .nil)) (.node (o204 P) (.node (o332 P) (.node (o588 P) .nil .nil) .nil) (.node (o460 P) .nil .nil))) (.node (o108 P) (.node (o172 P) (.node (o300 P) (.node (o556 P) .nil .nil) .nil) (.node (o428 P) .nil .nil)) (.node (o236 P) (.node (o364 P) .nil .nil) (.node (o492 P) .nil .nil)))) (.node (o60 P) (.node (o92 P) (.node (o156 P) (.node (o284 P) (.node (o540 P) .nil .nil) .nil) (.node (o412 P) .nil .nil)) (.node (o220 P) (.node (o348 P) .nil .nil) (.node (o476 P) .nil .nil))) (.node (o124 P) (.node (o188 P) (.node (o316 P) (.node (o572 P) .nil .nil) .nil) (.node (o444 P) .nil .nil)) (.node (o252 P) (.node (o380 P) .nil .nil) (.node (o508 P) .nil .nil))))))) (.node (boot_o_6 P) (.node (boot_o_10 P) (.node (o18 P) (.node (o34 P) (.node (o66 P) (.node (o130 P) (.node (o258 P) (.node (o514 P) .nil .nil) .nil) (.node (o386 P) .nil .nil)) (.node (o194 P) (.node (o322 P) (.node (o578 P) .nil .nil) .nil) (.node (o450 P) .nil .nil))) (.node (o98 P) (.node (o162 P) (.node (o290 P) (.node (o546 P) .nil .nil) .nil) (.node (o418 P) .nil .nil)) (.node (o226 P) (.node (o354 P) .nil .nil) (.node (o482 P) .nil .nil)))) (.node (o50 P) (.node (o82 P) (.node (o146 P) (.node (o274 P) (.node (o530 P) .nil .nil) .nil) (.node (o402 P) .nil .nil)) (.node (o210 P) (.node (o338 P) (.node (o594 P) .nil .nil) .nil) (.node (o466 P) .nil .nil))) (.node (o114 P) (.node (o178 P) (.node (o306 P) (.node (o562 P) .nil .nil) .nil) (.node (o434 P) .nil .nil)) (.node (o242 P) (.node (o370 P) .nil .nil) (.node (o498 P) .nil .nil))))) (.node (o26 P) (.node (o42 P) (.node (o74 P) (.node (o138 P) (.node (o266 P) (.node (o522 P) .nil .nil) .nil) (.node (o394 P) .nil .nil)) (.node (o202 P) (.node (o330 P) (.node (o586 P) .nil .nil) .nil) (.node (o458 P) .nil .nil))) (.node (o106 P) (.node (o170 P) (.node (o298 P) (.node (o554 P) .nil .nil) .nil) (.node (o426 P) .nil .nil)) (.node (o234 P) (.node (o362 P) .nil .nil) (.node (o490 P) .nil .nil)))) (.node (o58 P) (.node (o90 P) (.node (o154 P) (.node (o282 P) (.node (o538 P) .nil .nil) .nil) (.node (o410 P) .nil .nil)) (.node (o218 P) (.node (o346 P) .nil .nil) (.node (o474 P) .nil .nil))) (.node (o122 P) (.node (o186 P) (.node (o314 P) (.node (o570 P) .nil .nil) .nil) (.node (o442 P) .nil .nil)) (.node (o250 P) (.node (o378 P) .nil .nil) (.node (o506 P) .nil .nil)))))) (.node (o14 P) (.node (o22 P) (.node (o38 P) (.node (o70 P) (.node (o134 P) (.node (o262 P) (.node (o518 P) .nil .nil) .nil) (.node (o390 P) .nil .nil)) (.node (o198 P) (.node (o326 P) (.node (o582 P) .nil .nil) .nil) (.node (o454 P) .nil .nil))) (.node (o102 P) (.node (o166 P) (.node (o294 P) (.node (o550 P) .nil .nil) .nil) (.node (o422 P) .nil .nil)) (.node (o230 P) (.node (o358 P) .nil .nil) (.node (o486 P) .nil .nil)))) (.node (o54 P) (.node (o86 P) (.node (o150 P) (.node (o278 P) (.node (o534 P) .nil .nil) .nil) (.node (o406 P) .nil .nil)) (.node (o214 P) (.node (o342 P) (.node (o598 P) .nil .nil) .nil) (.node (o470 P) .nil .nil))) (.node (o118 P) (.node (o182 P) (.node (o310 P) (.node (o566 P) .nil .nil) .nil) (.node (o438 P) .nil .nil)) (.node (o246 P) (.node (o374 P) .nil .nil) (.node (o502 P) .nil .nil))))) (.node (o30 P) (.node (o46 P) (.node (o78 P) (.node (o142 P) (.node (o270 P) (.node (o526 P) .nil .nil) .nil) (.node (o398 P) .nil .nil)) (.node (o206 P) (.node (o334 P) (.node (o590 P) .nil .nil) .nil) (.node (o462 P) .nil .nil))) (.node (o110 P) (.node (o174 P) (.node (o302 P) (.node (o558 P) .nil .nil) .nil) (.node (o430 P) .nil .nil)) (.node (o238 P) (.node (o366 P) .nil .nil) (.node (o494 P) .nil .nil)))) (.node (o62 P) (.node (o94 P) (.node (o158 P) (.node (o286 P) (.node (o542 P) .nil .nil) .nil) (.node (o414 P) .nil .nil)) (.node (o222 P) (.node (o350 P) .nil .nil) (.node (o478 P) .nil .nil))) (.node (o126 P) (.node (o190 P) (.node (o318 P) (.node (o574 P) .nil .nil) .nil) (.node (o446 P) .nil .nil)) (.node (o254 P) (.node (o382 P) .nil .nil) (.node (o510 P) .nil .nil)))))))))
noncomputable def HF (P : Params) : Heap := ⟨⟨boot_o_0 P :: boot_o_1 P :: o2_0 P :: o3_4 P :: boot_o_4 P :: boot_o_5 P :: boot_o_6 P :: boot_o_7 P :: boot_o_8 P :: boot_o_9 P :: boot_o_10 P :: o11 P :: o12_5 P :: o13 P :: o14 P :: o15 P :: o16 P :: o17 P :: o18 P :: o19 P :: o20 P :: o21 P :: o22 P :: o23 P :: o24 P :: o25 P :: o26 P :: o27 P :: o28 P :: o29 P :: o30 P :: o31 P :: o32 P :: o33 P :: o34 P :: o35 P :: o36 P :: o37 P :: o38 P :: o39 P :: o40 P :: o41 P :: o42 P :: o43 P :: o44 P :: o45 P :: o46 P :: o47 P :: o48 P :: o49 P :: o50 P :: o51 P :: o52 P :: o53 P :: o54 P :: o55 P :: o56 P :: o57 P :: o58 P :: o59 P :: o60 P :: o61 P :: o62 P :: o63 P :: o64 P :: o65 P :: o66 P :: o67 P :: o68 P :: o69 P :: o70 P :: o71 P :: o72 P :: o73 P :: o74 P :: o75 P :: o76 P :: o77 P :: o78 P :: o79 P :: o80 P :: o81 P :: o82 P :: o83 P :: o84 P :: o85 P :: o86 P :: o87 P :: o88 P :: o89 P :: o90 P :: o91 P :: o92 P :: o93 P :: o94 P :: o95 P :: o96 P :: o97 P :: o98 P :: o99 P :: o100 P :: o101 P :: o102 P :: o103 P :: o104 P :: o105 P :: o106 P :: o107 P :: o108 P :: o109 P :: o110 P :: o111 P :: o112 P :: o113 P :: o114 P :: o115 P :: o116 P :: o117 P :: o118 P :: o119 P :: o120 P :: o121 P :: o122 P :: o123 P :: o124 P :: o125 P :: o126 P :: o127 P :: o128 P :: o129 P :: o130 P :: o131 P :: o132 P :: o133 P :: o134 P :: o135 P :: o136 P :: o137 P :: o138 P :: o139 P :: o140 P :: o141 P :: o142 P :: o143 P :: o144 P :: o145 P :: o146 P :: o147 P :: o148 P :: o149 P :: o150 P :: o151 P :: o152 P :: o153 P :: o154 P :: o155 P :: o156 P :: o157 P :: o158 P :: o159 P :: o160 P :: o161 P :: o162 P :: o163 P :: o164 P :: o165 P :: o166 P :: o167 P :: o168 P :: o169 P :: o170 P :: o171 P :: o172 P :: o173 P :: o174 P :: o175 P :: o176 P :: o177 P :: o178 P :: o179 P :: o180 P :: o181 P :: o182 P :: o183 P :: o184 P :: o185 P :: o186 P :: o187 P :: o188 P :: o189 P :: o190 P :: o191 P :: o192 P :: o193 P :: o194 P :: o195 P :: o196 P :: o197 P :: o198 P :: o199 P :: o200 P :: o201 P :: o202 P :: o203 P :: o204 P :: o205 P :: o206 P :: o207 P :: o208 P :: o209 P :: o210 P :: o211 P :: o212 P :: o213 P :: o214 P :: o215 P :: o216 P :: o217 P :: o218 P :: o219 P :: o220 P :: o221 P :: o222 P :: o223 P :: o224 P :: o225 P :: o226 P :: o227 P :: o228 P :: o229 P :: o230 P :: o231 P :: o232 P :: o233 P :: o234 P :: o235 P :: o236 P :: o237 P :: o238 P :: o239 P :: o240 P :: o241 P :: o242 P :: o243 P :: o244 P :: o245 P :: o246 P :: o247 P :: o248 P :: o249 P :: o250 P :: o251 P :: o252 P :: o253 P :: o254 P :: o255 P :: o256 P :: o257 P :: o258 P :: o259 P :: o260 P :: o261 P :: o262 P :: o263 P :: o264 P :: o265 P :: o266 P :: o267 P :: o268 P :: o269 P :: o270 P :: o271 P :: o272 P :: o273 P :: o274 P :: o275 P :: o276 P :: o277 P :: o278 P :: o279 P :: o280 P :: o281 P :: o282 P :: o283 P :: o284 P :: o285 P :: o286 P :: o287 P :: o288 P :: o289 P :: o290 P :: o291 P :: o292 P :: o293 P :: o294 P :: o295 P :: o296 P :: o297 P :: o298 P :: o299 P :: o300 P :: o301 P :: o302 P :: o303 P :: o304 P :: o305 P :: o306 P :: o307 P :: o308 P :: o309 P :: o310 P :: o311 P :: o312 P :: o313 P :: o314 P :: o315 P :: o316 P :: o317 P :: o318 P :: o319 P :: o320 P :: o321 P :: o322 P :: o323 P :: o324 P :: o325 P :: o326 P :: o327 P :: o328 P :: o329 P :: o330 P :: o331 P :: o332 P :: o333 P :: o334 P :: o335 P :: o336 P :: o337 P :: o338 P :: o339 P :: o340 P :: o341 P :: o342 P :: o343 P :: o344 P :: o345 P :: o346 P :: o347 P :: o348 P :: o349 P :: o350 P :: o351 P :: o352 P :: o353 P :: o354 P :: o355 P :: o356 P :: o357 P :: o358 P :: o359 P :: o360 P :: o361 P :: o362 P :: o363 P :: o364 P :: o365 P :: o366 P :: o367 P :: o368 P :: o369 P :: o370 P :: o371 P :: o372 P :: o373 P :: o374 P :: o375 P :: o376 P :: o377 P :: o378 P :: o379 P :: o380 P :: o381 P :: o382 P :: o383 P :: o384 P :: o385 P :: o386 P :: o387 P :: o388 P :: o389 P :: o390 P :: o391 P :: o392 P :: o393 P :: o394 P :: o395 P :: o396 P :: o397 P :: o398 P :: o399 P :: o400 P :: o401 P :: o402 P :: o403 P :: o404 P :: o405 P :: o406 P :: o407 P :: o408 P :: o409 P :: o410 P :: o411 P :: o412 P :: o413 P :: o414 P :: o415 P :: o416 P :: o417 P :: o418 P :: o419 P :: o420 P :: o421 P :: o422 P :: o423 P :: o424 P :: o425 P :: o426 P :: o427 P :: o428 P :: o429 P :: o430 P :: o431 P :: o432 P :: o433 P :: o434 P :: o435 P :: o436 P :: o437 P :: o438 P :: o439 P :: o440 P :: o441 P :: o442 P :: o443 P :: o444 P :: o445 P :: o446 P :: o447 P :: o448 P :: o449 P :: o450 P :: o451 P :: o452 P :: o453 P :: o454 P :: o455 P :: o456 P :: o457 P :: o458 P :: o459 P :: o460 P :: o461 P :: o462 P :: o463 P :: o464 P :: o465 P :: o466 P :: o467 P :: o468 P :: o469 P :: o470 P :: o471 P :: o472 P :: o473 P :: o474 P :: o475 P :: o476 P :: o477 P :: o478 P :: o479 P :: o480 P :: o481 P :: o482 P :: o483 P :: o484 P :: o485 P :: o486 P :: o487 P :: o488 P :: o489 P :: o490 P :: o491 P :: o492 P :: o493 P :: o494 P :: o495 P :: o496 P :: o497 P :: o498 P :: o499 P :: o500 P :: o501 P :: o502 P :: o503 P :: o504 P :: o505 P :: o506 P :: o507 P :: o508 P :: o509 P :: o510 P :: o511 P :: o512 P :: o513 P :: o514 P :: o515 P :: o516 P :: o517 P :: o518 P :: o519 P :: o520 P :: o521 P :: o522 P :: o523 P :: o524 P :: o525 P :: o526 P :: o527 P :: o528 P :: o529 P :: o530 P :: o531 P :: o532 P :: o533 P :: o534 P :: o535 P :: o536 P :: o537 P :: o538 P :: o539 P :: o540 P :: o541 P :: o542 P :: o543 P :: o544 P :: o545 P :: o546 P :: o547 P :: o548 P :: o549 P :: o550 P :: o551 P :: o552 P :: o553 P :: o554 P :: o555 P :: o556 P :: o557 P :: o558 P :: o559 P :: o560 P :: o561 P :: o562 P :: o563 P :: o564 P :: o565 P :: o566 P :: o567 P :: o568 P :: o569 P :: o570 P :: o571 P :: o572 P :: o573 P :: o574 P :: o575 P :: o576 P :: o577 P :: o578 P :: o579 P :: o580 P :: o581 P :: o582 P :: o583 P :: o584 P :: o585 P :: o586 P :: o587 P :: o588 P :: o589 P :: o590 P :: o591 P :: o592 P :: o593 P :: o594 P :: o595 P :: o596 P :: o597 P :: o598 P :: []⟩, {}⟩
noncomputable def KF (P : Params) : Frag := (nat_lit 2, o2_0 P) :: (nat_lit 3, o3_4 P) :: (nat_lit 15, o15 P) :: (nat_lit 17, o17 P) :: (nat_lit 18, o18 P) :: (nat_lit 20, o20 P) :: (nat_lit 21, o21 P) :: (nat_lit 22, o22 P) :: (nat_lit 29, o29 P) :: (nat_lit 30, o30 P) :: (nat_lit 31, o31 P) :: (nat_lit 33, o33 P) :: (nat_lit 34, o34 P) :: (nat_lit 36, o36 P) :: (nat_lit 37, o37 P) :: (nat_lit 38, o38 P) :: (nat_lit 40, o40 P) :: (nat_lit 41, o41 P) :: (nat_lit 43, o43 P) :: (nat_lit 44, o44 P) :: (nat_lit 45, o45 P) :: (nat_lit 46, o46 P) :: (nat_lit 47, o47 P) :: (nat_lit 48, o48 P) :: (nat_lit 51, o51 P) :: (nat_lit 58, o58 P) :: (nat_lit 59, o59 P) :: (nat_lit 60, o60 P) :: (nat_lit 63, o63 P) :: (nat_lit 70, o70 P) :: (nat_lit 71, o71 P) :: (nat_lit 72, o72 P) :: (nat_lit 75, o75 P) :: (nat_lit 77, o77 P) :: (nat_lit 78, o78 P) :: (nat_lit 80, o80 P) :: (nat_lit 81, o81 P) :: (nat_lit 82, o82 P) :: (nat_lit 83, o83 P) :: (nat_lit 85, o85 P) :: (nat_lit 86, o86 P) :: (nat_lit 88, o88 P) :: (nat_lit 89, o89 P) :: (nat_lit 90, o90 P) :: (nat_lit 92, o92 P) :: (nat_lit 93, o93 P) :: (nat_lit 95, o95 P) :: (nat_lit 96, o96 P) :: (nat_lit 97, o97 P) :: (nat_lit 99, o99 P) :: (nat_lit 100, o100 P) :: (nat_lit 102, o102 P) :: (nat_lit 103, o103 P) :: (nat_lit 104, o104 P) :: (nat_lit 106, o106 P) :: (nat_lit 107, o107 P) :: (nat_lit 109, o109 P) :: (nat_lit 110, o110 P) :: (nat_lit 111, o111 P) :: (nat_lit 113, o113 P) :: (nat_lit 114, o114 P) :: (nat_lit 116, o116 P) :: (nat_lit 117, o117 P) :: (nat_lit 118, o118 P) :: (nat_lit 120, o120 P) :: (nat_lit 121, o121 P) :: (nat_lit 123, o123 P) :: (nat_lit 124, o124 P) :: (nat_lit 125, o125 P) :: (nat_lit 127, o127 P) :: (nat_lit 128, o128 P) :: (nat_lit 130, o130 P) :: (nat_lit 131, o131 P) :: (nat_lit 132, o132 P) :: (nat_lit 133, o133 P) :: (nat_lit 135, o135 P) :: (nat_lit 136, o136 P) :: (nat_lit 138, o138 P) :: (nat_lit 139, o139 P) :: (nat_lit 140, o140 P) :: (nat_lit 142, o142 P) :: (nat_lit 143, o143 P) :: (nat_lit 145, o145 P) :: (nat_lit 146, o146 P) :: (nat_lit 147, o147 P) :: (nat_lit 149, o149 P) :: (nat_lit 150, o150 P) :: (nat_lit 152, o152 P) :: (nat_lit 153, o153 P) :: (nat_lit 154, o154 P) :: (nat_lit 156, o156 P) :: (nat_lit 157, o157 P) :: (nat_lit 159, o159 P) :: (nat_lit 160, o160 P) :: (nat_lit 161, o161 P) :: (nat_lit 163, o163 P) :: (nat_lit 164, o164 P) :: (nat_lit 166, o166 P) :: (nat_lit 167, o167 P) :: (nat_lit 168, o168 P) :: (nat_lit 170, o170 P) :: (nat_lit 171, o171 P) :: (nat_lit 173, o173 P) :: (nat_lit 174, o174 P) :: (nat_lit 175, o175 P) :: (nat_lit 177, o177 P) :: (nat_lit 178, o178 P) :: (nat_lit 180, o180 P) :: (nat_lit 181, o181 P) :: (nat_lit 182, o182 P) :: (nat_lit 184, o184 P) :: (nat_lit 185, o185 P) :: (nat_lit 187, o187 P) :: (nat_lit 188, o188 P) :: (nat_lit 189, o189 P) :: (nat_lit 191, o191 P) :: (nat_lit 192, o192 P) :: (nat_lit 194, o194 P) :: (nat_lit 195, o195 P) :: (nat_lit 196, o196 P) :: (nat_lit 198, o198 P) :: (nat_lit 199, o199 P) :: (nat_lit 201, o201 P) :: (nat_lit 202, o202 P) :: (nat_lit 203, o203 P) :: (nat_lit 205, o205 P) :: (nat_lit 206, o206 P) :: (nat_lit 208, o208 P) :: (nat_lit 209, o209 P) :: (nat_lit 210, o210 P) :: (nat_lit 212, o212 P) :: (nat_lit 213, o213 P) :: (nat_lit 215, o215 P) :: (nat_lit 216, o216 P) :: (nat_lit 217, o217 P) :: (nat_lit 219, o219 P) :: (nat_lit 220, o220 P) :: (nat_lit 222, o222 P) :: (nat_lit 223, o223 P) :: (nat_lit 224, o224 P) :: (nat_lit 226, o226 P) :: (nat_lit 227, o227 P) :: (nat_lit 229, o229 P) :: (nat_lit 230, o230 P) :: (nat_lit 231, o231 P) :: (nat_lit 233, o233 P) :: (nat_lit 234, o234 P) :: (nat_lit 236, o236 P) :: (nat_lit 237, o237 P) :: (nat_lit 238, o238 P) :: (nat_lit 240, o240 P) :: (nat_lit 241, o241 P) :: (nat_lit 243, o243 P) :: (nat_lit 244, o244 P) :: (nat_lit 245, o245 P) :: (nat_lit 247, o247 P) :: (nat_lit 248, o248 P) :: (nat_lit 250, o250 P) :: (nat_lit 251, o251 P) :: (nat_lit 252, o252 P) :: (nat_lit 254, o254 P) :: (nat_lit 255, o255 P) :: (nat_lit 257, o257 P) :: (nat_lit 258, o258 P) :: (nat_lit 259, o259 P) :: (nat_lit 261, o261 P) :: (nat_lit 262, o262 P) :: (nat_lit 264, o264 P) :: (nat_lit 265, o265 P) :: (nat_lit 266, o266 P) :: (nat_lit 268, o268 P) :: (nat_lit 269, o269 P) :: (nat_lit 271, o271 P) :: (nat_lit 272, o272 P) :: (nat_lit 273, o273 P) :: (nat_lit 275, o275 P) :: (nat_lit 276, o276 P) :: (nat_lit 278, o278 P) :: (nat_lit 279, o279 P) :: (nat_lit 280, o280 P) :: (nat_lit 282, o282 P) :: (nat_lit 283, o283 P) :: (nat_lit 285, o285 P) :: (nat_lit 286, o286 P) :: (nat_lit 287, o287 P) :: (nat_lit 289, o289 P) :: (nat_lit 290, o290 P) :: (nat_lit 292, o292 P) :: (nat_lit 293, o293 P) :: (nat_lit 294, o294 P) :: (nat_lit 296, o296 P) :: (nat_lit 297, o297 P) :: (nat_lit 299, o299 P) :: (nat_lit 300, o300 P) :: (nat_lit 301, o301 P) :: (nat_lit 303, o303 P) :: (nat_lit 304, o304 P) :: (nat_lit 306, o306 P) :: (nat_lit 307, o307 P) :: (nat_lit 308, o308 P) :: (nat_lit 310, o310 P) :: (nat_lit 311, o311 P) :: (nat_lit 313, o313 P) :: (nat_lit 314, o314 P) :: (nat_lit 315, o315 P) :: (nat_lit 317, o317 P) :: (nat_lit 318, o318 P) :: (nat_lit 320, o320 P) :: (nat_lit 321, o321 P) :: (nat_lit 322, o322 P) :: (nat_lit 325, o325 P) :: (nat_lit 326, o326 P) :: (nat_lit 334, o334 P) :: (nat_lit 335, o335 P) :: (nat_lit 337, o337 P) :: (nat_lit 338, o338 P) :: (nat_lit 340, o340 P) :: (nat_lit 341, o341 P) :: (nat_lit 342, o342 P) :: (nat_lit 343, o343 P) :: (nat_lit 345, o345 P) :: (nat_lit 346, o346 P) :: (nat_lit 348, o348 P) :: (nat_lit 349, o349 P) :: (nat_lit 350, o350 P) :: (nat_lit 352, o352 P) :: (nat_lit 353, o353 P) :: (nat_lit 355, o355 P) :: (nat_lit 356, o356 P) :: (nat_lit 357, o357 P) :: (nat_lit 359, o359 P) :: (nat_lit 360, o360 P) :: (nat_lit 362, o362 P) :: (nat_lit 363, o363 P) :: (nat_lit 364, o364 P) :: (nat_lit 366, o366 P) :: (nat_lit 367, o367 P) :: (nat_lit 369, o369 P) :: (nat_lit 370, o370 P) :: (nat_lit 371, o371 P) :: (nat_lit 372, o372 P) :: (nat_lit 374, o374 P) :: (nat_lit 375, o375 P) :: (nat_lit 377, o377 P) :: (nat_lit 378, o378 P) :: (nat_lit 379, o379 P) :: (nat_lit 381, o381 P) :: (nat_lit 382, o382 P) :: (nat_lit 384, o384 P) :: (nat_lit 385, o385 P) :: (nat_lit 386, o386 P) :: (nat_lit 388, o388 P) :: (nat_lit 389, o389 P) :: (nat_lit 391, o391 P) :: (nat_lit 392, o392 P) :: (nat_lit 393, o393 P) :: (nat_lit 395, o395 P) :: (nat_lit 396, o396 P) :: (nat_lit 398, o398 P) :: (nat_lit 399, o399 P) :: (nat_lit 400, o400 P) :: (nat_lit 402, o402 P) :: (nat_lit 403, o403 P) :: (nat_lit 405, o405 P) :: (nat_lit 406, o406 P) :: (nat_lit 407, o407 P) :: (nat_lit 409, o409 P) :: (nat_lit 410, o410 P) :: (nat_lit 412, o412 P) :: (nat_lit 413, o413 P) :: (nat_lit 414, o414 P) :: (nat_lit 415, o415 P) :: (nat_lit 417, o417 P) :: (nat_lit 418, o418 P) :: (nat_lit 420, o420 P) :: (nat_lit 421, o421 P) :: (nat_lit 422, o422 P) :: (nat_lit 424, o424 P) :: (nat_lit 425, o425 P) :: (nat_lit 427, o427 P) :: (nat_lit 428, o428 P) :: (nat_lit 429, o429 P) :: (nat_lit 431, o431 P) :: (nat_lit 432, o432 P) :: (nat_lit 434, o434 P) :: (nat_lit 435, o435 P) :: (nat_lit 436, o436 P) :: (nat_lit 437, o437 P) :: (nat_lit 439, o439 P) :: (nat_lit 440, o440 P) :: (nat_lit 442, o442 P) :: (nat_lit 443, o443 P) :: (nat_lit 444, o444 P) :: (nat_lit 446, o446 P) :: (nat_lit 447, o447 P) :: (nat_lit 449, o449 P) :: (nat_lit 450, o450 P) :: (nat_lit 451, o451 P) :: (nat_lit 453, o453 P) :: (nat_lit 454, o454 P) :: (nat_lit 456, o456 P) :: (nat_lit 457, o457 P) :: (nat_lit 458, o458 P) :: (nat_lit 460, o460 P) :: (nat_lit 461, o461 P) :: (nat_lit 463, o463 P) :: (nat_lit 464, o464 P) :: (nat_lit 465, o465 P) :: (nat_lit 467, o467 P) :: (nat_lit 468, o468 P) :: (nat_lit 470, o470 P) :: (nat_lit 471, o471 P) :: (nat_lit 472, o472 P) :: (nat_lit 474, o474 P) :: (nat_lit 475, o475 P) :: (nat_lit 477, o477 P) :: (nat_lit 478, o478 P) :: (nat_lit 479, o479 P) :: (nat_lit 481, o481 P) :: (nat_lit 482, o482 P) :: (nat_lit 484, o484 P) :: (nat_lit 485, o485 P) :: (nat_lit 486, o486 P) :: (nat_lit 488, o488 P) :: (nat_lit 489, o489 P) :: (nat_lit 491, o491 P) :: (nat_lit 492, o492 P) :: (nat_lit 493, o493 P) :: (nat_lit 494, o494 P) :: (nat_lit 495, o495 P) :: (nat_lit 496, o496 P) :: (nat_lit 497, o497 P) :: (nat_lit 507, o507 P) :: (nat_lit 508, o508 P) :: (nat_lit 509, o509 P) :: (nat_lit 511, o511 P) :: (nat_lit 512, o512 P) :: (nat_lit 514, o514 P) :: (nat_lit 515, o515 P) :: (nat_lit 516, o516 P) :: (nat_lit 518, o518 P) :: (nat_lit 519, o519 P) :: (nat_lit 521, o521 P) :: (nat_lit 522, o522 P) :: (nat_lit 523, o523 P) :: (nat_lit 524, o524 P) :: (nat_lit 525, o525 P) :: (nat_lit 526, o526 P) :: (nat_lit 527, o527 P) :: (nat_lit 530, o530 P) :: (nat_lit 533, o533 P) :: (nat_lit 534, o534 P) :: (nat_lit 535, o535 P) :: (nat_lit 537, o537 P) :: (nat_lit 538, o538 P) :: (nat_lit 540, o540 P) :: (nat_lit 541, o541 P) :: (nat_lit 542, o542 P) :: (nat_lit 544, o544 P) :: (nat_lit 545, o545 P) :: (nat_lit 547, o547 P) :: (nat_lit 548, o548 P) :: (nat_lit 549, o549 P) :: (nat_lit 552, o552 P) :: (nat_lit 553, o553 P) :: (nat_lit 554, o554 P) :: (nat_lit 557, o557 P) :: (nat_lit 558, o558 P) :: (nat_lit 559, o559 P) :: (nat_lit 561, o561 P) :: (nat_lit 562, o562 P) :: (nat_lit 564, o564 P) :: (nat_lit 565, o565 P) :: (nat_lit 566, o566 P) :: (nat_lit 568, o568 P) :: (nat_lit 569, o569 P) :: (nat_lit 571, o571 P) :: (nat_lit 572, o572 P) :: (nat_lit 573, o573 P) :: (nat_lit 575, o575 P) :: (nat_lit 576, o576 P) :: (nat_lit 578, o578 P) :: (nat_lit 579, o579 P) :: (nat_lit 580, o580 P) :: (nat_lit 582, o582 P) :: (nat_lit 583, o583 P) :: (nat_lit 585, o585 P) :: (nat_lit 586, o586 P) :: (nat_lit 587, o587 P) :: (nat_lit 589, o589 P) :: (nat_lit 590, o590 P) :: (nat_lit 592, o592 P) :: (nat_lit 593, o593 P) :: (nat_lit 594, o594 P) :: (nat_lit 597, o597 P) :: (nat_lit 598, o598 P) :: []
noncomputable def KA : List Nat := nat_lit 2 :: nat_lit 3 :: nat_lit 15 :: nat_lit 17 :: nat_lit 18 :: nat_lit 20 :: nat_lit 21 :: nat_lit 22 :: nat_lit 29 :: nat_lit 30 :: nat_lit 31 :: nat_lit 33 :: nat_lit 34 :: nat_lit 36 :: nat_lit 37 :: nat_lit 38 :: nat_lit 40 :: nat_lit 41 :: nat_lit 43 :: nat_lit 44 :: nat_lit 45 :: nat_lit 46 :: nat_lit 47 :: nat_lit 48 :: nat_lit 51 :: nat_lit 58 :: nat_lit 59 :: nat_lit 60 :: nat_lit 63 :: nat_lit 70 :: nat_lit 71 :: nat_lit 72 :: nat_lit 75 :: nat_lit 77 :: nat_lit 78 :: nat_lit 80 :: nat_lit 81 :: nat_lit 82 :: nat_lit 83 :: nat_lit 85 :: nat_lit 86 :: nat_lit 88 :: nat_lit 89 :: nat_lit 90 :: nat_lit 92 :: nat_lit 93 :: nat_lit 95 :: nat_lit 96 :: nat_lit 97 :: nat_lit 99 :: nat_lit 100 :: nat_lit 102 :: nat_lit 103 :: nat_lit 104 :: nat_lit 106 :: nat_lit 107 :: nat_lit 109 :: nat_lit 110 :: nat_lit 111 :: nat_lit 113 :: nat_lit 114 :: nat_lit 116 :: nat_lit 117 :: nat_lit 118 :: nat_lit 120 :: nat_lit 121 :: nat_lit 123 :: nat_lit 124 :: nat_lit 125 :: nat_lit 127 :: nat_lit 128 :: nat_lit 130 :: nat_lit 131 :: nat_lit 132 :: nat_lit 133 :: nat_lit 135 :: nat_lit 136 :: nat_lit 138 :: nat_lit 139 :: nat_lit 140 :: nat_lit 142 :: nat_lit 143 :: nat_lit 145 :: nat_lit 146 :: nat_lit 147 :: nat_lit 149 :: nat_lit 150 :: nat_lit 152 :: nat_lit 153 :: nat_lit 154 :: nat_lit 156 :: nat_lit 157 :: nat_lit 159 :: nat_lit 160 :: nat_lit 161 :: nat_lit 163 :: nat_lit 164 :: nat_lit 166 :: nat_lit 167 :: nat_lit 168 :: nat_lit 170 :: nat_lit 171 :: nat_lit 173 :: nat_lit 174 :: nat_lit 175 :: nat_lit 177 :: nat_lit 178 :: nat_lit 180 :: nat_lit 181 :: nat_lit 182 :: nat_lit 184 :: nat_lit 185 :: nat_lit 187 :: nat_lit 188 :: nat_lit 189 :: nat_lit 191 :: nat_lit 192 :: nat_lit 194 :: nat_lit 195 :: nat_lit 196 :: nat_lit 198 :: nat_lit 199 :: nat_lit 201 :: nat_lit 202 :: nat_lit 203 :: nat_lit 205 :: nat_lit 206 :: nat_lit 208 :: nat_lit 209 :: nat_lit 210 :: nat_lit 212 :: nat_lit 213 :: nat_lit 215 :: nat_lit 216 :: nat_lit 217 :: nat_lit 219 :: nat_lit 220 :: nat_lit 222 :: nat_lit 223 :: nat_lit 224 :: nat_lit 226 :: nat_lit 227 :: nat_lit 229 :: nat_lit 230 :: nat_lit 231 :: nat_lit 233 :: nat_lit 234 :: nat_lit 236 :: nat_lit 237 :: nat_lit 238 :: nat_lit 240 :: nat_lit 241 :: nat_lit 243 :: nat_lit 244 :: nat_lit 245 :: nat_lit 247 :: nat_lit 248 :: nat_lit 250 :: nat_lit 251 :: nat_lit 252 :: nat_lit 254 :: nat_lit 255 :: nat_lit 257 :: nat_lit 258 :: nat_lit 259 :: nat_lit 261 :: nat_lit 262 :: nat_lit 264 :: nat_lit 265 :: nat_lit 266 :: nat_lit 268 :: nat_lit 269 :: nat_lit 271 :: nat_lit 272 :: nat_lit 273 :: nat_lit 275 :: nat_lit 276 :: nat_lit 278 :: nat_lit 279 :: nat_lit 280 :: nat_lit 282 :: nat_lit 283 :: nat_lit 285 :: nat_lit 286 :: nat_lit 287 :: nat_lit 289 :: nat_lit 290 :: nat_lit 292 :: nat_lit 293 :: nat_lit 294 :: nat_lit 296 :: nat_lit 297 :: nat_lit 299 :: nat_lit 300 :: nat_lit 301 :: nat_lit 303 :: nat_lit 304 :: nat_lit 306 :: nat_lit 307 :: nat_lit 308 :: nat_lit 310 :: nat_lit 311 :: nat_lit 313 :: nat_lit 314 :: nat_lit 315 :: nat_lit 317 :: nat_lit 318 :: nat_lit 320 :: nat_lit 321 :: nat_lit 322 :: nat_lit 325 :: nat_lit 326 :: nat_lit 334 :: nat_lit 335 :: nat_lit 337 :: nat_lit 338 :: nat_lit 340 :: nat_lit 341 :: nat_lit 342 :: nat_lit 343 :: nat_lit 345 :: nat_lit 346 :: nat_lit 348 :: nat_lit 349 :: nat_lit 350 :: nat_lit 352 :: nat_lit 353 :: nat_lit 355 :: nat_lit 356 :: nat_lit 357 :: nat_lit 359 :: nat_lit 360 :: nat_lit 362 :: nat_lit 363 :: nat_lit 364 :: nat_lit 366 :: nat_lit 367 :: nat_lit 369 :: nat_lit 370 :: nat_lit 371 :: nat_lit 372 :: nat_lit 374 :: nat_lit 375 :: nat_lit 377 :: nat_lit 378 :: nat_lit 379 :: nat_lit 381 :: nat_lit 382 :: nat_lit 384 :: nat_lit 385 :: nat_lit 386 :: nat_lit 388 :: nat_lit 389 :: nat_lit 391 :: nat_lit 392 :: nat_lit 393 :: nat_lit 395 :: nat_lit 396 :: nat_lit 398 :: nat_lit 399 :: nat_lit 400 :: nat_lit 402 :: nat_lit 403 :: nat_lit 405 :: nat_lit 406 :: nat_lit 407 :: nat_lit 409 :: nat_lit 410 :: nat_lit 412 :: nat_lit 413 :: nat_lit 414 :: nat_lit 415 :: nat_lit 417 :: nat_lit 418 :: nat_lit 420 :: nat_lit 421 :: nat_lit 422 :: nat_lit 424 :: nat_lit 425 :: nat_lit 427 :: nat_lit 428 :: nat_lit 429 :: nat_lit 431 :: nat_lit 432 :: nat_lit 434 :: nat_lit 435 :: nat_lit 436 :: nat_lit 437 :: nat_lit 439 :: nat_lit 440 :: nat_lit 442 :: nat_lit 443 :: nat_lit 444 :: nat_lit 446 :: nat_lit 447 :: nat_lit 449 :: nat_lit 450 :: nat_lit 451 :: nat_lit 453 :: nat_lit 454 :: nat_lit 456 :: nat_lit 457 :: nat_lit 458 :: nat_lit 460 :: nat_lit 461 :: nat_lit 463 :: nat_lit 464 :: nat_lit 465 :: nat_lit 467 :: nat_lit 468 :: nat_lit 470 :: nat_lit 471 :: nat_lit 472 :: nat_lit 474 :: nat_lit 475 :: nat_lit 477 :: nat_lit 478 :: nat_lit 479 :: nat_lit 481 :: nat_lit 482 :: nat_lit 484 :: nat_lit 485 :: nat_lit 486 :: nat_lit 488 :: nat_lit 489 :: nat_lit 491 :: nat_lit 492 :: nat_lit 493 :: nat_lit 494 :: nat_lit 495 :: nat_lit 496 :: nat_lit 497 :: nat_lit 507 :: nat_lit 508 :: nat_lit 509 :: nat_lit 511 :: nat_lit 512 :: nat_lit 514 :: nat_lit 515 :: nat_lit 516 :: nat_lit 518 :: nat_lit 519 :: nat_lit 521 :: nat_lit 522 :: nat_lit 523 :: nat_lit 524 :: nat_lit 525 :: nat_lit 526 :: nat_lit 527 :: nat_lit 530 :: nat_lit 533 :: nat_lit 534 :: nat_lit 535 :: nat_lit 537 :: nat_lit 538 :: nat_lit 540 :: nat_lit 541 :: nat_lit 542 :: nat_lit 544 :: nat_lit 545 :: nat_lit 547 :: nat_lit 548 :: nat_lit 549 :: nat_lit 552 :: nat_lit 553 :: nat_lit 554 :: nat_lit 557 :: nat_lit 558 :: nat_lit 559 :: nat_lit 561 :: nat_lit 562 :: nat_lit 564 :: nat_lit 565 :: nat_lit 566 :: nat_lit 568 :: nat_lit 569 :: nat_lit 571 :: nat_lit 572 :: nat_lit 573 :: nat_lit 575 :: nat_lit 576 :: nat_lit 578 :: nat_lit 579 :: nat_lit 580 :: nat_lit 582 :: nat_lit 583 :: nat_lit 585 :: nat_lit 586 :: nat_lit 587 :: nat_lit 589 :: nat_lit 590 :: nat_lit 592 :: nat_lit 593 :: nat_lit 594 :: nat_lit 597 :: nat_lit 598 :: []
end Ob
namespace Mine

theorem noRoadLSs_append (lk : Look) : ∀ a b : List Stmt, noRoadLSs lk (a ++ b) = (noRoadLSs lk a && noRoadLSs lk b)
  | [], b => rfl
  | s :: r, b => by
    have h : noRoadLSs lk ((s :: r) ++ b) = (noRoadLS lk s && noRoadLSs lk (r ++ b)) := rfl
    have k : noRoadLSs lk (s :: r) = (noRoadLS lk s && noRoadLSs lk r) := rfl
    rw [h, k, noRoadLSs_append lk r b, Bool.and_assoc]

theorem roadStr_list (l : List Nat) : roadStr ⟨l.toArray⟩ = (l.any (fun c => c == 123 || c == 125) || (l.any (· == 46) && !l.any (· ≤ 32))) := by
  unfold roadStr
  simp only [List.any_toArray]

theorem str_of_plain {lk : Look} {x : Str} (hw : lk.word x = true) (hr : roadStr x = false) : lk.str x = true := by
  unfold Look.str
  rw [hw, hr]; simp

theorem te_meet : @namesMeet = PySem.W.Fast.tw17119622794617984870 := PySem.W.Fast.te17119622794617984870
theorem te_road : @noRoadLSs = PySem.W.Fast.tw8326940854005059898 := PySem.W.Fast.te8326940854005059898
/-- a row whose text is long and bears no road: its look, the scan taken over the list of its signs -/
theorem longRow {lk : Look} {n x : Str} {p q r : Pos} {k : Nat} {l : List Char} (e : x = ⟨(l.map Char.toNat).toArray⟩)
    (h1 : lk.stores [Expr.Name n p] = true) (h2 : lk.name n = true) (h3 : lk.word ⟨(l.map Char.toNat).toArray⟩ = true)
    (h4 : ((l.map Char.toNat).any (fun c => c == 123 || c == 125) || ((l.map Char.toNat).any (· == 46) && !(l.map Char.toNat).any (· ≤ 32))) = false) :
    noRoadLS lk (Stmt.Assign [Expr.Name n p] (Expr.Constant (Const.str x) k q) r) = true := by
  subst e
  have a : noRoadLS lk (Stmt.Assign [Expr.Name n p] (Expr.Constant (Const.str ⟨(l.map Char.toNat).toArray⟩) k q) r) = (lk.stores [Expr.Name n p] && noRoadLs lk [Expr.Name n p] && noRoadL lk (Expr.Constant (Const.str ⟨(l.map Char.toNat).toArray⟩) k q)) := rfl
  have b : noRoadLs lk [Expr.Name n p] = (lk.name n && true) := rfl
  have c : noRoadL lk (Expr.Constant (Const.str ⟨(l.map Char.toNat).toArray⟩) k q) = lk.str ⟨(l.map Char.toNat).toArray⟩ := rfl
  rw [a, b, c, h1, h2, str_of_plain h3 (by rw [roadStr_list]; exact h4)]
  rfl

theorem split3 {lk : Look} {b : List Stmt} (k : Nat) {s : Stmt} (hs : b[k]? = some s) (h1 : noRoadLSs lk (b.take k) = true) (h2 : noRoadLS lk s = true) (h3 : noRoadLSs lk (b.drop (k + 1)) = true) : noRoadLSs lk b = true := by
  have e : b = b.take k ++ s :: b.drop (k + 1) := by
    obtain ⟨hk, rfl⟩ := List.getElem?_eq_some_iff.mp hs
    simp
  have k : noRoadLSs lk (s :: b.drop (k + 1)) = (noRoadLS lk s && noRoadLSs lk (b.drop (k + 1))) := rfl
  rw [e, noRoadLSs_append, k, h1, h2, h3]
  rfl

noncomputable abbrev lkS : Look := { strict := false, foot := none, bare := [] }
noncomputable abbrev bd : List Stmt := PySem.Challenge.rw_pb0271_01.row.prog.main.body
theorem road_ : noRoadLSs lkS bd = true := by
  refine split3 51 (s := ?s) ?hs ?h1 ?h2 ?h3
  case hs => exact rfl
  case h1 => rw [te_road]; as_aux_lemma => kernel_rfl
  case h3 => rw [te_road]; as_aux_lemma => kernel_rfl
  case h2 =>
    refine longRow (Fast.ofString_ofList _) ?_ ?_ ?_ ?_
    · rw [(PySem.W.Fast.te16848011837605711753 : @Look.stores = _)]; kernel_rfl
    · rw [(PySem.W.Fast.te2597284629091452987 : @Look.name = _)]; kernel_rfl
    · rw [(PySem.W.Fast.te12870025360856166794 : @Look.word = _)]; kernel_rfl
    · decide +kernel
theorem bare_ : (["vars", "dir", "locals"] : List Str).filter (readsOut PySem.Challenge.rw_pb0271_01.row.prog bd) = [] := by
  rw [(PySem.W.Fast.te13343964577679436407 : @readsOut = _)]
  kernel_rfl
set_option maxHeartbeats 4000000 in
theorem said : PySem.Challenge.rw_pb0271_01.wellSaid = true := by
  unfold OpenLaw.wellSaid OpenRow.wellSaid OpenRow.partSaid looksOpen
  repeat' (with_reducible refine look_both ?_ ?_)
  rotate_left 4
  · rw [bare_]
    exact road_
  all_goals first
    | (rw [te_meet]; as_aux_lemma => kernel_rfl)
    | (rw [(PySem.W.Fast.te8377067652309620493 : @namesResolve = _)]; as_aux_lemma => kernel_rfl)
    | (rw [(PySem.W.Fast.te16286561074155671207 : @OpenLaw.namesIt = _)]; as_aux_lemma => kernel_rfl)
    | (rw [te_road]; as_aux_lemma => kernel_rfl)
    | (as_aux_lemma => kernel_rfl)
end Mine
namespace Mine
open Ob
theorem te_seg : @segRunT = PySem.W.Fast.tw10110043849684766642 := PySem.W.Fast.te10110043849684766642
theorem te_tab : treeTable = PySem.W.Fast.tw14364793385576792824 := PySem.W.Fast.te14364793385576792824
noncomputable abbrev ann : Option Value := some (.ref (nat_lit 6))
noncomputable abbrev zp : Pos := ⟨nat_lit 0, nat_lit 0, nat_lit 0, nat_lit 0⟩
noncomputable def env : Env := { scope := pg.main.scope, locals := mainNs, globals := mainNs, cells := [], code := .ref 13, frame := some 14 }
noncomputable abbrev bcode : Code := .body (behindTheImports pg) env
/-- rows i .. i + n of the text -/
noncomputable def rows (i : Nat) : Nat → List Stmt
  | 0 => []
  | n + 1 => st i :: rows (i + 1) n
noncomputable abbrev at_ (T : Params → BT) (n k : Nat) (w : World) (os : OsState) : SharedT := ⟨T w.params, n, {}, ⟨[]⟩, {}, k, os⟩
theorem seg_tw {w : World} {n : Nat} {S S' : SharedT} {t : Thread} {f : Flow} {c : Code} {q : Pos}
    (h : PySem.W.Fast.tw10110043849684766642 PySem.W.Fast.tw14364793385576792824 pg w 11 ann 1 n S t = some (f, S', c, q)) : segRun treeTable pg w 11 ann 1 n S.abs t = some (f, S'.abs, c, q) := by
  rw [← te_seg, ← te_tab] at h
  exact segRun_of h
noncomputable abbrev Pc (w : World) (os : OsState) (n i k : Nat) (T T' : Params → BT) (a t a' t' : Nat) (p p' : Pos) : Prop :=
  PySem.W.Fast.tw10110043849684766642 PySem.W.Fast.tw14364793385576792824 pg w 11 ann 1 n (at_ T a t w os) (piecesOf (rows i k) env bcode p [topFrame zp]) = some (.next, at_ T' a' t' w os, bcode, p')
theorem pc1 (w : World) (os : OsState) : Pc w os 902 0 12 TB T1 15 187 111 314 zp ⟨41, 0, 42, 20⟩ := by kernel_rfl
theorem pc2 (w : World) : ∀ os : OsState, Pc w os 383 12 9 T1 T2 111 314 154 409 ⟨41, 0, 42, 20⟩ ⟨89, 0, 95, 26⟩ :=
  byRow2 "special-get-raises" (P := fun w => ∀ os : OsState, Pc w os 383 12 9 T1 T2 111 314 154 409 ⟨41, 0, 42, 20⟩ ⟨89, 0, 95, 26⟩) (fun _ _ => by kernel_rfl) (fun _ _ => by kernel_rfl) w
theorem pc3 (w : World) (os : OsState) : Pc w os 844 21 33 T2 T3 154 409 327 648 ⟨89, 0, 95, 26⟩ ⟨257, 0, 261, 25⟩ := by kernel_rfl
theorem pc4 (w : World) (os : OsState) : Pc w os 909 54 1 T3 T4 327 648 500 854 ⟨257, 0, 261, 25⟩ ⟨262, 0, 381, 20⟩ := by kernel_rfl
theorem pc5 (w : World) (os : OsState) : Pc w os 619 55 14 T4 T5 500 854 599 1004 ⟨262, 0, 381, 20⟩ ⟨447, 0, 461, 90⟩ := by kernel_rfl
theorem rows_all : rows 0 12 ++ (rows 12 9 ++ (rows 21 33 ++ (rows 54 1 ++ (rows 55 14 ++ [])))) = behindTheImports pg := by kernel_rfl
theorem pcA (w : World) (os : OsState) : topGo treeTable pg w 11 ann 12 ⟨boot_heap w.params, ⟨[]⟩, boot_drawn, boot_toks, os⟩ (topStub pg) = some (⟨HA w.params, ⟨[]⟩, {}, 187, os⟩, ⟨denote treeTable bcode, bcode, zp, [topFrame zp]⟩) := by
  rw [(PySem.W.Fast.te15667345088766844465 : @topGo = _), (PySem.W.Fast.te11892475500146522536 : @denote = _), te_tab]
  kernel_rfl
theorem pcB (w : World) (os : OsState) : segRun treeTable pg w 11 ann 1 1 ⟨HA w.params, ⟨[]⟩, {}, 187, os⟩ (blockOf (behindTheImports pg) env bcode zp [topFrame zp]) = some (.next, (at_ TB 15 187 w os).abs, bcode, zp) := by
  rw [(PySem.W.Fast.te14374325043358763698 : @segRun = _), te_tab]
  kernel_rfl
theorem pcF (w : World) (os : OsState) : topRun treeTable pg w 11 ann 2 (at_ T5 599 1004 w os).abs ⟨doneF .next, bcode, ⟨447, 0, 461, 90⟩, [topFrame zp]⟩ = some ⟨HF w.params, ⟨[]⟩, {}, 1004, os⟩ := by
  rw [(PySem.W.Fast.te14082659384304107361 : @topRun = _), te_tab]
  kernel_rfl
theorem run (w : World) (os : OsState) : topRun treeTable pg w 11 ann (12 + (1 + (902 + (383 + (844 + (909 + (619 + 2))))))) ⟨boot_heap w.params, ⟨[]⟩, boot_drawn, boot_toks, os⟩ (topStub pg) = some ⟨HF w.params, ⟨[]⟩, {}, 1004, os⟩ := by
  refine go_top (pcA w os) (piece_block (pcB w os) ?_)
  exact (congrArg (fun l => topRun treeTable pg w 11 ann (902 + (383 + (844 + (909 + (619 + 2))))) (at_ TB 15 187 w os).abs (restOf l env bcode zp [topFrame zp])) rows_all.symm).trans
    (piece_app (seg_tw (pc1 w os)) (piece_app (seg_tw (pc2 w os)) (piece_app (seg_tw (pc3 w os)) (piece_app (seg_tw (pc4 w os)) (piece_app (seg_tw (pc5 w os)) (piece_nil (pcF w os)))))))
/-- the text's last row alone: the law; all other names are loose -/
noncomputable def q : Program := { pg with main := { pg.main with body := [st 68] } }
noncomputable def loose : List Str := [Str.ofString "_wall", Str.ofString "LedgerError", Str.ofString "TokenFault", Str.ofString "GrammarFault", Str.ofString "FIGURES", Str.ofString "cut_quotient", Str.ofString "decimal", Str.ofString "negated", Str.ofString "units_at", Str.ofString "is_whole", Str.ofString "whole_of", Str.ofString "worth_of", Str.ofString "read_decimal", Str.ofString "MOST_SUBSCRIPTS", Str.ofString "FIGURE_NAMES", Str.ofString "is_part_next", Str.ofString "read_subscripts", Str.ofString "read_part", Str.ofString "read_ref", Str.ofString "read_all", Str.ofString "read_figure", Str.ofString "read_operand", Str.ofString "MOST_DEEP", Str.ofString "read_expression", Str.ofString "sign_among", Str.ofString "read_sum", Str.ofString "read_product", Str.ofString "read_factor", Str.ofString "is_lone_number", Str.ofString "read_power", Str.ofString "read_primary", Str.ofString "FIGURE_WORDS", Str.ofString "word_ahead", Str.ofString "begins_operand", Str.ofString "ref_here", Str.ofString "refuse_at", Str.ofString "operand_here", Str.ofString "text_here", Str.ofString "begins_text", Str.ofString "bounds_here", Str.ofString "opens_count", Str.ofString "counted_rows", Str.ofString "tallied_rows", Str.ofString "MOST_OCTET", Str.ofString "RESERVED", Str.ofString "is_reserved", Str.ofString "octets_of_text", Str.ofString "Reader", Str.ofString "Token", Str.ofString "_law_pen", Str.ofString "_law_draw", Str.ofString "_law_pick", Str.ofString "_law_words", Str.ofString "_law_reader", Str.ofString "_law_item", Str.ofString "_law_operand", Str.ofString "_law_bounds", Str.ofString "_law_sort", Str.ofString "_law_right"]
noncomputable abbrev rw_ : OpenRow := PySem.Challenge.rw_pb0271_01.row
theorem ka : ∀ P, KA = (KF P).map (·.1) := fun _ => by kernel_rfl
noncomputable def H : Hook := kmHook KF KA ka [232, 595]
noncomputable abbrev SF (w : World) (os : OsState) : Shared := ⟨HF w.params, ⟨[]⟩, {}, 1004, os⟩
theorem size (w : World) : ((boot_heap w.params).isNs mainGlobals && (⟨[]⟩ : Array GenState).size == 0, (boot_heap w.params).objs.size, (boot_heap w.params).nsMap mainGlobals "__annotations__") = (true, 11, ann) := by
  rw [(PySem.W.Fast.te8920871248978507458 : @Heap.nsMap = _)]
  kernel_rfl
theorem lk0 (w : World) (os : OsState) : (staticsOk (importedModules pg.main.body) (boot_heap w.params) (HF w.params) && namesBound pg (HF w.params) && gensDone (SF w os) && laidKept (boot_heap w.params) (HF w.params)) = true := by
  rw [(PySem.W.Fast.te5923862056798008813 : @importedModules = _)]
  kernel_rfl
theorem lk1 (w : World) (os : OsState) : seen ((recsOf q).map (·.name)) (ownsOf q) [] { SF w os with gens := #[] } = expectedOf q := by
  rw [(PySem.W.Fast.te5160383126252970620 : @seen = _), (PySem.W.Fast.te3399658132070893891 : @recsOf = _), (PySem.W.Fast.te5991557255702980513 : @ownsOf = _)]
  kernel_rfl
theorem lk2 (w : World) (os : OsState) : (SF w os).heap.bltView = bltViewBooted := by kernel_rfl
noncomputable abbrev Xt (s : Shared) : Bool := xlAt q [] s && recOk (RowW.records rw_.toRowW) s
theorem lk3 (w : World) (os : OsState) : ((SF w os).heap.keysOk (looseW q loose) ((recsOf q).map (·.name)) ((litsOf q).map (·.1)) ((clssOf q (looseW q loose)).map (·.name)) && (SF w os).heap.accountedOkI (importedModules pg.main.body) && (SF w os).heap.isNs mainGlobals && (SF w os).heap.isNs builtinsNs && tablesOk q (SF w os).heap && Xt (SF w os) && (if true then (SF w os).gens.size == 0 else !leftWithCleanup (SF w os).gens)) = true := by
  rw [(PySem.W.Fast.te10880121769531294198 : @Heap.keysOk = _), (PySem.W.Fast.te821141287760084731 : @looseW = _), (PySem.W.Fast.te3399658132070893891 : @recsOf = _), (PySem.W.Fast.te7409074990110511671 : @litsOf = _), (PySem.W.Fast.te13664370479719496447 : @clssOf = _), (PySem.W.Fast.te14722251495701143533 : @Heap.accountedOkI = _), (PySem.W.Fast.te5923862056798008813 : @importedModules = _), (PySem.W.Fast.te10994771534591457954 : @tablesOk = _)]
  kernel_rfl
theorem lk4 (w : World) (os : OsState) : tabsOk q (SF w os) = true := by
  rw [(PySem.W.Fast.te479339242167458305 : @tabsOk = _)]
  kernel_rfl
theorem lk5 (w : World) (os : OsState) : pinSeenD q (drecsOf q) (SF w os) = pinGoodD (drecsOf q) := by
  rw [(PySem.W.Fast.te16090120013241838585 : @pinSeenD = _), (PySem.W.Fast.te3247288618530077131 : @drecsOf = _)]
  kernel_rfl
theorem lk6 (w : World) (os : OsState) : plainSeenE q (looseW q loose) (SF w os) = plainGoodE q (looseW q loose) := by
  rw [(PySem.W.Fast.te2386780881361962483 : @plainSeenE = _), (PySem.W.Fast.te821141287760084731 : @looseW = _)]
  kernel_rfl
theorem lk7 (w : World) (os : OsState) : plainSeenD q loose (SF w os) = plainGoodD q loose := by
  rw [(PySem.W.Fast.te11698064438423848299 : @plainSeenD = _)]
  kernel_rfl
theorem lk8 (w : World) (os : OsState) : wideSeen q (SF w os) = wideGood q := by
  rw [(PySem.W.Fast.te7317090234206586261 : @wideSeen = _)]
  kernel_rfl
theorem lk9 (w : World) (os : OsState) : clsSeenW q loose (SF w os) = clsGoodW q loose := by
  rw [(PySem.W.Fast.te7369524293546568484 : @clsSeenW = _)]
  kernel_rfl
theorem lkH (w : World) (os : OsState) : H.obs (SF w os) = H.val w := by kernel_rfl
theorem looks (w : World) : (fun os => ((staticsOk (importedModules pg.main.body) (boot_heap w.params) (HF w.params) && namesBound pg (HF w.params) && gensDone (SF w os) && laidKept (boot_heap w.params) (HF w.params)),
    openSeen q loose (importedModules pg.main.body) Xt true (SF w os), H.obs (SF w os))) = fun _ => (true, openGood q loose, H.val w) :=
  funext fun os => looks_pair (lk0 w os) (looks_pair (looks_pair (lk1 w os) (looks_pair (lk2 w os) (looks_pair (lk3 w os) (looks_pair (lk4 w os) (looks_pair (lk5 w os) (looks_pair (lk6 w os) (looks_pair (lk7 w os) (looks_pair (lk8 w os) (lk9 w os))))))))) (lkH w os))
theorem opening_ : opening pg = plainProg pg.main.scope.names := by kernel_rfl
theorem fence_ (s : Shared) : fenceModules? pg s = some s := by kernel_rfl
theorem left : LeftO pg q loose Xt H.obs H.val 8000 true :=
  LeftO.of_pieces (boot_open opening_ (by rfl) fence_) size run (by rfl) looks
end Mine
namespace Mine
open Ob
noncomputable abbrev Led := List (Addr × Obj)
structure Wd where
  w : World
  p : Program
  loose : List Str
  mean : ExcName → Option Value
  mg : Str → Option Value
  mb : Str → Option Value
noncomputable abbrev Wd.M (W : Wd) : Model := model pg W.w
noncomputable abbrev Wd.K (W : Wd) : Frag := KF W.w.params
/-- a def: its name, its names, its locals -/
structure Fn where
  cn : Str
  sc : Scope
  ns : List Str
structure Fn.Ok (f : Fn) : Prop where
  nodup : f.ns.Nodup
  loc : ∀ x ∈ f.ns, f.sc.names.lookup x = some .local ∧ (x == ("__debug__" : Str)) = false
  kind : f.sc.kind = .function
noncomputable def look : List Str → List (Option Value) → Str → Option Value
  | n :: ns, v :: vs, x => if x = n then v else look ns vs x
  | _, _, _ => none
/-- a call under way: its frame and what is around it; n calls may nest below -/
structure Cx (W : Wd) (f : Fn) (n : Nat) where
  dp : Nat
  un : Nat
  gd : Option (List Code)
  L : Addr
  a : Addr
  cd : Value
  cl : List (Str × Addr)
  outer : List Env
  A₀ : Around
  base : Heap
  h₀ : Heap
  ok : f.Ok
  B : Below A₀ base outer h₀
  X : W.K.In h₀
  T : Top W.p W.loose W.mean W.mg W.mb h₀
  hd : dp + n < recursionLimit
  hu : un + 8 * n < cLine
section
variable {W : Wd} {f : Fn} {n : Nat}
noncomputable abbrev Cx.env (c : Cx W f n) : Env := envX f.cn f.sc c.L c.a c.cd c.cl
noncomputable abbrev Cx.A (c : Cx W f n) : Around := ktrTop c.dp c.un c.gd f.cn f.sc c.L c.a c.cd c.cl c.outer
structure At (c : Cx W f n) (vs : List (Option Value)) (led : Led) (s₀ s : Shared) : Prop where
  F : Fr c.h₀ c.L s.heap (look f.ns vs)
  N : News c.h₀ c.L s.heap led
  g : s.gens = s₀.gens
  d : s.drawn = s₀.drawn
  o : s.os = s₀.os
noncomputable abbrev No : Value → Shared → Prop := fun _ _ => False
noncomputable def GE {α : Type} (c : Cx W f n) (vs : List (Option Value)) (led : Led) (t : Sem α) (K : α → Led → Prop) : Prop :=
  ∀ s₀ s, At c vs led s₀ s → wpAny W.M c.A t (fun a s' => ∃ l, At c vs l s₀ s' ∧ K a l) No s
noncomputable def GS {α : Type} (c : Cx W f n) (vs : List (Option Value)) (led : Led) (t : Sem α) (K : α → List (Option Value) → Led → Prop) : Prop :=
  ∀ s₀ s, At c vs led s₀ s → wpAny W.M c.A t (fun a s' => ∃ vs' l, At c vs' l s₀ s' ∧ K a vs' l) No s
/-- the def at f', called with args over a ledger: it ends, and K holds of what it gives and of the ledger behind -/
noncomputable def Calls (W : Wd) (need : Nat) (f' : Addr) (args : List Value) (led : Led) (K : Value → Led → Prop) : Prop :=
  ∀ (f : Fn) (n : Nat) (c : Cx W f n) (vs : List (Option Value)), need < n → GE c vs led (call (.ref f') args) K

variable {c : Cx W f n} {vs : List (Option Value)} {led : Led}
theorem GE.th {α : Type} {t : Sem α} {K : α → Led → Prop} {s₀ s : Shared} {Q : α → Shared → Prop} (h : GE c vs led t K) (A : At c vs led s₀ s)
    (k : ∀ a l s', At c vs l s₀ s' → K a l → Q a s') : wpAny W.M c.A t Q No s :=
  wpAny_mono (h s₀ s A) (fun a s' ⟨l, A', h'⟩ => k a l s' A' h') (fun _ _ x => x)
theorem GS.th {α : Type} {t : Sem α} {K : α → List (Option Value) → Led → Prop} {s₀ s : Shared} {Q : α → Shared → Prop} (h : GS c vs led t K) (A : At c vs led s₀ s)
    (k : ∀ a vs' l s', At c vs' l s₀ s' → K a vs' l → Q a s') : wpAny W.M c.A t Q No s :=
  wpAny_mono (h s₀ s A) (fun a s' ⟨vs', l, A', h'⟩ => k a vs' l s' A' h') (fun _ _ x => x)
theorem GE.mono {α : Type} {t : Sem α} {K K' : α → Led → Prop} (h : GE c vs led t K) (k : ∀ a l, K a l → K' a l) : GE c vs led t K' :=
  fun s₀ s A => h.th A fun a l _ A' h' => ⟨l, A', k a l h'⟩
theorem At.tok {s₀ s : Shared} (A : At c vs led s₀ s) (k : Nat) : At c vs led s₀ { s with toks := k } := ⟨A.F, A.N, A.g, A.d, A.o⟩
theorem At.to {s₀ s : Shared} {vs' : List (Option Value)} {led' : Led} {h' : Heap} {k : Nat} (A : At c vs led s₀ s) (F : Fr c.h₀ c.L h' (look f.ns vs')) (N : News c.h₀ c.L h' led') : At c vs' led' s₀ { s with heap := h', toks := k } :=
  ⟨F, N, A.g, A.d, A.o⟩
theorem At.start (s : Shared) (F : Fr c.h₀ c.L s.heap (look f.ns vs)) (N : News c.h₀ c.L s.heap led) : At c vs led s s := ⟨F, N, rfl, rfl, rfl⟩
theorem GE.ret {α : Type} {K : α → Led → Prop} {a : α} (h : K a led) : GE c vs led (pure a : Sem α) K := fun _ _ A => wpAny_pure ⟨_, A, h⟩

/-! the locals -/
inductive Has : List Str → List (Option Value) → Str → Value → Prop
  | hd {x : Str} {v : Value} {ns vs} : Has (x :: ns) (some v :: vs) x v
  | tl {x y : Str} {v : Value} {o ns vs} : Has ns vs x v → Has (y :: ns) (o :: vs) x v
theorem Has.mem : ∀ {ns : List Str} {vs : List (Option Value)} {x : Str} {v : Value}, Has ns vs x v → x ∈ ns
  | _, _, _, _, .hd => .head _
  | _, _, _, _, .tl h => .tail _ h.mem
theorem Has.look {ns : List Str} {vs : List (Option Value)} {x : Str} {v : Value} (nd : ns.Nodup) (h : Has ns vs x v) : look ns vs x = some v := by
  induction h with
  | hd => exact if_pos rfl
  | tl h ih =>
    refine (if_neg fun e => (List.nodup_cons.mp nd).1 ?_).trans (ih (List.nodup_cons.mp nd).2)
    rw [← e]; exact h.mem
inductive Put : List Str → List (Option Value) → Str → Value → List (Option Value) → Prop
  | hd {x : Str} {v : Value} {o ns vs} : Put (x :: ns) (o :: vs) x v (some v :: vs)
  | tl {x y : Str} {v : Value} {o ns vs vs'} : Put ns vs x v vs' → Put (y :: ns) (o :: vs) x v (o :: vs')
theorem Put.mem : ∀ {ns : List Str} {vs vs' : List (Option Value)} {x : Str} {v : Value}, Put ns vs x v vs' → x ∈ ns
  | _, _, _, _, _, .hd => .head _
  | _, _, _, _, _, .tl h => .tail _ h.mem
theorem Put.look {ns : List Str} {vs vs' : List (Option Value)} {x : Str} {v : Value} (nd : ns.Nodup) (h : Put ns vs x v vs') (y : Str) : look ns vs' y = if y = x then some v else look ns vs y := by
  induction h with
  | hd => unfold Mine.look; split <;> rfl
  | @tl x z v o ns vs vs' h ih =>
    unfold Mine.look
    rw [ih (List.nodup_cons.mp nd).2]
    by_cases e : y = z
    · subst e
      have : ¬ y = x := fun e => (List.nodup_cons.mp nd).1 (by rw [e]; exact h.mem)
      rw [if_pos rfl, if_neg this, if_pos rfl]
    · rw [if_neg e, if_neg e]
theorem look_none : ∀ (ns : List Str) (y : Str), look ns (ns.map fun _ => none) y = none
  | [], _ => rfl
  | n :: ns, y => by
    show (if y = n then none else look ns (ns.map fun _ => none) y) = none
    rw [look_none ns y]
    split <;> rfl
theorem look_binds : ∀ (ps : List Str) (as : List Value) (more : List Str), ps.length = as.length → (ps ++ more).Nodup → ∀ y, ((ps.zip as).reverse).lookup y = look (ps ++ more) (as.map some ++ more.map fun _ => none) y := by
  have gen : ∀ (ps : List Str) (as : List Value) (more : List Str) (acc : List (Str × Value)), ps.length = as.length → (ps ++ more).Nodup → ∀ y,
      ((ps.zip as).reverse ++ acc).lookup y = (look (ps ++ more) (as.map some ++ more.map fun _ => none) y).or (acc.lookup y) := by
    intro ps
    induction ps with
    | nil => intro as more acc h _ y; cases as with
      | nil => show acc.lookup y = (look more (more.map fun _ => none) y).or _; rw [look_none]; rfl
      | cons _ _ => cases h
    | cons p ps ih => intro as more acc h nd y; cases as with
      | nil => cases h
      | cons a as =>
        rw [List.zip_cons_cons, List.reverse_cons, List.append_assoc]
        rw [ih as more _ (Nat.succ.inj h) (List.nodup_cons.mp nd).2 y]
        show _ = ((if y = p then some a else look (ps ++ more) (as.map some ++ more.map fun _ => none) y).or _)
        show (look (ps ++ more) (as.map some ++ more.map fun _ => none) y).or (((p, a) :: acc).lookup y) = _
        rw [List.lookup_cons]
        by_cases e : y = p
        · subst e
          have : look (ps ++ more) (as.map some ++ more.map fun _ => none) y = none := by
            have hm : ∀ (ns : List Str) (vs : List (Option Value)), y ∉ ns → look ns vs y = none := by
              intro ns
              induction ns with
              | nil => intro _ _; cases ‹List (Option Value)› <;> rfl
              | cons z ns ih => intro vs h; cases vs with
                | nil => rfl
                | cons v vs =>
                  have hz : ¬ y = z := fun e => h (by rw [e]; exact .head _)
                  exact (if_neg hz).trans (ih vs fun m => h (.tail _ m))
            exact hm _ _ (List.nodup_cons.mp nd).1
          rw [this, if_pos rfl, beq_self_eq_true]; rfl
        · have : (y == p) = false := beq_eq_false_iff_ne.mpr e
          rw [if_neg e, this]
  intro ps as more h nd y
  have := gen ps as more [] h nd y
  rw [List.append_nil] at this
  rw [this]
  show (look _ _ y).or none = _
  cases look (ps ++ more) (as.map some ++ more.map fun _ => none) y <;> rfl

/-! a call entered -/
noncomputable abbrev retv : Flow → Value
  | .ret v => v
  | _ => .none
theorem enter {need : Nat} {f' : Addr} {args : List Value} {K : Value → Led → Prop} {F : Fn} {ps more : List Str} {as : List Value} {name : Str} {params : Arguments} {body : List Stmt} {dV kV doc pm cdv ct oc : Value} {an od : Option Addr} {osl : Array (Option Value)}
    (ok : F.Ok) (hn : F.ns = ps ++ more) (hl : ps.length = as.length)
    (ho : W.K.lookup f' = some ⟨oc, od, .func (fnOf name F.cn params body F.sc dV kV doc pm an cdv ct), osl⟩) (hcd : codeIn W.K cdv F.cn = true)
    (hb : ∀ s : Shared, W.K.In s.heap → BindsTo s (fnOf name F.cn params body F.sc dV kV doc pm an cdv ct) ⟨args, []⟩ (ps.zip as))
    (hco : F.sc.isCoroutine = false) (hgen : F.sc.isGenerator = false) (hcell : ∀ x ∈ F.sc.names, x.2 ≠ .cell)
    (h : ∀ c : Cx W F need, GS c (as.map some ++ more.map fun _ => none) led (execs body c.env) fun fl _ l => K (retv fl) l) : Calls W need f' args led K := by
  intro f n c vs hneed s₀ s A
  refine wpAny_call ?_
  have hroom : c.A.depth < recursionLimit := Nat.lt_of_le_of_lt (Nat.le_add_right _ _) c.hd
  refine code_def c.B A.F c.X A.N c.T rfl rfl c.ok.kind ho hcd hroom (hb s (c.X.keeps A.F.keep)) ?_ ?_ hco hgen ok.kind hcell
  · intro y hy
    have : y.1 ∈ F.ns := hn ▸ List.mem_append_left _ (List.of_mem_zip hy).1
    exact (ok.loc _ this).1
  · intro g L' h₁ FG F' N' B' X' T'
    have e : (fun y => ((ps.zip as).reverse).lookup y) = look F.ns (as.map some ++ more.map fun _ => none) := by
      funext y; rw [hn]; exact look_binds ps as more hl (hn ▸ ok.nodup) y
    rw [e] at F'
    have h1 : c.dp + 1 + need < recursionLimit := by have := c.hd; omega
    have h2 : c.un + 3 + 8 * need < cLine := by have := c.hu; omega
    let c' : Cx W F need := Cx.mk (c.dp + 1) (c.un + 3) c.gd L' f' cdv [] (c.env :: c.outer) c.A c.base g ok B' X' T' h1 h2
    refine wpAny_mono (h c' _ { s with heap := h₁, toks := s.toks + (ps.zip as).length } (.start _ F' N')) ?_ (fun _ _ x => x.elim)
    rintro fl s' ⟨vs', l, A', hk⟩
    refine leaveK_ A'.F A'.N fun FF NN => ?_
    have hs : s' = { s with heap := s'.heap, toks := s'.toks } := by
      obtain ⟨h', g', d', t', o'⟩ := s'
      have := A'.g; have := A'.d; have := A'.o
      simp_all
    exact ⟨l, ⟨FF, NN, A'.g.trans A.g, A'.d.trans A.d, A'.o.trans A.o⟩, hk⟩
end
end Mine
namespace Mine
open Ob
noncomputable abbrev plOf (o : Expr) (env : Env) : Sem Bool := do return (← importBound o env).getD true
section
variable {W : Wd} {f : Fn} {n : Nat} {c : Cx W f n} {vs : List (Option Value)} {led : Led} {K : Value → Led → Prop} {pos xp : Pos} {k : Nat} {env : Env}
/-! expressions -/
theorem g_loc {x : Str} {v : Value} (hx : Has f.ns vs x v) (h : K v led) : GE c vs led (eval (.Name x pos) c.env) K :=
  fun _ _ A => nameX_L A.F (hx.look c.ok.nodup) ⟨_, A, h⟩ c.ok.kind (c.ok.loc _ hx.mem).1 (c.ok.loc _ hx.mem).2
/-- a name of the top and what it holds -/
structure Gv (KF : Frag) (x : Str) (v : Value) : Prop where
  dbg : (x == ("__debug__" : Str)) = false
  val : nsIn KF mainGlobals x = some (some v) ∨ (nsIn KF mainGlobals x = some none ∧ bootBuiltins x = some v ∧ x ≠ ("__name__" : Str))
theorem g_glo {x : Str} {v : Value} (hx : Gv W.K x v) (hk : f.sc.names.lookup x = some .globalImplicit) (h : K v led) : GE c vs led (eval (.Name x pos) c.env) K := fun _ _ A =>
  hx.val.elim (fun e => nameX_K A.F c.X (topRead_of c.T) e ⟨_, A, h⟩ c.ok.kind hk hx.dbg) fun e => nameX_B A.F c.X (topRead_of c.T) e.1 e.2.1 e.2.2 ⟨_, A, h⟩ c.ok.kind hk hx.dbg
theorem g_none (h : K .none led) : GE c vs led (eval (.Constant .none k pos) env) K := fun _ _ A => wpAny_Constant_none ⟨_, A, h⟩
theorem g_bool {b : Bool} (h : K (.bool b) led) : GE c vs led (eval (.Constant (.bool b) k pos) env) K := fun _ _ A => Constant_bool ⟨_, A, h⟩
theorem g_str {x : Str} (h : ∀ t, K (.str x t) led) : GE c vs led (eval (.Constant (.str x) k pos) env) K := fun _ _ A => Constant_str ⟨_, A.tok _, h _⟩
theorem g_int {i : Int} (h : ∀ t, K (.int i t) led) : GE c vs led (eval (.Constant (.int i) k pos) env) K := fun _ _ A => lit_int _ fun v tk e => by
  obtain ⟨t, rfl⟩ : ∃ t, v = .int i t := by cases e ⟨#[], {}⟩; exact ⟨_, rfl⟩
  exact ⟨_, A.tok _, h t⟩
theorem g_binop {l r : Expr} {op : Operator} (h : GE c vs led (eval l env) fun a l1 => GE c vs l1 (eval r env) fun b l2 => GE c vs l2 (binaryOp op a b) K) : GE c vs led (eval (.BinOp l op r pos) env) K :=
  fun s₀ _ A => wpAny_BinOp (h.th A fun _ _ _ A1 h1 => h1.th A1 fun _ _ _ A2 h2 => h2 s₀ _ A2)
theorem o_addi {a b : Int} {t u : Tok} (h : ∀ t, K (.int (a + b) t) led) : GE c vs led (binaryOp .Add (.int a t) (.int b u)) K := fun _ _ A => PyProof.Rows.add_int ⟨_, A.tok _, h _⟩
theorem g_cmp {l r : Expr} {op : CmpOp} (h : GE c vs led (eval l env) fun a l1 => GE c vs l1 (eval r env) fun b l2 => GE c vs l2 (compareOp op a b) K) (e : behindInMarks op r = false) : GE c vs led (eval (.Compare l [op] [r] pos) env) K :=
  fun s₀ _ A => wpAny_Compare1 (h.th A fun _ _ _ A1 h1 => h1.th A1 fun _ _ _ A2 h2 => h2 s₀ _ A2) e
theorem o_lti {a b : Int} {t u : Tok} (h : K (.bool (decide (a < b))) led) : GE c vs led (compareOp .Lt (.int a t) (.int b u)) K := fun _ _ A => PyProof.Rows.lt_int ⟨_, A, h⟩
theorem o_eqs {x y : Str} {t u : Tok} (h : K (.bool (x == y)) led) : GE c vs led (compareOp .Eq (.str x t) (.str y u)) K := fun _ _ A => PyProof.Rows.eq_str ⟨_, A, h⟩
theorem o_is {a b : Value} (hp : plainIs a b = true) (h : K (.bool (a == b)) led) : GE c vs led (compareOp .Is a b) K := fun _ _ A => wpAny_is_plain hp ⟨_, A, h⟩
theorem o_isn {a b : Value} (hp : plainIs a b = true) (h : K (.bool (!(a == b))) led) : GE c vs led (compareOp .IsNot a b) K := fun _ _ A => wpAny_isNot_plain hp ⟨_, A, h⟩
theorem g_call {fn : Expr} {args : List Expr} (h : GE c vs led (eval fn env) fun fv l => GE c vs l (callWith pos fv [] (backTo pos (starEach args env)) []) K)
    (e : eval (fn.Call args [] pos) env = (do let f ← eval fn env; callWith pos f [] (backTo pos (starEach args env)) (backToKw pos (keywordEach [] env)))) : GE c vs led (eval (fn.Call args [] pos) env) K :=
  fun s₀ _ A => Call_ (h.th A fun _ _ _ A1 h1 => h1 s₀ _ A1) e
theorem g_mcall {o : Expr} {name : Str} {apos : Pos} {args : List Expr} (h : GE c vs led (eval o env) fun ov l => GE c vs l (getMethod ov name (plOf o env)) fun fx l2 => GE c vs l2 (callWith pos fx.1 fx.2 (backTo pos (starEach args env)) []) K)
    (e : eval ((o.Attribute name apos).Call args [] pos) env = (do let ov ← eval o env; standAt apos.atName; let (f, first) ← holding [ov] (getMethod ov name (plOf o env)); callWith pos f first (backTo pos (starEach args env)) [])) :
    GE c vs led (eval ((o.Attribute name apos).Call args [] pos) env) K :=
  fun s₀ _ A => MethodCall_ (h.th A fun _ _ _ A1 h1 => h1.th A1 fun _ _ _ A2 h2 => h2 s₀ _ A2) e
theorem a_nil {KA : List Value → Led → Prop} (h : KA [] led) : GE c vs led (spliced (backTo pos (starEach [] env))) KA := fun _ _ A => args_nil ⟨_, A, h⟩
theorem a_cons {KA : List Value → Led → Prop} {e : Expr} {rest : List Expr} (h : GE c vs led (eval e env) fun v l => GE c vs l (spliced (backTo pos (starEach rest env))) fun ws l2 => KA (v :: ws) l2)
    (q : starEach (e :: rest) env = (false, eval e env) :: starEach rest env) : GE c vs led (spliced (backTo pos (starEach (e :: rest) env))) KA :=
  fun s₀ _ A => args_cons (h.th A fun _ _ _ A1 h1 => h1.th A1 fun _ _ _ A2 h2 => ⟨_, A2, h2⟩) q
theorem w_bui {id : String} {first : List Value} {e : Expr} {rest : List Expr} (h : GE c vs led (spliced (backTo pos (starEach (e :: rest) env))) fun ws l => GE c vs l (call (.builtin id) (first ++ ws)) K)
    (q : starEach (e :: rest) env = (false, eval e env) :: starEach rest env) (q' : (backTo pos (starEach rest env)).any (·.1) = false) : GE c vs led (callWith pos (.builtin id) first (backTo pos (starEach (e :: rest) env)) []) K :=
  fun s₀ _ A => callWith_method1 (h.th A fun _ _ _ A1 h1 => h1 s₀ _ A1) q q'
theorem w_def {fv : Value} {first : List Value} {e : Expr} {rest : List Expr} (hk : keepIn W.K fv = true) (h : GE c vs led (spliced (backTo pos (starEach (e :: rest) env))) fun ws l => GE c vs l (call fv (first ++ ws)) K)
    (q : starEach (e :: rest) env = (false, eval e env) :: starEach rest env) (q' : (backTo pos (starEach rest env)).any (·.1) = false) : GE c vs led (callWith pos fv first (backTo pos (starEach (e :: rest) env)) []) K :=
  fun s₀ _ A => callWith_K (c.X.keeps A.F.keep) hk (h.th A fun _ _ _ A1 h1 => ⟨c.X.keeps A1.F.keep, h1 s₀ _ A1⟩) q q'
theorem w_def0 {fv : Value} {first : List Value} (hk : keepIn W.K fv = true) (h : GE c vs led (call fv (first ++ [])) K) : GE c vs led (callWith pos fv first (backTo pos (starEach [] env)) []) K :=
  fun s₀ _ A => callWith_K0 (c.X.keeps A.F.keep) hk (h s₀ _ A)
theorem g_use {f' : Addr} {args : List Value} {need : Nat} (h : Calls W need f' args led K) (hn : need < n) : GE c vs led (call (.ref f') args) K := h f n c vs hn
theorem b_len {l : Addr} {ws : List Value} {m : Nat} (hm : (l, listOf ws.toArray m) ∈ led) (hl : (ws.length : Int) < 1000000) (h : ∀ t, K (.int (ws.length : Int) t) led) : GE c vs led (call (.builtin "len") [.ref l]) K :=
  fun _ s A => len_list (s := s) (News.isList A.N hm) (by rw [List.size_toArray]; omega) (by rw [List.size_toArray]; exact ⟨_, A.tok _, h _⟩)
theorem g_sub {value slice : Expr} (h : GE c vs led (eval value env) fun o l1 => GE c vs l1 (eval slice env) fun i l2 => GE c vs l2 (subscriptTail value slice o i) K) : GE c vs led (eval (.Subscript value slice pos) env) K :=
  fun s₀ _ A => Subscript_ (h.th A fun _ _ _ A1 h1 => h1.th A1 fun _ _ _ A2 h2 => h2 s₀ _ A2)
theorem o_item {value slice : Expr} {l : Addr} {ws : List Value} {m : Nat} {i : Int} {u : Tok} {v : Value} (hm : (l, listOf ws.toArray m) ∈ led) (h0 : 0 ≤ i) (hfit : i < 2 ^ 63) (hv : ws[i.toNat]? = some v) (h : K v led)
    (hs : subscripted slice false (.ref l) (.int i u) = operate [.ref l, .int i u] (getItem (.ref l) (.int i u))) : GE c vs led (subscriptTail value slice (.ref l) (.int i u)) K := fun _ _ A =>
  have hl := News.isList A.N hm
  tail_any hl.typeIs slot_list_getitem.lookup (wpAny_getItem_list hl h0 hfit (by simpa using hv) ⟨_, A, h⟩) hs
/-! fields of an object that a local names -/
structure Own (KF : Frag) (C : Addr) (name : Str) : Prop where
  plain : plainGet KF C name = true
  dict : hasDictIn KF C = true
  get : (findIn KF (.ref C) name).any (noGet KF) = true
theorem Own.attr {KF : Frag} {C : Addr} {name : Str} (ho : Own KF C name) : ∃ at_, findIn KF (.ref C) name = some at_ ∧ noGet KF at_ = true := by
  have := ho.get
  cases hq : findIn KF (.ref C) name with
  | none => rw [hq] at this; cases this
  | some at_ => rw [hq] at this; exact ⟨at_, rfl, this⟩
theorem g_own {x name : Str} {a dx C : Addr} {es : List DictEntry} {m : Nat} {v : Value} (hx : Has f.ns vs x (.ref a)) (ho : Own W.K C name) (hi : (a, instObj C dx) ∈ led) (hd : (dx, dictOf es m) ∈ led) (hg : getL name es = some (some v)) (hh : handedIn v = true) (h : K v led)
    (e : eval ((Expr.Name x xp).Attribute name pos) c.env = (do let o ← eval (Expr.Name x xp) c.env; standAt pos.atName; let r ← holding [o] (getAttr o name true); letTemporaryGo (Expr.Name x xp) o r; pure r)) :
    GE c vs led (eval ((Expr.Name x xp).Attribute name pos) c.env) K := fun s₀ s A => by
  obtain ⟨at_, hf, hn⟩ := ho.attr
  exact Attribute_Name_ ((g_loc (K := fun o l => o = .ref a ∧ l = led) hx ⟨rfl, rfl⟩).th A fun o l s1 A1 h1 => by
    obtain ⟨rfl, rfl⟩ := h1
    exact get_own A1.F c.X (InstAt.of_news A1.N hi hd) ho.plain ho.dict hf hn hg hh ⟨_, A1.tok _, h⟩) e
/-! tests -/
noncomputable abbrev GT (c : Cx W f n) (vs : List (Option Value)) (led : Led) (e : Expr) (K : Bool → Led → Prop) : Prop := GE c vs led (PySem.isTrue e c.env (eval e c.env)) K
noncomputable def sel (b : Bool) (A B : Prop) : Prop := match b with
  | true => A
  | false => B
theorem sel_map {b : Bool} {A B A' B' : Prop} (h : sel b A B) (f : A → A') (g : B → B') : if b = true then A' else B' := by
  cases b with
  | true => exact (if_pos rfl).mpr (f h)
  | false => exact (if_neg Bool.false_ne_true).mpr (g h)
theorem tr_bool {b : Bool} {KB : Bool → Led → Prop} (h : KB b led) : GE c vs led (truthy (.bool b)) KB := fun _ _ A => wpAny_truthy_bool ⟨_, A, h⟩
theorem t_cmp {l r : Expr} {op : CmpOp} {whole : Sem Value} {KB : Bool → Led → Prop} (h : GE c vs led (eval l c.env) fun a l1 => GE c vs l1 (eval r c.env) fun b l2 => GE c vs l2 (compareOp op a b) fun v l3 => GE c vs l3 (truthy v) KB) (e : behindInMarks op r = false) :
    GE c vs led (PySem.isTrue (.Compare l [op] [r] pos) c.env whole) KB :=
  fun s₀ _ A => wpAny_isTrue_Compare1 (h.th A fun _ _ _ A1 h1 => h1.th A1 fun _ _ _ A2 h2 => h2.th A2 fun _ _ _ A3 h3 => h3 s₀ _ A3) e
theorem t_not {x : Expr} {whole : Sem Value} {KB : Bool → Led → Prop} (h : GT c vs led x fun b l => KB (!b) l) : GE c vs led (PySem.isTrue (.UnaryOp .Not x pos) c.env whole) KB :=
  fun _ _ A => isTrue_not (h.th A fun _ _ _ A1 h1 => ⟨_, A1, h1⟩)
theorem t_and {x : Expr} {rest : List Expr} {whole : Sem Value} {KB : Bool → Led → Prop} (h : GT c vs led x fun b l => sel b (GE c vs l (PySem.isTrue (.BoolOp .And rest pos) c.env whole) KB) (KB false l)) : GE c vs led (PySem.isTrue (.BoolOp .And (x :: rest) pos) c.env whole) KB :=
  fun s₀ _ A => isTrue_and (h.th A fun b _ _ A1 h1 => sel_map h1 (fun h => h s₀ _ A1) fun h => ⟨_, A1, h⟩)
theorem t_or {x : Expr} {rest : List Expr} {whole : Sem Value} {KB : Bool → Led → Prop} (h : GT c vs led x fun b l => sel b (KB true l) (GE c vs l (PySem.isTrue (.BoolOp .Or rest pos) c.env whole) KB)) : GE c vs led (PySem.isTrue (.BoolOp .Or (x :: rest) pos) c.env whole) KB :=
  fun s₀ _ A => isTrue_or (h.th A fun b _ _ A1 h1 => sel_map h1 (fun h => ⟨_, A1, h⟩) fun h => h s₀ _ A1)
theorem t_andn {whole : Sem Value} {KB : Bool → Led → Prop} (h : KB true led) : GE c vs led (PySem.isTrue (.BoolOp .And [] pos) c.env whole) KB := fun _ _ A => isTrue_and_nil ⟨_, A, h⟩
theorem t_orn {whole : Sem Value} {KB : Bool → Led → Prop} (h : KB false led) : GE c vs led (PySem.isTrue (.BoolOp .Or [] pos) c.env whole) KB := fun _ _ A => isTrue_or_nil ⟨_, A, h⟩
theorem t_ifx {test body orelse : Expr} {whole : Sem Value} {KB : Bool → Led → Prop} (h : GT c vs led test fun b l => sel b (GT c vs l body KB) (GT c vs l orelse KB)) : GE c vs led (PySem.isTrue (.IfExp test body orelse pos) c.env whole) KB :=
  fun s₀ _ A => isTrue_IfExp (h.th A fun _ _ _ A1 h1 => sel_map h1 (fun h => h s₀ _ A1) fun h => h s₀ _ A1)
theorem t_val {e : Expr} {whole : Sem Value} {KB : Bool → Led → Prop} (h : GE c vs led whole fun v l => GE c vs l (truthy v) KB) (q : PySem.isTrue e c.env whole = (do let v ← whole; standAt e.pos; holding [v] (truthy v))) : GE c vs led (PySem.isTrue e c.env whole) KB :=
  fun s₀ _ A => isTrue_plain (h.th A fun _ _ _ A1 h1 => h1 s₀ _ A1) q
theorem g_and {e₁ e₂ : Expr} {rest : List Expr} (h : GE c vs led (eval e₁ env) fun v l => GE c vs l (truthy v) fun b l2 => sel b (GE c vs l2 (eval (.BoolOp .And (e₂ :: rest) pos) env) K) (K v l2)) : GE c vs led (eval (.BoolOp .And (e₁ :: e₂ :: rest) pos) env) K :=
  fun s₀ _ A => BoolOp_and (h.th A fun _ _ _ A1 h1 => h1.th A1 fun b _ _ A2 h2 => sel_map h2 (fun h => h s₀ _ A2) fun h => ⟨_, A2, h⟩)
theorem g_or {e₁ e₂ : Expr} {rest : List Expr} (h : GE c vs led (eval e₁ env) fun v l => GE c vs l (truthy v) fun b l2 => sel b (K v l2) (GE c vs l2 (eval (.BoolOp .Or (e₂ :: rest) pos) env) K)) : GE c vs led (eval (.BoolOp .Or (e₁ :: e₂ :: rest) pos) env) K :=
  fun s₀ _ A => BoolOp_or (h.th A fun _ _ _ A1 h1 => h1.th A1 fun b _ _ A2 h2 => sel_map h2 (fun h => ⟨_, A2, h⟩) fun h => h s₀ _ A2)
theorem g_one {e : Expr} {op : BoolOp} (h : GE c vs led (eval e env) K) : GE c vs led (eval (.BoolOp op [e] pos) env) K := fun s₀ _ A => BoolOp_one (h s₀ _ A)
/-! statements -/
noncomputable abbrev KS := Flow → List (Option Value) → Led → Prop
variable {Ks : KS}
noncomputable def nxt (c : Cx W f n) (rest : List Stmt) (K : KS) : KS := fun fl vs l => match fl with
  | .next => GS c vs l (execs rest c.env) K
  | fl => K fl vs l
theorem s_nil (h : Ks .next vs led) : GS c vs led (execs [] c.env) Ks := fun _ _ A => wpAny_execs_nil ⟨_, _, A, h⟩
theorem s_cons {s : Stmt} {rest : List Stmt} (h : GS c vs led (exec s c.env) (nxt c rest Ks)) : GS c vs led (execs (s :: rest) c.env) Ks :=
  fun s₀ _ A => wpAny_execs_cons (h.th A fun fl vs' l s' A1 h1 => by cases fl <;> first | exact h1 s₀ _ A1 | exact ⟨_, _, A1, h1⟩)
theorem s_if {test : Expr} {body orelse : List Stmt} (h : GT c vs led test fun b l => sel b (GS c vs l (execs body c.env) Ks) (GS c vs l (execs orelse c.env) Ks)) : GS c vs led (exec (.If test body orelse pos) c.env) Ks :=
  fun s₀ _ A => wpAny_If (h.th A fun b _ _ A1 h1 => sel_map h1 (fun h => h s₀ _ A1) fun h => h s₀ _ A1)
theorem s_ret {e : Expr} (h : GE c vs led (eval e c.env) fun v l => Ks (.ret v) vs l) : GS c vs led (exec (.Return (some e) pos) c.env) Ks :=
  fun _ _ A => wpAny_Return_some (h.th A fun _ _ _ A1 h1 => ⟨_, _, A1, h1⟩)
theorem s_asg {x : Str} {p' : Pos} {e : Expr} (h : GE c vs led (eval e c.env) fun v l => ∃ vs', Put f.ns vs x v vs' ∧ Ks .next vs' l) (q : swapsWith e (some (Expr.Name x p')) pos.line c.env = pure false) : GS c vs led (exec (.Assign [.Name x p'] e pos) c.env) Ks :=
  fun s₀ _ A => wpAny_Assign_Name (h.th A fun v l s1 A1 ⟨vs', hp, h1⟩ => storeX_L A1.F A1.N (fun h' F' N' => ⟨vs', l, A1.to (by
    have : (fun y => if y = x then some v else look f.ns vs y) = look f.ns vs' := funext fun y => (hp.look c.ok.nodup y).symm
    rw [this] at F'; exact F') N', h1⟩) c.ok.kind (c.ok.loc _ hp.mem).1) q
theorem sel_t {A B : Prop} (h : A) : sel true A B := h
theorem sel_f {A B : Prop} (h : B) : sel false A B := h
theorem sel_nt {A B : Prop} (h : B) : sel (!true) A B := h
theorem sel_nf {A B : Prop} (h : A) : sel (!false) A B := h
theorem sel_eqt {b : Bool} {A B : Prop} (e : b = true) (h : A) : sel b A B := by rw [e]; exact h
theorem sel_eqf {b : Bool} {A B : Prop} (e : b = false) (h : B) : sel b A B := by rw [e]; exact h
theorem s_next {rest : List Stmt} (h : GS c vs led (execs rest c.env) Ks) : nxt c rest Ks .next vs led := h
theorem s_back {rest : List Stmt} {v : Value} (h : Ks (.ret v) vs led) : nxt c rest Ks (.ret v) vs led := h
end
end Mine
namespace Mine
noncomputable abbrev ent (w : World) (x : Str) (t : Tok) (v : Value) : DictEntry := ⟨PyData.keyHash w.params x, .str x t, v⟩
noncomputable abbrev rdObj (w : World) (tl nd : Addr) (t1 t2 t3 : Tok) (i : Int) (ti : Tok) : Obj := dictOf [ent w (Str.ofString "tokens") t1 (.ref tl), ent w (Str.ofString "at") t2 (.int i ti), ent w (Str.ofString "named") t3 (.ref nd)] 3
noncomputable abbrev tokObj (w : World) (t1 t2 t3 t4 : Tok) (k : Str) (u1 : Tok) (x : Str) (u2 : Tok) (v3 v4 : Value) : Obj :=
  dictOf [ent w (Str.ofString "kind") t1 (.str k u1), ent w (Str.ofString "worth") t2 (.str x u2), ent w (Str.ofString "at") t3 v3, ent w (Str.ofString "is_in_a") t4 v4] 4
inductive TokIn (w : World) (led : Led) : Value → Str × Str → Prop
  | mk {a dx : Addr} {t1 t2 t3 t4 u1 u2 : Tok} {k x : Str} {v3 v4 : Value} : (a, instObj 525 dx) ∈ led → (dx, tokObj w t1 t2 t3 t4 k u1 x u2 v3 v4) ∈ led → TokIn w led (.ref a) (k, x)
inductive ToksIn (w : World) (led : Led) : List Value → List (Str × Str) → Prop
  | nil : ToksIn w led [] []
  | cons {v vs t ts} : TokIn w led v t → ToksIn w led vs ts → ToksIn w led (v :: vs) (t :: ts)

theorem TokIn.mono {w : World} {led led' : Led} (hs : ∀ p ∈ led, p ∈ led') : ∀ {v : Value} {t : Str × Str}, TokIn w led v t → TokIn w led' v t
  | _, _, .mk a b => .mk (hs _ a) (hs _ b)
theorem ToksIn.mono {w : World} {led led' : Led} (hs : ∀ p ∈ led, p ∈ led') : ∀ {vs : List Value} {ts : List (Str × Str)}, ToksIn w led vs ts → ToksIn w led' vs ts
  | _, _, .nil => .nil
  | _, _, .cons a b => .cons (a.mono hs) (b.mono hs)
theorem ToksIn.length {w : World} {led : Led} : ∀ {vs : List Value} {ts : List (Str × Str)}, ToksIn w led vs ts → vs.length = ts.length
  | _, _, .nil => rfl
  | _, _, .cons _ b => by simp [b.length]
theorem ToksIn.get {w : World} {led : Led} : ∀ {vs : List Value} {ts : List (Str × Str)} {i : Nat}, ToksIn w led vs ts →
    (ts[i]? = none ∧ vs[i]? = none) ∨ ∃ k x v, ts[i]? = some (k, x) ∧ vs[i]? = some v ∧ TokIn w led v (k, x)
  | _, _, i, .nil => by simp
  | _, _, 0, .cons (t := (k, x)) (v := v) a _ => .inr ⟨k, x, v, rfl, rfl, a⟩
  | _, _, i + 1, .cons _ b => by simpa using b.get (i := i)
/-- every token is a word, a literal or the sign '.' -/
noncomputable def Good (ts : List (Str × Str)) : Prop := ∀ t ∈ ts, t.1 = Str.ofString "word" ∨ t.1 = Str.ofString "literal" ∨ t = (Str.ofString "sign", Str.ofString ".")
structure RdOk (w : World) (rest : Led) (r rd tl : Addr) (vs : List Value) (ts : List (Str × Str)) : Prop where
  inst : (r, instObj 495 rd) ∈ rest
  list : ∃ n, (tl, listOf vs.toArray n) ∈ rest
  toks : ToksIn w rest vs ts
  good : Good ts
  len : (vs.length : Int) < 1000000
  short : ∀ t ∈ ts, t.2.length ≤ 100
  sep : ∀ p ∈ rest, p.1 ≠ rd
/-- what was added is younger than all that stood -/
noncomputable def Fresh (led add : Led) : Prop := ∀ q ∈ led, ∀ p ∈ add, q.1 < p.1
theorem RdOk.sub {w : World} {rest rest' : Led} {r rd tl : Addr} {vs : List Value} {ts : List (Str × Str)} (R : RdOk w rest r rd tl vs ts) (hs : ∀ p ∈ rest, p ∈ rest') (ha : ∀ p ∈ rest', p.1 ≠ rd) : RdOk w rest' r rd tl vs ts :=
  ⟨hs _ R.inst, R.list.elim fun n h => ⟨n, hs _ h⟩, R.toks.mono hs, R.good, R.len, R.short, ha⟩
theorem RdOk.grow {w : World} {rest add : Led} {r rd tl : Addr} {o : Obj} {vs : List Value} {ts : List (Str × Str)} (R : RdOk w rest r rd tl vs ts) (ha : Fresh ((rd, o) :: rest) add) : RdOk w (add ++ rest) r rd tl vs ts :=
  R.sub (fun _ h => List.mem_append_right _ h) (List.forall_mem_append.mpr ⟨fun p hp => Nat.ne_of_gt (ha _ (.head _) p hp), R.sep⟩)
theorem RdOk.wide {w : World} {rest own : Led} {r rd tl : Addr} {o : Obj} {vs : List Value} {ts : List (Str × Str)} (R : RdOk w rest r rd tl vs ts) (ho : OwnOff own (((rd, o) :: rest).map (·.1))) : RdOk w (rest ++ own) r rd tl vs ts :=
  R.sub (fun _ h => List.mem_append_left _ h) (List.forall_mem_append.mpr ⟨R.sep, fun p hp => ho p hp rd (List.mem_map.mpr ⟨(rd, o), .head _, rfl⟩)⟩)
theorem Fresh.nil {led : Led} : Fresh led [] := fun _ _ _ h => nomatch h
theorem Fresh.off {led own add : Led} (h : Fresh led add) (hs : ∀ p ∈ own, p ∈ led) : ∀ p ∈ own, ∀ q ∈ add, p.1 ≠ q.1 := fun p hp q hq => Nat.ne_of_lt (h p (hs p hp) q hq)
theorem Fresh.sub {led led' add : Led} (h : Fresh led add) (hs : ∀ p ∈ led', p ∈ led) : Fresh led' add := fun q hq => h q (hs q hq)
theorem Fresh.one {led : Led} {D : Addr} {o : Obj} (h : AllLt D led) : Fresh led [(D, o)] := fun q hq p hp => by rw [List.mem_singleton.mp hp]; exact tb_ltOf h q hq
/-- first add, then more -/
theorem Fresh.more {rd : Addr} {o : Obj} {rest add more : Led} (h : Fresh ((rd, o) :: rest) add) (k : Fresh ((rd, o) :: (add ++ rest)) more) : Fresh ((rd, o) :: rest) (more ++ add) := by
  intro q hq p hp
  rcases List.mem_append.mp hp with hp | hp
  · rcases List.mem_cons.mp hq with rfl | hq
    · exact k (rd, o) (.head _) p hp
    · exact k q (.tail _ (List.mem_append_right _ hq)) p hp
  · exact h q hq p hp
theorem OwnOff.more {own rest add : Led} {rd : Addr} {o o' : Obj} (h : OwnOff own (((rd, o) :: rest).map (·.1))) (k : Fresh ((rd, o) :: (rest ++ own)) add) : OwnOff own (((rd, o') :: (add ++ rest)).map (·.1)) := by
  intro p hp b hb
  obtain ⟨q, hq, rfl⟩ := List.mem_map.mp hb
  rcases List.mem_cons.mp hq with rfl | hq
  · exact h p hp rd (List.mem_map.mpr ⟨(rd, o), .head _, rfl⟩)
  · rcases List.mem_append.mp hq with hq | hq
    · exact Nat.ne_of_lt (k p (.tail _ (List.mem_append_right _ hp)) q hq)
    · exact h p hp q.1 (List.mem_map.mpr ⟨q, .tail _ hq, rfl⟩)
theorem rot_use {w : World} {h₀ h : Heap} {L D : Addr} {o ro : Obj} {rest : Led} {r rd tl : Addr} {vs : List Value} {ts : List (Str × Str)} (N : News h₀ L h ((D, o) :: (rd, ro) :: rest)) (R : RdOk w rest r rd tl vs ts) (l : rd < D ∧ AllLt D rest) :
    News h₀ L h ((rd, ro) :: (D, o) :: rest) ∧ RdOk w ((D, o) :: rest) r rd tl vs ts :=
  ⟨fun p hp => N p (by
    rcases List.mem_cons.mp hp with rfl | hp
    · exact .tail _ (.head _)
    · rcases List.mem_cons.mp hp with rfl | hp
      · exact .head _
      · exact .tail _ (.tail _ hp)), R.sub (fun _ h => .tail _ h) (List.forall_mem_cons.mpr ⟨Nat.ne_of_gt l.1, R.sep⟩)⟩
theorem Fresh.cons {rd D : Addr} {o ob : Obj} {rest add : Led} (h1 : rd < D) (h2 : ∀ q ∈ rest, q.1 < D) (h : Fresh ((rd, o) :: rest) add) : Fresh ((rd, o) :: rest) ((D, ob) :: add) := by
  intro q hq p hp
  rcases List.mem_cons.mp hp with rfl | hp
  · rcases List.mem_cons.mp hq with rfl | hq
    · exact h1
    · exact h2 q hq
  · exact h q hq p hp
theorem Fresh.app {led a b : Led} (h : Fresh led a) (k : Fresh led b) : Fresh led (a ++ b) := fun q hq p hp => (List.mem_append.mp hp).elim (h q hq p) (k q hq p)
theorem Fresh.of {rd : Addr} {o o' : Obj} {rest big add : Led} (h : Fresh ((rd, o') :: big) add) (hs : ∀ q ∈ rest, q ∈ big) : Fresh ((rd, o) :: rest) add := by
  intro q hq p hp
  rcases List.mem_cons.mp hq with rfl | hq
  · exact h (rd, o') (.head _) p hp
  · exact h q (.tail _ (hs q hq)) p hp
theorem Upd.app {d : Addr} {o o' : Obj} {r r' : Led} : ∀ {X : Led}, (∀ p ∈ X, p.1 ≠ d) → Upd d o o' r r' → Upd d o o' (X ++ r) (X ++ r')
  | [], _, h => h
  | _ :: _, hX, h => .tail (hX _ (.head _)) (Upd.app (fun p hp => hX p (.tail _ hp)) h)
theorem News.sub {h₀ h : Heap} {L : Addr} {led led' : Led} (N : News h₀ L h led) (hs : ∀ p ∈ led', p ∈ led) : News h₀ L h led' := fun p hp => N p (hs p hp)
noncomputable def isK (ts : List (Str × Str)) (i : Nat) (k : Str) : Bool := match ts[i]? with
  | some t => decide (t.1 = k)
  | none => false
section
variable {prog : Program} {w : World} {A : Around} {E : Value → Shared → Prop} {s : Shared} {h₀ : Heap} {L l : Addr} {led : Led} {vs : List Value} {n : Nat} {Q : Value → Shared → Prop}
theorem split_one {m : Str → Option Value} {x y : Str} {t u : Tok} (F : Fr h₀ L s.heap m) (N : News h₀ L s.heap led) (hy : (y.length == 0) = false) (hw : Txt.split x y = [x]) (hsz : x.length + 2 ≤ sizeLine)
    (h : ∀ D t' h' k, Fr h₀ L h' m → News h₀ L h' ((D, listOf [.str x t'].toArray 0) :: led) → (∀ p ∈ led, p.1 < D) → Q (.ref D) { s with heap := h', toks := k }) :
    wpAny (model prog w) A (call (.builtin "str.split") [.str x t, .str y u]) Q E s := by
  refine KSpl.split1 F N hy (fun D l h' k e _ F' N' l1 => ?_) hsz
  rw [hw] at e
  obtain ⟨t', l', rfl, e'⟩ := KSpl.cons_of e
  obtain rfl := KSpl.nil_of e'
  exact h D t' h' k F' N' l1
theorem split_two {m : Str → Option Value} {x y a b : Str} {t u : Tok} (F : Fr h₀ L s.heap m) (N : News h₀ L s.heap led) (hy : (y.length == 0) = false) (hw : Txt.split x y = [a, b]) (hsz : x.length + 2 ≤ sizeLine)
    (h : ∀ D t' t'' h' k, Fr h₀ L h' m → News h₀ L h' ((D, listOf [.str a t', .str b t''].toArray 0) :: led) → (∀ p ∈ led, p.1 < D) → Q (.ref D) { s with heap := h', toks := k }) :
    wpAny (model prog w) A (call (.builtin "str.split") [.str x t, .str y u]) Q E s := by
  refine KSpl.split1 F N hy (fun D l h' k e _ F' N' l1 => ?_) hsz
  rw [hw] at e
  obtain ⟨t', l', rfl, e'⟩ := KSpl.cons_of e
  obtain ⟨t'', l'', rfl, e''⟩ := KSpl.cons_of e'
  obtain rfl := KSpl.nil_of e''
  exact h D t' t'' h' k F' N' l1
end
end Mine
namespace Mine
open Ob
theorem own_at (P : Params) : Own (KF P) 495 (Str.ofString "at") := ⟨by kernel_rfl, by kernel_rfl, by kernel_rfl⟩
theorem own_tokens (P : Params) : Own (KF P) 495 (Str.ofString "tokens") := ⟨by kernel_rfl, by kernel_rfl, by kernel_rfl⟩
theorem own_kind (P : Params) : Own (KF P) 525 (Str.ofString "kind") := ⟨by kernel_rfl, by kernel_rfl, by kernel_rfl⟩
theorem own_worth (P : Params) : Own (KF P) 525 (Str.ofString "worth") := ⟨by kernel_rfl, by kernel_rfl, by kernel_rfl⟩
noncomputable abbrev rdEs (w : World) (tl nd : Addr) (t1 t2 t3 : Tok) (i : Int) (ti : Tok) : List DictEntry := [ent w (Str.ofString "tokens") t1 (.ref tl), ent w (Str.ofString "at") t2 (.int i ti), ent w (Str.ofString "named") t3 (.ref nd)]
noncomputable abbrev tokEs (w : World) (t1 t2 t3 t4 : Tok) (k : Str) (u1 : Tok) (x : Str) (u2 : Tok) (v3 v4 : Value) : List DictEntry :=
  [ent w (Str.ofString "kind") t1 (.str k u1), ent w (Str.ofString "worth") t2 (.str x u2), ent w (Str.ofString "at") t3 v3, ent w (Str.ofString "is_in_a") t4 v4]
/-- a method of the reader -/
structure RMeth (KF : Frag) (name : Str) (f' : Addr) : Prop where
  plain : plainGet KF 495 name = true
  find : findIn KF (.ref 495) name = some (some (.ref f'))
  fn : isFn KF (.ref f') = true
  keep : keepIn KF (.ref f') = true
  none : ∀ (w : World) (tl nd : Addr) (t1 t2 t3 : Tok) (i : Int) (ti : Tok), getL name (rdEs w tl nd t1 t2 t3 i ti) = some none
section
variable {W : Wd} {f : Fn} {n : Nat} {c : Cx W f n} {vs : List (Option Value)} {K : Value → Led → Prop} {pos xp apos : Pos} {r rd tl nd : Addr} {t1 t2 t3 : Tok} {i : Int} {ti : Tok} {rest led : Led} {ws : List Value} {ts : List (Str × Str)} {x : Str} {env : Env}
theorem r_at (hx : Has f.ns vs x (.ref r)) (R : RdOk W.w rest r rd tl ws ts) (h : K (.int i ti) ((rd, rdObj W.w tl nd t1 t2 t3 i ti) :: rest))
    (e : eval ((Expr.Name x xp).Attribute (Str.ofString "at") pos) c.env = (do let o ← eval (Expr.Name x xp) c.env; standAt pos.atName; let r ← holding [o] (getAttr o (Str.ofString "at") true); letTemporaryGo (Expr.Name x xp) o r; pure r)) :
    GE c vs ((rd, rdObj W.w tl nd t1 t2 t3 i ti) :: rest) (eval ((Expr.Name x xp).Attribute (Str.ofString "at") pos) c.env) K :=
  g_own (es := rdEs W.w tl nd t1 t2 t3 i ti) hx (own_at _) (.tail _ R.inst) (.head _) (by kernel_rfl) rfl h e
theorem r_tokens (hx : Has f.ns vs x (.ref r)) (R : RdOk W.w rest r rd tl ws ts) (h : K (.ref tl) ((rd, rdObj W.w tl nd t1 t2 t3 i ti) :: rest))
    (e : eval ((Expr.Name x xp).Attribute (Str.ofString "tokens") pos) c.env = (do let o ← eval (Expr.Name x xp) c.env; standAt pos.atName; let r ← holding [o] (getAttr o (Str.ofString "tokens") true); letTemporaryGo (Expr.Name x xp) o r; pure r)) :
    GE c vs ((rd, rdObj W.w tl nd t1 t2 t3 i ti) :: rest) (eval ((Expr.Name x xp).Attribute (Str.ofString "tokens") pos) c.env) K :=
  g_own (es := rdEs W.w tl nd t1 t2 t3 i ti) hx (own_tokens _) (.tail _ R.inst) (.head _) (by kernel_rfl) rfl h e
theorem g_attr {o : Expr} {name : Str} (h : GE c vs led (eval o env) fun ov l => GE c vs l (getAttr ov name true) K)
    (e : eval (o.Attribute name pos) env = (do let ov ← eval o env; standAt pos.atName; let r ← holding [ov] (getAttr ov name true); letTemporaryGo o ov r; pure r)) : GE c vs led (eval (o.Attribute name pos) env) K :=
  fun s₀ _ A => Attribute_any_ (h.th A fun _ _ _ A1 h1 => h1 s₀ _ A1) e
theorem o_kind {v : Value} {t : Str × Str} (ht : TokIn W.w led v t) (h : ∀ u, K (.str t.1 u) led) : GE c vs led (getAttr v (Str.ofString "kind") true) K := fun _ _ A => by
  cases ht with
  | @mk a dx t1 t2 t3 t4 u1 u2 k x v3 v4 m1 m2 =>
    obtain ⟨at_, hf, hn⟩ := (own_kind W.w.params).attr
    exact get_own (es := tokEs W.w t1 t2 t3 t4 k u1 x u2 v3 v4) A.F c.X (InstAt.of_news A.N m1 m2) (own_kind _).plain (own_kind _).dict hf hn (v := .str k u1) (by kernel_rfl) rfl ⟨_, A.tok _, h _⟩
theorem o_worth {v : Value} {t : Str × Str} (ht : TokIn W.w led v t) (h : ∀ u, K (.str t.2 u) led) : GE c vs led (getAttr v (Str.ofString "worth") true) K := fun _ _ A => by
  cases ht with
  | @mk a dx t1 t2 t3 t4 u1 u2 k x v3 v4 m1 m2 =>
    obtain ⟨at_, hf, hn⟩ := (own_worth W.w.params).attr
    exact get_own (es := tokEs W.w t1 t2 t3 t4 k u1 x u2 v3 v4) A.F c.X (InstAt.of_news A.N m1 m2) (own_worth _).plain (own_worth _).dict hf hn (v := .str x u2) (by kernel_rfl) rfl ⟨_, A.tok _, h _⟩
theorem o_isn_tok {v : Value} {t : Str × Str} (ht : TokIn W.w led v t) (h : K (.bool true) led) : GE c vs led (compareOp .IsNot v .none) K := by
  cases ht
  exact o_isn rfl h
theorem o_is_tok {v : Value} {t : Str × Str} (ht : TokIn W.w led v t) (h : K (.bool false) led) : GE c vs led (compareOp .Is v .none) K := by
  cases ht
  exact o_is rfl h
theorem RdOk.tok {w : World} {i : Nat} {v : Value} {t : Str × Str} (R : RdOk w rest r rd tl ws ts) (e2 : ws[i]? = some v) (e1 : ts[i]? = some t) : TokIn w rest v t := by
  rcases R.toks.get (i := i) with ⟨a, _⟩ | ⟨k, x, v', a, b, h⟩
  · rw [a] at e1; cases e1
  · rw [a] at e1; rw [b] at e2; cases e1; cases e2; exact h
theorem r_kind {i : Nat} {v : Value} {t : Str × Str} {ro : Obj} (R : RdOk W.w rest r rd tl ws ts) (e2 : ws[i]? = some v) (e1 : ts[i]? = some t) (h : ∀ u, K (.str t.1 u) ((rd, ro) :: rest)) : GE c vs ((rd, ro) :: rest) (getAttr v (Str.ofString "kind") true) K :=
  o_kind ((R.tok e2 e1).mono fun _ h => .tail _ h) h
theorem r_worth {i : Nat} {v : Value} {t : Str × Str} {ro : Obj} (R : RdOk W.w rest r rd tl ws ts) (e2 : ws[i]? = some v) (e1 : ts[i]? = some t) (h : ∀ u, K (.str t.2 u) ((rd, ro) :: rest)) : GE c vs ((rd, ro) :: rest) (getAttr v (Str.ofString "worth") true) K :=
  o_worth ((R.tok e2 e1).mono fun _ h => .tail _ h) h
theorem r_isn {i : Nat} {v : Value} {t : Str × Str} {ro : Obj} (R : RdOk W.w rest r rd tl ws ts) (e2 : ws[i]? = some v) (e1 : ts[i]? = some t) (h : K (.bool true) ((rd, ro) :: rest)) : GE c vs ((rd, ro) :: rest) (compareOp .IsNot v .none) K :=
  o_isn_tok ((R.tok e2 e1).mono fun _ h => .tail _ h) h
theorem r_is {i : Nat} {v : Value} {t : Str × Str} {ro : Obj} (R : RdOk W.w rest r rd tl ws ts) (e2 : ws[i]? = some v) (e1 : ts[i]? = some t) (h : K (.bool false) ((rd, ro) :: rest)) : GE c vs ((rd, ro) :: rest) (compareOp .Is v .none) K :=
  o_is_tok ((R.tok e2 e1).mono fun _ h => .tail _ h) h
theorem o_isn_none (h : K (.bool false) led) : GE c vs led (compareOp .IsNot .none .none) K := fun _ _ A => wpAny_isNot_self rfl ⟨_, A, h⟩
theorem o_is_none (h : K (.bool true) led) : GE c vs led (compareOp .Is .none .none) K := fun _ _ A => wpAny_is_self rfl ⟨_, A, h⟩
theorem g_rm {name : Str} {f' : Addr} {a : Expr} {as : List Expr} (hx : Has f.ns vs x (.ref r)) (R : RdOk W.w rest r rd tl ws ts) (hm : RMeth W.K name f')
    (h : GE c vs ((rd, rdObj W.w tl nd t1 t2 t3 i ti) :: rest) (spliced (backTo pos (starEach (a :: as) c.env))) fun vs' l => GE c vs l (call (.ref f') (.ref r :: vs')) K)
    (e : eval (((Expr.Name x xp).Attribute name apos).Call (a :: as) [] pos) c.env = (do let ov ← eval (Expr.Name x xp) c.env; standAt apos.atName; let (f, first) ← holding [ov] (getMethod ov name (plOf (Expr.Name x xp) c.env)); callWith pos f first (backTo pos (starEach (a :: as) c.env)) []))
    (q : starEach (a :: as) c.env = (false, eval a c.env) :: starEach as c.env) (q' : (backTo pos (starEach as c.env)).any (·.1) = false) :
    GE c vs ((rd, rdObj W.w tl nd t1 t2 t3 i ti) :: rest) (eval (((Expr.Name x xp).Attribute name apos).Call (a :: as) [] pos) c.env) K :=
  g_mcall (g_loc hx fun s₀ _ A => method_inst (es := rdEs W.w tl nd t1 t2 t3 i ti) A.F c.X (InstAt.of_news A.N (.tail _ R.inst) (.head _)) hm.plain hm.find hm.fn (hm.none ..) ⟨_, A, w_def (first := [.ref r]) hm.keep h q q'⟩) e
theorem g_rm0 {name : Str} {f' : Addr} (hx : Has f.ns vs x (.ref r)) (R : RdOk W.w rest r rd tl ws ts) (hm : RMeth W.K name f')
    (h : GE c vs ((rd, rdObj W.w tl nd t1 t2 t3 i ti) :: rest) (call (.ref f') [.ref r]) K)
    (e : eval (((Expr.Name x xp).Attribute name apos).Call [] [] pos) c.env = (do let ov ← eval (Expr.Name x xp) c.env; standAt apos.atName; let (f, first) ← holding [ov] (getMethod ov name (plOf (Expr.Name x xp) c.env)); callWith pos f first (backTo pos (starEach [] c.env)) [])) :
    GE c vs ((rd, rdObj W.w tl nd t1 t2 t3 i ti) :: rest) (eval (((Expr.Name x xp).Attribute name apos).Call [] [] pos) c.env) K :=
  g_mcall (g_loc hx fun s₀ _ A => method_inst (es := rdEs W.w tl nd t1 t2 t3 i ti) A.F c.X (InstAt.of_news A.N (.tail _ R.inst) (.head _)) hm.plain hm.find hm.fn (hm.none ..) ⟨_, A, w_def0 (first := [.ref r]) hm.keep h⟩) e
/-- a def of the top, called by its name -/
theorem g_fn {f' : Addr} {a : Expr} {as : List Expr} (hx : Gv W.K x (.ref f')) (hs : f.sc.names.lookup x = some .globalImplicit) (hk : keepIn W.K (.ref f') = true)
    (h : GE c vs led (spliced (backTo pos (starEach (a :: as) c.env))) fun vs' l => GE c vs l (call (.ref f') vs') K)
    (e : eval ((Expr.Name x xp).Call (a :: as) [] pos) c.env = (do let f ← eval (Expr.Name x xp) c.env; callWith pos f [] (backTo pos (starEach (a :: as) c.env)) (backToKw pos (keywordEach [] c.env))))
    (q : starEach (a :: as) c.env = (false, eval a c.env) :: starEach as c.env) (q' : (backTo pos (starEach as c.env)).any (·.1) = false) :
    GE c vs led (eval ((Expr.Name x xp).Call (a :: as) [] pos) c.env) K :=
  g_call (g_glo hx hs (w_def hk h q q')) e
theorem g_bi {id : String} {a : Expr} {as : List Expr} (hx : Gv W.K x (.builtin id)) (hs : f.sc.names.lookup x = some .globalImplicit)
    (h : GE c vs led (spliced (backTo pos (starEach (a :: as) c.env))) fun vs' l => GE c vs l (call (.builtin id) vs') K)
    (e : eval ((Expr.Name x xp).Call (a :: as) [] pos) c.env = (do let f ← eval (Expr.Name x xp) c.env; callWith pos f [] (backTo pos (starEach (a :: as) c.env)) (backToKw pos (keywordEach [] c.env))))
    (q : starEach (a :: as) c.env = (false, eval a c.env) :: starEach as c.env) (q' : (backTo pos (starEach as c.env)).any (·.1) = false) :
    GE c vs led (eval ((Expr.Name x xp).Call (a :: as) [] pos) c.env) K :=
  g_call (g_glo hx hs (w_bui (first := []) h q q')) e
end
end Mine
namespace Mine
open Ob
-- 37 LedgerError.__init__ (self, what, at) more [] [Exception:PySem.NameKind.globalImplicit]
@[reducible] noncomputable def f37 : Fn := ⟨(Str.ofString "LedgerError.__init__"), fS (nth (cB (st 2)) 0), [(Str.ofString "self"), (Str.ofString "what"), (Str.ofString "at")]⟩
theorem ok37 : f37.Ok := ⟨by decide +kernel, by decide +kernel, by kernel_rfl⟩
theorem ho37 (P : Params) : (KF P).lookup 37 = some (o37 P) := by kernel_rfl
theorem ent37 {W : Wd} {need : Nat} {led : Led} {K : Value → Led → Prop} {a0 a1 a2 : Value} (h : ∀ c : Cx W f37 need, GS c [some a0, some a1, some a2] led (execs (fB (nth (cB (st 2)) 0)) c.env) fun fl _ l => K (retv fl) l) : Calls W need 37 [a0, a1, a2] led K :=
  enter (ps := [(Str.ofString "self"), (Str.ofString "what"), (Str.ofString "at")]) (more := []) (as := [a0, a1, a2]) ok37 rfl rfl (ho37 _) (by kernel_rfl) (fun _ hs => binds_K hs rfl (by kernel_rfl : W.K.lookup 30 = some (o30 W.w.params)) rfl rfl rfl) (by kernel_rfl) (by kernel_rfl) (by decide +kernel) h
theorem ent37d {W : Wd} {need : Nat} {led : Led} {K : Value → Led → Prop} {a0 a1 : Value} (h : ∀ c : Cx W f37 need, GS c [some a0, some a1, some (.ref 29)] led (execs (fB (nth (cB (st 2)) 0)) c.env) fun fl _ l => K (retv fl) l) : Calls W need 37 [a0, a1] led K :=
  enter (ps := [(Str.ofString "self"), (Str.ofString "what"), (Str.ofString "at")]) (more := []) (as := [a0, a1, (.ref 29)]) ok37 rfl rfl (ho37 _) (by kernel_rfl) (fun _ hs => binds_K hs rfl (by kernel_rfl : W.K.lookup 30 = some (o30 W.w.params)) rfl rfl rfl) (by kernel_rfl) (by kernel_rfl) (by decide +kernel) h
-- 139 is_part_next (reader) more [depth, ahead] []
@[reducible] noncomputable def f139 : Fn := ⟨(Str.ofString "is_part_next"), fS (st 18), [(Str.ofString "reader"), (Str.ofString "depth"), (Str.ofString "ahead")]⟩
theorem ok139 : f139.Ok := ⟨by decide +kernel, by decide +kernel, by kernel_rfl⟩
theorem ho139 (P : Params) : (KF P).lookup 139 = some (o139 P) := by kernel_rfl
theorem ent139 {W : Wd} {need : Nat} {led : Led} {K : Value → Led → Prop} {a0 : Value} (h : ∀ c : Cx W f139 need, GS c [some a0, none, none] led (execs (fB (st 18)) c.env) fun fl _ l => K (retv fl) l) : Calls W need 139 [a0] led K :=
  enter (ps := [(Str.ofString "reader")]) (more := [(Str.ofString "depth"), (Str.ofString "ahead")]) (as := [a0]) ok139 rfl rfl (ho139 _) (by kernel_rfl) (fun _ _ => .of_eq (by kernel_rfl)) (by kernel_rfl) (by kernel_rfl) (by decide +kernel) h
-- 160 read_ref (reader, read_expr) more [name, qualifiers, subscripts, part] [is_part_next:PySem.NameKind.globalImplicit, read_subscripts:PySem.NameKind.globalImplicit, read_part:PySem.NameKind.globalImplicit, tuple:PySem.NameKind.globalImplicit]
@[reducible] noncomputable def f160 : Fn := ⟨(Str.ofString "read_ref"), fS (st 21), [(Str.ofString "reader"), (Str.ofString "read_expr"), (Str.ofString "name"), (Str.ofString "qualifiers"), (Str.ofString "subscripts"), (Str.ofString "part")]⟩
theorem ok160 : f160.Ok := ⟨by decide +kernel, by decide +kernel, by kernel_rfl⟩
theorem ho160 (P : Params) : (KF P).lookup 160 = some (o160 P) := by kernel_rfl
theorem ent160 {W : Wd} {need : Nat} {led : Led} {K : Value → Led → Prop} {a0 a1 : Value} (h : ∀ c : Cx W f160 need, GS c [some a0, some a1, none, none, none, none] led (execs (fB (st 21)) c.env) fun fl _ l => K (retv fl) l) : Calls W need 160 [a0, a1] led K :=
  enter (ps := [(Str.ofString "reader"), (Str.ofString "read_expr")]) (more := [(Str.ofString "name"), (Str.ofString "qualifiers"), (Str.ofString "subscripts"), (Str.ofString "part")]) (as := [a0, a1]) ok160 rfl rfl (ho160 _) (by kernel_rfl) (fun _ _ => .of_eq (by kernel_rfl)) (by kernel_rfl) (by kernel_rfl) (by decide +kernel) h
-- 174 read_figure (reader) more [] [FIGURE_NAMES:PySem.NameKind.globalImplicit]
@[reducible] noncomputable def f174 : Fn := ⟨(Str.ofString "read_figure"), fS (st 23), [(Str.ofString "reader")]⟩
theorem ok174 : f174.Ok := ⟨by decide +kernel, by decide +kernel, by kernel_rfl⟩
theorem ho174 (P : Params) : (KF P).lookup 174 = some (o174 P) := by kernel_rfl
theorem ent174 {W : Wd} {need : Nat} {led : Led} {K : Value → Led → Prop} {a0 : Value} (h : ∀ c : Cx W f174 need, GS c [some a0] led (execs (fB (st 23)) c.env) fun fl _ l => K (retv fl) l) : Calls W need 174 [a0] led K :=
  enter (ps := [(Str.ofString "reader")]) (more := []) (as := [a0]) ok174 rfl rfl (ho174 _) (by kernel_rfl) (fun _ _ => .of_eq (by kernel_rfl)) (by kernel_rfl) (by kernel_rfl) (by decide +kernel) h
-- 181 read_operand (reader, read_expr) more [figure] [read_all:PySem.NameKind.globalImplicit, read_figure:PySem.NameKind.globalImplicit, read_ref:PySem.NameKind.globalImplicit]
@[reducible] noncomputable def f181 : Fn := ⟨(Str.ofString "read_operand"), fS (st 24), [(Str.ofString "reader"), (Str.ofString "read_expr"), (Str.ofString "figure")]⟩
theorem ok181 : f181.Ok := ⟨by decide +kernel, by decide +kernel, by kernel_rfl⟩
theorem ho181 (P : Params) : (KF P).lookup 181 = some (o181 P) := by kernel_rfl
theorem ent181 {W : Wd} {need : Nat} {led : Led} {K : Value → Led → Prop} {a0 a1 : Value} (h : ∀ c : Cx W f181 need, GS c [some a0, some a1, none] led (execs (fB (st 24)) c.env) fun fl _ l => K (retv fl) l) : Calls W need 181 [a0, a1] led K :=
  enter (ps := [(Str.ofString "reader"), (Str.ofString "read_expr")]) (more := [(Str.ofString "figure")]) (as := [a0, a1]) ok181 rfl rfl (ho181 _) (by kernel_rfl) (fun _ _ => .of_eq (by kernel_rfl)) (by kernel_rfl) (by kernel_rfl) (by decide +kernel) h
-- 244 word_ahead (reader, ahead, word) more [token] []
@[reducible] noncomputable def f244 : Fn := ⟨(Str.ofString "word_ahead"), fS (st 37), [(Str.ofString "reader"), (Str.ofString "ahead"), (Str.ofString "word"), (Str.ofString "token")]⟩
theorem ok244 : f244.Ok := ⟨by decide +kernel, by decide +kernel, by kernel_rfl⟩
theorem ho244 (P : Params) : (KF P).lookup 244 = some (o244 P) := by kernel_rfl
theorem ent244 {W : Wd} {need : Nat} {led : Led} {K : Value → Led → Prop} {a0 a1 a2 : Value} (h : ∀ c : Cx W f244 need, GS c [some a0, some a1, some a2, none] led (execs (fB (st 37)) c.env) fun fl _ l => K (retv fl) l) : Calls W need 244 [a0, a1, a2] led K :=
  enter (ps := [(Str.ofString "reader"), (Str.ofString "ahead"), (Str.ofString "word")]) (more := [(Str.ofString "token")]) (as := [a0, a1, a2]) ok244 rfl rfl (ho244 _) (by kernel_rfl) (fun _ _ => .of_eq (by kernel_rfl)) (by kernel_rfl) (by kernel_rfl) (by decide +kernel) h
-- 251 begins_operand (reader) more [] [FIGURE_WORDS:PySem.NameKind.globalImplicit]
@[reducible] noncomputable def f251 : Fn := ⟨(Str.ofString "begins_operand"), fS (st 38), [(Str.ofString "reader")]⟩
theorem ok251 : f251.Ok := ⟨by decide +kernel, by decide +kernel, by kernel_rfl⟩
theorem ho251 (P : Params) : (KF P).lookup 251 = some (o251 P) := by kernel_rfl
theorem ent251 {W : Wd} {need : Nat} {led : Led} {K : Value → Led → Prop} {a0 : Value} (h : ∀ c : Cx W f251 need, GS c [some a0] led (execs (fB (st 38)) c.env) fun fl _ l => K (retv fl) l) : Calls W need 251 [a0] led K :=
  enter (ps := [(Str.ofString "reader")]) (more := []) (as := [a0]) ok251 rfl rfl (ho251 _) (by kernel_rfl) (fun _ _ => .of_eq (by kernel_rfl)) (by kernel_rfl) (by kernel_rfl) (by decide +kernel) h
-- 258 ref_here (reader) more [] [read_ref:PySem.NameKind.globalImplicit, read_expression:PySem.NameKind.globalImplicit]
@[reducible] noncomputable def f258 : Fn := ⟨(Str.ofString "ref_here"), fS (st 39), [(Str.ofString "reader")]⟩
theorem ok258 : f258.Ok := ⟨by decide +kernel, by decide +kernel, by kernel_rfl⟩
theorem ho258 (P : Params) : (KF P).lookup 258 = some (o258 P) := by kernel_rfl
theorem ent258 {W : Wd} {need : Nat} {led : Led} {K : Value → Led → Prop} {a0 : Value} (h : ∀ c : Cx W f258 need, GS c [some a0] led (execs (fB (st 39)) c.env) fun fl _ l => K (retv fl) l) : Calls W need 258 [a0] led K :=
  enter (ps := [(Str.ofString "reader")]) (more := []) (as := [a0]) ok258 rfl rfl (ho258 _) (by kernel_rfl) (fun _ _ => .of_eq (by kernel_rfl)) (by kernel_rfl) (by kernel_rfl) (by decide +kernel) h
-- 272 operand_here (reader) more [] [begins_operand:PySem.NameKind.globalImplicit, read_operand:PySem.NameKind.globalImplicit, read_expression:PySem.NameKind.globalImplicit]
@[reducible] noncomputable def f272 : Fn := ⟨(Str.ofString "operand_here"), fS (st 42), [(Str.ofString "reader")]⟩
theorem ok272 : f272.Ok := ⟨by decide +kernel, by decide +kernel, by kernel_rfl⟩
theorem ho272 (P : Params) : (KF P).lookup 272 = some (o272 P) := by kernel_rfl
theorem ent272 {W : Wd} {need : Nat} {led : Led} {K : Value → Led → Prop} {a0 : Value} (h : ∀ c : Cx W f272 need, GS c [some a0] led (execs (fB (st 42)) c.env) fun fl _ l => K (retv fl) l) : Calls W need 272 [a0] led K :=
  enter (ps := [(Str.ofString "reader")]) (more := []) (as := [a0]) ok272 rfl rfl (ho272 _) (by kernel_rfl) (fun _ _ => .of_eq (by kernel_rfl)) (by kernel_rfl) (by kernel_rfl) (by decide +kernel) h
-- 279 text_here (reader) more [mark, operand] [operand_here:PySem.NameKind.globalImplicit, refuse_at:PySem.NameKind.globalImplicit]
@[reducible] noncomputable def f279 : Fn := ⟨(Str.ofString "text_here"), fS (st 43), [(Str.ofString "reader"), (Str.ofString "mark"), (Str.ofString "operand")]⟩
theorem ok279 : f279.Ok := ⟨by decide +kernel, by decide +kernel, by kernel_rfl⟩
theorem ho279 (P : Params) : (KF P).lookup 279 = some (o279 P) := by kernel_rfl
theorem ent279 {W : Wd} {need : Nat} {led : Led} {K : Value → Led → Prop} {a0 : Value} (h : ∀ c : Cx W f279 need, GS c [some a0, none, none] led (execs (fB (st 43)) c.env) fun fl _ l => K (retv fl) l) : Calls W need 279 [a0] led K :=
  enter (ps := [(Str.ofString "reader")]) (more := [(Str.ofString "mark"), (Str.ofString "operand")]) (as := [a0]) ok279 rfl rfl (ho279 _) (by kernel_rfl) (fun _ _ => .of_eq (by kernel_rfl)) (by kernel_rfl) (by kernel_rfl) (by decide +kernel) h
-- 286 begins_text (reader) more [] [begins_operand:PySem.NameKind.globalImplicit, word_ahead:PySem.NameKind.globalImplicit]
@[reducible] noncomputable def f286 : Fn := ⟨(Str.ofString "begins_text"), fS (st 44), [(Str.ofString "reader")]⟩
theorem ok286 : f286.Ok := ⟨by decide +kernel, by decide +kernel, by kernel_rfl⟩
theorem ho286 (P : Params) : (KF P).lookup 286 = some (o286 P) := by kernel_rfl
theorem ent286 {W : Wd} {need : Nat} {led : Led} {K : Value → Led → Prop} {a0 : Value} (h : ∀ c : Cx W f286 need, GS c [some a0] led (execs (fB (st 44)) c.env) fun fl _ l => K (retv fl) l) : Calls W need 286 [a0] led K :=
  enter (ps := [(Str.ofString "reader")]) (more := []) (as := [a0]) ok286 rfl rfl (ho286 _) (by kernel_rfl) (fun _ _ => .of_eq (by kernel_rfl)) (by kernel_rfl) (by kernel_rfl) (by decide +kernel) h
-- 293 bounds_here (reader) more [before, after] [text_here:PySem.NameKind.globalImplicit]
@[reducible] noncomputable def f293 : Fn := ⟨(Str.ofString "bounds_here"), fS (st 45), [(Str.ofString "reader"), (Str.ofString "before"), (Str.ofString "after")]⟩
theorem ok293 : f293.Ok := ⟨by decide +kernel, by decide +kernel, by kernel_rfl⟩
theorem ho293 (P : Params) : (KF P).lookup 293 = some (o293 P) := by kernel_rfl
theorem ent293 {W : Wd} {need : Nat} {led : Led} {K : Value → Led → Prop} {a0 : Value} (h : ∀ c : Cx W f293 need, GS c [some a0, none, none] led (execs (fB (st 45)) c.env) fun fl _ l => K (retv fl) l) : Calls W need 293 [a0] led K :=
  enter (ps := [(Str.ofString "reader")]) (more := [(Str.ofString "before"), (Str.ofString "after")]) (as := [a0]) ok293 rfl rfl (ho293 _) (by kernel_rfl) (fun _ _ => .of_eq (by kernel_rfl)) (by kernel_rfl) (by kernel_rfl) (by decide +kernel) h
-- 300 opens_count (reader) more [mark, is_count] [ref_here:PySem.NameKind.globalImplicit, word_ahead:PySem.NameKind.globalImplicit]
@[reducible] noncomputable def f300 : Fn := ⟨(Str.ofString "opens_count"), fS (st 46), [(Str.ofString "reader"), (Str.ofString "mark"), (Str.ofString "is_count")]⟩
theorem ok300 : f300.Ok := ⟨by decide +kernel, by decide +kernel, by kernel_rfl⟩
theorem ho300 (P : Params) : (KF P).lookup 300 = some (o300 P) := by kernel_rfl
theorem ent300 {W : Wd} {need : Nat} {led : Led} {K : Value → Led → Prop} {a0 : Value} (h : ∀ c : Cx W f300 need, GS c [some a0, none, none] led (execs (fB (st 46)) c.env) fun fl _ l => K (retv fl) l) : Calls W need 300 [a0] led K :=
  enter (ps := [(Str.ofString "reader")]) (more := [(Str.ofString "mark"), (Str.ofString "is_count")]) (as := [a0]) ok300 rfl rfl (ho300 _) (by kernel_rfl) (fun _ _ => .of_eq (by kernel_rfl)) (by kernel_rfl) (by kernel_rfl) (by decide +kernel) h
-- 307 counted_rows (reader, count, kind) more [rows, operand, before, after] [begins_text:PySem.NameKind.globalImplicit, opens_count:PySem.NameKind.globalImplicit, text_here:PySem.NameKind.globalImplicit, bounds_here:PySem.NameKind.globalImplicit]
@[reducible] noncomputable def f307 : Fn := ⟨(Str.ofString "counted_rows"), fS (st 47), [(Str.ofString "reader"), (Str.ofString "count"), (Str.ofString "kind"), (Str.ofString "rows"), (Str.ofString "operand"), (Str.ofString "before"), (Str.ofString "after")]⟩
theorem ok307 : f307.Ok := ⟨by decide +kernel, by decide +kernel, by kernel_rfl⟩
theorem ho307 (P : Params) : (KF P).lookup 307 = some (o307 P) := by kernel_rfl
theorem ent307 {W : Wd} {need : Nat} {led : Led} {K : Value → Led → Prop} {a0 a1 a2 : Value} (h : ∀ c : Cx W f307 need, GS c [some a0, some a1, some a2, none, none, none, none] led (execs (fB (st 47)) c.env) fun fl _ l => K (retv fl) l) : Calls W need 307 [a0, a1, a2] led K :=
  enter (ps := [(Str.ofString "reader"), (Str.ofString "count"), (Str.ofString "kind")]) (more := [(Str.ofString "rows"), (Str.ofString "operand"), (Str.ofString "before"), (Str.ofString "after")]) (as := [a0, a1, a2]) ok307 rfl rfl (ho307 _) (by kernel_rfl) (fun _ _ => .of_eq (by kernel_rfl)) (by kernel_rfl) (by kernel_rfl) (by decide +kernel) h
-- 314 tallied_rows (reader) more [rows, count, found, before, after] [opens_count:PySem.NameKind.globalImplicit, ref_here:PySem.NameKind.globalImplicit, bounds_here:PySem.NameKind.globalImplicit, counted_rows:PySem.NameKind.globalImplicit, tuple:PySem.NameKind.globalImplicit]
@[reducible] noncomputable def f314 : Fn := ⟨(Str.ofString "tallied_rows"), fS (st 48), [(Str.ofString "reader"), (Str.ofString "rows"), (Str.ofString "count"), (Str.ofString "found"), (Str.ofString "before"), (Str.ofString "after")]⟩
theorem ok314 : f314.Ok := ⟨by decide +kernel, by decide +kernel, by kernel_rfl⟩
theorem ho314 (P : Params) : (KF P).lookup 314 = some (o314 P) := by kernel_rfl
theorem ent314 {W : Wd} {need : Nat} {led : Led} {K : Value → Led → Prop} {a0 : Value} (h : ∀ c : Cx W f314 need, GS c [some a0, none, none, none, none, none] led (execs (fB (st 48)) c.env) fun fl _ l => K (retv fl) l) : Calls W need 314 [a0] led K :=
  enter (ps := [(Str.ofString "reader")]) (more := [(Str.ofString "rows"), (Str.ofString "count"), (Str.ofString "found"), (Str.ofString "before"), (Str.ofString "after")]) (as := [a0]) ok314 rfl rfl (ho314 _) (by kernel_rfl) (fun _ _ => .of_eq (by kernel_rfl)) (by kernel_rfl) (by kernel_rfl) (by decide +kernel) h
-- 321 is_reserved (word) more [] [RESERVED:PySem.NameKind.globalImplicit]
@[reducible] noncomputable def f321 : Fn := ⟨(Str.ofString "is_reserved"), fS (st 52), [(Str.ofString "word")]⟩
theorem ok321 : f321.Ok := ⟨by decide +kernel, by decide +kernel, by kernel_rfl⟩
theorem ho321 (P : Params) : (KF P).lookup 321 = some (o321 P) := by kernel_rfl
theorem ent321 {W : Wd} {need : Nat} {led : Led} {K : Value → Led → Prop} {a0 : Value} (h : ∀ c : Cx W f321 need, GS c [some a0] led (execs (fB (st 52)) c.env) fun fl _ l => K (retv fl) l) : Calls W need 321 [a0] led K :=
  enter (ps := [(Str.ofString "word")]) (more := []) (as := [a0]) ok321 rfl rfl (ho321 _) (by kernel_rfl) (fun _ _ => .of_eq (by kernel_rfl)) (by kernel_rfl) (by kernel_rfl) (by decide +kernel) h
-- 326 octets_of_text (text) more [numbers] [bytes:PySem.NameKind.globalImplicit]
@[reducible] noncomputable def f326 : Fn := ⟨(Str.ofString "octets_of_text"), fS (st 53), [(Str.ofString "text"), (Str.ofString "numbers")]⟩
theorem ok326 : f326.Ok := ⟨by decide +kernel, by decide +kernel, by kernel_rfl⟩
theorem ho326 (P : Params) : (KF P).lookup 326 = some (o326 P) := by kernel_rfl
theorem ent326 {W : Wd} {need : Nat} {led : Led} {K : Value → Led → Prop} {a0 : Value} (h : ∀ c : Cx W f326 need, GS c [some a0, none] led (execs (fB (st 53)) c.env) fun fl _ l => K (retv fl) l) : Calls W need 326 [a0] led K :=
  enter (ps := [(Str.ofString "text")]) (more := [(Str.ofString "numbers")]) (as := [a0]) ok326 rfl rfl (ho326 _) (by kernel_rfl) (fun _ _ => .of_eq (by kernel_rfl)) (by kernel_rfl) (by kernel_rfl) (by decide +kernel) h
-- 341 Reader.__init__ (self, tokens, at) more [] []
@[reducible] noncomputable def f341 : Fn := ⟨(Str.ofString "Reader.__init__"), fS (nth (cB (st 54)) 0), [(Str.ofString "self"), (Str.ofString "tokens"), (Str.ofString "at")]⟩
theorem ok341 : f341.Ok := ⟨by decide +kernel, by decide +kernel, by kernel_rfl⟩
theorem ho341 (P : Params) : (KF P).lookup 341 = some (o341 P) := by kernel_rfl
theorem ent341 {W : Wd} {need : Nat} {led : Led} {K : Value → Led → Prop} {a0 a1 a2 : Value} (h : ∀ c : Cx W f341 need, GS c [some a0, some a1, some a2] led (execs (fB (nth (cB (st 54)) 0)) c.env) fun fl _ l => K (retv fl) l) : Calls W need 341 [a0, a1, a2] led K :=
  enter (ps := [(Str.ofString "self"), (Str.ofString "tokens"), (Str.ofString "at")]) (more := []) (as := [a0, a1, a2]) ok341 rfl rfl (ho341 _) (by kernel_rfl) (fun _ hs => binds_K hs rfl (by kernel_rfl : W.K.lookup 334 = some (o334 W.w.params)) rfl rfl rfl) (by kernel_rfl) (by kernel_rfl) (by decide +kernel) h
theorem ent341d {W : Wd} {need : Nat} {led : Led} {K : Value → Led → Prop} {a0 a1 : Value} (h : ∀ c : Cx W f341 need, GS c [some a0, some a1, some (.int 0 660)] led (execs (fB (nth (cB (st 54)) 0)) c.env) fun fl _ l => K (retv fl) l) : Calls W need 341 [a0, a1] led K :=
  enter (ps := [(Str.ofString "self"), (Str.ofString "tokens"), (Str.ofString "at")]) (more := []) (as := [a0, a1, (.int 0 660)]) ok341 rfl rfl (ho341 _) (by kernel_rfl) (fun _ hs => binds_K hs rfl (by kernel_rfl : W.K.lookup 334 = some (o334 W.w.params)) rfl rfl rfl) (by kernel_rfl) (by kernel_rfl) (by decide +kernel) h
-- 349 Reader.peek (self, ahead) more [] [len:PySem.NameKind.globalImplicit]
@[reducible] noncomputable def f349 : Fn := ⟨(Str.ofString "Reader.peek"), fS (nth (cB (st 54)) 1), [(Str.ofString "self"), (Str.ofString "ahead")]⟩
theorem ok349 : f349.Ok := ⟨by decide +kernel, by decide +kernel, by kernel_rfl⟩
theorem ho349 (P : Params) : (KF P).lookup 349 = some (o349 P) := by kernel_rfl
theorem ent349 {W : Wd} {need : Nat} {led : Led} {K : Value → Led → Prop} {a0 a1 : Value} (h : ∀ c : Cx W f349 need, GS c [some a0, some a1] led (execs (fB (nth (cB (st 54)) 1)) c.env) fun fl _ l => K (retv fl) l) : Calls W need 349 [a0, a1] led K :=
  enter (ps := [(Str.ofString "self"), (Str.ofString "ahead")]) (more := []) (as := [a0, a1]) ok349 rfl rfl (ho349 _) (by kernel_rfl) (fun _ hs => binds_K hs rfl (by kernel_rfl : W.K.lookup 342 = some (o342 W.w.params)) rfl rfl rfl) (by kernel_rfl) (by kernel_rfl) (by decide +kernel) h
theorem ent349d {W : Wd} {need : Nat} {led : Led} {K : Value → Led → Prop} {a0 : Value} (h : ∀ c : Cx W f349 need, GS c [some a0, some (.int 0 670)] led (execs (fB (nth (cB (st 54)) 1)) c.env) fun fl _ l => K (retv fl) l) : Calls W need 349 [a0] led K :=
  enter (ps := [(Str.ofString "self"), (Str.ofString "ahead")]) (more := []) (as := [a0, (.int 0 670)]) ok349 rfl rfl (ho349 _) (by kernel_rfl) (fun _ hs => binds_K hs rfl (by kernel_rfl : W.K.lookup 342 = some (o342 W.w.params)) rfl rfl rfl) (by kernel_rfl) (by kernel_rfl) (by decide +kernel) h
-- 370 Reader.take (self) more [token] []
@[reducible] noncomputable def f370 : Fn := ⟨(Str.ofString "Reader.take"), fS (nth (cB (st 54)) 4), [(Str.ofString "self"), (Str.ofString "token")]⟩
theorem ok370 : f370.Ok := ⟨by decide +kernel, by decide +kernel, by kernel_rfl⟩
theorem ho370 (P : Params) : (KF P).lookup 370 = some (o370 P) := by kernel_rfl
theorem ent370 {W : Wd} {need : Nat} {led : Led} {K : Value → Led → Prop} {a0 : Value} (h : ∀ c : Cx W f370 need, GS c [some a0, none] led (execs (fB (nth (cB (st 54)) 4)) c.env) fun fl _ l => K (retv fl) l) : Calls W need 370 [a0] led K :=
  enter (ps := [(Str.ofString "self")]) (more := [(Str.ofString "token")]) (as := [a0]) ok370 rfl rfl (ho370 _) (by kernel_rfl) (fun _ _ => .of_eq (by kernel_rfl)) (by kernel_rfl) (by kernel_rfl) (by decide +kernel) h
-- 378 Reader.is_kind (self, kind, ahead) more [token] []
@[reducible] noncomputable def f378 : Fn := ⟨(Str.ofString "Reader.is_kind"), fS (nth (cB (st 54)) 5), [(Str.ofString "self"), (Str.ofString "kind"), (Str.ofString "ahead"), (Str.ofString "token")]⟩
theorem ok378 : f378.Ok := ⟨by decide +kernel, by decide +kernel, by kernel_rfl⟩
theorem ho378 (P : Params) : (KF P).lookup 378 = some (o378 P) := by kernel_rfl
theorem ent378 {W : Wd} {need : Nat} {led : Led} {K : Value → Led → Prop} {a0 a1 a2 : Value} (h : ∀ c : Cx W f378 need, GS c [some a0, some a1, some a2, none] led (execs (fB (nth (cB (st 54)) 5)) c.env) fun fl _ l => K (retv fl) l) : Calls W need 378 [a0, a1, a2] led K :=
  enter (ps := [(Str.ofString "self"), (Str.ofString "kind"), (Str.ofString "ahead")]) (more := [(Str.ofString "token")]) (as := [a0, a1, a2]) ok378 rfl rfl (ho378 _) (by kernel_rfl) (fun _ hs => binds_K hs rfl (by kernel_rfl : W.K.lookup 371 = some (o371 W.w.params)) rfl rfl rfl) (by kernel_rfl) (by kernel_rfl) (by decide +kernel) h
theorem ent378d {W : Wd} {need : Nat} {led : Led} {K : Value → Led → Prop} {a0 a1 : Value} (h : ∀ c : Cx W f378 need, GS c [some a0, some a1, some (.int 0 702), none] led (execs (fB (nth (cB (st 54)) 5)) c.env) fun fl _ l => K (retv fl) l) : Calls W need 378 [a0, a1] led K :=
  enter (ps := [(Str.ofString "self"), (Str.ofString "kind"), (Str.ofString "ahead")]) (more := [(Str.ofString "token")]) (as := [a0, a1, (.int 0 702)]) ok378 rfl rfl (ho378 _) (by kernel_rfl) (fun _ hs => binds_K hs rfl (by kernel_rfl : W.K.lookup 371 = some (o371 W.w.params)) rfl rfl rfl) (by kernel_rfl) (by kernel_rfl) (by decide +kernel) h
-- 385 Reader.is_word (self, words) more [ahead, word] []
@[reducible] noncomputable def f385 : Fn := ⟨(Str.ofString "Reader.is_word"), fS (nth (cB (st 54)) 6), [(Str.ofString "self"), (Str.ofString "words"), (Str.ofString "ahead"), (Str.ofString "word")]⟩
theorem ok385 : f385.Ok := ⟨by decide +kernel, by decide +kernel, by kernel_rfl⟩
theorem ho385 (P : Params) : (KF P).lookup 385 = some (o385 P) := by kernel_rfl
theorem ent385 {W : Wd} {need : Nat} {led : Led} {K : Value → Led → Prop} {a0 a1 : Value} (h : ∀ c : Cx W f385 need, GS c [some a0, some a1, none, none] led (execs (fB (nth (cB (st 54)) 6)) c.env) fun fl _ l => K (retv fl) l) : Calls W need 385 [a0, a1] led K :=
  enter (ps := [(Str.ofString "self"), (Str.ofString "words")]) (more := [(Str.ofString "ahead"), (Str.ofString "word")]) (as := [a0, a1]) ok385 rfl rfl (ho385 _) (by kernel_rfl) (fun _ _ => .of_eq (by kernel_rfl)) (by kernel_rfl) (by kernel_rfl) (by decide +kernel) h
-- 392 Reader.skip (self, words) more [] [len:PySem.NameKind.globalImplicit]
@[reducible] noncomputable def f392 : Fn := ⟨(Str.ofString "Reader.skip"), fS (nth (cB (st 54)) 7), [(Str.ofString "self"), (Str.ofString "words")]⟩
theorem ok392 : f392.Ok := ⟨by decide +kernel, by decide +kernel, by kernel_rfl⟩
theorem ho392 (P : Params) : (KF P).lookup 392 = some (o392 P) := by kernel_rfl
theorem ent392 {W : Wd} {need : Nat} {led : Led} {K : Value → Led → Prop} {a0 a1 : Value} (h : ∀ c : Cx W f392 need, GS c [some a0, some a1] led (execs (fB (nth (cB (st 54)) 7)) c.env) fun fl _ l => K (retv fl) l) : Calls W need 392 [a0, a1] led K :=
  enter (ps := [(Str.ofString "self"), (Str.ofString "words")]) (more := []) (as := [a0, a1]) ok392 rfl rfl (ho392 _) (by kernel_rfl) (fun _ _ => .of_eq (by kernel_rfl)) (by kernel_rfl) (by kernel_rfl) (by decide +kernel) h
-- 399 Reader.need (self, words) more [] []
@[reducible] noncomputable def f399 : Fn := ⟨(Str.ofString "Reader.need"), fS (nth (cB (st 54)) 8), [(Str.ofString "self"), (Str.ofString "words")]⟩
theorem ok399 : f399.Ok := ⟨by decide +kernel, by decide +kernel, by kernel_rfl⟩
theorem ho399 (P : Params) : (KF P).lookup 399 = some (o399 P) := by kernel_rfl
theorem ent399 {W : Wd} {need : Nat} {led : Led} {K : Value → Led → Prop} {a0 a1 : Value} (h : ∀ c : Cx W f399 need, GS c [some a0, some a1] led (execs (fB (nth (cB (st 54)) 8)) c.env) fun fl _ l => K (retv fl) l) : Calls W need 399 [a0, a1] led K :=
  enter (ps := [(Str.ofString "self"), (Str.ofString "words")]) (more := []) (as := [a0, a1]) ok399 rfl rfl (ho399 _) (by kernel_rfl) (fun _ _ => .of_eq (by kernel_rfl)) (by kernel_rfl) (by kernel_rfl) (by decide +kernel) h
-- 406 Reader.one_of (self, words) more [word] []
@[reducible] noncomputable def f406 : Fn := ⟨(Str.ofString "Reader.one_of"), fS (nth (cB (st 54)) 9), [(Str.ofString "self"), (Str.ofString "words"), (Str.ofString "word")]⟩
theorem ok406 : f406.Ok := ⟨by decide +kernel, by decide +kernel, by kernel_rfl⟩
theorem ho406 (P : Params) : (KF P).lookup 406 = some (o406 P) := by kernel_rfl
theorem ent406 {W : Wd} {need : Nat} {led : Led} {K : Value → Led → Prop} {a0 a1 : Value} (h : ∀ c : Cx W f406 need, GS c [some a0, some a1, none] led (execs (fB (nth (cB (st 54)) 9)) c.env) fun fl _ l => K (retv fl) l) : Calls W need 406 [a0, a1] led K :=
  enter (ps := [(Str.ofString "self"), (Str.ofString "words")]) (more := [(Str.ofString "word")]) (as := [a0, a1]) ok406 rfl rfl (ho406 _) (by kernel_rfl) (fun _ _ => .of_eq (by kernel_rfl)) (by kernel_rfl) (by kernel_rfl) (by decide +kernel) h
-- 421 Reader.is_name (self, ahead) more [] [is_reserved:PySem.NameKind.globalImplicit]
@[reducible] noncomputable def f421 : Fn := ⟨(Str.ofString "Reader.is_name"), fS (nth (cB (st 54)) 11), [(Str.ofString "self"), (Str.ofString "ahead")]⟩
theorem ok421 : f421.Ok := ⟨by decide +kernel, by decide +kernel, by kernel_rfl⟩
theorem ho421 (P : Params) : (KF P).lookup 421 = some (o421 P) := by kernel_rfl
theorem ent421 {W : Wd} {need : Nat} {led : Led} {K : Value → Led → Prop} {a0 a1 : Value} (h : ∀ c : Cx W f421 need, GS c [some a0, some a1] led (execs (fB (nth (cB (st 54)) 11)) c.env) fun fl _ l => K (retv fl) l) : Calls W need 421 [a0, a1] led K :=
  enter (ps := [(Str.ofString "self"), (Str.ofString "ahead")]) (more := []) (as := [a0, a1]) ok421 rfl rfl (ho421 _) (by kernel_rfl) (fun _ hs => binds_K hs rfl (by kernel_rfl : W.K.lookup 414 = some (o414 W.w.params)) rfl rfl rfl) (by kernel_rfl) (by kernel_rfl) (by decide +kernel) h
theorem ent421d {W : Wd} {need : Nat} {led : Led} {K : Value → Led → Prop} {a0 : Value} (h : ∀ c : Cx W f421 need, GS c [some a0, some (.int 0 755)] led (execs (fB (nth (cB (st 54)) 11)) c.env) fun fl _ l => K (retv fl) l) : Calls W need 421 [a0] led K :=
  enter (ps := [(Str.ofString "self"), (Str.ofString "ahead")]) (more := []) (as := [a0, (.int 0 755)]) ok421 rfl rfl (ho421 _) (by kernel_rfl) (fun _ hs => binds_K hs rfl (by kernel_rfl : W.K.lookup 414 = some (o414 W.w.params)) rfl rfl rfl) (by kernel_rfl) (by kernel_rfl) (by decide +kernel) h
-- 428 Reader.name (self) more [] []
@[reducible] noncomputable def f428 : Fn := ⟨(Str.ofString "Reader.name"), fS (nth (cB (st 54)) 12), [(Str.ofString "self")]⟩
theorem ok428 : f428.Ok := ⟨by decide +kernel, by decide +kernel, by kernel_rfl⟩
theorem ho428 (P : Params) : (KF P).lookup 428 = some (o428 P) := by kernel_rfl
theorem ent428 {W : Wd} {need : Nat} {led : Led} {K : Value → Led → Prop} {a0 : Value} (h : ∀ c : Cx W f428 need, GS c [some a0] led (execs (fB (nth (cB (st 54)) 12)) c.env) fun fl _ l => K (retv fl) l) : Calls W need 428 [a0] led K :=
  enter (ps := [(Str.ofString "self")]) (more := []) (as := [a0]) ok428 rfl rfl (ho428 _) (by kernel_rfl) (fun _ _ => .of_eq (by kernel_rfl)) (by kernel_rfl) (by kernel_rfl) (by decide +kernel) h
-- 443 Reader.is_sign (self, sign, ahead) more [] []
@[reducible] noncomputable def f443 : Fn := ⟨(Str.ofString "Reader.is_sign"), fS (nth (cB (st 54)) 14), [(Str.ofString "self"), (Str.ofString "sign"), (Str.ofString "ahead")]⟩
theorem ok443 : f443.Ok := ⟨by decide +kernel, by decide +kernel, by kernel_rfl⟩
theorem ho443 (P : Params) : (KF P).lookup 443 = some (o443 P) := by kernel_rfl
theorem ent443 {W : Wd} {need : Nat} {led : Led} {K : Value → Led → Prop} {a0 a1 a2 : Value} (h : ∀ c : Cx W f443 need, GS c [some a0, some a1, some a2] led (execs (fB (nth (cB (st 54)) 14)) c.env) fun fl _ l => K (retv fl) l) : Calls W need 443 [a0, a1, a2] led K :=
  enter (ps := [(Str.ofString "self"), (Str.ofString "sign"), (Str.ofString "ahead")]) (more := []) (as := [a0, a1, a2]) ok443 rfl rfl (ho443 _) (by kernel_rfl) (fun _ hs => binds_K hs rfl (by kernel_rfl : W.K.lookup 436 = some (o436 W.w.params)) rfl rfl rfl) (by kernel_rfl) (by kernel_rfl) (by decide +kernel) h
theorem ent443d {W : Wd} {need : Nat} {led : Led} {K : Value → Led → Prop} {a0 a1 : Value} (h : ∀ c : Cx W f443 need, GS c [some a0, some a1, some (.int 0 778)] led (execs (fB (nth (cB (st 54)) 14)) c.env) fun fl _ l => K (retv fl) l) : Calls W need 443 [a0, a1] led K :=
  enter (ps := [(Str.ofString "self"), (Str.ofString "sign"), (Str.ofString "ahead")]) (more := []) (as := [a0, a1, (.int 0 778)]) ok443 rfl rfl (ho443 _) (by kernel_rfl) (fun _ hs => binds_K hs rfl (by kernel_rfl : W.K.lookup 436 = some (o436 W.w.params)) rfl rfl rfl) (by kernel_rfl) (by kernel_rfl) (by decide +kernel) h
-- 464 Reader.is_number (self) more [] []
@[reducible] noncomputable def f464 : Fn := ⟨(Str.ofString "Reader.is_number"), fS (nth (cB (st 54)) 17), [(Str.ofString "self")]⟩
theorem ok464 : f464.Ok := ⟨by decide +kernel, by decide +kernel, by kernel_rfl⟩
theorem ho464 (P : Params) : (KF P).lookup 464 = some (o464 P) := by kernel_rfl
theorem ent464 {W : Wd} {need : Nat} {led : Led} {K : Value → Led → Prop} {a0 : Value} (h : ∀ c : Cx W f464 need, GS c [some a0] led (execs (fB (nth (cB (st 54)) 17)) c.env) fun fl _ l => K (retv fl) l) : Calls W need 464 [a0] led K :=
  enter (ps := [(Str.ofString "self")]) (more := []) (as := [a0]) ok464 rfl rfl (ho464 _) (by kernel_rfl) (fun _ _ => .of_eq (by kernel_rfl)) (by kernel_rfl) (by kernel_rfl) (by decide +kernel) h
-- 492 Reader.octets (self) more [found] [octets_of_text:PySem.NameKind.globalImplicit]
@[reducible] noncomputable def f492 : Fn := ⟨(Str.ofString "Reader.octets"), fS (nth (cB (st 54)) 21), [(Str.ofString "self"), (Str.ofString "found")]⟩
theorem ok492 : f492.Ok := ⟨by decide +kernel, by decide +kernel, by kernel_rfl⟩
theorem ho492 (P : Params) : (KF P).lookup 492 = some (o492 P) := by kernel_rfl
theorem ent492 {W : Wd} {need : Nat} {led : Led} {K : Value → Led → Prop} {a0 : Value} (h : ∀ c : Cx W f492 need, GS c [some a0, none] led (execs (fB (nth (cB (st 54)) 21)) c.env) fun fl _ l => K (retv fl) l) : Calls W need 492 [a0] led K :=
  enter (ps := [(Str.ofString "self")]) (more := [(Str.ofString "found")]) (as := [a0]) ok492 rfl rfl (ho492 _) (by kernel_rfl) (fun _ _ => .of_eq (by kernel_rfl)) (by kernel_rfl) (by kernel_rfl) (by decide +kernel) h
-- 515 Token.__init__ (self, kind, worth, at, is_in_a) more [] []
@[reducible] noncomputable def f515 : Fn := ⟨(Str.ofString "Token.__init__"), fS (nth (cB (st 56)) 0), [(Str.ofString "self"), (Str.ofString "kind"), (Str.ofString "worth"), (Str.ofString "at"), (Str.ofString "is_in_a")]⟩
theorem ok515 : f515.Ok := ⟨by decide +kernel, by decide +kernel, by kernel_rfl⟩
theorem ho515 (P : Params) : (KF P).lookup 515 = some (o515 P) := by kernel_rfl
theorem ent515 {W : Wd} {need : Nat} {led : Led} {K : Value → Led → Prop} {a0 a1 a2 a3 a4 : Value} (h : ∀ c : Cx W f515 need, GS c [some a0, some a1, some a2, some a3, some a4] led (execs (fB (nth (cB (st 56)) 0)) c.env) fun fl _ l => K (retv fl) l) : Calls W need 515 [a0, a1, a2, a3, a4] led K :=
  enter (ps := [(Str.ofString "self"), (Str.ofString "kind"), (Str.ofString "worth"), (Str.ofString "at"), (Str.ofString "is_in_a")]) (more := []) (as := [a0, a1, a2, a3, a4]) ok515 rfl rfl (ho515 _) (by kernel_rfl) (fun _ hs => binds_K hs rfl (by kernel_rfl : W.K.lookup 508 = some (o508 W.w.params)) rfl rfl rfl) (by kernel_rfl) (by kernel_rfl) (by decide +kernel) h
theorem ent515d {W : Wd} {need : Nat} {led : Led} {K : Value → Led → Prop} {a0 a1 a2 a3 : Value} (h : ∀ c : Cx W f515 need, GS c [some a0, some a1, some a2, some a3, some (.bool false)] led (execs (fB (nth (cB (st 56)) 0)) c.env) fun fl _ l => K (retv fl) l) : Calls W need 515 [a0, a1, a2, a3] led K :=
  enter (ps := [(Str.ofString "self"), (Str.ofString "kind"), (Str.ofString "worth"), (Str.ofString "at"), (Str.ofString "is_in_a")]) (more := []) (as := [a0, a1, a2, a3, (.bool false)]) ok515 rfl rfl (ho515 _) (by kernel_rfl) (fun _ hs => binds_K hs rfl (by kernel_rfl : W.K.lookup 508 = some (o508 W.w.params)) rfl rfl rfl) (by kernel_rfl) (by kernel_rfl) (by decide +kernel) h
theorem ent515dd {W : Wd} {need : Nat} {led : Led} {K : Value → Led → Prop} {a0 a1 a2 : Value} (h : ∀ c : Cx W f515 need, GS c [some a0, some a1, some a2, some (.ref 507), some (.bool false)] led (execs (fB (nth (cB (st 56)) 0)) c.env) fun fl _ l => K (retv fl) l) : Calls W need 515 [a0, a1, a2] led K :=
  enter (ps := [(Str.ofString "self"), (Str.ofString "kind"), (Str.ofString "worth"), (Str.ofString "at"), (Str.ofString "is_in_a")]) (more := []) (as := [a0, a1, a2, (.ref 507), (.bool false)]) ok515 rfl rfl (ho515 _) (by kernel_rfl) (fun _ hs => binds_K hs rfl (by kernel_rfl : W.K.lookup 508 = some (o508 W.w.params)) rfl rfl rfl) (by kernel_rfl) (by kernel_rfl) (by decide +kernel) h
-- 534 _law_pen (script) more [cells] []
@[reducible] noncomputable def f534 : Fn := ⟨(Str.ofString "_law_pen"), fS (st 58), [(Str.ofString "script"), (Str.ofString "cells")]⟩
theorem ok534 : f534.Ok := ⟨by decide +kernel, by decide +kernel, by kernel_rfl⟩
theorem ho534 (P : Params) : (KF P).lookup 534 = some (o534 P) := by kernel_rfl
theorem ent534 {W : Wd} {need : Nat} {led : Led} {K : Value → Led → Prop} {a0 : Value} (h : ∀ c : Cx W f534 need, GS c [some a0, none] led (execs (fB (st 58)) c.env) fun fl _ l => K (retv fl) l) : Calls W need 534 [a0] led K :=
  enter (ps := [(Str.ofString "script")]) (more := [(Str.ofString "cells")]) (as := [a0]) ok534 rfl rfl (ho534 _) (by kernel_rfl) (fun _ _ => .of_eq (by kernel_rfl)) (by kernel_rfl) (by kernel_rfl) (by decide +kernel) h
-- 541 _law_draw (pen, many) more [turn, fresh, digit] [len:PySem.NameKind.globalImplicit, sum:PySem.NameKind.globalImplicit]
@[reducible] noncomputable def f541 : Fn := ⟨(Str.ofString "_law_draw"), fS (st 59), [(Str.ofString "pen"), (Str.ofString "many"), (Str.ofString "turn"), (Str.ofString "fresh"), (Str.ofString "digit")]⟩
theorem ok541 : f541.Ok := ⟨by decide +kernel, by decide +kernel, by kernel_rfl⟩
theorem ho541 (P : Params) : (KF P).lookup 541 = some (o541 P) := by kernel_rfl
theorem ent541 {W : Wd} {need : Nat} {led : Led} {K : Value → Led → Prop} {a0 a1 : Value} (h : ∀ c : Cx W f541 need, GS c [some a0, some a1, none, none, none] led (execs (fB (st 59)) c.env) fun fl _ l => K (retv fl) l) : Calls W need 541 [a0, a1] led K :=
  enter (ps := [(Str.ofString "pen"), (Str.ofString "many")]) (more := [(Str.ofString "turn"), (Str.ofString "fresh"), (Str.ofString "digit")]) (as := [a0, a1]) ok541 rfl rfl (ho541 _) (by kernel_rfl) (fun _ _ => .of_eq (by kernel_rfl)) (by kernel_rfl) (by kernel_rfl) (by decide +kernel) h
-- 548 _law_pick (pen, some) more [] [_law_draw:PySem.NameKind.globalImplicit, len:PySem.NameKind.globalImplicit]
@[reducible] noncomputable def f548 : Fn := ⟨(Str.ofString "_law_pick"), fS (st 60), [(Str.ofString "pen"), (Str.ofString "some")]⟩
theorem ok548 : f548.Ok := ⟨by decide +kernel, by decide +kernel, by kernel_rfl⟩
theorem ho548 (P : Params) : (KF P).lookup 548 = some (o548 P) := by kernel_rfl
theorem ent548 {W : Wd} {need : Nat} {led : Led} {K : Value → Led → Prop} {a0 a1 : Value} (h : ∀ c : Cx W f548 need, GS c [some a0, some a1] led (execs (fB (st 60)) c.env) fun fl _ l => K (retv fl) l) : Calls W need 548 [a0, a1] led K :=
  enter (ps := [(Str.ofString "pen"), (Str.ofString "some")]) (more := []) (as := [a0, a1]) ok548 rfl rfl (ho548 _) (by kernel_rfl) (fun _ _ => .of_eq (by kernel_rfl)) (by kernel_rfl) (by kernel_rfl) (by decide +kernel) h
-- 553 _law_words (text) more [] []
@[reducible] noncomputable def f553 : Fn := ⟨(Str.ofString "_law_words"), fS (st 61), [(Str.ofString "text")]⟩
theorem ok553 : f553.Ok := ⟨by decide +kernel, by decide +kernel, by kernel_rfl⟩
theorem ho553 (P : Params) : (KF P).lookup 553 = some (o553 P) := by kernel_rfl
theorem ent553 {W : Wd} {need : Nat} {led : Led} {K : Value → Led → Prop} {a0 : Value} (h : ∀ c : Cx W f553 need, GS c [some a0] led (execs (fB (st 61)) c.env) fun fl _ l => K (retv fl) l) : Calls W need 553 [a0] led K :=
  enter (ps := [(Str.ofString "text")]) (more := []) (as := [a0]) ok553 rfl rfl (ho553 _) (by kernel_rfl) (fun _ _ => .of_eq (by kernel_rfl)) (by kernel_rfl) (by kernel_rfl) (by decide +kernel) h
-- 558 _law_reader (tokens) more [] [Reader:PySem.NameKind.globalImplicit, enumerate:PySem.NameKind.globalImplicit]
@[reducible] noncomputable def f558 : Fn := ⟨(Str.ofString "_law_reader"), fS (st 62), [(Str.ofString "tokens")]⟩
theorem ok558 : f558.Ok := ⟨by decide +kernel, by decide +kernel, by kernel_rfl⟩
theorem ho558 (P : Params) : (KF P).lookup 558 = some (o558 P) := by kernel_rfl
theorem ent558 {W : Wd} {need : Nat} {led : Led} {K : Value → Led → Prop} {a0 : Value} (h : ∀ c : Cx W f558 need, GS c [some a0] led (execs (fB (st 62)) c.env) fun fl _ l => K (retv fl) l) : Calls W need 558 [a0] led K :=
  enter (ps := [(Str.ofString "tokens")]) (more := []) (as := [a0]) ok558 rfl rfl (ho558 _) (by kernel_rfl) (fun _ _ => .of_eq (by kernel_rfl)) (by kernel_rfl) (by kernel_rfl) (by decide +kernel) h
-- 565 _law_item (name) more [] [_law_words:PySem.NameKind.globalImplicit]
@[reducible] noncomputable def f565 : Fn := ⟨(Str.ofString "_law_item"), fS (st 63), [(Str.ofString "name")]⟩
theorem ok565 : f565.Ok := ⟨by decide +kernel, by decide +kernel, by kernel_rfl⟩
theorem ho565 (P : Params) : (KF P).lookup 565 = some (o565 P) := by kernel_rfl
theorem ent565 {W : Wd} {need : Nat} {led : Led} {K : Value → Led → Prop} {a0 : Value} (h : ∀ c : Cx W f565 need, GS c [some a0] led (execs (fB (st 63)) c.env) fun fl _ l => K (retv fl) l) : Calls W need 565 [a0] led K :=
  enter (ps := [(Str.ofString "name")]) (more := []) (as := [a0]) ok565 rfl rfl (ho565 _) (by kernel_rfl) (fun _ _ => .of_eq (by kernel_rfl)) (by kernel_rfl) (by kernel_rfl) (by decide +kernel) h
-- 572 _law_operand (pen) more [rows] [_law_item:PySem.NameKind.globalImplicit, _law_words:PySem.NameKind.globalImplicit, _law_pick:PySem.NameKind.globalImplicit]
@[reducible] noncomputable def f572 : Fn := ⟨(Str.ofString "_law_operand"), fS (st 64), [(Str.ofString "pen"), (Str.ofString "rows")]⟩
theorem ok572 : f572.Ok := ⟨by decide +kernel, by decide +kernel, by kernel_rfl⟩
theorem ho572 (P : Params) : (KF P).lookup 572 = some (o572 P) := by kernel_rfl
theorem ent572 {W : Wd} {need : Nat} {led : Led} {K : Value → Led → Prop} {a0 : Value} (h : ∀ c : Cx W f572 need, GS c [some a0, none] led (execs (fB (st 64)) c.env) fun fl _ l => K (retv fl) l) : Calls W need 572 [a0] led K :=
  enter (ps := [(Str.ofString "pen")]) (more := [(Str.ofString "rows")]) (as := [a0]) ok572 rfl rfl (ho572 _) (by kernel_rfl) (fun _ _ => .of_eq (by kernel_rfl)) (by kernel_rfl) (by kernel_rfl) (by decide +kernel) h
-- 579 _law_bounds (pen) more [tokens, told, at, more] [_law_pick:PySem.NameKind.globalImplicit, _law_operand:PySem.NameKind.globalImplicit, _law_words:PySem.NameKind.globalImplicit]
@[reducible] noncomputable def f579 : Fn := ⟨(Str.ofString "_law_bounds"), fS (st 65), [(Str.ofString "pen"), (Str.ofString "tokens"), (Str.ofString "told"), (Str.ofString "at"), (Str.ofString "more")]⟩
theorem ok579 : f579.Ok := ⟨by decide +kernel, by decide +kernel, by kernel_rfl⟩
theorem ho579 (P : Params) : (KF P).lookup 579 = some (o579 P) := by kernel_rfl
theorem ent579 {W : Wd} {need : Nat} {led : Led} {K : Value → Led → Prop} {a0 : Value} (h : ∀ c : Cx W f579 need, GS c [some a0, none, none, none, none] led (execs (fB (st 65)) c.env) fun fl _ l => K (retv fl) l) : Calls W need 579 [a0] led K :=
  enter (ps := [(Str.ofString "pen")]) (more := [(Str.ofString "tokens"), (Str.ofString "told"), (Str.ofString "at"), (Str.ofString "more")]) (as := [a0]) ok579 rfl rfl (ho579 _) (by kernel_rfl) (fun _ _ => .of_eq (by kernel_rfl)) (by kernel_rfl) (by kernel_rfl) (by decide +kernel) h
-- 586 _law_sort (pen, count) more [word, parts, turn, more, tree, bounds, told] [_law_pick:PySem.NameKind.globalImplicit, range:PySem.NameKind.globalImplicit, _law_draw:PySem.NameKind.globalImplicit, _law_operand:PySem.NameKind.globalImplicit, _law_bounds:PySem.NameKind.globalImplicit]
@[reducible] noncomputable def f586 : Fn := ⟨(Str.ofString "_law_sort"), fS (st 66), [(Str.ofString "pen"), (Str.ofString "count"), (Str.ofString "word"), (Str.ofString "parts"), (Str.ofString "turn"), (Str.ofString "more"), (Str.ofString "tree"), (Str.ofString "bounds"), (Str.ofString "told")]⟩
theorem ok586 : f586.Ok := ⟨by decide +kernel, by decide +kernel, by kernel_rfl⟩
theorem ho586 (P : Params) : (KF P).lookup 586 = some (o586 P) := by kernel_rfl
theorem ent586 {W : Wd} {need : Nat} {led : Led} {K : Value → Led → Prop} {a0 a1 : Value} (h : ∀ c : Cx W f586 need, GS c [some a0, some a1, none, none, none, none, none, none, none] led (execs (fB (st 66)) c.env) fun fl _ l => K (retv fl) l) : Calls W need 586 [a0, a1] led K :=
  enter (ps := [(Str.ofString "pen"), (Str.ofString "count")]) (more := [(Str.ofString "word"), (Str.ofString "parts"), (Str.ofString "turn"), (Str.ofString "more"), (Str.ofString "tree"), (Str.ofString "bounds"), (Str.ofString "told")]) (as := [a0, a1]) ok586 rfl rfl (ho586 _) (by kernel_rfl) (fun _ _ => .of_eq (by kernel_rfl)) (by kernel_rfl) (by kernel_rfl) (by decide +kernel) h
-- 593 _law_right (counts, behind) more [once, again, rows, count, sorts, word, parts, tokens, row, reader] [_law_words:PySem.NameKind.globalImplicit, _law_reader:PySem.NameKind.globalImplicit, tallied_rows:PySem.NameKind.globalImplicit, tuple:PySem.NameKind.globalImplicit, len:PySem.NameKind.globalImplicit]
@[reducible] noncomputable def f593 : Fn := ⟨(Str.ofString "_law_right"), fS (st 67), [(Str.ofString "counts"), (Str.ofString "behind"), (Str.ofString "once"), (Str.ofString "again"), (Str.ofString "rows"), (Str.ofString "count"), (Str.ofString "sorts"), (Str.ofString "word"), (Str.ofString "parts"), (Str.ofString "tokens"), (Str.ofString "row"), (Str.ofString "reader")]⟩
theorem ok593 : f593.Ok := ⟨by decide +kernel, by decide +kernel, by kernel_rfl⟩
theorem ho593 (P : Params) : (KF P).lookup 593 = some (o593 P) := by kernel_rfl
theorem ent593 {W : Wd} {need : Nat} {led : Led} {K : Value → Led → Prop} {a0 a1 : Value} (h : ∀ c : Cx W f593 need, GS c [some a0, some a1, none, none, none, none, none, none, none, none, none, none] led (execs (fB (st 67)) c.env) fun fl _ l => K (retv fl) l) : Calls W need 593 [a0, a1] led K :=
  enter (ps := [(Str.ofString "counts"), (Str.ofString "behind")]) (more := [(Str.ofString "once"), (Str.ofString "again"), (Str.ofString "rows"), (Str.ofString "count"), (Str.ofString "sorts"), (Str.ofString "word"), (Str.ofString "parts"), (Str.ofString "tokens"), (Str.ofString "row"), (Str.ofString "reader")]) (as := [a0, a1]) ok593 rfl rfl (ho593 _) (by kernel_rfl) (fun _ _ => .of_eq (by kernel_rfl)) (by kernel_rfl) (by kernel_rfl) (by decide +kernel) h
-- 598 law (script) more [one, other, plain, stop, replacing, lone, whole, counts, turn] [pen:PySem.NameKind.cell, count:PySem.NameKind.cell, _law_item:PySem.NameKind.globalImplicit, _law_words:PySem.NameKind.globalImplicit, _law_right:PySem.NameKind.globalImplicit, _law_pen:PySem.NameKind.globalImplicit, range:PySem.NameKind.globalImplicit, _law_draw:PySem.NameKind.globalImplicit, _law_pick:PySem.NameKind.globalImplicit]
end Mine
namespace Mine
open Ob
theorem gv_is_part_next (P : Params) : Gv (KF P) (Str.ofString "is_part_next") (.ref 139) := ⟨by decide +kernel, .inl (by kernel_rfl)⟩
theorem kp139 (P : Params) : keepIn (KF P) (.ref 139) = true := by kernel_rfl
theorem gv_read_ref (P : Params) : Gv (KF P) (Str.ofString "read_ref") (.ref 160) := ⟨by decide +kernel, .inl (by kernel_rfl)⟩
theorem kp160 (P : Params) : keepIn (KF P) (.ref 160) = true := by kernel_rfl
theorem gv_read_figure (P : Params) : Gv (KF P) (Str.ofString "read_figure") (.ref 174) := ⟨by decide +kernel, .inl (by kernel_rfl)⟩
theorem kp174 (P : Params) : keepIn (KF P) (.ref 174) = true := by kernel_rfl
theorem gv_read_operand (P : Params) : Gv (KF P) (Str.ofString "read_operand") (.ref 181) := ⟨by decide +kernel, .inl (by kernel_rfl)⟩
theorem kp181 (P : Params) : keepIn (KF P) (.ref 181) = true := by kernel_rfl
theorem gv_word_ahead (P : Params) : Gv (KF P) (Str.ofString "word_ahead") (.ref 244) := ⟨by decide +kernel, .inl (by kernel_rfl)⟩
theorem kp244 (P : Params) : keepIn (KF P) (.ref 244) = true := by kernel_rfl
theorem gv_begins_operand (P : Params) : Gv (KF P) (Str.ofString "begins_operand") (.ref 251) := ⟨by decide +kernel, .inl (by kernel_rfl)⟩
theorem kp251 (P : Params) : keepIn (KF P) (.ref 251) = true := by kernel_rfl
theorem gv_ref_here (P : Params) : Gv (KF P) (Str.ofString "ref_here") (.ref 258) := ⟨by decide +kernel, .inl (by kernel_rfl)⟩
theorem kp258 (P : Params) : keepIn (KF P) (.ref 258) = true := by kernel_rfl
theorem gv_operand_here (P : Params) : Gv (KF P) (Str.ofString "operand_here") (.ref 272) := ⟨by decide +kernel, .inl (by kernel_rfl)⟩
theorem kp272 (P : Params) : keepIn (KF P) (.ref 272) = true := by kernel_rfl
theorem gv_text_here (P : Params) : Gv (KF P) (Str.ofString "text_here") (.ref 279) := ⟨by decide +kernel, .inl (by kernel_rfl)⟩
theorem kp279 (P : Params) : keepIn (KF P) (.ref 279) = true := by kernel_rfl
theorem gv_begins_text (P : Params) : Gv (KF P) (Str.ofString "begins_text") (.ref 286) := ⟨by decide +kernel, .inl (by kernel_rfl)⟩
theorem kp286 (P : Params) : keepIn (KF P) (.ref 286) = true := by kernel_rfl
theorem gv_bounds_here (P : Params) : Gv (KF P) (Str.ofString "bounds_here") (.ref 293) := ⟨by decide +kernel, .inl (by kernel_rfl)⟩
theorem kp293 (P : Params) : keepIn (KF P) (.ref 293) = true := by kernel_rfl
theorem gv_opens_count (P : Params) : Gv (KF P) (Str.ofString "opens_count") (.ref 300) := ⟨by decide +kernel, .inl (by kernel_rfl)⟩
theorem kp300 (P : Params) : keepIn (KF P) (.ref 300) = true := by kernel_rfl
theorem gv_counted_rows (P : Params) : Gv (KF P) (Str.ofString "counted_rows") (.ref 307) := ⟨by decide +kernel, .inl (by kernel_rfl)⟩
theorem kp307 (P : Params) : keepIn (KF P) (.ref 307) = true := by kernel_rfl
theorem gv_tallied_rows (P : Params) : Gv (KF P) (Str.ofString "tallied_rows") (.ref 314) := ⟨by decide +kernel, .inl (by kernel_rfl)⟩
theorem kp314 (P : Params) : keepIn (KF P) (.ref 314) = true := by kernel_rfl
theorem gv_is_reserved (P : Params) : Gv (KF P) (Str.ofString "is_reserved") (.ref 321) := ⟨by decide +kernel, .inl (by kernel_rfl)⟩
theorem kp321 (P : Params) : keepIn (KF P) (.ref 321) = true := by kernel_rfl
theorem gv_octets_of_text (P : Params) : Gv (KF P) (Str.ofString "octets_of_text") (.ref 326) := ⟨by decide +kernel, .inl (by kernel_rfl)⟩
theorem kp326 (P : Params) : keepIn (KF P) (.ref 326) = true := by kernel_rfl
theorem rm_peek (P : Params) : RMeth (KF P) (Str.ofString "peek") 349 := ⟨by kernel_rfl, by kernel_rfl, by kernel_rfl, by kernel_rfl, fun _ _ _ _ _ _ _ _ => by kernel_rfl⟩
theorem rm_take (P : Params) : RMeth (KF P) (Str.ofString "take") 370 := ⟨by kernel_rfl, by kernel_rfl, by kernel_rfl, by kernel_rfl, fun _ _ _ _ _ _ _ _ => by kernel_rfl⟩
theorem rm_is_kind (P : Params) : RMeth (KF P) (Str.ofString "is_kind") 378 := ⟨by kernel_rfl, by kernel_rfl, by kernel_rfl, by kernel_rfl, fun _ _ _ _ _ _ _ _ => by kernel_rfl⟩
theorem rm_is_word (P : Params) : RMeth (KF P) (Str.ofString "is_word") 385 := ⟨by kernel_rfl, by kernel_rfl, by kernel_rfl, by kernel_rfl, fun _ _ _ _ _ _ _ _ => by kernel_rfl⟩
theorem rm_skip (P : Params) : RMeth (KF P) (Str.ofString "skip") 392 := ⟨by kernel_rfl, by kernel_rfl, by kernel_rfl, by kernel_rfl, fun _ _ _ _ _ _ _ _ => by kernel_rfl⟩
theorem rm_need (P : Params) : RMeth (KF P) (Str.ofString "need") 399 := ⟨by kernel_rfl, by kernel_rfl, by kernel_rfl, by kernel_rfl, fun _ _ _ _ _ _ _ _ => by kernel_rfl⟩
theorem rm_one_of (P : Params) : RMeth (KF P) (Str.ofString "one_of") 406 := ⟨by kernel_rfl, by kernel_rfl, by kernel_rfl, by kernel_rfl, fun _ _ _ _ _ _ _ _ => by kernel_rfl⟩
theorem rm_is_name (P : Params) : RMeth (KF P) (Str.ofString "is_name") 421 := ⟨by kernel_rfl, by kernel_rfl, by kernel_rfl, by kernel_rfl, fun _ _ _ _ _ _ _ _ => by kernel_rfl⟩
theorem rm_name (P : Params) : RMeth (KF P) (Str.ofString "name") 428 := ⟨by kernel_rfl, by kernel_rfl, by kernel_rfl, by kernel_rfl, fun _ _ _ _ _ _ _ _ => by kernel_rfl⟩
theorem rm_is_sign (P : Params) : RMeth (KF P) (Str.ofString "is_sign") 443 := ⟨by kernel_rfl, by kernel_rfl, by kernel_rfl, by kernel_rfl, fun _ _ _ _ _ _ _ _ => by kernel_rfl⟩
theorem rm_is_number (P : Params) : RMeth (KF P) (Str.ofString "is_number") 464 := ⟨by kernel_rfl, by kernel_rfl, by kernel_rfl, by kernel_rfl, fun _ _ _ _ _ _ _ _ => by kernel_rfl⟩
theorem rm_octets (P : Params) : RMeth (KF P) (Str.ofString "octets") 492 := ⟨by kernel_rfl, by kernel_rfl, by kernel_rfl, by kernel_rfl, fun _ _ _ _ _ _ _ _ => by kernel_rfl⟩
theorem gv_law_pen (P : Params) : Gv (KF P) (Str.ofString "_law_pen") (.ref 534) := ⟨by decide +kernel, .inl (by kernel_rfl)⟩
theorem kp534 (P : Params) : keepIn (KF P) (.ref 534) = true := by kernel_rfl
theorem gv_law_draw (P : Params) : Gv (KF P) (Str.ofString "_law_draw") (.ref 541) := ⟨by decide +kernel, .inl (by kernel_rfl)⟩
theorem kp541 (P : Params) : keepIn (KF P) (.ref 541) = true := by kernel_rfl
theorem gv_law_pick (P : Params) : Gv (KF P) (Str.ofString "_law_pick") (.ref 548) := ⟨by decide +kernel, .inl (by kernel_rfl)⟩
theorem kp548 (P : Params) : keepIn (KF P) (.ref 548) = true := by kernel_rfl
theorem gv_law_words (P : Params) : Gv (KF P) (Str.ofString "_law_words") (.ref 553) := ⟨by decide +kernel, .inl (by kernel_rfl)⟩
theorem kp553 (P : Params) : keepIn (KF P) (.ref 553) = true := by kernel_rfl
theorem gv_law_reader (P : Params) : Gv (KF P) (Str.ofString "_law_reader") (.ref 558) := ⟨by decide +kernel, .inl (by kernel_rfl)⟩
theorem kp558 (P : Params) : keepIn (KF P) (.ref 558) = true := by kernel_rfl
theorem gv_law_item (P : Params) : Gv (KF P) (Str.ofString "_law_item") (.ref 565) := ⟨by decide +kernel, .inl (by kernel_rfl)⟩
theorem kp565 (P : Params) : keepIn (KF P) (.ref 565) = true := by kernel_rfl
theorem gv_law_operand (P : Params) : Gv (KF P) (Str.ofString "_law_operand") (.ref 572) := ⟨by decide +kernel, .inl (by kernel_rfl)⟩
theorem kp572 (P : Params) : keepIn (KF P) (.ref 572) = true := by kernel_rfl
theorem gv_law_bounds (P : Params) : Gv (KF P) (Str.ofString "_law_bounds") (.ref 579) := ⟨by decide +kernel, .inl (by kernel_rfl)⟩
theorem kp579 (P : Params) : keepIn (KF P) (.ref 579) = true := by kernel_rfl
theorem gv_law_sort (P : Params) : Gv (KF P) (Str.ofString "_law_sort") (.ref 586) := ⟨by decide +kernel, .inl (by kernel_rfl)⟩
theorem kp586 (P : Params) : keepIn (KF P) (.ref 586) = true := by kernel_rfl
theorem gv_law_right (P : Params) : Gv (KF P) (Str.ofString "_law_right") (.ref 593) := ⟨by decide +kernel, .inl (by kernel_rfl)⟩
theorem kp593 (P : Params) : keepIn (KF P) (.ref 593) = true := by kernel_rfl
theorem gv_law (P : Params) : Gv (KF P) (Str.ofString "law") (.ref 598) := ⟨by decide +kernel, .inl (by kernel_rfl)⟩
theorem kp598 (P : Params) : keepIn (KF P) (.ref 598) = true := by kernel_rfl
theorem gv_len (P : Params) : Gv (KF P) (Str.ofString "len") (.builtin "len") := ⟨by decide +kernel, .inr ⟨by kernel_rfl, by kernel_rfl, by decide +kernel⟩⟩
theorem gv_sum (P : Params) : Gv (KF P) (Str.ofString "sum") (.builtin "sum") := ⟨by decide +kernel, .inr ⟨by kernel_rfl, by kernel_rfl, by decide +kernel⟩⟩
theorem gv_enumerate (P : Params) : Gv (KF P) (Str.ofString "enumerate") (.type "enumerate") := ⟨by decide +kernel, .inr ⟨by kernel_rfl, by kernel_rfl, by decide +kernel⟩⟩
theorem gv_abs (P : Params) : Gv (KF P) (Str.ofString "abs") (.builtin "abs") := ⟨by decide +kernel, .inr ⟨by kernel_rfl, by kernel_rfl, by decide +kernel⟩⟩
theorem gv_ord (P : Params) : Gv (KF P) (Str.ofString "ord") (.builtin "ord") := ⟨by decide +kernel, .inr ⟨by kernel_rfl, by kernel_rfl, by decide +kernel⟩⟩
theorem gv_tuple (P : Params) : Gv (KF P) (Str.ofString "tuple") (.type "tuple") := ⟨by decide +kernel, .inr ⟨by kernel_rfl, by kernel_rfl, by decide +kernel⟩⟩
theorem gv_bytes (P : Params) : Gv (KF P) (Str.ofString "bytes") (.type "bytes") := ⟨by decide +kernel, .inr ⟨by kernel_rfl, by kernel_rfl, by decide +kernel⟩⟩
theorem gv_range (P : Params) : Gv (KF P) (Str.ofString "range") (.type "range") := ⟨by decide +kernel, .inr ⟨by kernel_rfl, by kernel_rfl, by decide +kernel⟩⟩
theorem gv_int (P : Params) : Gv (KF P) (Str.ofString "int") (.type "int") := ⟨by decide +kernel, .inr ⟨by kernel_rfl, by kernel_rfl, by decide +kernel⟩⟩
theorem gv_Reader (P : Params) : Gv (KF P) (Str.ofString "Reader") (.ref 495) := ⟨by decide +kernel, .inl (by kernel_rfl)⟩
theorem gv_Token (P : Params) : Gv (KF P) (Str.ofString "Token") (.ref 525) := ⟨by decide +kernel, .inl (by kernel_rfl)⟩
theorem gv_FIGURE_NAMES (P : Params) : Gv (KF P) (Str.ofString "FIGURE_NAMES") (.ref 132) := ⟨by decide +kernel, .inl (by kernel_rfl)⟩
theorem gv_FIGURE_WORDS (P : Params) : Gv (KF P) (Str.ofString "FIGURE_WORDS") (.str (Str.ofString " ZERO ZEROS ZEROES SPACE SPACES HIGH-VALUE HIGH-VALUES LOW-VALUE LOW-VALUES QUOTE QUOTES ALL ") 526) := ⟨by decide +kernel, .inl (by kernel_rfl)⟩
theorem gv_MOST_OCTET (P : Params) : Gv (KF P) (Str.ofString "MOST_OCTET") (.int 255 631) := ⟨by decide +kernel, .inl (by kernel_rfl)⟩
theorem gv_RESERVED (P : Params) : Gv (KF P) (Str.ofString "RESERVED") (.str RES 633) := ⟨by decide +kernel, .inl (by kernel_rfl)⟩
theorem gv_read_expression (P : Params) : Gv (KF P) (Str.ofString "read_expression") (.ref 188) := ⟨by decide +kernel, .inl (by kernel_rfl)⟩
end Mine
namespace Mine
open Ob
/-- rest' holds rest and what was added, all of it younger than the reader's dict and than rest -/
structure Ext (rd : Addr) (rest rest' : Led) : Prop where
  sub : ∀ p ∈ rest, p ∈ rest'
  new : ∀ p ∈ rest', p ∈ rest ∨ (rd < p.1 ∧ ∀ q ∈ rest, q.1 < p.1)
theorem Ext.refl {rd : Addr} {rest : Led} : Ext rd rest rest := ⟨fun _ h => h, fun _ h => .inl h⟩
theorem Ext.trans {rd : Addr} {a b d : Led} (x : Ext rd a b) (y : Ext rd b d) : Ext rd a d :=
  ⟨fun p h => y.sub p (x.sub p h), fun p h => (y.new p h).elim (x.new p) fun e => .inr ⟨e.1, fun q hq => e.2 q (x.sub q hq)⟩⟩
theorem Ext.cons {rd D : Addr} {o : Obj} {a b : Led} (x : Ext rd a b) (h : rd < D) (k : ∀ p ∈ b, p.1 < D) : Ext rd a ((D, o) :: b) :=
  ⟨fun p h => .tail _ (x.sub p h), fun p hp => by
    rcases List.mem_cons.mp hp with rfl | hp
    · exact .inr ⟨h, fun q hq => k q (x.sub q hq)⟩
    · exact x.new p hp⟩
theorem RdOk.ext {w : World} {rest rest' : Led} {r rd tl : Addr} {vs : List Value} {ts : List (Str × Str)} (R : RdOk w rest r rd tl vs ts) (x : Ext rd rest rest') : RdOk w rest' r rd tl vs ts :=
  R.sub x.sub fun p hp => (x.new p hp).elim (R.sep p) fun e => Nat.ne_of_gt e.1
section
variable {W : Wd} {f : Fn} {n : Nat} {c : Cx W f n} {vs : List (Option Value)} {led led' : Led} {K : Value → Led → Prop} {Ks : KS} {pos : Pos} {rd : Addr} {ro : Obj} {rest : Led} {env : Env}
theorem At.sub {s₀ s : Shared} (A : At c vs led s₀ s) (h : ∀ p ∈ led', p ∈ led) : At c vs led' s₀ s := ⟨A.F, fun p hp => A.N p (h p hp), A.g, A.d, A.o⟩
theorem GE.sub {α : Type} {t : Sem α} {K : α → Led → Prop} (h : ∀ p ∈ led', p ∈ led) (g : GE c vs led' t K) : GE c vs led t K := fun s₀ s A => g s₀ s (A.sub h)
theorem GS.sub {α : Type} {t : Sem α} {K : α → List (Option Value) → Led → Prop} (h : ∀ p ∈ led', p ∈ led) (g : GS c vs led' t K) : GS c vs led t K := fun s₀ s A => g s₀ s (A.sub h)
/-! new objects -/
noncomputable abbrev tupO (ws : List Value) : Obj := { cls := .type "tuple", data := .seq ws.toArray }
theorem n_tup {ws : List Value} (hl : ws.length ≤ sizeLine) (h : ∀ D, (∀ p ∈ led, p.1 < D) → K (.ref D) ((D, tupO ws) :: led)) : GE c vs led (newTuple ws) K :=
  fun _ _ A => kup_newTuple A.F A.N (fun D _ F' N' l => ⟨_, A.to F' N', h D l⟩) hl
theorem n_list {ws : List Value} (hl : ws.length ≤ sizeLine) (h : ∀ D, (∀ p ∈ led, p.1 < D) → K (.ref D) ((D, listOf ws.toArray 0) :: led)) : GE c vs led (newList ws) K :=
  fun _ _ A => newList_K A.F A.N (fun D _ F' N' l => ⟨_, A.to F' N', h D l⟩) hl
theorem swap_sub {a b : Addr × Obj} {l : Led} : ∀ p ∈ b :: a :: l, p ∈ a :: b :: l := fun p hp => by
  rcases List.mem_cons.mp hp with rfl | hp
  · exact .tail _ (.head _)
  · rcases List.mem_cons.mp hp with rfl | hp
    · exact .head _
    · exact .tail _ (.tail _ hp)
/-- beside a reader's dict -/
theorem r_tup {r tl : Addr} {us : List Value} {ts : List (Str × Str)} {ws : List Value} (R : RdOk W.w rest r rd tl us ts) (hl : ws.length ≤ sizeLine) (h : ∀ D, rd < D → (∀ p ∈ rest, p.1 < D) → RdOk W.w ((D, tupO ws) :: rest) r rd tl us ts → K (.ref D) ((rd, ro) :: (D, tupO ws) :: rest)) : GE c vs ((rd, ro) :: rest) (newTuple ws) K :=
  fun _ _ A => kup_newTuple A.F A.N (fun D _ F' N' l => ⟨_, (A.to F' N').sub swap_sub, h D (l _ (.head _)) (fun p hp => l p (.tail _ hp)) (R.ext (Ext.refl.cons (l _ (.head _)) fun p hp => l p (.tail _ hp)))⟩) hl
theorem r_list {r tl : Addr} {us : List Value} {ts : List (Str × Str)} {ws : List Value} (R : RdOk W.w rest r rd tl us ts) (hl : ws.length ≤ sizeLine) (h : ∀ D, rd < D → (∀ p ∈ rest, p.1 < D) → RdOk W.w ((D, listOf ws.toArray 0) :: rest) r rd tl us ts → K (.ref D) ((rd, ro) :: (D, listOf ws.toArray 0) :: rest)) : GE c vs ((rd, ro) :: rest) (newList ws) K :=
  fun _ _ A => newList_K A.F A.N (fun D _ F' N' l => ⟨_, (A.to F' N').sub swap_sub, h D (l _ (.head _)) (fun p hp => l p (.tail _ hp)) (R.ext (Ext.refl.cons (l _ (.head _)) fun p hp => l p (.tail _ hp)))⟩) hl
theorem g_tup {es : List Expr} {k : Nat} (h : GE c vs led (spliced (backTo pos (starEach es env))) fun ws l => GE c vs l (newTuple ws) K) : GE c vs led (eval (.Tuple es k pos) env) K :=
  fun s₀ _ A => Tuple_ (h.th A fun _ _ _ A1 h1 => h1 s₀ _ A1)
theorem g_list {es : List Expr} (h : GE c vs led (spliced (backTo pos (starEach es env))) fun ws l => GE c vs l (newList ws) K) : GE c vs led (eval (.List es pos) env) K :=
  fun s₀ _ A => List_ (h.th A fun _ _ _ A1 h1 => h1 s₀ _ A1)
theorem g_ifx {test body orelse : Expr} (h : GT c vs led test fun b l => sel b (GE c vs l (eval body c.env) K) (GE c vs l (eval orelse c.env) K)) : GE c vs led (eval (.IfExp test body orelse pos) c.env) K :=
  fun s₀ _ A => wpAny_IfExp (h.th A fun _ _ _ A1 h1 => sel_map h1 (fun h => h s₀ _ A1) fun h => h s₀ _ A1)
theorem g_split {x : Str} {t : Tok} {y : Str} {u : Tok} (hy : (y.length == 0) = false) (hw : Txt.split x y = [x]) (hsz : x.length + 2 ≤ sizeLine) (h : ∀ D t', rd < D → (∀ p ∈ rest, p.1 < D) → K (.ref D) ((rd, ro) :: (D, listOf [.str x t'].toArray 0) :: rest)) :
    GE c vs ((rd, ro) :: rest) (call (.builtin "str.split") [.str x t, .str y u]) K :=
  fun _ _ A => split_one A.F A.N hy hw hsz fun D t' _ _ F' N' l => ⟨_, (A.to F' N').sub swap_sub, h D t' (l _ (.head _)) fun p hp => l p (.tail _ hp)⟩
theorem g_split2 {x a b : Str} {t : Tok} {y : Str} {u : Tok} (hy : (y.length == 0) = false) (hw : Txt.split x y = [a, b]) (hsz : x.length + 2 ≤ sizeLine) (h : ∀ D t' t'', rd < D → (∀ p ∈ rest, p.1 < D) → K (.ref D) ((rd, ro) :: (D, listOf [.str a t', .str b t''].toArray 0) :: rest)) :
    GE c vs ((rd, ro) :: rest) (call (.builtin "str.split") [.str x t, .str y u]) K :=
  fun _ _ A => split_two A.F A.N hy hw hsz fun D t' t'' _ _ F' N' l => ⟨_, (A.to F' N').sub swap_sub, h D t' t'' (l _ (.head _)) fun p hp => l p (.tail _ hp)⟩
theorem m_split {x : Str} {t : Tok} {pl : Sem Bool} {KM : Value × List Value → Led → Prop} (h : KM (.builtin "str.split", [.str x t]) led) : GE c vs led (getMethod (.str x t) (Str.ofString "split") pl) KM := fun _ _ A => PySem.GM.split ⟨_, A, h⟩
theorem g_un {op : UnaryOp} {x : Expr} (h : GE c vs led (eval x env) fun v l => GE c vs l (unaryOp op v) K) : GE c vs led (eval (.UnaryOp op x pos) env) K :=
  fun s₀ _ A => UnaryOp_ (h.th A fun _ _ _ A1 h1 => h1 s₀ _ A1)
theorem o_notb {b : Bool} (h : K (.bool (!b)) led) : GE c vs led (unaryOp .Not (.bool b)) K := fun _ _ A => PyProof.Rows.not_of (wpAny_truthy_bool ⟨_, A, h⟩)
/-! the reader's place stored -/
structure SetAt (KF : Frag) : Prop where
  set : findIn KF (.ref 495) "__setattr__" = some (some (.builtin "object.__setattr__"))
  plain : plainOver KF 495 = true
  taker : takerIn KF 495 "at" = some none
  dict : hasDictIn KF 495 = true
theorem set_at (P : Params) : SetAt (KF P) := ⟨by kernel_rfl, by kernel_rfl, by kernel_rfl, by kernel_rfl⟩
theorem r_set {r tl nd : Addr} {t1 t2 t3 : Tok} {i j : Int} {ti tj : Tok} {ws : List Value} {ts : List (Str × Str)} {KU : Unit → Led → Prop} (R : RdOk W.w rest r rd tl ws ts) (h : KU () ((rd, rdObj W.w tl nd t1 t2 t3 j tj) :: rest)) :
    GE c vs ((rd, rdObj W.w tl nd t1 t2 t3 i ti) :: rest) (setAttr (.ref r) (Str.ofString "at") (.int j tj)) KU := fun _ _ A =>
  have S := set_at W.w.params
  set_dict (es := rdEs W.w tl nd t1 t2 t3 i ti) (es' := rdEs W.w tl nd t1 t2 t3 j tj) (n' := 3) A.F c.X A.N (InstAt.of_news A.N (.tail _ R.inst) (.head _)) rfl S.set S.plain S.taker S.dict (by kernel_rfl) (by kernel_rfl) (.head R.sep) (by show 3 ≤ 1000; decide)
    fun h' F' N' => ⟨_, A.to F' N', h⟩
theorem s_seta {o e : Expr} {attr : Str} {p' : Pos} (h : GE c vs led (eval e c.env) fun v l => GE c vs l (eval o c.env) fun ov l2 => GE c vs l2 (setAttr ov attr v) fun _ l3 => Ks .next vs l3) (q : swapsWith e (some (o.Attribute attr p')) pos.line c.env = pure false) :
    GS c vs led (exec (.Assign [.Attribute o attr p'] e pos) c.env) Ks :=
  fun _ _ A => plainObj_wpAny_Assign_Attribute (h.th A fun _ _ _ A1 h1 => h1.th A1 fun _ _ _ A2 h2 => h2.th A2 fun _ _ _ A3 h3 => ⟨_, _, A3, h3⟩) q
/-! texts -/
theorem o_adds {x y : Str} {t u : Tok} (a : x.length ≤ 1000) (b : y.length ≤ 1000) (h : ∀ t, K (.str (x ++ y) t) led) : GE c vs led (binaryOp .Add (.str x t) (.str y u)) K := fun _ s A => by
  refine P.add_str ?_
  cases hx : x.length == 0 with
  | true => rw [if_pos rfl]; have := h u; rw [Str.append_left_empty hx] at this; exact ⟨_, A, this⟩
  | false =>
    rw [if_neg Bool.false_ne_true]
    cases hy : y.length == 0 with
    | true => rw [if_pos rfl]; have := h t; rw [Str.append_right_empty hy] at this; exact ⟨_, A, this⟩
    | false =>
      rw [if_neg Bool.false_ne_true]
      refine ⟨?_, _, A.tok _, h _⟩
      rw [Str.length_append, sizeLine_eq]; omega
theorem o_ins {x y : Str} {t u : Tok} (h : K (.bool !(Builtin.Str.occurrences x y 0 x.length 1).isEmpty) led) : GE c vs led (compareOp .In (.str y u) (.str x t)) K := fun _ _ A => P.in_str ⟨_, A, h⟩
theorem o_nes {x y : Str} {t u : Tok} (h : K (.bool (x != y)) led) : GE c vs led (compareOp .NotEq (.str x t) (.str y u)) K := fun _ _ A => P.ne_str ⟨_, A, by
  have : (x.cps.toList != y.cps.toList) = (x != y) := by
    cases e : (x == y) with
    | true => have := eq_of_beq e; subst this; simp
    | false =>
      have hn : x ≠ y := fun q => by rw [q, beq_self_eq_true] at e; cases e
      have : x.cps.toList ≠ y.cps.toList := fun q => hn (by cases x; cases y; simp only [Str.mk.injEq]; exact Array.toList_inj.mp q)
      rw [bne_iff_ne.mpr this, bne_iff_ne.mpr hn]
  rw [this]; exact h⟩
/-! loops -/
/-- a loop over what v names, its turns and its end -/
noncomputable def GL (c : Cx W f n) (vs : List (Option Value)) (led : Led) (v : Value) (x : Str) (body : List Stmt) (Ks : KS) : Prop :=
  ∀ s₀ s, At c vs led s₀ s → wpAny W.M c.A (pyIter v) (fun it s₂ => LoopAtV pg W.w c.A c.h₀ c.env x body (fun fl s' => ∃ vs' l, At c vs' l s₀ s' ∧ Ks fl vs' l) No it s₂) No s
theorem s_for {x : Str} {p' : Pos} {iter : Expr} {body : List Stmt} (h : GE c vs led (eval iter c.env) fun v l1 => GL c vs l1 v x body Ks) (hx : f.sc.names.lookup x = some .local) (q : ∀ x, foldedSetIterable iter c.env x = pure x) :
    GS c vs led (exec (.For (.Name x p') iter body [] pos) c.env) Ks := fun s₀ s A =>
  For_invV c.h₀ hx (by show (f.sc.kind == .class || (f.sc.kind == .module && c.L != mainGlobals)) = false; rw [c.ok.kind]; rfl) (h.th A fun v l s1 A1 h1 => h1 s₀ s1 A1) q PassesOwn.never
/-- what a turn must end in -/
noncomputable abbrev turnK (Ks : KS) (J : List (Option Value) → Led → Prop) (p : Addr × Obj) (own : Led) : KS := fun fl vs l => match fl with
  | .ret v => Ks (.ret v) vs l
  | .brk => Ks .next vs l
  | _ => ∃ nx, (∀ p ∈ nx, p ∈ l) ∧ (∀ p ∈ own, p ∈ l) ∧ OwnOff own (nx.map (·.1)) ∧ p ∈ nx ∧ J vs nx
theorem l_list {x : Str} {body : List Stmt} {l : Addr} {ws : List Value} {nn : Nat} (J : Nat → List (Option Value) → Led → Prop) (hl : (l, listOf ws.toArray nn) ∈ led) (hj : J 0 vs led)
    (turn : ∀ j v vs1 nx own, ws[j]? = some v → OwnOff own (nx.map (·.1)) → (l, listOf ws.toArray nn) ∈ nx → J j vs1 nx → ∃ vs2, Put f.ns vs1 x v vs2 ∧ GS c vs2 (nx ++ own) (execs body c.env) (turnK Ks (J (j + 1)) (l, listOf ws.toArray nn) own))
    (done : ∀ vs1 nx, J ws.length vs1 nx → Ks .next vs1 nx) : GL c vs led (.ref l) x body Ks := fun s₀ s1 A1 => by
  refine kdl_iter (fun j m nx => ∃ vs1, m = look f.ns vs1 ∧ J j vs1 nx) rfl hl A1.F A1.N ⟨_, rfl, hj⟩ ?_ ?_
  · rintro j v m₁ nx h' tk own hv hoff hm ⟨vs1, rfl, hj1⟩ F1 N1
    obtain ⟨vs2, hp, hb⟩ := turn j v vs1 nx own hv hoff hm hj1
    have e : (fun y => if y = x then some v else look f.ns vs1 y) = look f.ns vs2 := funext fun y => (hp.look c.ok.nodup y).symm
    rw [e] at F1
    refine hb.th (s₀ := s₀) ⟨F1, N1, A1.g, A1.d, A1.o⟩ fun fl vs3 l3 s3 A3 h3 => ?_
    have fin : (∃ nx', (∀ p ∈ nx', p ∈ l3) ∧ (∀ p ∈ own, p ∈ l3) ∧ OwnOff own (nx'.map (·.1)) ∧ (l, listOf ws.toArray nn) ∈ nx' ∧ J (j + 1) vs3 nx') → InvEndG c.h₀ c.env.locals (fun m' nx => (l, listOf ws.toArray nn) ∈ nx ∧ ∃ vs1, m' = look f.ns vs1 ∧ J (j + 1) vs1 nx) own { s1 with heap := h', toks := tk } s3 := by
      rintro ⟨nx', a, b, d, e, g⟩
      refine ⟨s3.heap, s3.toks, _, l3, nx', ?_, A3.F, A3.N, a, b, d, e, _, rfl, g⟩
      obtain ⟨_, _, _, _, _⟩ := s3
      have := A3.g.trans A1.g.symm; have := A3.d.trans A1.d.symm; have := A3.o.trans A1.o.symm
      simp_all
    cases fl with
    | ret v => exact ⟨_, _, A3, h3⟩
    | brk => exact ⟨_, _, A3, h3⟩
    | next => exact fin h3
    | cont => exact fin h3
  · rintro m₁ nx h' tk ⟨vs1, rfl, hj1⟩ F1 N1
    exact ⟨_, _, ⟨F1, N1, A1.g, A1.d, A1.o⟩, done _ _ hj1⟩
/-- a turn's end -/
theorem t_end {J : List (Option Value) → Led → Prop} {p : Addr × Obj} {own nx : Led} (a : ∀ p ∈ nx, p ∈ led) (b : ∀ p ∈ own, p ∈ led) (d : OwnOff own (nx.map (·.1))) (e : p ∈ nx) (g : J vs nx) : turnK Ks J p own .next vs led := ⟨nx, a, b, d, e, g⟩
theorem g_smeth {o : Expr} {name : Str} {apos : Pos} {args : List Expr} {x : Str} {t : Tok} (ho : GE c vs led (eval o env) fun v l => v = .str x t ∧ l = led)
    (h : GE c vs led (getMethod (.str x t) name (plOf o env)) fun fx l2 => GE c vs l2 (callWith pos fx.1 fx.2 (backTo pos (starEach args env)) []) K)
    (e : eval ((o.Attribute name apos).Call args [] pos) env = (do let ov ← eval o env; standAt apos.atName; let (f, first) ← holding [ov] (getMethod ov name (plOf o env)); callWith pos f first (backTo pos (starEach args env)) [])) :
    GE c vs led (eval ((o.Attribute name apos).Call args [] pos) env) K := g_mcall (ho.mono fun v l h1 => by obtain ⟨rfl, rfl⟩ := h1; exact h) e
theorem s_while {test : Expr} {body : List Stmt} (J : Nat → List (Option Value) → Led → Prop) (n₀ : Nat) (init : J n₀ vs led)
    (turn : ∀ m vs1 l1, J m vs1 l1 → GT c vs1 l1 test fun b l2 => sel b (GS c vs1 l2 (execs body c.env) fun fl vs3 l3 => match fl with
      | .ret v => Ks (.ret v) vs3 l3
      | .brk => Ks .next vs3 l3
      | _ => ∃ m' nx, m' < m ∧ (∀ p ∈ nx, p ∈ l3) ∧ J m' vs3 nx) (Ks .next vs1 l2)) : GS c vs led (exec (.While test body [] pos) c.env) Ks := fun s₀ s A => by
  refine While_inv2 (fun m fr nx => ∃ vs1, fr = look f.ns vs1 ∧ J m vs1 nx) (n₀ := n₀) A.F A.N ⟨_, rfl, init⟩ ?_ PassesOwn.never
  rintro m fr nx h tk F1 N1 ⟨vs1, rfl, hj⟩
  refine (turn m vs1 nx hj).th (s₀ := s₀) ⟨F1, N1, A.g, A.d, A.o⟩ fun b l2 s2 A2 h2 => sel_map h2 (fun h2 => ?_) fun h2 => ⟨_, _, A2, h2⟩
  refine h2.th A2 fun fl vs3 l3 s3 A3 h3 => ?_
  have fin : (∃ m' nx, m' < m ∧ (∀ p ∈ nx, p ∈ l3) ∧ J m' vs3 nx) → ∃ h' tk m₂ news₂ n', s3 = { s with heap := h', toks := tk } ∧ Fr c.h₀ c.L h' m₂ ∧ News c.h₀ c.L h' news₂ ∧ n' < m ∧ ∃ vs1, m₂ = look f.ns vs1 ∧ J n' vs1 news₂ := by
    rintro ⟨m', nx, a, b, d⟩
    refine ⟨s3.heap, s3.toks, _, nx, m', ?_, A3.F, fun p hp => A3.N p (b p hp), a, _, rfl, d⟩
    obtain ⟨_, _, _, _, _⟩ := s3
    have := A3.g.trans A.g.symm; have := A3.d.trans A.d.symm; have := A3.o.trans A.o.symm
    simp_all
  cases fl with
  | ret v => exact ⟨_, _, A3, h3⟩
  | brk => exact ⟨_, _, A3, h3⟩
  | next => exact fin h3
  | cont => exact fin h3
theorem s_expr {e : Expr} (h : GE c vs led (eval e c.env) fun v l => v = .none ∧ Ks .next vs l) (q : interactive c.env = false) (q' : swapsWith e none pos.line c.env = pure false) : GS c vs led (exec (.Expr e pos) c.env) Ks :=
  fun _ _ A => wpAny_Expr (h.th A fun v l s1 A1 h1 => by rw [h1.1]; exact ⟨_, _, A1, h1.2⟩) q q'
end
end Mine
namespace Mine
open Ob
section
variable {W : Wd} {f : Fn} {n : Nat} {c : Cx W f n} {vs : List (Option Value)} {led led' : Led} {K : Value → Led → Prop} {Ks : KS} {pos : Pos} {rd : Addr} {ro : Obj} {rest : Led}
theorem st_name {x : Str} {v : Value} {vs' : List (Option Value)} {s₀ s : Shared} {Q : Unit → Shared → Prop} (A : At c vs led s₀ s) (hp : Put f.ns vs x v vs') (h : ∀ s', At c vs' led s₀ s' → Q () s') : wpAny W.M c.A (storeName c.env x v) Q No s :=
  storeX_L A.F A.N (fun h' F' N' => h _ (A.to (by
    have : (fun y => if y = x then some v else look f.ns vs y) = look f.ns vs' := funext fun y => (hp.look c.ok.nodup y).symm
    rw [this] at F'; exact F') N')) c.ok.kind (c.ok.loc _ hp.mem).1
/-- a tuple of two, laid into two locals -/
noncomputable def Two (f : Fn) (vs : List (Option Value)) (x y : Str) (Ks : KS) (v : Value) (l : Led) : Prop := ∃ T a b m0 vs1 vs2, v = .ref T ∧ (T, ({ cls := .type "tuple", data := .seq [a, b].toArray m0 } : Obj)) ∈ l ∧ Put f.ns vs x a vs1 ∧ Put f.ns vs1 y b vs2 ∧ Ks .next vs2 l
theorem two_k {x y : Str} {T : Addr} {a b : Value} {m0 : Nat} {vs1 vs2 : List (Option Value)} (m : (T, ({ cls := .type "tuple", data := .seq [a, b].toArray m0 } : Obj)) ∈ led) (p : Put f.ns vs x a vs1) (q : Put f.ns vs1 y b vs2) (h : Ks .next vs2 led) : Two f vs x y Ks (.ref T) led := ⟨_, _, _, _, _, _, rfl, m, p, q, h⟩
theorem two_k1 {x y : Str} {T : Addr} {p : Addr × Obj} {a b : Value} {vs1 vs2 : List (Option Value)} (h1 : Put f.ns vs x a vs1) (h2 : Put f.ns vs1 y b vs2) (h : Ks .next vs2 (p :: (T, tupO [a, b]) :: rest)) : Two f vs x y Ks (.ref T) (p :: (T, tupO [a, b]) :: rest) := two_k (.tail _ (.head _)) h1 h2 h
noncomputable def TwoW (f : Fn) (vs : List (Option Value)) (x y : Str) (Ks : KS) (v : Value) (l : Led) : Prop := ∃ T a b vs1 vs2, v = .ref T ∧ (T, tupO [a, b]) ∈ l ∧ Put f.ns vs y b vs1 ∧ Put f.ns vs1 x a vs2 ∧ Ks .next vs2 l
theorem twoW_k {x y : Str} {T : Addr} {a b : Value} {vs1 vs2 : List (Option Value)} (m : (T, tupO [a, b]) ∈ led) (p : Put f.ns vs y b vs1) (q : Put f.ns vs1 x a vs2) (h : Ks .next vs2 led) : TwoW f vs x y Ks (.ref T) led := ⟨_, _, _, _, _, rfl, m, p, q, h⟩
theorem twoW_k1 {x y : Str} {T : Addr} {p : Addr × Obj} {a b : Value} {vs1 vs2 : List (Option Value)} (h1 : Put f.ns vs y b vs1) (h2 : Put f.ns vs1 x a vs2) (h : Ks .next vs2 (p :: (T, tupO [a, b]) :: rest)) : TwoW f vs x y Ks (.ref T) (p :: (T, tupO [a, b]) :: rest) := twoW_k (.tail _ (.head _)) h1 h2 h
theorem s_two {x y : Str} {px py tp : Pos} {k : Nat} {e : Expr} (h : GE c vs led (eval e c.env) (Two f vs x y Ks)) (hs : swapsWithSole [.Tuple [.Name x px, .Name y py] k tp] e pos.line c.env = pure false)
    (hw : swappedStores [.Tuple [.Name x px, .Name y py] k tp] e c.env = pure none) : GS c vs led (exec (.Assign [.Tuple [.Name x px, .Name y py] k tp] e pos) c.env) Ks := fun s₀ s A =>
  Assign_Tuple (h.th A fun v l s1 A1 ⟨T, a, b, m0, vs1, vs2, hv, m, p, q, hk⟩ => by
    subst hv
    refine unpackN_ (items := #[a, b]) A1.F A1.N ⟨_, (A1.N _ m).1, rfl, m0, rfl⟩ rfl rfl rfl fun h' F' N' => ?_
    refine assignInOrder_cons (assign_Name (st_name (s₀ := s₀) ⟨F', N', A1.g, A1.d, A1.o⟩ p fun s2 A2 => assignInOrder_cons (assign_Name (st_name A2 q fun s3 A3 => assignInOrder_nil ⟨_, _, A3, hk⟩)))) ) hs hw
theorem s_twoW {x y : Str} {px py tp : Pos} {k : Nat} {e : Expr} (h : GE c vs led (eval e c.env) (TwoW f vs x y Ks)) (hs : swapsWithSole [.Tuple [.Name x px, .Name y py] k tp] e pos.line c.env = pure false)
    (hw : swappedStores [.Tuple [.Name x px, .Name y py] k tp] e c.env = pure (some [x, y])) : GS c vs led (exec (.Assign [.Tuple [.Name x px, .Name y py] k tp] e pos) c.env) Ks := fun s₀ s A =>
  Assign_Tuple_swapped (h.th A fun v l s1 A1 ⟨T, a, b, vs1, vs2, hv, m, p, q, hk⟩ => by
    subst hv
    refine unpackItemsN_ (items := #[a, b]) A1.F A1.N ⟨_, (A1.N _ m).1, rfl, 0, rfl⟩ rfl rfl fun h' F' N' => ?_
    refine assignInOrder_cons (bindName_ (st_name (s₀ := s₀) ⟨F', N', A1.g, A1.d, A1.o⟩ p fun s2 A2 => assignInOrder_cons (bindName_ (st_name A2 q fun s3 A3 => assignInOrder_nil ⟨_, _, A3, hk⟩)))) ) hs hw
theorem o_gti {a b : Int} {t u : Tok} (h : K (.bool (decide (b < a))) led) : GE c vs led (compareOp .Gt (.int a t) (.int b u)) K := fun _ _ A => PyProof.Rows.gt_int ⟨_, A, h⟩
theorem o_eqi {a b : Int} {t u : Tok} (h : K (.bool (a == b)) led) : GE c vs led (compareOp .Eq (.int a t) (.int b u)) K := fun _ _ A => PyProof.Rows.eq_int ⟨_, A, h⟩
theorem o_nei {a b : Int} {t u : Tok} (h : K (.bool (a != b)) led) : GE c vs led (compareOp .NotEq (.int a t) (.int b u)) K := fun _ _ A => PyProof.Rows.ne_int ⟨_, A, h⟩
/-! FIGURE_NAMES -/
theorem fig_dict (P : Params) : ∃ es m, (KF P).lookup 132 = some ⟨.type "dict", none, .dict es m, #[]⟩ ∧ KeysLit P es.toList :=
  ⟨_, _, (by kernel_rfl : (KF P).lookup 132 = some (o132 P)), by k_keys⟩
theorem b_notin {x : Str} {t : Tok} {o : Option Value} (e : nsIn W.K 132 x = some o) (h : K (.bool (!o.isSome)) led) : GE c vs led (compareOp .NotIn (.str x t) (.ref 132)) K := fun _ _ A => by
  obtain ⟨es, m, hl, hk⟩ := fig_dict W.w.params
  exact wpAny_notIn_of (strKind_is pg W.w x t) (by decide) (mapOf_K (prog := pg) (c.X.keeps A.F.keep) hl hk) (by rw [find_K hl e]; exact ⟨_, A.tok _, h⟩)
theorem b_fig {value slice : Expr} {x : Str} {t : Tok} {v : Value} (e : nsIn W.K 132 x = some (some v)) (h : K v led) (hs : subscripted slice false (.ref 132) (.str x t) = operate [.ref 132, .str x t] (getItem (.ref 132) (.str x t))) :
    GE c vs led (subscriptTail value slice (.ref 132) (.str x t)) K := fun _ _ A => by
  obtain ⟨es, m, hl, hk⟩ := fig_dict W.w.params
  exact topItem_K A.F c.X hl hk e ⟨_, A.tok _, h⟩ hs
theorem sel_y {p : Prop} [Decidable p] {A B : Prop} (hp : p) (h : A) : sel (decide p) A B := sel_eqt (decide_eq_true hp) h
theorem sel_n {p : Prop} [Decidable p] {A B : Prop} (hp : ¬ p) (h : B) : sel (decide p) A B := sel_eqf (decide_eq_false hp) h
end
end Mine
namespace Mine
open Ob
/-- the ledger with l's entry taken out -/
noncomputable def off (l : Addr) (led : Led) : Led := led.filter fun p => decide (p.1 ≠ l)
theorem off_ne {l : Addr} {led : Led} : ∀ p ∈ off l led, p.1 ≠ l := fun _ hp => of_decide_eq_true (List.mem_filter.mp hp).2
theorem off_sub {l : Addr} {led : Led} : ∀ p ∈ off l led, p ∈ led := fun _ hp => (List.mem_filter.mp hp).1
theorem off_mem {l : Addr} {led : Led} {p : Addr × Obj} (h : p ∈ led) (hn : p.1 ≠ l) : p ∈ off l led := List.mem_filter.mpr ⟨h, decide_eq_true hn⟩
theorem Ext.put {rd l : Addr} {o : Obj} {a b : Led} (x : Ext rd a b) (h : rd < l) (k : ∀ q ∈ a, q.1 < l) : Ext rd a ((l, o) :: off l b) :=
  ⟨fun p hp => .tail _ (off_mem (x.sub p hp) (Nat.ne_of_lt (k p hp))), fun p hp => by
    rcases List.mem_cons.mp hp with rfl | hp
    · exact .inr ⟨h, k⟩
    · exact x.new p (off_sub p hp)⟩
section
variable {W : Wd} {f : Fn} {n : Nat} {c : Cx W f n} {vs : List (Option Value)} {led led' : Led} {K : Value → Led → Prop} {Ks : KS} {pos : Pos} {rd : Addr} {ro : Obj} {rest : Led} {env : Env}
theorem m_append {l : Addr} {ws : List Value} {m : Nat} {pl : Sem Bool} {KM : Value × List Value → Led → Prop} (hm : (l, listOf ws.toArray m) ∈ led) (h : KM (.builtin "list.append", [.ref l]) led) : GE c vs led (getMethod (.ref l) (Str.ofString "append") pl) KM :=
  fun _ _ A => getMethod_append_N A.N hm ⟨_, A, h⟩
theorem upd_off {l : Addr} {o o' : Obj} {led : Led} : Upd l o o' ((l, o) :: off l led) ((l, o') :: off l led) := .head off_ne
/-- append to a list that stands in the ledger -/
theorem b_append {l : Addr} {ws : List Value} {m : Nat} {v : Value} (hm : (l, listOf ws.toArray m) ∈ led) (hz : ws.length ≤ sizeLine) (h : K .none ((l, listOf (ws ++ [v]).toArray (m + 1)) :: off l led)) : GE c vs led (call (.builtin "list.append") [.ref l, v]) K := fun s₀ s A => by
  have A' : At c vs ((l, listOf ws.toArray m) :: off l led) s₀ s := A.sub fun p hp => (List.mem_cons.mp hp).elim (fun e => e ▸ hm) (off_sub p)
  refine append_K A'.F A'.N upd_off (fun h' F' N' => ⟨_, A.to F' N', ?_⟩) (by rw [List.size_toArray]; exact hz)
  rw [show ws.toArray.push v = (ws ++ [v]).toArray by simp]
  exact h
theorem r_append {l : Addr} {ws : List Value} {m : Nat} {v : Value} (hm : (l, listOf ws.toArray m) ∈ rest) (hl : rd < l) (hz : ws.length ≤ sizeLine) (h : K .none ((rd, ro) :: (l, listOf (ws ++ [v]).toArray (m + 1)) :: off l rest)) : GE c vs ((rd, ro) :: rest) (call (.builtin "list.append") [.ref l, v]) K := fun s₀ s A =>
  (b_append (K := fun v' l' => v' = .none ∧ l' = (l, listOf (ws ++ [v]).toArray (m + 1)) :: off l ((rd, ro) :: rest)) (.tail _ hm) hz ⟨rfl, rfl⟩).th A fun v' l' s1 A1 ⟨e1, e2⟩ => by
    subst e1; subst e2
    refine ⟨_, A1.sub fun p hp => ?_, h⟩
    rcases List.mem_cons.mp hp with rfl | hp
    · exact .tail _ (off_mem (.head _) (Nat.ne_of_lt hl))
    · rcases List.mem_cons.mp hp with rfl | hp
      · exact .head _
      · exact .tail _ (off_mem (.tail _ (off_sub p hp)) (off_ne p hp))
theorem w_ty {T : String} {e : Expr} {rest : List Expr} (h : GE c vs led (spliced (backTo pos (starEach (e :: rest) env))) fun ws l => GE c vs l (call (.type T) ws) K)
    (q : starEach (e :: rest) env = (false, eval e env) :: starEach rest env) (q' : (backTo pos (starEach rest env)).any (·.1) = false) : GE c vs led (callWith pos (.type T) [] (backTo pos (starEach (e :: rest) env)) []) K :=
  fun s₀ _ A => callWith_type1 (h.th A fun _ _ _ A1 h1 => h1 s₀ _ A1) q q'
theorem g_ty {x : Str} {xp : Pos} {T : String} {a : Expr} {as : List Expr} (hx : Gv W.K x (.type T)) (hs : f.sc.names.lookup x = some .globalImplicit)
    (h : GE c vs led (spliced (backTo pos (starEach (a :: as) c.env))) fun vs' l => GE c vs l (call (.type T) vs') K)
    (e : eval ((Expr.Name x xp).Call (a :: as) [] pos) c.env = (do let f ← eval (Expr.Name x xp) c.env; callWith pos f [] (backTo pos (starEach (a :: as) c.env)) (backToKw pos (keywordEach [] c.env))))
    (q : starEach (a :: as) c.env = (false, eval a c.env) :: starEach as c.env) (q' : (backTo pos (starEach as c.env)).any (·.1) = false) :
    GE c vs led (eval ((Expr.Name x xp).Call (a :: as) [] pos) c.env) K :=
  g_call (g_glo hx hs (w_ty h q q')) e
theorem r_tupOf {r tl : Addr} {us : List Value} {ts : List (Str × Str)} {l : Addr} {ws : List Value} {m : Nat} (R : RdOk W.w rest r rd tl us ts) (hm : (l, listOf ws.toArray m) ∈ rest) (hz : ws.length ≤ 16384) (h : ∀ D, rd < D → (∀ p ∈ rest, p.1 < D) → RdOk W.w ((D, tupO ws) :: rest) r rd tl us ts → K (.ref D) ((rd, ro) :: (D, tupO ws) :: rest)) : GE c vs ((rd, ro) :: rest) (call (.type "tuple") [.ref l]) K :=
  fun _ _ A => kde_tupleOf (zs := ws) A.F A.N (News.isList A.N (.tail _ hm)) (by rw [List.size_toArray]; exact hz) (by simp) fun D _ F' N' l => ⟨_, (A.to F' N').sub swap_sub, h D (l _ (.head _)) (fun p hp => l p (.tail _ hp)) (R.ext (Ext.refl.cons (l _ (.head _)) fun p hp => l p (.tail _ hp)))⟩
end
end Mine
namespace Mine
open Ob PySem.Spec LCg LCt
noncomputable def SrcStr (A : Around) (h₀ : Heap) (L : Addr) (m : Str → Option Value) (R : Str → Shared → Led → Prop) (xv : Value) (s₁ : Shared) : Prop :=
  ∃ (tx : Str) (t : Tok) (news : Led), xv = .str tx t ∧ A.handled = none ∧ Fr h₀ L s₁.heap m ∧ News h₀ L s₁.heap news ∧ tx.cps.size ≤ sizeLine ∧ tx.cps.all (· < 128) = true ∧ ∀ g, R tx { s₁ with heap := g } news
open PySem.Spec in
theorem Assign_LC_str {prog : Program} {w : World} {A : Around} {E : Value → Shared → Prop} {s : Shared} {h₀ : Heap} {L : Addr} {m : Str → Option Value} {env : Env} {elt iter : Expr} {x y : Str} {px py : Pos} {scope : Scope} {cl : List (Str × Addr)} {pos spos : Pos} {Q : Flow → Shared → Prop}
    (F₀ : Fr h₀ L s.heap m) (hLe : env.locals = L)
    (hsw : swapsWith (.ListComp elt [⟨.Name x px, iter, [], 0⟩] scope pos) (some (.Name y py)) spos.line env = pure true)
    (hclos : closureFor scope env = pure cl) (hcell : ∀ z ∈ scope.names, z.2 ≠ .cell) (hkind : scope.kind = .function)
    (hnames : ∀ z ∈ scope.names, z.2 = .local → scope.names.lookup z.1 = some .local) (hx : scope.names.lookup x = some .local)
    (hy : env.kindOf y = some .local) (hp : (env.scope.kind == .class || (env.scope.kind == .module && env.locals != env.globals)) = false)
    (h : wpAny (model prog w) A (eval iter env) (SrcStr A h₀ L m fun tx s₁ news => LCg.CompRest prog w A h₀ L m env elt x scope cl s₁ (fun _ => True) (SignAt tx) (LCg.FinA h₀ L m s₁ y Q) tx.cps.size 0 [] news) E s)
    (hs : ∀ x, foldedSetIterable iter env x = pure x := by intro _; rfl) :
    wpAny (model prog w) A (exec (.Assign [.Name y py] (.ListComp elt [⟨.Name x px, iter, [], 0⟩] scope pos) spos) env) Q E s := by
  subst hLe
  rw [exec_Assign_Name_used _ _ _ _ hsw]
  refine wpAny_bind (wpAny_standAt (wpAny_bind ?_))
  show wpAny _ A (do let _ ← comprehension (.ListComp elt [⟨.Name x px, iter, [], 0⟩] scope pos) scope env _ (newList []) false (eval iter env) (some (assign (.Name y py) env))) _ _ s
  refine wpAny_bind (wpAny_mono (wpAny_comprehension_free (use := some (assign (.Name y py) env)) (Q := fun _ s' => Q .next s') rfl hs hclos hkind hnames
    (wpAny_mono h (fun xv s₁ h₁ => ?_) fun _ _ e => e)) (fun _ s' hq => wpAny_pure (wpAny_pure hq)) fun _ _ e => e)
  obtain ⟨tx, t, news, rfl, hh, F, N, hsz, ha, R⟩ := h₁
  have up : ∀ (o' : Obj) b o, s₁.heap.get? b = some o → (s₁.heap.push o').get? b = some o := fun o' b o e => Heap.get?_push_of_some _ e
  refine wpAny_pyIter_ascii ha ?_
  refine LCg.block_U (Walks.strAscii hh _ tx t) hsz (fun i h st => by obtain ⟨o, e, _⟩ := st; exact ⟨o, e⟩) (fun i h h' o nw st e e' _ _ _ => by obtain ⟨o', q, r⟩ := st; rw [e] at q; cases q; exact ⟨o, e', r⟩) hcell hkind hx ⟨_, Heap.get?_push_size _ rfl, rfl, rfl⟩ (fun b hb => ?_)
    (F.keeps (up _)) (N.grown (up _)) (Nat.ne_of_lt F.ns.lt) (next_is_new F) (fun p hp => Nat.ne_of_lt (Heap.lt_size (N p hp).1)) trivial (R _) ?_
  · rw [List.mem_singleton.mp hb]
    show s₁.heap.objs.size < (s₁.heap.push _).objs.size
    rw [Heap.size_push]; exact Nat.lt_succ_self _
  · intro D C h' tk m' ys news' F' N' o1 hn hC₀ hD₀ hCL hDL hCD offC fin
    show wpAny _ A (assign (.Name y py) env (.ref D)) _ _ _
    refine wpAny_assign_Name (wpAny_storeName_local hy F'.ns (fun h₂ hn₂ hs₂ => ?_) hp)
    have hL₀ : h₀.get? env.locals = none := Heap.get?_none_of_le F'.above
    have F₂ : Fr h₀ env.locals h₂ (fun z => if z = y then some (.ref D) else m z) := ⟨hn₂, fun b o e => hs₂.extBut b o (fun q => by rw [q, hL₀] at e; cases e) (F'.keep b o e), F'.above⟩
    refine ⟨m', hn.sameBut hs₂ hCL, fun h'' hs'' => fin D h'' _ (F₂.change hs'' hCL hC₀) (fun p hp => ?_) o1⟩
    have z : h₂.get? p.1 = some p.2 := hs₂.extBut _ _ (N' p hp).2.1 (N' p hp).1
    refine ⟨hs''.extBut _ _ ?_ z, (N' p hp).2⟩
    rcases List.mem_cons.mp hp with rfl | hp
    · exact Ne.symm hCD
    · exact offC p hp
section
variable {W : Wd} {f : Fn} {n : Nat} {c : Cx W f n} {vs : List (Option Value)} {led : Led}
/-- in a comprehension's own names, where x stands for v: t ends with what y says, and touches nothing but tokens -/
noncomputable def PureC {α : Type} (c : Cx W f n) (x : Str) (scope : Scope) (cl : List (Str × Addr)) (t : Env → Sem α) (v : Value) (y : α → Prop) : Prop :=
  ∀ (s : Shared) (C : Addr) (oC : Obj) (m₂ m : Str → Option Value) (l : Led) (Q : α → Shared → Prop) (E : Value → Shared → Prop), Fr c.h₀ c.L s.heap m → News c.h₀ c.L s.heap l → (C, oC) ∈ l → NsObj oC m₂ → m₂ x = some v →
    (∀ r tk, y r → Q r { s with toks := tk }) → wpAny W.M c.A (t (compEnvC scope cl C c.env)) Q E s
theorem rest_pure {elt : Expr} {x : Str} {scope : Scope} {cl : List (Str × Addr)} {s : Shared} {S : Led → Prop} {P R : Nat → Value → Prop} {Fin : List Value → Led → Prop} {N : Nat} {m : Str → Option Value} {news : Led}
    (hel : ∀ i v, P i v → PureC c x scope cl (eval elt) v (R i)) (hS : S news) (hfin : ∀ ys, ys.length = N → (∀ i y, ys[i]? = some y → R i y) → Fin ys news) :
    ∀ k i ys, i + k = N → ys.length = i → (∀ j y, ys[j]? = some y → R j y) → CompRest pg W.w c.A c.h₀ c.L m c.env elt x scope cl s S P Fin k i ys news
  | 0, i, ys, e, hl, hr => hfin ys (by omega) hr
  | k + 1, i, ys, e, hl, hr => by
    intro v I oI C oC D m₂ h tk E' hP hC hx F N off ne
    refine hel i v hP { s with heap := h, toks := tk } C oC m₂ m _ _ _ F N (.tail _ (.head _)) hC hx fun r tk' hR => ?_
    refine CompEnd.intro F N news (fun _ h => h) off hS (rest_pure hel hS hfin k (i + 1) (ys ++ [r]) (by omega) (by simp [hl]) fun j y hj => ?_)
    by_cases q : j < ys.length
    · rw [List.getElem?_append_left q] at hj; exact hr _ _ hj
    · rw [List.getElem?_append_right (by omega)] at hj
      have : j - ys.length = 0 := by
        rcases Nat.eq_zero_or_pos (j - ys.length) with h | h
        · exact h
        · rw [List.getElem?_eq_none (show [r].length ≤ _ from h)] at hj; cases hj
      rw [this] at hj
      obtain rfl : r = y := Option.some.inj hj
      obtain rfl : j = i := by omega
      exact hR
theorem restT_no {ct elt : Expr} {x : Str} {scope : Scope} {cl : List (Str × Addr)} {s : Shared} {S : Led → Prop} {P : Nat → Value → Prop} {Fin : List Value → Led → Prop} {m : Str → Option Value} {news : Led}
    (hel : ∀ i v, P i v → PureC c x scope cl (fun e => isTrue ct e (eval ct e)) v (fun b => b = false)) (hS : S news) (hfin : Fin [] news) :
    ∀ k i, CompRestT pg W.w c.A c.h₀ c.L m c.env ct elt x scope cl s S P Fin k i [] news
  | 0, _ => hfin
  | k + 1, i => by
    intro v I oI C oC D m₂ h tk E' hP hC hx F N off ne
    refine hel i v hP { s with heap := h, toks := tk } C oC m₂ m _ _ _ F N (.tail _ (.head _)) hC hx fun r tk' hR => ?_
    subst hR
    simp only [Bool.false_eq_true, if_false]
    exact CompEnd.intro F N news (fun _ h => h) off hS (restT_no hel hS hfin k (i + 1))
variable {Ks : Flow → List (Option Value) → Led → Prop}
theorem s_lcStr {elt iter : Expr} {x y : Str} {px py : Pos} {scope : Scope} {cl : List (Str × Addr)} {pos spos : Pos} {R : Nat → Value → Prop}
    (h : GE c vs led (eval iter c.env) fun v l => ∃ tx t, v = .str tx t ∧ tx.cps.size ≤ sizeLine ∧ tx.cps.all (· < 128) = true ∧ (∀ i v, SignAt tx i v → PureC c x scope cl (eval elt) v (R i)) ∧
      ∀ D ys, ys.length = tx.cps.size → (∀ i y, ys[i]? = some y → R i y) → Off1 D l → ∃ vs', Put f.ns vs y (.ref D) vs' ∧ Ks .next vs' ((D, lst ys) :: l))
    (hsw : swapsWith (.ListComp elt [⟨.Name x px, iter, [], 0⟩] scope pos) (some (.Name y py)) spos.line c.env = pure true)
    (hclos : closureFor scope c.env = pure cl) (hcell : ∀ z ∈ scope.names, z.2 ≠ .cell) (hkind : scope.kind = .function)
    (hnames : ∀ z ∈ scope.names, z.2 = .local → scope.names.lookup z.1 = some .local) (hx : scope.names.lookup x = some .local)
    (hy : y ∈ f.ns) (hs : ∀ x, foldedSetIterable iter c.env x = pure x := by intro _; rfl) :
    GS c vs led (exec (.Assign [.Name y py] (.ListComp elt [⟨.Name x px, iter, [], 0⟩] scope pos) spos) c.env) Ks := by
  intro s₀ s A
  have hk : c.env.scope.kind = .function := c.ok.kind
  have hp : (c.env.scope.kind == .class || (c.env.scope.kind == .module && c.env.locals != c.env.globals)) = false := by rw [hk]; rfl
  refine Assign_LC_str A.F rfl hsw hclos hcell hkind hnames hx (by exact (c.ok.loc y hy).1) hp (h.th A ?_) hs
  rintro v l s' A' ⟨tx, t, rfl, h1, h2, hel, hf⟩
  refine ⟨tx, t, l, rfl, rfl, A'.F, A'.N, h1, h2, fun g => ?_⟩
  refine rest_pure hel trivial (fun ys hl hr => ?_) _ 0 [] (Nat.zero_add _) rfl (fun j y hj => by simp at hj)
  intro D h' tk F N o
  obtain ⟨vs', hput, hK⟩ := hf D ys hl hr o
  refine ⟨vs', _, A'.to (by have : look f.ns vs' = _ := funext (hput.look c.ok.nodup); rw [this]; exact F) N, hK⟩
theorem o_lcNone {ct elt iter : Expr} {x : Str} {px : Pos} {scope : Scope} {cl : List (Str × Addr)} {pos : Pos} {K : Value → Led → Prop}
    (h : GE c vs led (eval iter c.env) fun v l => ∃ ax its k, v = .ref ax ∧ (ax, ({ cls := .type "list", data := .seq its k } : Obj)) ∈ l ∧ its.size ≤ sizeLine ∧ (∀ (i : Nat) v, its[i]? = some v → PureC c x scope cl (fun e => isTrue ct e (eval ct e)) v (fun b => b = false)) ∧
      ∀ D, Off1 D l → K (.ref D) ((D, lst []) :: l))
    (hclos : closureFor scope c.env = pure cl) (hcell : ∀ z ∈ scope.names, z.2 ≠ .cell) (hkind : scope.kind = .function)
    (hnames : ∀ z ∈ scope.names, z.2 = .local → scope.names.lookup z.1 = some .local) (hx : scope.names.lookup x = some .local)
    (hs : ∀ x, foldedSetIterable iter c.env x = pure x := by intro _; rfl) :
    GE c vs led (eval (.ListComp elt [⟨.Name x px, iter, [ct], 0⟩] scope pos) c.env) K := by
  intro s₀ s A
  refine LCt.ListComp_T A.F hclos hcell hkind hnames hx (h.th A ?_) hs
  rintro v l s' A' ⟨ax, its, k, rfl, hm, hsz, hel, hf⟩
  refine CompSrcT.ledger rfl A'.F A'.N hm hsz fun g => ?_
  refine restT_no hel (Or.inr ⟨_, hm, rfl, _, rfl⟩) ?_ _ 0
  intro D h' tk F N o
  exact ⟨_, A'.to F N, hf D o⟩
theorem p_loc {x : Str} {scope : Scope} {cl : List (Str × Addr)} {v : Value} {y : Value → Prop} {pos : Pos} (hs : scope.kind = .function) (hl : scope.names.lookup x = some .local) (hd : (x == ("__debug__" : Str)) = false) (h : y v) : PureC c x scope cl (eval (.Name x pos)) v y := by
  intro s C oC m₂ m l Q E F N hm hC hx k
  exact LCgL.ld_own N hm hC hx (k v s.toks h) hs (lookup_relabel_local hl) hd
theorem p_glo {x z : Str} {scope : Scope} {cl : List (Str × Addr)} {v u : Value} {y : Value → Prop} {pos : Pos} (hz : Gv W.K z u) (hs : scope.kind = .function) (hk : (relabel scope c.env).names.lookup z = some .globalImplicit) (h : y u) : PureC c x scope cl (eval (.Name z pos)) v y := by
  intro s C oC m₂ m l Q E F N hm hC hx k
  exact hz.val.elim (fun e => LCgL.ld_global F c.X c.T e (k u s.toks h) rfl hs hk hz.dbg) fun e => LCgL.ld_built F c.X c.T e.1 e.2.1 e.2.2 (k u s.toks h) rfl rfl hs hk hz.dbg
theorem PureC.th {α : Type} {x : Str} {scope : Scope} {cl : List (Str × Addr)} {v : Value} {t : Env → Sem α} {y : α → Prop} (P : PureC c x scope cl t v y) {s : Shared} {C : Addr} {oC : Obj} {m₂ m : Str → Option Value} {l : Led} {Q : α → Shared → Prop} {E : Value → Shared → Prop}
    (F : Fr c.h₀ c.L s.heap m) (N : News c.h₀ c.L s.heap l) (hm : (C, oC) ∈ l) (hC : NsObj oC m₂) (hx : m₂ x = some v) (k : ∀ r tk, y r → Q r { s with toks := tk }) : wpAny W.M c.A (t (compEnvC scope cl C c.env)) Q E s := P s C oC m₂ m l Q E F N hm hC hx k
/-- ord of the sign that x stands for -/
theorem p_ord {x o : Str} {scope : Scope} {cl : List (Str × Addr)} {a : Nat} {u : Tok} {y : Value → Prop} {p1 p2 pos : Pos} (hz : Gv W.K o (.builtin "ord")) (hs : scope.kind = .function) (hl : scope.names.lookup x = some .local) (hd : (x == ("__debug__" : Str)) = false)
    (hk : (relabel scope c.env).names.lookup o = some .globalImplicit) (h : ∀ t, y (.int a t))
    (e : ∀ C, eval ((Expr.Name o p1).Call [.Name x p2] [] pos) (compEnvC scope cl C c.env) = (do let f ← eval (Expr.Name o p1) (compEnvC scope cl C c.env); callWith pos f [] (backTo pos (starEach [.Name x p2] (compEnvC scope cl C c.env))) (backToKw pos (keywordEach [] (compEnvC scope cl C c.env))))) :
    PureC c x scope cl (eval ((Expr.Name o p1).Call [.Name x p2] [] pos)) (.str ⟨#[a]⟩ u) y := by
  intro s C oC m₂ m l Q E F N hm hC hx k
  refine Call_ ((p_glo (y := fun r => r = .builtin "ord") hz hs hk rfl).th F N hm hC hx fun r tk hr => ?_) (e C)
  subst hr
  refine callWith_method1 (args_cons ?_) rfl rfl
  refine (p_loc (y := fun r => r = .str ⟨#[a]⟩ u) hs hl hd rfl).th F N hm hC hx fun r tk' hr => ?_
  subst hr
  exact args_nil (P.ord_of_char (k _ _ (h _)))
/-- the number that x stands for is not above a global's number -/
theorem p_gtNo {x o : Str} {scope : Scope} {cl : List (Str × Addr)} {a b : Int} {u t : Tok} {p1 p2 pos : Pos} (hz : Gv W.K o (.int b t)) (hs : scope.kind = .function) (hl : scope.names.lookup x = some .local) (hd : (x == ("__debug__" : Str)) = false)
    (hk : (relabel scope c.env).names.lookup o = some .globalImplicit) (h : a ≤ b) :
    PureC c x scope cl (fun e => PySem.isTrue (.Compare (.Name x p1) [.Gt] [.Name o p2] pos) e (eval (.Compare (.Name x p1) [.Gt] [.Name o p2] pos) e)) (.int a u) (fun b => b = false) := by
  intro s C oC m₂ m l Q E F N hm hC hx k
  refine wpAny_isTrue_Compare1 ?_ rfl
  refine (p_loc (y := fun r => r = .int a u) hs hl hd rfl).th F N hm hC hx fun r tk hr => ?_
  subst hr
  refine (p_glo (y := fun r => r = .int b t) hz hs hk rfl).th (s := { s with toks := tk }) F N hm hC hx fun r tk' hr => ?_
  subst hr
  refine PyProof.Rows.gt_int ?_
  rw [decide_eq_false (by omega : ¬ b < a)]
  exact wpAny_truthy_bool (k _ _ rfl)
theorem o_bytes {K : Value → Led → Prop} {D : Addr} {ys : List Value} {ns : List Int} {m : Nat} (hm : (D, listOf ys.toArray m) ∈ led) (hi : IntsAre ys ns) (hr : KBa.In ns) (hn : ns.length ≤ 16777216)
    (h : ∀ t, K (.bytes (byteArr ns) t) led) : GE c vs led (call (.type "bytes") [.ref D]) K :=
  fun _ _ A => KBa.make_K A.F A.N rfl (News.isList A.N hm) hi hr hn fun _ t' _ F N _ => ⟨_, A.to F N, h t'⟩
theorem tr_nolist {K : Bool → Led → Prop} {D : Addr} {m : Nat} (hm : (D, listOf #[] m) ∈ led) (h : K false led) : GE c vs led (truthy (.ref D)) K :=
  fun _ _ A => wpAny_truthy_list (News.isList A.N hm) (by decide) ⟨_, A.tok _, h⟩
end
end Mine
namespace Mine
mutual
noncomputable def depD : Dat → Nat
  | .tuple ds => depDs ds + 1
  | .list ds => depDs ds + 1
  | _ => 0
noncomputable def depDs : List Dat → Nat
  | [] => 0
  | d :: ds => max (depD d) (depDs ds)
end
theorem all_t (n : Nat) : ((List.range n).all fun _ => true) = true := List.all_eq_true.mpr fun _ _ => rfl
section
open PySem.SeqAt
mutual
/-- two values of the same tree are equal -/
theorem eq_dat {A : Around} {s : Shared} {h₀ : Heap} {L : Addr} {led led' : Led} (N : News h₀ L s.heap led) (N' : News h₀ L s.heap led') : ∀ {v v' : Value} {d : Dat}, DatIn led v d → DatIn led' v' d → ∀ n, A.units + n < cLine → depD d < n → EqAt A s v v' true
  | _, _, _, .none, y, _, _, _ => by cases y; exact EqAt.same _
  | _, _, _, .bool b, y, _, _, _ => by cases y; exact EqAt.same _
  | _, _, _, .int i t, y, _, _, _ => by cases y; rename_i u; simpa using EqAt.int_int (A := A) (s := s) i t i u
  | _, _, _, .str x t, y, _, _, _ => by cases y; rename_i u; simpa using EqAt.str_str (A := A) (s := s) x t x u
  | _, _, _, .bytes b t, y, _, _, _ => by cases y; exact fun prog w E Q h => eqBool_bytes (by simpa using h)
  | _, _, _, .tuple (a := a) (ds := ds) (vs := vs) m r, y, n, hn, hd => by
    cases y
    rename_i b vs' _ m' r'
    rw [depD] at hd
    have key := eq_datL (A := A.in1) N N' r r' (n - 1) (by show A.units + 1 + (n - 1) < cLine; omega) (by omega)
    have hlen : vs.length = vs'.length := r.length.trans r'.length.symm
    by_cases e : a = b
    · subst e; exact EqAt.same _
    · have h := EqAt.of_refs e (RcAt.tuples (A := A) (s := s) (items := vs.toArray) (items2 := vs'.toArray) (e := fun _ => true) ⟨_, (N _ m).1, rfl, _, rfl⟩ ⟨_, (N' _ m').1, rfl, _, rfl⟩ (by omega) (fun j h1 h2 => by
        have := key j (by simpa using h1) (by simpa using h2)
        simpa using this))
      simpa [hlen, all_t] using h
  | _, _, _, .list (a := a) (ds := ds) (vs := vs) m r, y, n, hn, hd => by
    cases y
    rename_i b vs' _ m' r'
    rw [depD] at hd
    have key := eq_datL (A := A.in1) N N' r r' (n - 1) (by show A.units + 1 + (n - 1) < cLine; omega) (by omega)
    have hlen : vs.length = vs'.length := r.length.trans r'.length.symm
    by_cases e : a = b
    · subst e; exact EqAt.same _
    · have h := EqAt.of_refs e (RcAt.lists (A := A) (s := s) (items := vs.toArray) (items2 := vs'.toArray) (e := fun _ => true) ⟨_, (N _ m).1, rfl, _, rfl⟩ ⟨_, (N' _ m').1, rfl, _, rfl⟩ (by simpa using hlen) (by omega) (fun j h1 h2 => by
        have := key j (by simpa using h1) (by simpa using h2)
        simpa using this))
      simpa [all_t] using h
theorem eq_datL {A : Around} {s : Shared} {h₀ : Heap} {L : Addr} {led led' : Led} (N : News h₀ L s.heap led) (N' : News h₀ L s.heap led') : ∀ {vs vs' : List Value} {ds : List Dat}, DatAll led vs ds → DatAll led' vs' ds → ∀ n, A.units + n < cLine → depDs ds < n →
    ∀ j (h1 : j < vs.length) (h2 : j < vs'.length), EqAt A s vs[j] vs'[j] true
  | _, _, _, .nil, _, _, _, _, j, h1, _ => absurd h1 (Nat.not_lt_zero _)
  | _, _, _, .cons a r, y, n, hn, hd, j, h1, h2 => by
    cases y
    rename_i a' r'
    rw [depDs] at hd
    cases j with
    | zero => exact eq_dat N N' a a' n hn (by omega)
    | succ j => exact eq_datL N N' r r' n hn (by omega) j (by simpa using h1) (by simpa using h2)
end
theorem ne_tup {A : Around} {E : Value → Shared → Prop} {s : Shared} {h₀ : Heap} {L a b : Addr} {prog : Program} {w : World} {led led' : Led} {ds : List Dat} {Q : Value → Shared → Prop} (N : News h₀ L s.heap led) (N' : News h₀ L s.heap led') (x : DatIn led (.ref a) (.tuple ds)) (y : DatIn led' (.ref b) (.tuple ds))
    (n : Nat) (hn : A.units + n + 1 < cLine) (hd : depDs ds < n) (h : Q (.bool false) s) : wpAny (model prog w) A (compareOp .NotEq (.ref a) (.ref b)) Q E s := by
  cases x
  cases y
  rename_i vs _ m r vs' _ m' r'
  have key := eq_datL (A := A.in1) N N' r r' n (by show A.units + 1 + n < cLine; omega) hd
  have hlen : vs.length = vs'.length := r.length.trans r'.length.symm
  refine (RcNeAt.tuples (A := A) (s := s) (items := vs.toArray) (items2 := vs'.toArray) (e := fun _ => true) ⟨_, (N _ m).1, rfl, _, rfl⟩ ⟨_, (N' _ m').1, rfl, _, rfl⟩ (by omega) (fun j h1 h2 => by
    have := key j (by simpa using h1) (by simpa using h2)
    simpa using this)) prog w E Q ?_
  simpa [hlen, all_t] using h
theorem eq_nil_led {A : Around} {E : Value → Shared → Prop} {s : Shared} {h₀ : Heap} {L l D : Addr} {prog : Program} {w : World} {led : Led} {vs : List Value} {c k : Nat} {b : Bool} {Q : Value → Shared → Prop} (N : News h₀ L s.heap led) (m : (l, listOf vs.toArray c) ∈ led) (m' : (D, listOf ([] : List Value).toArray k) ∈ led)
    (hb : vs.isEmpty = b) (hu : A.units + 2 < cLine) (h : Q (.bool b) s) : wpAny (model prog w) A (compareOp .Eq (.ref l) (.ref D)) Q E s := by
  cases vs with
  | nil =>
    have e : b = true := by rw [← hb]; rfl
    subst e
    refine eq_listAt (e := fun _ => true) (News.isList N m) (News.isList N m') rfl (by omega) (fun j h1 _ => absurd h1 (Nat.not_lt_zero _)) ?_
    simpa using h
  | cons v vs =>
    have e : b = false := by rw [← hb]; rfl
    subst e
    exact eq_list_lengthsAt (News.isList N m) (News.isList N m') (by simp) (by omega) h
theorem tup_led {A : Around} {E : Value → Shared → Prop} {s : Shared} {h₀ : Heap} {L l : Addr} {prog : Program} {w : World} {led : Led} {vs : List Value} {n : Nat} {value slice : Expr} {k : Int} {u : Tok} {v : Value} {Q : Value → Shared → Prop} (N : News h₀ L s.heap led) (hm : (l, ({ cls := .type "tuple", data := .seq vs.toArray n } : Obj)) ∈ led)
    (h0 : 0 ≤ k) (hfit : k < 2 ^ 63) (hv : vs[k.toNat]? = some v) (h : Q v s) (hs : subscripted slice false (.ref l) (.int k u) = operate [.ref l, .int k u] (getItem (.ref l) (.int k u))) (hg : ∀ r, letTemporaryGo value (.ref l) r = pure ()) :
    wpAny (model prog w) A (subscriptTail value slice (.ref l) (.int k u)) Q E s := by
  have hk : k.toNat < vs.length := by
    rcases Nat.lt_or_ge k.toNat vs.length with q | q
    · exact q
    · rw [List.getElem?_eq_none q] at hv; cases hv
  refine item_tupleL (j := k.toNat) ⟨_, (N _ hm).1, rfl, _, rfl⟩ (by omega) hfit ?_ hv h hs hg
  unfold seqIndex?
  first
    | (have e1 : ¬ k < 0 := by omega
       have e2 : k < (vs.length : Int) := by omega
       simp [e1, e2]; done)
    | (simp; omega)
theorem ext_led {A : Around} {E : Value → Shared → Prop} {s : Shared} {h₀ : Heap} {L D b : Addr} {prog : Program} {w : World} {m : Str → Option Value} {led led' : Led} {vs ws : List Value} {n k : Nat} {Q : Value → Shared → Prop} (F : Fr h₀ L s.heap m) (N : News h₀ L s.heap led) (hb : (b, listOf ws.toArray k) ∈ led) (hne : ws ≠ [])
    (U : Upd D (listOf vs.toArray n) (listOf (vs ++ ws).toArray (n + 1)) led led') (hz : vs.length + ws.length ≤ 1000000) (h : ∀ h', Fr h₀ L h' m → News h₀ L h' led' → Q .none { s with heap := h' }) :
    wpAny (model prog w) A (call (.builtin "list.extend") [.ref D, .ref b]) Q E s := by
  have hL := sizeLine_eq
  refine kl_extend F N hb (l := vs ++ ws) rfl ?_ U ?_ ?_ ?_ h
  · cases ws with
    | nil => exact absurd rfl hne
    | cons w ws => exact Nat.succ_ne_zero _
  · intro q
    rw [Bool.and_eq_true] at q
    have := q.2
    unfold Builtin.List.listTooLong at this
    simp at this
    rw [hL] at this
    omega
  · rw [hL]
    show vs.length ≤ _
    omega
  · rw [hL]
    show vs.length + ws.length ≤ _
    omega
theorem app_led {A : Around} {E : Value → Shared → Prop} {s : Shared} {h₀ : Heap} {L D : Addr} {prog : Program} {w : World} {m : Str → Option Value} {led led' : Led} {vs : List Value} {n : Nat} {v : Value} {Q : Value → Shared → Prop} (F : Fr h₀ L s.heap m) (N : News h₀ L s.heap led)
    (U : Upd D (listOf vs.toArray n) (listOf (vs ++ [v]).toArray (n + 1)) led led') (hz : vs.length ≤ 1000000) (h : ∀ h', Fr h₀ L h' m → News h₀ L h' led' → Q .none { s with heap := h' }) :
    wpAny (model prog w) A (call (.builtin "list.append") [.ref D, v]) Q E s := by
  have e : vs.toArray.push v = (vs ++ [v]).toArray := by simp
  rw [← e] at U
  exact append_K F N U h (by rw [sizeLine_eq]; simp; omega)
theorem add_led {A : Around} {E : Value → Shared → Prop} {s : Shared} {h₀ : Heap} {L a b : Addr} {prog : Program} {w : World} {m : Str → Option Value} {led : Led} {vs ws : List Value} {n k : Nat} {Q : Value → Shared → Prop} (F : Fr h₀ L s.heap m) (N : News h₀ L s.heap led) (ha : (a, listOf vs.toArray n) ∈ led) (hb : (b, listOf ws.toArray k) ∈ led)
    (hz : vs.length + ws.length ≤ 1000000) (h : ∀ D h', Fr h₀ L h' m → News h₀ L h' ((D, listOf (vs ++ ws).toArray 0) :: led) → (∀ p ∈ led, p.1 < D) → Q (.ref D) { s with heap := h' }) :
    wpAny (model prog w) A (binaryOp .Add (.ref a) (.ref b)) Q E s :=
  kmk_add_lit F N (News.isList N ha) (News.isList N hb) (zs := vs ++ ws) rfl h (by rw [sizeLine_eq]; show vs.length + ws.length ≤ _; omega)
theorem tupOf_led {A : Around} {E : Value → Shared → Prop} {s : Shared} {h₀ : Heap} {L a : Addr} {prog : Program} {w : World} {m : Str → Option Value} {led : Led} {vs : List Value} {n : Nat} {Q : Value → Shared → Prop} (F : Fr h₀ L s.heap m) (N : News h₀ L s.heap led) (ha : (a, listOf vs.toArray n) ∈ led)
    (hz : vs.length ≤ 16384) (h : ∀ D h', Fr h₀ L h' m → News h₀ L h' ((D, ({ cls := .type "tuple", data := .seq vs.toArray } : Obj)) :: led) → (∀ p ∈ led, p.1 < D) → Q (.ref D) { s with heap := h' }) :
    wpAny (model prog w) A (call (.type "tuple") [.ref a]) Q E s :=
  kde_tupleOf F N (News.isList N ha) (by simpa using hz) rfl h
end
end Mine
namespace Mine
open Ob
section
variable {W : Wd} {f : Fn} {n : Nat} {c : Cx W f n} {vs : List (Option Value)} {led led' : Led} {K : Value → Led → Prop} {Ks : KS} {pos : Pos} {rd : Addr} {ro : Obj} {rest : Led}
theorem o_is_ref {a : Addr} (h : K (.bool false) led) : GE c vs led (compareOp .Is (.ref a) .none) K := o_is rfl h
theorem o_isn_ref {a : Addr} (h : K (.bool true) led) : GE c vs led (compareOp .IsNot (.ref a) .none) K := o_isn rfl h
/-- a statement whose value is dropped -/
theorem s_drop {e : Expr} (h : GE c vs led (eval e c.env) fun _ l => Ks .next vs l) (q : interactive c.env = false) (q' : swapsWith e none pos.line c.env = pure false) : GS c vs led (exec (.Expr e pos) c.env) Ks :=
  fun _ _ A => wpAny_Expr_any (h.th A fun v l s1 A1 h1 => ⟨_, _, A1, h1⟩) q q'
theorem o_tup {value slice : Expr} {l : Addr} {ws : List Value} {m : Nat} {i : Int} {u : Tok} {v : Value} (hm : (l, ({ cls := .type "tuple", data := .seq ws.toArray m } : Obj)) ∈ led) (h0 : 0 ≤ i) (hfit : i < 2 ^ 63) (hv : ws[i.toNat]? = some v) (h : K v led)
    (hs : subscripted slice false (.ref l) (.int i u) = operate [.ref l, .int i u] (getItem (.ref l) (.int i u))) (hg : ∀ r, letTemporaryGo value (.ref l) r = pure ()) : GE c vs led (subscriptTail value slice (.ref l) (.int i u)) K :=
  fun _ _ A => tup_led A.N hm h0 hfit hv ⟨_, A, h⟩ hs hg
theorem o_intup {l : Addr} {ws : List Value} {ys : List Str} {x : Str} {u : Tok} (hm : (l, tupO ws) ∈ led) (hi : StrsAre ws ys) (h : K (.bool (ys.any (· == x))) led) : GE c vs led (compareOp .In (.str x u) (.ref l)) K :=
  fun _ _ A => in_tuple_strs ⟨_, (A.N _ hm).1, rfl, _, rfl⟩ (by simpa using hi) ⟨_, A, h⟩
theorem o_eqnil {l D : Addr} {ws : List Value} {m k : Nat} (hn : 0 < n) (hm : (l, listOf ws.toArray m) ∈ led) (hm' : (D, listOf ([] : List Value).toArray k) ∈ led) (h : K (.bool ws.isEmpty) led) : GE c vs led (compareOp .Eq (.ref l) (.ref D)) K :=
  fun _ _ A => eq_nil_led A.N hm hm' rfl (by have := c.hu; show c.un + 2 < cLine; omega) ⟨_, A, h⟩
theorem o_netup {a b : Addr} {l1 l2 : Led} {ds : List Dat} (hn : 0 < n) (h1 : ∀ p ∈ l1, p ∈ led) (h2 : ∀ p ∈ l2, p ∈ led) (x : DatIn l1 (.ref a) (.tuple ds)) (y : DatIn l2 (.ref b) (.tuple ds)) (hd : depDs ds < 7) (h : K (.bool false) led) : GE c vs led (compareOp .NotEq (.ref a) (.ref b)) K :=
  fun _ _ A => ne_tup (A.sub h1).N (A.sub h2).N x y 7 (by have := c.hu; show c.un + 7 + 1 < cLine; omega) hd ⟨_, A, h⟩
theorem m_extend {l : Addr} {ws : List Value} {m : Nat} {pl : Sem Bool} {KM : Value × List Value → Led → Prop} (hm : (l, listOf ws.toArray m) ∈ led) (h : KM (.builtin "list.extend", [.ref l]) led) : GE c vs led (getMethod (.ref l) (Str.ofString "extend") pl) KM :=
  fun _ _ A => kl_method A.N hm PySem.F.slot_list_extend PySem.F.type_list_extend ⟨_, A, h⟩
theorem b_extend {l b : Addr} {ws us : List Value} {m k : Nat} (hm : (l, listOf ws.toArray m) ∈ led) (hb : (b, listOf us.toArray k) ∈ led) (hlb : b ≠ l) (hne : us ≠ []) (hz : ws.length + us.length ≤ 1000000) (h : K .none ((l, listOf (ws ++ us).toArray (m + 1)) :: off l led)) : GE c vs led (call (.builtin "list.extend") [.ref l, .ref b]) K := fun s₀ s A => by
  have A' : At c vs ((l, listOf ws.toArray m) :: off l led) s₀ s := A.sub fun p hp => (List.mem_cons.mp hp).elim (fun e => e ▸ hm) (off_sub p)
  exact ext_led A'.F A'.N (.tail _ (off_mem hb hlb)) hne upd_off hz fun h' F' N' => ⟨_, A.to F' N', h⟩
theorem r_extend {l b : Addr} {ws us : List Value} {m k : Nat} (hm : (l, listOf ws.toArray m) ∈ rest) (hb : (b, listOf us.toArray k) ∈ rest) (hlb : b ≠ l) (hl : rd < l) (hne : us ≠ []) (hz : ws.length + us.length ≤ 1000000) (h : K .none ((rd, ro) :: (l, listOf (ws ++ us).toArray (m + 1)) :: off l rest)) : GE c vs ((rd, ro) :: rest) (call (.builtin "list.extend") [.ref l, .ref b]) K := fun s₀ s A =>
  (b_extend (K := fun v' l' => v' = .none ∧ l' = (l, listOf (ws ++ us).toArray (m + 1)) :: off l ((rd, ro) :: rest)) (.tail _ hm) (.tail _ hb) hlb hne hz ⟨rfl, rfl⟩).th A fun v' l' s1 A1 ⟨e1, e2⟩ => by
    subst e1; subst e2
    refine ⟨_, A1.sub fun p hp => ?_, h⟩
    rcases List.mem_cons.mp hp with rfl | hp
    · exact .tail _ (off_mem (.head _) (Nat.ne_of_lt hl))
    · rcases List.mem_cons.mp hp with rfl | hp
      · exact .head _
      · exact .tail _ (off_mem (.tail _ (off_sub p hp)) (off_ne p hp))
theorem n_add {a b : Addr} {ws us : List Value} {m k : Nat} (ha : (a, listOf ws.toArray m) ∈ led) (hb : (b, listOf us.toArray k) ∈ led) (hz : ws.length + us.length ≤ 1000000) (h : ∀ D, (∀ p ∈ led, p.1 < D) → K (.ref D) ((D, listOf (ws ++ us).toArray 0) :: led)) : GE c vs led (binaryOp .Add (.ref a) (.ref b)) K :=
  fun _ _ A => add_led A.F A.N ha hb hz fun D _ F' N' l => ⟨_, A.to F' N', h D l⟩
theorem n_tupOf {l : Addr} {ws : List Value} {m : Nat} (hm : (l, listOf ws.toArray m) ∈ led) (hz : ws.length ≤ 16384) (h : ∀ D, (∀ p ∈ led, p.1 < D) → K (.ref D) ((D, tupO ws) :: led)) : GE c vs led (call (.type "tuple") [.ref l]) K :=
  fun _ _ A => tupOf_led A.F A.N hm hz fun D _ F' N' l => ⟨_, A.to F' N', h D l⟩
end
end Mine
namespace Mine
open Ob
/-- what was added stands at other places -/
noncomputable def Off (led add : Led) : Prop := ∀ q ∈ led, ∀ p ∈ add, q.1 ≠ p.1
theorem Off.nil {led : Led} : Off led [] := fun _ _ _ h => nomatch h
theorem Fresh.offs {led add : Led} (h : Fresh led add) : Off led add := fun q hq p hp => Nat.ne_of_lt (h q hq p hp)
theorem Off.sub {led led' add : Led} (h : Off led add) (hs : ∀ p ∈ led', p ∈ led) : Off led' add := fun q hq => h q (hs q hq)
theorem Off.cons {D : Addr} {ob : Obj} {led add : Led} (h2 : ∀ q ∈ led, q.1 ≠ D) (h : Off led add) : Off led ((D, ob) :: add) := fun q hq p hp => by
  rcases List.mem_cons.mp hp with rfl | hp
  · exact h2 q hq
  · exact h q hq p hp
theorem Off.app {led a b : Led} (h : Off led a) (k : Off led b) : Off led (a ++ b) := fun q hq p hp => (List.mem_append.mp hp).elim (h q hq p) (k q hq p)
open LCg in
theorem CompRest_inv {prog : Program} {w : World} {A : Around} {h₀ : Heap} {L : Addr} {m : Str → Option Value} {env : Env} {elt : Expr} {x : Str} {scope : Scope} {cl : List (Str × Addr)} {s : Shared} {S : Led → Prop} {P : Nat → Value → Prop} {Fin : List Value → Led → Prop} {n : Nat} {news : Led}
    (J : Nat → List Value → Led → Prop) (h0 : J 0 [] news)
    (turn : ∀ i ys nx v I oI C oC D m₂ h tk (E' : Value → Shared → Prop), i < n → J i ys nx → P i v → NsObj oC m₂ → m₂ x = some v → Fr h₀ L h m → News h₀ L h ((I, oI) :: (C, oC) :: (D, lst ys) :: nx) → Off3 I C D nx → ((@Ne Nat I C) ∧ (@Ne Nat I D) ∧ (@Ne Nat C D)) →
      wpAny (model prog w) A (eval elt (compEnvC scope cl C env)) (CompEnd h₀ L m { s with heap := h, toks := tk } I oI C oC D (lst ys) S (fun y news' => J (i + 1) (ys ++ [y]) news')) E' { s with heap := h, toks := tk })
    (fin : ∀ ys nx, J n ys nx → Fin ys nx) : CompRest prog w A h₀ L m env elt x scope cl s S P Fin n 0 [] news := by
  have key : ∀ (k i : Nat) (ys : List Value) (nx : Led), i + k = n → J i ys nx → CompRest prog w A h₀ L m env elt x scope cl s S P Fin k i ys nx := by
    intro k
    induction k with
    | zero => intro i ys nx hi j; obtain rfl : i = n := (Nat.add_zero i).symm.trans hi; exact CompRest.zero (fin ys nx j)
    | succ k ih =>
      intro i ys nx hi j
      refine CompRest.succ fun v I oI C oC D m₂ h tk E' hv hC hx F N off ne => ?_
      refine wpAny_mono (turn i ys nx v I oI C oC D m₂ h tk E' (by omega) j hv hC hx F N off ne) (fun y s₂ hq => ?_) fun _ _ e => e
      obtain ⟨h', tk', nw, e, F', N', off', hS, r⟩ := hq
      exact ⟨h', tk', nw, e, F', N', off', hS, ih (i + 1) _ nw (by omega) r⟩
  exact key n 0 [] news (by omega) h0
theorem split_gen {prog : Program} {w : World} {A : Around} {E : Value → Shared → Prop} {s : Shared} {h₀ : Heap} {L : Addr} {led : Led} {Q : Value → Shared → Prop} {m : Str → Option Value} {x y : Str} {t u : Tok} {ws : List Str} (F : Fr h₀ L s.heap m) (N : News h₀ L s.heap led) (hy : (y.length == 0) = false) (hw : Txt.split x y = ws) (hsz : x.length + 2 ≤ sizeLine)
    (h : ∀ D l h' k, StrsAre l ws → Fr h₀ L h' m → News h₀ L h' ((D, listOf l.toArray 0) :: led) → (∀ p ∈ led, p.1 < D) → Q (.ref D) { s with heap := h', toks := k }) :
    wpAny (model prog w) A (call (.builtin "str.split") [.str x t, .str y u]) Q E s := by
  refine KSpl.split1 F N hy (fun D l h' k e hs F' N' l1 => ?_) hsz
  rw [e, hw] at hs
  exact h D _ h' k hs F' N' l1
theorem strs_at {vs : List Value} {xs : List Str} (h : StrsAre vs xs) : ∀ (i : Nat) (v : Value), vs[i]? = some v → ∃ x t, xs[i]? = some x ∧ v = .str x t := by
  induction h with
  | nil => intro i v h; simp at h
  | cons x t r ih =>
    intro i v hv
    cases i with
    | zero => exact ⟨x, t, rfl, by simpa using hv.symm⟩
    | succ i => simpa using ih i v (by simpa using hv)
theorem off1_of {D : Addr} : ∀ {l : Led}, LCg.Off1 D l → ∀ p ∈ l, p.1 ≠ D
  | [], _, _, h => nomatch h
  | _ :: _, x, p, h => by
    rcases List.mem_cons.mp h with rfl | h
    · exact x.1
    · exact off1_of x.2 p h
theorem list_at {led : Led} {v : Value} {ds : List Dat} (h : DatIn led v (.list ds)) : ∃ (a : Addr) (vs : List Value) (n : Nat), v = .ref a ∧ (a, listOf vs.toArray n) ∈ led ∧ DatAll led vs ds := by
  cases h
  rename_i m r
  exact ⟨_, _, _, rfl, m, r⟩
noncomputable def tokD (t : Str × Str) : Dat := .tuple [.str t.1, .str t.2]
theorem Off.trans {led a b : Led} (h : Off led a) (k : Off (a ++ led) b) : Off led (b ++ a) := fun q hq p hp => (List.mem_append.mp hp).elim (k q (List.mem_append_right _ hq) p) (h q hq p)
theorem Off.lt {D : Addr} {ob : Obj} {led add : Led} (k : ∀ p ∈ add ++ led, p.1 < D) (h : Off led add) : Off led ((D, ob) :: add) := Off.cons (fun q hq => Nat.ne_of_lt (k q (List.mem_append_right _ hq))) h
/-- what a turn of a comprehension must end in -/
noncomputable def lcEnd (keep : Addr × Obj) (own : Led) (J : Value → Led → Prop) (y : Value) (l : Led) : Prop := ∃ nx, (∀ p ∈ nx, p ∈ l) ∧ (∀ p ∈ own, p ∈ l) ∧ OwnOff own (nx.map (·.1)) ∧ keep ∈ nx ∧ J y nx
section
open PySem.Spec LCg
variable {W : Wd} {f : Fn} {n : Nat} {c : Cx W f n} {vs : List (Option Value)} {led : Led} {K : Value → Led → Prop} {pos : Pos}
theorem gc_loc {x : Str} {C : Addr} {oC : Obj} {m₂ : Str → Option Value} {v : Value} {scope : Scope} {cl : List (Str × Addr)} (hm : (C, oC) ∈ led) (hC : NsObj oC m₂) (hx : m₂ x = some v) (hs : scope.kind = .function) (hl : scope.names.lookup x = some .local) (hd : (x == ("__debug__" : Str)) = false) (h : K v led) :
    GE c vs led (eval (.Name x pos) (compEnvC scope cl C c.env)) K := fun _ _ A => LCgL.ld_own A.N hm hC hx ⟨_, A, h⟩ hs (lookup_relabel_local hl) hd
theorem gc_glo {z : Str} {C : Addr} {u : Value} {scope : Scope} {cl : List (Str × Addr)} (hz : Gv W.K z u) (hs : scope.kind = .function) (hk : (relabel scope c.env).names.lookup z = some .globalImplicit) (h : K u led) :
    GE c vs led (eval (.Name z pos) (compEnvC scope cl C c.env)) K := fun _ _ A =>
  hz.val.elim (fun e => LCgL.ld_global A.F c.X c.T e ⟨_, A, h⟩ rfl hs hk hz.dbg) fun e => LCgL.ld_built A.F c.X c.T e.1 e.2.1 e.2.2 ⟨_, A, h⟩ rfl rfl hs hk hz.dbg
theorem Heap.sh {s₁ s₂ : Shared} (g : s₂.gens = s₁.gens) (d : s₂.drawn = s₁.drawn) (o : s₂.os = s₁.os) : s₂ = { s₁ with heap := s₂.heap, toks := s₂.toks } := by
  obtain ⟨_, _, _, _, _⟩ := s₂
  simp_all
/-- a comprehension over a list of the ledger -/
theorem o_lc {elt iter : Expr} {x : Str} {px : Pos} {scope : Scope} {cl : List (Str × Addr)}
    (h : GE c vs led (eval iter c.env) fun v l => ∃ (ax : Addr) (ws : List Value) (m : Nat) (J : Nat → List Value → Led → Prop), v = .ref ax ∧ (ax, listOf ws.toArray m) ∈ l ∧ ws.length ≤ sizeLine ∧ J 0 [] l ∧
      (∀ i ys nx v C oC m₂ own, ws[i]? = some v → J i ys nx → (ax, listOf ws.toArray m) ∈ nx → (C, oC) ∈ own → NsObj oC m₂ → m₂ x = some v → OwnOff own (nx.map (·.1)) →
        GE c vs (nx ++ own) (eval elt (compEnvC scope cl C c.env)) (lcEnd (ax, listOf ws.toArray m) own fun y nx' => J (i + 1) (ys ++ [y]) nx')) ∧
      ∀ ys nx D, J ws.length ys nx → Off1 D nx → K (.ref D) ((D, lst ys) :: nx))
    (hclos : closureFor scope c.env = pure cl) (hcell : ∀ z ∈ scope.names, z.2 ≠ .cell) (hkind : scope.kind = .function)
    (hnames : ∀ z ∈ scope.names, z.2 = .local → scope.names.lookup z.1 = some .local) (hx : scope.names.lookup x = some .local)
    (hs : ∀ x, foldedSetIterable iter c.env x = pure x := by intro _; rfl) :
    GE c vs led (eval (.ListComp elt [⟨.Name x px, iter, [], 0⟩] scope pos) c.env) K := by
  intro s₀ s A
  refine LCg.ListComp_U A.F hclos hcell hkind hnames hx (h.th A ?_) hs
  rintro v l s' A' ⟨ax, ws, m, J, rfl, hm, hsz, h0, turn, fin⟩
  refine CompSrc.ledger rfl A'.F A'.N hm (by rw [List.size_toArray]; exact hsz) fun g => ?_
  rw [List.size_toArray]
  refine CompRest_inv (fun i ys nx => (ax, listOf ws.toArray m) ∈ nx ∧ J i ys nx) ⟨hm, h0⟩ ?_ ?_
  · rintro i ys nx v I oI C oC D m₂ h₁ tk E' hi ⟨hk, hJ⟩ hv hC hx2 F N off ne
    have e : ∀ p : Addr × Obj, p ∈ nx ++ [(I, oI), (C, oC), (D, lst ys)] → p ∈ (I, oI) :: (C, oC) :: (D, lst ys) :: nx := fun p hp => by
      simp only [List.mem_append, List.mem_cons, List.not_mem_nil, or_false] at hp ⊢
      rcases hp with h | h | h | h <;> simp [h]
    have ho : OwnOff [(I, oI), (C, oC), (D, lst ys)] (nx.map (·.1)) := fun p hp b hb => by
      obtain ⟨q, hq, rfl⟩ := List.mem_map.mp hb
      have := off.mem q hq
      simp only [List.mem_cons, List.not_mem_nil, or_false] at hp
      rcases hp with rfl | rfl | rfl
      · exact this.1.symm
      · exact this.2.1.symm
      · exact this.2.2.symm
    refine wpAny_mono ((turn i ys nx v C oC m₂ _ (by simpa using hv) hJ hk (.tail _ (.head _)) hC hx2 ho) { s' with heap := h₁, toks := tk } { s' with heap := h₁, toks := tk } ⟨F, fun p hp => N p (e p hp), rfl, rfl, rfl⟩) (fun y s₃ h3 => ?_) fun _ _ x => x.elim
    obtain ⟨l3, A3, nx', a, b, d, kp, j⟩ := h3
    refine ⟨s₃.heap, s₃.toks, nx', Heap.sh A3.g A3.d A3.o, A3.F, fun p hp => A3.N p ?_, Off3.of fun p hp => ?_, .inr ⟨_, kp, rfl, _, rfl⟩, kp, j⟩
    · simp only [List.mem_cons] at hp
      rcases hp with rfl | rfl | rfl | hp
      · exact b _ (.head _)
      · exact b _ (.tail _ (.head _))
      · exact b _ (.tail _ (.tail _ (.head _)))
      · exact a _ hp
    · have q := fun r hr => d r hr p.1 (List.mem_map_of_mem hp)
      exact ⟨(q _ (.head _)).symm, (q _ (.tail _ (.head _))).symm, (q _ (.tail _ (.tail _ (.head _)))).symm⟩
  · rintro ys nx ⟨_, hJ⟩ D h₁ tk F N o
    exact ⟨_, A'.to F N, fin ys nx D hJ o⟩
theorem n_split {x : Str} {t : Tok} {y : Str} {u : Tok} {ws : List Str} (hy : (y.length == 0) = false) (hw : Txt.split x y = ws) (hsz : x.length + 2 ≤ sizeLine) (h : ∀ D l, StrsAre l ws → (∀ p ∈ led, p.1 < D) → K (.ref D) ((D, listOf l.toArray 0) :: led)) :
    GE c vs led (call (.builtin "str.split") [.str x t, .str y u]) K :=
  fun _ _ A => split_gen A.F A.N hy hw hsz fun D l _ _ sa F' N' lt => ⟨_, A.to F' N', h D l sa lt⟩
theorem OwnOff.cons {own nx : Led} {T : Addr} {o : Obj} (h : ∀ p ∈ own, p.1 ≠ T) (k : OwnOff own (nx.map (·.1))) : OwnOff own (((T, o) :: nx).map (·.1)) := fun p hp b hb => by
  rcases List.mem_cons.mp hb with rfl | hb
  · exact h p hp
  · exact k p hp b hb
theorem lc_cons {keep : Addr × Obj} {own nx : Led} {T : Addr} {o : Obj} {J : Value → Led → Prop} {y : Value} (lt : ∀ p ∈ nx ++ own, p.1 < T) (ho : OwnOff own (nx.map (·.1))) (hk : keep ∈ nx) (j : J y ((T, o) :: nx)) : lcEnd keep own J y ((T, o) :: (nx ++ own)) :=
  ⟨(T, o) :: nx, fun p hp => (List.mem_cons.mp hp).elim (fun e => e ▸ .head _) fun hp => .tail _ (List.mem_append_left _ hp), fun _ hp => .tail _ (List.mem_append_right _ hp), OwnOff.cons (fun p hp => Nat.ne_of_lt (lt p (List.mem_append_right _ hp))) ho, .tail _ hk, j⟩
/-! the pen -/
noncomputable abbrev penObj (ca : Addr) (t : Int) (tt : Tok) (v : Int) (tv : Tok) (m : Nat) : Obj := listOf [Value.ref ca, Value.int t tt, Value.int v tv].toArray m
structure CellsOk (cvs : List Value) : Prop where
  nums : ∃ ns, IntsAre cvs ns ∧ ∀ n ∈ ns, 0 ≤ n ∧ n < 2 ^ 140
  len : cvs.length ≤ 63
structure PnOk (rest : Led) (pn ca : Addr) : Prop where
  cells : ∃ cvs cn, (ca, listOf cvs.toArray cn) ∈ rest ∧ CellsOk cvs
  sep : ∀ p ∈ rest, p.1 ≠ pn
/-- the pen after at most t turns -/
noncomputable def PenNow (ca : Addr) (t : Int) (P : Obj) : Prop := ∃ t' tt v tv m, P = penObj ca t' tt v tv m ∧ 0 ≤ v ∧ 0 ≤ t' ∧ t' ≤ t
theorem PenNow.mono {ca : Addr} {t t' : Int} {P : Obj} (h : PenNow ca t P) (k : t ≤ t') : PenNow ca t' P := by
  obtain ⟨a, b, d, e, g, rfl, h1, h2, h3⟩ := h
  exact ⟨a, b, d, e, g, rfl, h1, h2, by omega⟩
theorem PnOk.add {rest add : Led} {pn ca : Addr} {P : Obj} (h : PnOk rest pn ca) (o : Off ((pn, P) :: rest) add) : PnOk (add ++ rest) pn ca :=
  ⟨h.cells.elim fun a b => b.elim fun d e => ⟨a, d, List.mem_append_right _ e.1, e.2⟩, List.forall_mem_append.mpr ⟨fun p hp => (o _ (.head _) p hp).symm, h.sep⟩⟩
theorem PnOk.cons {rest : Led} {pn ca D : Addr} {o : Obj} (h : PnOk rest pn ca) (l : pn < D) : PnOk ((D, o) :: rest) pn ca :=
  ⟨h.cells.elim fun a b => b.elim fun d e => ⟨a, d, .tail _ e.1, e.2⟩, List.forall_mem_cons.mpr ⟨Nat.ne_of_gt l, h.sep⟩⟩
theorem PnOk.wide {rest own : Led} {pn ca : Addr} {P : Obj} (h : PnOk rest pn ca) (o : OwnOff own (((pn, P) :: rest).map (·.1))) : PnOk (rest ++ own) pn ca :=
  ⟨h.cells.elim fun a b => b.elim fun d e => ⟨a, d, List.mem_append_left _ e.1, e.2⟩, List.forall_mem_append.mpr ⟨h.sep, fun p hp => o p hp pn (.head _)⟩⟩
variable {pn ca : Addr} {po : Obj} {rest : Led}
theorem p_tup {ws : List Value} (R : PnOk rest pn ca) (hl : ws.length ≤ sizeLine) (h : ∀ D, pn < D → (∀ p ∈ rest, p.1 < D) → PnOk ((D, tupO ws) :: rest) pn ca → K (.ref D) ((pn, po) :: (D, tupO ws) :: rest)) : GE c vs ((pn, po) :: rest) (newTuple ws) K :=
  fun _ _ A => kup_newTuple A.F A.N (fun D _ F' N' l => ⟨_, (A.to F' N').sub swap_sub, h D (l _ (.head _)) (fun p hp => l p (.tail _ hp)) (R.cons (l _ (.head _)))⟩) hl
theorem p_list {ws : List Value} (R : PnOk rest pn ca) (hl : ws.length ≤ sizeLine) (h : ∀ D, pn < D → (∀ p ∈ rest, p.1 < D) → PnOk ((D, listOf ws.toArray 0) :: rest) pn ca → K (.ref D) ((pn, po) :: (D, listOf ws.toArray 0) :: rest)) : GE c vs ((pn, po) :: rest) (newList ws) K :=
  fun _ _ A => newList_K A.F A.N (fun D _ F' N' l => ⟨_, (A.to F' N').sub swap_sub, h D (l _ (.head _)) (fun p hp => l p (.tail _ hp)) (R.cons (l _ (.head _)))⟩) hl
end
end Mine
namespace Mine
open Ob
section
variable {W : Wd} {f : Fn} {n : Nat} {c : Cx W f n} {vs : List (Option Value)} {led : Led} {K : Value → Led → Prop} {Ks : KS} {pos : Pos} {env : Env} {a b : Int} {t u : Tok}
theorem o_mod (hb : b ≠ 0) (h : ∀ t', K (.int (a.fmod b) t') led) : GE c vs led (binaryOp .Mod (.int a t) (.int b u)) K := fun _ _ A => mod_int' hb ⟨_, A.tok _, h _⟩
theorem o_fdiv (hb : b ≠ 0) (hs : b.natAbs < 1073741824) (h : ∀ t', K (.int (a.fdiv b) t') led) : GE c vs led (binaryOp .FloorDiv (.int a t) (.int b u)) K := fun _ _ A => floordiv_int hb ⟨_, A.tok _, h _⟩ (Or.inl (PyProof.noPylong_small hs))
theorem o_pow (h0 : 0 ≤ b) (h1 : b ≤ 1000000) (ha : a.natAbs < 2 ^ 64) (h : ∀ t', K (.int (a ^ b.toNat) t') led) : GE c vs led (binaryOp .Pow (.int a t) (.int b u)) K := fun _ _ A => pow_int_small h0 h1 ha ⟨_, A.tok _, h _⟩
theorem o_mul (hm : IntMulOk a b) (h : ∀ t', K (.int (a * b) t') led) : GE c vs led (binaryOp .Mult (.int a t) (.int b u)) K := fun _ _ A => PyProof.Rows.mul_int ⟨_, A.tok _, h _⟩ hm
theorem b_sum {l : Addr} {ws : List Value} {m : Nat} {ns : List Int} (hm : (l, listOf ws.toArray m) ∈ led) (hi : IntsAre ws ns) (h : ∀ t', K (.int ns.sum t') led) : GE c vs led (call (.builtin "sum") [.ref l]) K :=
  fun _ _ A => PyProof.Rows.LSm.sum_ints A.F A.N rfl (News.isList A.N hm) hi fun _ _ t' F' N' => ⟨_, A.to F' N', h t'⟩
theorem b_abs (h : ∀ t', K (.int (if a < 0 then -a else a) t') led) : GE c vs led (call (.builtin "abs") [.int a t]) K := fun _ _ A => call_abs_int fun _ _ => ⟨_, A.tok _, h _⟩
theorem g_bytes {x : List UInt8} {k : Nat} (h : ∀ t, K (.bytes x.toArray t) led) : GE c vs led (eval (.Constant (.bytes x) k pos) env) K := fun _ _ A => Constant_bytes ⟨_, A.tok _, h _⟩
theorem y_int (h : K (.int a t) led) : GE c vs led (call (.type "int") [.int a t]) K := fun _ _ A => call_int_int ⟨_, A, h⟩
theorem y_intb {b : Bool} (h : ∀ t', K (.int (if b then 1 else 0) t') led) : GE c vs led (call (.type "int") [.bool b]) K := fun _ _ A => call_int_bool ⟨_, A.tok _, h _⟩
theorem s_seti {e o i : Expr} {p' : Pos} (h : GE c vs led (eval e c.env) fun v l => GE c vs l (eval o c.env) fun ov l2 => GE c vs l2 (eval i c.env) fun iv l3 => GE c vs l3 (setItem ov iv v) fun _ l4 => Ks .next vs l4) (q : swapsWith e (some (.Subscript o i p')) pos.line c.env = pure false) :
    GS c vs led (exec (.Assign [.Subscript o i p'] e pos) c.env) Ks :=
  fun _ _ A => wpAny_Assign_Subscript (h.th A fun _ _ _ A1 h1 => h1.th A1 fun _ _ _ A2 h2 => h2.th A2 fun _ _ _ A3 h3 => h3.th A3 fun _ _ _ A4 h4 => ⟨_, _, A4, h4⟩) q
theorem set_led {A : Around} {E : Value → Shared → Prop} {s : Shared} {h₀ : Heap} {L D : Addr} {prog : Program} {w : World} {m : Str → Option Value} {led led' : Led} {ws : List Value} {n : Nat} {k : Int} {t : Tok} {v : Value} {Q : Unit → Shared → Prop} (F : Fr h₀ L s.heap m) (N : News h₀ L s.heap led)
    (U : Upd D (listOf ws.toArray n) (listOf (ws.set k.toNat v).toArray n) led led') (h0 : 0 ≤ k) (h1 : k < ws.length) (hfit : k < 2 ^ 63) (h : ∀ h', Fr h₀ L h' m → News h₀ L h' led' → Q () { s with heap := h' }) :
    wpAny (model prog w) A (setItem (.ref D) (.int k t) v) Q E s := by
  obtain ⟨pre, post, rfl, rfl, a, b⟩ := U.split
  have z := N (D, listOf ws.toArray n) (List.mem_append.mpr (.inr (.head _)))
  refine ki_setAt z.1 h0 hfit (by rw [List.size_toArray]; exact h1) (h _ (F.change (Heap.SameBut.update ..) z.2.1 z.2.2) (ki_turn _ N a b ?_ ?_))
  · show ws.toArray.setIfInBounds k.toNat v = (ws.set k.toNat v).toArray
    apply Array.toList_inj.mp
    simp
  · simp
/-- an item of the list at the ledger's head is set -/
theorem h_set {D : Addr} {ws : List Value} {m : Nat} {k : Int} {v : Value} {rest : Led} {KU : Unit → Led → Prop} (h0 : 0 ≤ k) (h1 : k < ws.length) (hfit : k < 2 ^ 63) (sep : ∀ p ∈ rest, p.1 ≠ D) (h : KU () ((D, listOf (ws.set k.toNat v).toArray m) :: rest)) :
    GE c vs ((D, listOf ws.toArray m) :: rest) (setItem (.ref D) (.int k t) v) KU :=
  fun _ _ A => set_led A.F A.N (.head sep) h0 h1 hfit fun _ F' N' => ⟨_, A.to F' N', h⟩
theorem h_item {value slice : Expr} {D : Addr} {ws : List Value} {m : Nat} {i : Int} {v : Value} {rest : Led} (h0 : 0 ≤ i) (hfit : i < 2 ^ 63) (hv : ws[i.toNat]? = some v) (h : K v ((D, listOf ws.toArray m) :: rest))
    (hs : subscripted slice false (.ref D) (.int i u) = operate [.ref D, .int i u] (getItem (.ref D) (.int i u))) : GE c vs ((D, listOf ws.toArray m) :: rest) (subscriptTail value slice (.ref D) (.int i u)) K := o_item (.head _) h0 hfit hv h hs
theorem GS.mono {α : Type} {t : Sem α} {K K' : α → List (Option Value) → Led → Prop} (h : GS c vs led t K) (k : ∀ a vs' l, K a vs' l → K' a vs' l) : GS c vs led t K' :=
  fun s₀ s A => h.th A fun a vs' l _ A' h' => ⟨vs', l, A', k a vs' l h'⟩
/-- a statement, and what holds behind it -/
theorem s_seq {s : Stmt} {rest : List Stmt} (J : List (Option Value) → Led → Prop) (h : GS c vs led (exec s c.env) fun fl vs' l => fl = .next ∧ J vs' l) (h2 : ∀ vs' l, J vs' l → GS c vs' l (execs rest c.env) Ks) : GS c vs led (execs (s :: rest) c.env) Ks :=
  s_cons (h.mono fun fl vs' l ⟨e, j⟩ => by subst e; exact h2 vs' l j)
theorem s_next0 {J : List (Option Value) → Led → Prop} (h : J vs led) : (fun fl vs' l => fl = Flow.next ∧ J vs' l) Flow.next vs led := ⟨rfl, h⟩
end
end Mine
namespace Mine
open Ob
section
variable {W : Wd} {f : Fn} {n : Nat} {c : Cx W f n} {vs : List (Option Value)} {led : Led}
/-- what is to hold behind a step stands under a name of its own -/
theorem GS.hide {α : Type} {t : Sem α} {K : α → List (Option Value) → Led → Prop} (h : ∀ KK : α → List (Option Value) → Led → Prop, (∀ a vs' l, K a vs' l → KK a vs' l) → GS c vs led t KK) : GS c vs led t K := h K fun _ _ _ x => x
theorem GE.hide {α : Type} {t : Sem α} {K : α → Led → Prop} (h : ∀ KK : α → Led → Prop, (∀ a l, K a l → KK a l) → GE c vs led t KK) : GE c vs led t K := h K fun _ _ x => x
theorem s_whileH {Ks : KS} {pos : Pos} {test : Expr} {body : List Stmt} (J : Nat → List (Option Value) → Led → Prop) (n₀ : Nat) (init : J n₀ vs led)
    (turn : ∀ m vs1 l1 (KB : KS), (∀ fl vs3 l3, (match fl with
      | .ret v => Ks (.ret v) vs3 l3
      | .brk => Ks .next vs3 l3
      | _ => ∃ m' nx, m' < m ∧ (∀ p ∈ nx, p ∈ l3) ∧ J m' vs3 nx) → KB fl vs3 l3) → J m vs1 l1 → GT c vs1 l1 test fun b l2 => sel b (GS c vs1 l2 (execs body c.env) KB) (Ks .next vs1 l2)) : GS c vs led (exec (.While test body [] pos) c.env) Ks :=
  s_while J n₀ init fun m vs1 l1 h => turn m vs1 l1 _ (fun _ _ _ h => h) h
/-! a ledger within another -/
theorem sub_tail {p : Addr × Obj} {A L : Led} (h : ∀ q ∈ A, q ∈ L) : ∀ q ∈ A, q ∈ p :: L := fun q hq => .tail _ (h q hq)
theorem sub_l {A L M : Led} (h : ∀ q ∈ A, q ∈ L) : ∀ q ∈ A, q ∈ L ++ M := fun q hq => List.mem_append_left _ (h q hq)
theorem sub_r {A L M : Led} (h : ∀ q ∈ A, q ∈ M) : ∀ q ∈ A, q ∈ L ++ M := fun q hq => List.mem_append_right _ (h q hq)
theorem sub_cons {p : Addr × Obj} {A L : Led} (m : p ∈ L) (h : ∀ q ∈ A, q ∈ L) : ∀ q ∈ p :: A, q ∈ L := List.forall_mem_cons.mpr ⟨m, h⟩
theorem sub_app {A B L : Led} (g : ∀ q ∈ A, q ∈ L) (h : ∀ q ∈ B, q ∈ L) : ∀ q ∈ A ++ B, q ∈ L := List.forall_mem_append.mpr ⟨g, h⟩
theorem sub_nil {L : Led} : ∀ q ∈ ([] : Led), q ∈ L := fun _ h => nomatch h
end
end Mine
namespace Mine
open PySem.Spec
section
variable {prog : Program} {w : World} {A : Around} {E : Value → Shared → Prop} {s : Shared} {env : Env} {h₀ : Heap} {body : List Stmt} {Q : Flow → Shared → Prop}
theorem storesA {h h' h₁ h₂ : Heap} {L N : Addr} (k1 : Heap.ExtBut N h h') (hN : N = h.objs.size) (k2 : Heap.SameBut L h' h₁) (k3 : Heap.SameBut L h₁ h₂) : ∀ b o, b ≠ L → h.get? b = some o → h₂.get? b = some o :=
  fun b o hb e => k3.extBut b o hb (k2.extBut b o hb (k1 b o (hN ▸ Nat.ne_of_lt (Heap.lt_size e)) e))
/-- a tuple of two names gets the two places of a tuple that stands -/
theorem assign_two {x y : Str} {px py tp : Pos} {k : Nat} {T : Addr} {v₁ v₂ : Value} {m : Str → Option Value} {Q : Unit → Shared → Prop} (hh : A.handled = none) (ht : IsTup s.heap T #[v₁, v₂])
    (hx : env.kindOf x = some .local) (hy : env.kindOf y = some .local) (hp : (env.scope.kind == .class || (env.scope.kind == .module && env.locals != env.globals)) = false) (hn : s.heap.Ns env.locals m)
    (h : ∀ (h' : Heap) (tk : Nat), h'.Ns env.locals (fun z => if z = y then some v₂ else if z = x then some v₁ else m z) → (∀ c o, c ≠ env.locals → s.heap.get? c = some o → h'.get? c = some o) → Q () { s with heap := h', toks := tk }) :
    wpAny (model prog w) A (assign (.Tuple [.Name x px, .Name y py] k tp) env (.ref T)) Q E s := by
  refine assign_Tuple_tuple hh ht rfl rfl fun h₁ he₁ => ?_
  have hL : env.locals ≠ s.heap.objs.size := Nat.ne_of_lt hn.lt
  have hn₁ : h₁.Ns env.locals m := hn.at' fun o e => he₁ _ o hL e
  have up₁ : ∀ c o, s.heap.get? c = some o → h₁.get? c = some o := fun c o e => he₁ c o (Nat.ne_of_lt (Heap.lt_size e)) e
  refine assignInOrder_cons (wpAny_assign_Name (wpAny_storeName_local hx hn₁ (fun h₂ hn₂ hs₂ => ?_) hp))
  refine assignInOrder_cons (wpAny_assign_Name (wpAny_storeName_local hy hn₂ (fun h₃ hn₃ hs₃ => ?_) hp))
  refine assignInOrder_nil ?_
  exact h h₃ _ hn₃ fun c o hc e => hs₃.extBut c o hc (hs₂.extBut c o hc (up₁ c o e))

theorem kdp_iter {x y : Str} {px py tp : Pos} {k : Nat} {l : Addr} {vs : List Value} {nn : Nat} {m₀ : Str → Option Value} {news : List (Addr × Obj)} (J : Nat → (Str → Option Value) → List (Addr × Obj) → Prop)
    (hh : A.handled = none) (hx : env.kindOf x = some .local) (hy : env.kindOf y = some .local) (hp : (env.scope.kind == .class || (env.scope.kind == .module && env.locals != env.globals)) = false)
    (hl : (l, listOf vs.toArray nn) ∈ news) (F : Fr h₀ env.locals s.heap m₀) (N : News h₀ env.locals s.heap news) (hj : J 0 m₀ news)
    (turn : ∀ i v m₁ news₁, vs[i]? = some v → J i m₁ news₁ → (l, listOf vs.toArray nn) ∈ news₁ → ∃ T v₁ v₂ n, v = .ref T ∧ (T, ({ cls := .type "tuple", data := .seq [v₁, v₂].toArray n } : Obj)) ∈ news₁ ∧ ∀ h tk own, OwnOff own (news₁.map (·.1)) →
      Fr h₀ env.locals h (fun z => if z = y then some v₂ else if z = x then some v₁ else m₁ z) → News h₀ env.locals h (news₁ ++ own) →
      wpAny (model prog w) A (execs body env) (InvPostG h₀ env.locals (fun m' nx => (l, listOf vs.toArray nn) ∈ nx ∧ J (i + 1) m' nx) own { s with heap := h, toks := tk } Q) E { s with heap := h, toks := tk })
    (done : ∀ m₁ news₁ h tk, J vs.length m₁ news₁ → Fr h₀ env.locals h m₁ → News h₀ env.locals h news₁ → Q .next { s with heap := h, toks := tk }) :
    wpAny (model prog w) A (pyIter (.ref l)) (fun it s₂ => TurnsAt prog w A h₀ env (.Tuple [.Name x px, .Name y py] k tp) body Q E it s₂) E s := by
  have hol : s.heap.get? l = some (listOf vs.toArray nn) := (N _ hl).1
  have hls : s.heap.IsList l vs.toArray := ⟨_, hol, rfl, nn, rfl⟩
  have hne : l ≠ s.heap.objs.size := Nat.ne_of_lt (Heap.lt_size hol)
  refine wpAny_pyIter_list hls ?_
  have W := Walks.list (prog := prog) (w := w) hh s.heap.objs.size l hne vs.toArray
  have hlen : vs.toArray.size = vs.length := by simp
  rw [hlen] at W
  have WT := KTurns.ofWalks (target := .Tuple [.Name x px, .Name y py] k tp) W (fun i v s Q E st q => letGo_listiter st.1 q)
  refine ⟨_, _, _, vs.length, _, _, _, m₀, news, (fun i m nx => (l, listOf vs.toArray nn) ∈ nx ∧ J i m nx), rfl, WT, ?_, ?_, ?_, ⟨⟨_, Heap.get?_push_size _ rfl, rfl, rfl⟩, hls.at fun o e => Heap.get?_push_of_some _ e⟩, F.push _, (fun p hp => ⟨Heap.get?_push_of_some _ (N p hp).1, (N p hp).2⟩), ⟨hl, hj⟩, ?_, ?_⟩
  · intro hm
    rcases List.mem_cons.mp hm with e | hm
    · exact absurd F.ns.lt (e ▸ Nat.lt_irrefl _)
    · exact (N _ hl).2.1 ((List.mem_singleton.mp hm).symm)
  · intro b hb
    rw [List.mem_singleton.mp hb]
    exact next_is_new F
  · intro p hp hI
    exact absurd (Heap.lt_size (N p hp).1) ((List.mem_singleton.mp hI) ▸ Nat.lt_irrefl _)
  · rintro i v m₁ news₁ hh' tk' own hin hP ⟨hl₁, hJ⟩ hoff hown hget hfp hst F₁ N₁
    have hP' : vs[i]? = some v := by simpa using hP
    have hI0 : h₀.get? s.heap.objs.size = none := next_is_new F
    obtain ⟨⟨oI, hoI, _⟩, _⟩ := id hst
    have hIown : (s.heap.objs.size, oI) ∈ own.filter fun p => decide (p.1 = s.heap.objs.size) := List.mem_filter.mpr ⟨hfp _ (List.mem_cons.mpr (.inl rfl)) hI0 _ hoI, by simp⟩
    have hsep : OwnOff (own.filter fun p => decide (p.1 = s.heap.objs.size)) (news₁.map (·.1)) := by
      intro p hp b hb e
      obtain ⟨q, hq, rfl⟩ := List.mem_map.mp hb
      have h1 : p.1 = s.heap.objs.size := by simpa using (List.mem_filter.mp hp).2
      exact hoff q hq (List.mem_singleton.mpr (e ▸ h1))
    have N₂ : News h₀ env.locals hh' (news₁ ++ own.filter fun p => decide (p.1 = s.heap.objs.size)) := fun p hp => N₁ p ((List.mem_append.mp hp).elim (fun h => List.mem_append.mpr (.inr h)) fun h => List.mem_append.mpr (.inl ((List.mem_filter.mp h).1)))
    have hlo : hh'.get? l = some (listOf vs.toArray nn) := (N₁ _ (List.mem_append.mpr (.inr hl₁))).1
    obtain ⟨T, v₁, v₂, n, rfl, hT, hturn⟩ := turn i v m₁ news₁ hP' hJ hl₁
    refine assign_two hh ⟨_, (N₁ _ (List.mem_append.mpr (.inr hT))).1, rfl, n, rfl⟩ hx hy hp F₁.ns fun h₂ tk₂ hn₂ hk₂ => ?_
    have F₂ : Fr h₀ env.locals h₂ (fun z => if z = y then some v₂ else if z = x then some v₁ else m₁ z) :=
      ⟨hn₂, fun b o e => hk₂ b o (fun q => by rw [q, Heap.get?_none_of_le F₁.above] at e; cases e) (F₁.keep b o e), F₁.above⟩
    have N₃ : ∀ (led : List (Addr × Obj)), News h₀ env.locals hh' led → News h₀ env.locals h₂ led := fun led N p hp => ⟨hk₂ _ _ (N p hp).2.1 (N p hp).1, (N p hp).2⟩
    refine wpAny_mono (hturn h₂ tk₂ _ hsep F₂ (N₃ _ N₂)) (fun f s₂ p => ?_) fun _ _ e => e
    have fin : InvEndG h₀ env.locals (fun m' nx => (l, listOf vs.toArray nn) ∈ nx ∧ J (i + 1) m' nx) (own.filter fun p => decide (p.1 = s.heap.objs.size)) { s with heap := h₂, toks := tk₂ } s₂ →
        LoopStepU h₀ env.locals [s.heap.objs.size] own (fun m nx => (l, listOf vs.toArray nn) ∈ nx ∧ J (i + 1) m nx) { s with heap := hh', toks := tk' } .next s₂ := by
      rintro ⟨h', tk, m', news', nx, e, F', N', hn, ho, ha, hm⟩
      refine ⟨rfl, h', tk, m', nx, e, F', fun p hp => ?_, fun p hp hq => ?_, hm⟩
      · rcases List.mem_append.mp hp with h | h
        · by_cases hI : p.1 = s.heap.objs.size
          · exact N' p (ho p (List.mem_filter.mpr ⟨h, by simpa using hI⟩))
          · have h1 : p.1 = l := by
              rcases List.mem_cons.mp (hown p h) with h2 | h2
              · exact absurd h2 hI
              · exact List.mem_singleton.mp h2
            have h2 : hh'.get? p.1 = some p.2 := hget p h
            rw [h1, hlo] at h2
            have h3 : p = (l, listOf vs.toArray nn) := Prod.ext h1 (Option.some.inj h2).symm
            rw [h3]
            exact N' _ (hn _ hm.1)
        · exact N' p (hn p h)
      · exact ha _ hIown p.1 (List.mem_map.mpr ⟨p, hp, rfl⟩) (List.mem_singleton.mp hq).symm
    cases f with
    | ret v => exact .ret p
    | brk => exact .brk p
    | next => exact .next (fin p)
    | cont => exact .cont (fin p)
  · rintro h' tk m' news' F' N' _ ⟨_, hJ⟩
    exact done m' news' h' tk hJ F' N'
end
end Mine
namespace Mine
open PySem.Spec LCg
section
variable {prog : Program} {w : World} {A : Around} {E : Value → Shared → Prop} {s : Shared} {env : Env} {h₀ : Heap} {L : Addr} {m : Str → Option Value}
noncomputable def EnumEnd (h₀ : Heap) (L : Addr) (m : Str → Option Value) (s₁ : Shared) (l4 : List (Addr × Obj)) (keep : Addr × Obj) (J : Value → List (Addr × Obj) → Prop) (y : Value) (s₂ : Shared) : Prop :=
  ∃ h' tk news', s₂ = { s₁ with heap := h', toks := tk } ∧ Fr h₀ L h' m ∧ News h₀ L h' (l4 ++ news') ∧ (∀ p ∈ news', ∀ q ∈ l4, p.1 ≠ q.1) ∧ keep ∈ news' ∧ J y news'
/-- the source of a comprehension that counts what it takes -/
noncomputable def SrcE (prog : Program) (w : World) (A : Around) (h₀ : Heap) (L : Addr) (m : Str → Option Value) (env : Env) (elt : Expr) (x x₁ x₂ : Str) (scope : Scope) (cl : List (Str × Addr)) (Q : Value → Shared → Prop) (xv : Value) (s₁ : Shared) : Prop :=
  ∃ (e it la : Addr) (vs : List Value) (c : Nat) (news : List (Addr × Obj)) (J : Nat → List Value → List (Addr × Obj) → Prop), xv = .ref e ∧ A.handled = none ∧ Fr h₀ L s₁.heap m ∧ News h₀ L s₁.heap news ∧ (la, listOf vs.toArray c) ∈ news ∧ IsEnum s₁.heap e it 0 .none ∧ s₁.heap.IsListIter it la 0 ∧ e ≠ it ∧
    L ≠ e ∧ L ≠ it ∧ h₀.get? e = none ∧ h₀.get? it = none ∧ (∀ p ∈ news, p.1 ≠ e ∧ p.1 ≠ it) ∧ vs.length ≤ sizeLine ∧ J 0 [] news ∧
    (∀ i v ys nx, vs[i]? = some v → J i ys nx → ∃ T v₁ v₂ n, v = .ref T ∧ (T, ({ cls := .type "tuple", data := .seq [v₁, v₂].toArray n } : Obj)) ∈ nx ∧
      ∀ tt oE oI C oC D m₂ h tk (E' : Value → Shared → Prop), (la, listOf vs.toArray c) ∈ nx → NsObj oC m₂ → m₂ x = some (.int i tt) → m₂ x₁ = some v₁ → m₂ x₂ = some v₂ → Fr h₀ L h m →
      News h₀ L h ((e, oE) :: (it, oI) :: (C, oC) :: (D, lst ys) :: nx) → (∀ p ∈ nx, ∀ q ∈ [(e, oE), (it, oI), (C, oC), (D, lst ys)], p.1 ≠ q.1) →
      wpAny (model prog w) A (eval elt (compEnvC scope cl C env)) (EnumEnd h₀ L m { s₁ with heap := h, toks := tk } [(e, oE), (it, oI), (C, oC), (D, lst ys)] (la, listOf vs.toArray c) (fun y news' => J (i + 1) (ys ++ [y]) news')) E' { s₁ with heap := h, toks := tk }) ∧
    ∀ ys nx D h tk, J vs.length ys nx → Fr h₀ L h m → News h₀ L h ((D, lst ys) :: nx) → (∀ p ∈ nx, p.1 ≠ D) → Q (.ref D) { s₁ with heap := h, toks := tk }
theorem EnumEnd.intro {s₁ : Shared} {l4 all : List (Addr × Obj)} {keep : Addr × Obj} {J : Value → List (Addr × Obj) → Prop} {y : Value} {h' : Heap} {tk : Nat} (F : Fr h₀ L h' m) (N : News h₀ L h' all) (news' : List (Addr × Obj)) (sub : ∀ p ∈ l4 ++ news', p ∈ all) (off : ∀ p ∈ news', ∀ q ∈ l4, p.1 ≠ q.1) (hk : keep ∈ news') (r : J y news') :
    EnumEnd h₀ L m s₁ l4 keep J y { s₁ with heap := h', toks := tk } := ⟨h', tk, news', rfl, F, fun p hp => N p (sub p hp), off, hk, r⟩
inductive EnI (h₀ : Heap) (L : Addr) (m : Str → Option Value) (s₁ : Shared) (e it la C D : Addr) (vs : List Value) (c : Nat) (J : Nat → List Value → List (Addr × Obj) → Prop) (kk : Nat) (s' : Shared) : Prop
  | mk (h' : Heap) (tk i : Nat) (ys : List Value) (m' : Str → Option Value) (news' : List (Addr × Obj)) (h0 : s' = { s₁ with heap := h', toks := tk }) (h1 : i ≤ vs.length) (h2 : kk = vs.length + 1 - i) (h3 : ys.length = i) (h4 : (∃ o, IsEnum h' e it i o) ∧ h'.IsListIter it la i ∧ h'.IsList la vs.toArray) (h5 : Fr h₀ L h' m) (h6 : h'.Ns C m') (h7 : News h₀ L h' ((D, lst ys) :: news'))
      (h8 : ∀ p ∈ news', p.1 ≠ e ∧ p.1 ≠ it ∧ p.1 ≠ C ∧ p.1 ≠ D) (h9 : (la, listOf vs.toArray c) ∈ news') (h10 : J i ys news') : EnI h₀ L m s₁ e it la C D vs c J kk s'
theorem kcp_loopH {elt target iter : PySem.Expr} {scope : Scope} {pos : Pos} {it acc : Value} {R : Result → Shared → Prop} (I : Nat → Shared → Prop)
    (turn : ∀ n s (Rn JJ : Shared → Prop) (E1 : Value → Shared → Prop), (∀ s₁, R (.ok .next) s₁ → Rn s₁) → (∀ s₁, (∃ m, m < n ∧ I m s₁) → JJ s₁) → I n s → wpAny (model prog w) A (pyNext it) (fun r s₁ => match r with
      | none => Rn s₁
      | some v => wpAny (model prog w) A (letOwnedTupleGo target it v) (fun _ s₀ => wpAny (model prog w) A (assign target env v) (fun _ s₂ =>
          wpAny (model prog w) A (eval elt env) (fun x s₄ => wpAny (model prog w) A (call (.builtin "list.append") [acc, x]) (fun _ s₅ => JJ s₅) E1 s₄) E1 s₂) E1 s₀) E1 s₁) E1 s)
    (n : Nat) (h : I n s) : codeAny (model prog w) A (.compLoop (.ListComp elt [⟨target, iter, [], 0⟩] scope pos) 0 it acc env) R s :=
  kcp_loop I (fun n s hI => turn n s _ _ _ (fun _ h => h) (fun _ h => h) hI) n h
set_option maxHeartbeats 2000000 in
theorem ListComp_E {elt iter : Expr} {x x₁ x₂ : Str} {px px₁ px₂ tp tp₂ : Pos} {k k₂ : Nat} {scope : Scope} {cl : List (Str × Addr)} {pos : Pos} {Q : Value → Shared → Prop} (F₀ : Fr h₀ L s.heap m)
    (hclos : closureFor scope env = pure cl) (hcell : ∀ y ∈ scope.names, y.2 ≠ .cell) (hkind : scope.kind = .function)
    (hnames : ∀ y ∈ scope.names, y.2 = .local → scope.names.lookup y.1 = some .local) (hx : scope.names.lookup x = some .local) (hx₁ : scope.names.lookup x₁ = some .local) (hx₂ : scope.names.lookup x₂ = some .local) (h01 : x ≠ x₁) (h02 : x ≠ x₂) (h12 : x₁ ≠ x₂)
    (h : wpAny (model prog w) A (eval iter env) (SrcE prog w A h₀ L m env elt x x₁ x₂ scope cl Q) E s)
    (hs : ∀ x, foldedSetIterable iter env x = pure x := by intro _; rfl) :
    wpAny (model prog w) A (eval (.ListComp elt [⟨.Tuple [.Name x px, .Tuple [.Name x₁ px₁, .Name x₂ px₂] k₂ tp₂] k tp, iter, [], 0⟩] scope pos) env) Q E s := by
  rw [eval_ListComp]
  refine wpAny_comprehension_free (use := none) rfl hs hclos hkind hnames (wpAny_mono h (fun xv s₁ h₁ => ?_) fun _ _ e => e)
  obtain ⟨e, it, la, vs, c, news, J, rfl, hh, F, N, hla, hIe, hIl, hei, hLe, hLi, he0, hi0, off, hsz, h0, turn, fin⟩ := h₁
  refine wpAny_pyIter_enum hIe ?_
  have hls : s₁.heap.IsList la vs.toArray := ⟨_, (N _ hla).1, rfl, c, rfl⟩
  have hlae := (off _ hla).1
  have hlai := (off _ hla).2
  have W := WalksT.enumerate (prog := prog) (w := w) hh e it la hei hlae hlai vs.toArray
  have hlen : vs.toArray.size = vs.length := by simp
  rw [hlen] at W
  refine wpAny_newObj_type (wpAny_newFunctionEnv hcell (by intro y hy; simp at hy) (fun h₁ hns₁ hsb₁ => ?_) hkind)
  dsimp only at hns₁ hsb₁ ⊢
  generalize hH2 : s₁.heap.push { cls := .type "list", dict := none, data := .seq ([] : List Value).toArray } = H2 at hns₁ hsb₁ ⊢
  have hC : H2.objs.size = s₁.heap.objs.size + 1 := by rw [← hH2, Heap.size_push]
  generalize hDz : s₁.heap.objs.size = D at hH2 hC ⊢
  generalize hCz : H2.objs.size = C at hns₁ hsb₁ hC ⊢
  have hDC : D ≠ C := by rw [hC]; exact Nat.ne_of_lt (Nat.lt_succ_self _)
  have below : ∀ b, b < D → b ≠ C ∧ b ≠ D := fun b hb => ⟨by rw [hC]; exact Nat.ne_of_lt (Nat.lt_succ_of_lt hb), Nat.ne_of_lt hb⟩
  have lt : ∀ b o, s₁.heap.get? b = some o → b < D := fun b o q => hDz ▸ Heap.lt_size q
  have helt : e < D := lt _ _ hIe
  have hilt : it < D := by obtain ⟨_, q, _⟩ := hIl; exact lt _ _ q
  have hllt : la < D := lt _ _ (N _ hla).1
  have old : ∀ b o, s₁.heap.get? b = some o → h₁.get? b = some o := fun b o q => hsb₁.extBut b o (below b (lt _ _ q)).1 (Heap.get?_push_of_some _ (hH2 ▸ Heap.get?_push_of_some _ q))
  have hacc : h₁.get? D = some (lst []) := hsb₁.extBut _ _ hDC (Heap.get?_push_of_some _ (by rw [← hH2, ← hDz]; exact Heap.get?_push_size _ rfl))
  have fresh₀ : ∀ a, D ≤ a → h₀.get? a = none := fun a ha => by
    cases q : h₀.get? a with
    | none => rfl
    | some o' => exact absurd (lt _ _ (F.keep a o' q)) (Nat.not_lt.mpr ha)
  have hD₀ : h₀.get? D = none := fresh₀ _ (Nat.le_refl _)
  have hC₀ : h₀.get? C = none := fresh₀ _ (by rw [hC]; exact Nat.le_succ _)
  have hLlt : L < D := hDz ▸ F.ns.lt
  have hDL : D ≠ L := Ne.symm (below L hLlt).2
  have hCL : C ≠ L := Ne.symm (below L hLlt).1
  have st1 : (∃ o, IsEnum h₁ e it (0 : Nat) o) ∧ h₁.IsListIter it la 0 ∧ h₁.IsList la vs.toArray := ⟨⟨_, old _ _ hIe⟩, hIl.at fun o q => old _ _ q, hls.at fun o q => old _ _ q⟩
  have loop : ∀ s₃ : Shared, s₃ = { s₁ with heap := h₁, toks := s₁.toks + ([] : List (Str × Value)).length } →
      codeAny (model prog w) A (.compLoop (.ListComp elt [⟨.Tuple [.Name x px, .Tuple [.Name x₁ px₁, .Name x₂ px₂] k₂ tp₂] k tp, iter, [], 0⟩] scope pos) 0 (.ref e) (.ref D) (compEnvC scope cl C env))
        (compPost (model prog w) A E none Q (.ref D) C) s₃ := by
    rintro s₃ rfl
    refine kcp_loopH (EnI h₀ L m s₁ e it la C D vs c J) ?_ (vs.length + 1)
      ⟨h₁, _, 0, [], _, news, rfl, Nat.zero_le _, rfl, rfl, st1, F.keeps old, hns₁, fun p hp => ?_, fun p hp => ?_, hla, h0⟩
    · rintro kk s' Rn JJ E1 hRn hJJ ⟨h', tk, i, ys, m', news', rfl, hi, rfl, hyl, hst', F', hn', N', off', hla', hJ⟩
      have Nn : News h₀ L h' news' := fun p hp => N' p (.tail _ hp)
      by_cases hlt : i < vs.length
      · refine W.item i _ _ _ hlt hst' fun T vals h₂ tk₂ hPv hTs hT hMid hk₂ => ?_
        obtain ⟨tt, v, hv, rfl⟩ := hPv
        have hv' : vs[i]? = some v := by simpa using hv
        have hTw := W.apart _ _ _ hMid
        refine W.go _ _ _ i T _ _ _ hMid fun h₃ hst₃ hk₃ => ?_
        have T₃ : h₃.IsTuple T #[.int i tt, v] := hT.at fun o q => hk₃ T o hTw q
        have new3 : ∀ b o, b ∉ [e, it] → h'.get? b = some o → h₃.get? b = some o := fun b o hb q => hk₃ b o hb (hk₂ b o hb q)
        have notw : ∀ b, b ≠ e → b ≠ it → b ∉ [e, it] := fun b h1 h2 hm => by
          rcases List.mem_cons.mp hm with q | hm
          · exact h1 q
          · exact h2 (List.mem_singleton.mp hm)
        have hCn : C ∉ [e, it] := notw _ (Ne.symm (below e helt).1) (Ne.symm (below it hilt).1)
        have hDn : D ∉ [e, it] := notw _ (Ne.symm (below e helt).2) (Ne.symm (below it hilt).2)
        have hLn : L ∉ [e, it] := notw _ hLe hLi
        have n3 : h₃.Ns C m' := hn'.at' fun o q => new3 C o hCn q
        have N3 : News h₀ L h₃ ((D, lst ys) :: news') := fun p hp => ⟨new3 _ _ (by
          rcases List.mem_cons.mp hp with rfl | hp
          · exact hDn
          · exact notw _ (off' p hp).1 (off' p hp).2.1) (N' p hp).1, (N' p hp).2⟩
        have F3 : Fr h₀ L h₃ m := ⟨F'.ns.at' fun o q => new3 L o hLn q, fun b o q => new3 b o (notw _ (fun z => by rw [z, he0] at q; cases q) (fun z => by rw [z, hi0] at q; cases q)) (F'.keep b o q), F'.above⟩
        obtain ⟨U, v₁, v₂, n, rfl, hU, hturn⟩ := turn i v ys news' hv' hJ
        refine wpAny_assign_Tuple hh T₃ rfl rfl fun h₄ he₄ => ?_
        have up4 : ∀ b o, h₃.get? b = some o → h₄.get? b = some o := fun b o q => he₄ b o (Nat.ne_of_lt (Heap.lt_size q)) q
        refine assignInOrder_cons (wpAny_assign_Name (wpAny_storeName_local (lookup_relabel_local hx) (n3.at' fun o q => up4 _ o q) (fun h₅ hn₅ hs₅ => ?_) (by simp [compEnvC, relabel, hkind])))
        have hUC : U ≠ C := (off' _ hU).2.2.1
        have tU : IsTup h₅ U #[v₁, v₂] := ⟨_, hs₅.extBut _ _ hUC (up4 _ _ (N3 _ (.tail _ hU)).1), rfl, n, rfl⟩
        refine assignInOrder_cons ?_
        refine assign_two (env := compEnvC scope cl C env) (k := k₂) (tp := tp₂) (px := px₁) (py := px₂) hh tU (lookup_relabel_local hx₁) (lookup_relabel_local hx₂) (by simp [compEnvC, relabel, hkind]) hn₅ fun h₆ tk₆ hn₆ hk₆ => ?_
        refine assignInOrder_nil ?_
        have up6 : ∀ b o, b ≠ C → h₃.get? b = some o → h₆.get? b = some o := fun b o hb q => hk₆ b o hb (hs₅.extBut b o hb (up4 b o q))
        have st6 : (∃ o, IsEnum h₆ e it (i + 1 : Nat) o) ∧ h₆.IsListIter it la (i + 1) ∧ h₆.IsList la vs.toArray := W.frame _ _ _ hst₃ fun b hb o q => up6 b o (fun z => by
          rcases List.mem_cons.mp hb with z' | hb
          · exact (below e helt).1 (z' ▸ z)
          · rcases List.mem_cons.mp hb with z' | hb
            · exact (below it hilt).1 (z' ▸ z)
            · exact (below la hllt).1 ((List.mem_singleton.mp hb) ▸ z)) q
        obtain ⟨⟨oldv, heE⟩, hIl6, hls6⟩ := id st6
        obtain ⟨oI, heI, hIr⟩ := hIl6
        obtain ⟨oC, heC, hoC⟩ := ns_obj hn₆
        have heE2 : ∃ oE, h₆.get? e = some oE := ⟨_, heE⟩
        obtain ⟨oE, heE3⟩ := heE2
        have F6 : Fr h₀ L h₆ m := ⟨F3.ns.at' fun o q => up6 L o (Ne.symm hCL) q, fun b o q => up6 b o (fun z => by rw [z, hC₀] at q; cases q) (F3.keep b o q), F3.above⟩
        have N6 : News h₀ L h₆ ((e, oE) :: (it, oI) :: (C, oC) :: (D, lst ys) :: news') := fun p hp => by
          rcases List.mem_cons.mp hp with rfl | hp
          · exact ⟨heE3, Ne.symm hLe, he0⟩
          · rcases List.mem_cons.mp hp with rfl | hp
            · exact ⟨heI, Ne.symm hLi, hi0⟩
            · rcases List.mem_cons.mp hp with rfl | hp
              · exact ⟨heC, hCL, hC₀⟩
              · refine ⟨up6 _ _ ?_ (N3 p hp).1, (N3 p hp).2⟩
                rcases List.mem_cons.mp hp with rfl | hp
                · exact hDC
                · exact (off' p hp).2.2.1
        have off6 : ∀ p ∈ news', ∀ q ∈ [(e, oE), (it, oI), (C, oC), (D, lst ys)], p.1 ≠ q.1 := fun p hp q hq => by
          have z := off' p hp
          simp only [List.mem_cons, List.not_mem_nil, or_false] at hq
          rcases hq with rfl | rfl | rfl | rfl
          · exact z.1
          · exact z.2.1
          · exact z.2.2.1
          · exact z.2.2.2
        refine wpAny_mono (hturn tt oE oI C oC D _ h₆ tk₆ _ hla' hoC (by simp [h01, h02]) (by simp [h12]) (by simp) F6 N6 off6) (fun y s₄ h₄ => ?_) fun _ _ q => q
        obtain ⟨h₇, tk₇, news₇, rfl, F₇, N₇, off₇, hla₇, hJ₇⟩ := h₄
        have zE := (N₇ (e, oE) (.head _)).1
        have zI := (N₇ (it, oI) (.tail _ (.head _))).1
        have zC := (N₇ (C, oC) (.tail _ (.tail _ (.head _)))).1
        have zD := (N₇ (D, lst ys) (.tail _ (.tail _ (.tail _ (.head _))))).1
        have Nn₇ : News h₀ L h₇ news₇ := fun p hp => N₇ p (List.mem_append_right _ hp)
        have o7 : ∀ p ∈ news₇, p.1 ≠ e ∧ p.1 ≠ it ∧ p.1 ≠ C ∧ p.1 ≠ D := fun p hp => ⟨off₇ p hp (e, oE) (.head _), off₇ p hp (it, oI) (.tail _ (.head _)), off₇ p hp (C, oC) (.tail _ (.tail _ (.head _))), off₇ p hp (D, lst ys) (.tail _ (.tail _ (.tail _ (.head _))))⟩
        refine append_at (hsz := by show ys.toArray.size ≤ sizeLine; rw [List.size_toArray, hyl]; exact Nat.le_trans hi hsz) zD fun h₈ hs₈ hD₈ => ?_
        have st7 : (∃ o, IsEnum h₇ e it (i + 1 : Nat) o) ∧ h₇.IsListIter it la (i + 1) ∧ h₇.IsList la vs.toArray := by
          refine ⟨⟨oldv, ?_⟩, ⟨oI, zI, hIr⟩, ⟨_, (Nn₇ _ hla₇).1, rfl, c, rfl⟩⟩
          have hq : h₆.get? e = some _ := heE
          exact zE.trans (heE3.symm.trans hq)
        refine hJJ _ ⟨vs.length + 1 - (i + 1), by omega, h₈, tk₇, i + 1, ys ++ [y], _, news₇, rfl, hlt, rfl, by rw [List.length_append, List.length_singleton, hyl], W.frame _ _ _ st7 fun b hb o q => hs₈.extBut b o (fun z => ?_) q, F₇.change hs₈ hDL hD₀,
          (hoC.ns zC).sameBut hs₈ (Ne.symm hDC), fun p hp => ?_, o7, hla₇, hJ₇⟩
        · rcases List.mem_cons.mp hb with z' | hb
          · exact (below e helt).2 (z' ▸ z)
          · rcases List.mem_cons.mp hb with z' | hb
            · exact (below it hilt).2 (z' ▸ z)
            · exact (below la hllt).2 ((List.mem_singleton.mp hb) ▸ z)
        · rcases List.mem_cons.mp hp with rfl | hp
          · exact ⟨hD₈.trans (congrArg some (lst_snoc ys y)), hDL, hD₀⟩
          · exact ⟨hs₈.extBut _ _ (o7 p hp).2.2.2 (Nn₇ p hp).1, (Nn₇ p hp).2⟩
      · obtain rfl : i = vs.length := Nat.le_antisymm hi (Nat.not_lt.mp hlt)
        refine W.done _ _ _ hst' fun h₂ tk₂ hk₂ => ?_
        have notw : ∀ b, b ≠ e → b ≠ it → b ∉ [e, it] := fun b h1 h2 hm => by
          rcases List.mem_cons.mp hm with q | hm
          · exact h1 q
          · exact h2 (List.mem_singleton.mp hm)
        have F2 : Fr h₀ L h₂ m := ⟨F'.ns.at' fun o q => hk₂ L o (notw _ hLe hLi) q, fun b o q => hk₂ b o (notw _ (fun z => by rw [z, he0] at q; cases q) (fun z => by rw [z, hi0] at q; cases q)) (F'.keep b o q), F'.above⟩
        have N2 : News h₀ L h₂ ((D, lst ys) :: news') := fun p hp => ⟨hk₂ _ _ (by
          rcases List.mem_cons.mp hp with rfl | hp
          · exact notw _ (Ne.symm (below e helt).2) (Ne.symm (below it hilt).2)
          · exact notw _ (off' p hp).1 (off' p hp).2.1) (N' p hp).1, (N' p hp).2⟩
        have hn2 : h₂.Ns C m' := hn'.at' fun o q => hk₂ C o (notw _ (Ne.symm (below e helt).1) (Ne.symm (below it hilt).1)) q
        refine hRn _ ⟨m', hn2, fun h'' hs'' => fin ys news' D h'' tk₂ hJ (F2.change hs'' hCL hC₀) (fun p hp => ?_) fun p hp => (off' p hp).2.2.2⟩
        refine ⟨hs''.extBut _ _ ?_ (N2 p hp).1, (N2 p hp).2⟩
        rcases List.mem_cons.mp hp with rfl | hp
        · exact hDC
        · exact (off' p hp).2.2.1
    · rcases List.mem_cons.mp hp with rfl | hp
      · exact ⟨hacc, hDL, hD₀⟩
      · exact ⟨old _ _ (N p hp).1, (N p hp).2⟩
    · have z := off p hp
      have z2 := below p.1 (lt _ _ (N p hp).1)
      exact ⟨z.1, z.2, z2.1, z2.2⟩
  exact codeAny_compStart_list (loop _ rfl) (W.self 0 _ _ _ st1 (loop _ rfl))
theorem enum_led {led : List (Addr × Obj)} {l : Addr} {vs : List Value} {c : Nat} {Q : Value → Shared → Prop} (F : Fr h₀ L s.heap m) (N : News h₀ L s.heap led) (hm : (l, listOf vs.toArray c) ∈ led)
    (h : ∀ e it h', Fr h₀ L h' m → News h₀ L h' led → IsEnum h' e it 0 .none → h'.IsListIter it l 0 → e ≠ it → L ≠ e → L ≠ it → h₀.get? e = none → h₀.get? it = none → (∀ p ∈ led, p.1 ≠ e ∧ p.1 ≠ it) → Q (.ref e) { s with heap := h' }) :
    wpAny (model prog w) A (call (.type "enumerate") [.ref l]) Q E s := by
  refine call_enumerate_list (News.isList N hm) fun h' hE hI hsz keep => ?_
  have hL : L < s.heap.objs.size := F.ns.lt
  have nw : ∀ a, s.heap.objs.size ≤ a → h₀.get? a = none := fun a ha => by
    cases q : h₀.get? a with
    | none => rfl
    | some o' => exact absurd (Heap.lt_size (F.keep a o' q)) (Nat.not_lt.mpr ha)
  refine h _ _ h' (F.keeps keep) (N.grown keep) hE hI (Nat.succ_ne_self _) (Nat.ne_of_lt (Nat.lt_succ_of_lt hL)) (Nat.ne_of_lt hL) (nw _ (Nat.le_succ _)) (nw _ (Nat.le_refl _)) fun p hp => ?_
  have hp' := Heap.lt_size (N p hp).1
  exact ⟨Nat.ne_of_lt (Nat.lt_succ_of_lt hp'), Nat.ne_of_lt hp'⟩
end
end Mine
section
open Mine Ob
local macro_rules | `(tactic| walk_at "len") => `(tactic| first | decide | (refine Nat.le_trans (by assumption) ?_; decide) | (rw [Str.length_append]; refine Nat.le_trans (Nat.add_le_add (b := 500) (d := 500) ?_ ?_) (by decide) <;> walk_at "len"))
local macro_rules | `(tactic| walk_at "mem") => `(tactic| first | assumption | exact Mine.RdOk.inst (by assumption) | exact List.Mem.head _ | (refine List.Mem.tail _ ?_; walk_at "mem") | (refine Ext.sub (by assumption) _ ?_; walk_at "mem"))
local macro_rules | `(tactic| walk_at "has") => `(tactic| with_reducible first | exact Has.hd | exact Has.tl (Has.hd) | exact Has.tl (Has.tl (Has.hd)) | exact Has.tl (Has.tl (Has.tl (Has.hd))) | exact Has.tl (Has.tl (Has.tl (Has.tl (Has.hd)))) | exact Has.tl (Has.tl (Has.tl (Has.tl (Has.tl (Has.hd))))) | exact Has.tl (Has.tl (Has.tl (Has.tl (Has.tl (Has.tl (Has.hd)))))) | exact Has.tl (Has.tl (Has.tl (Has.tl (Has.tl (Has.tl (Has.tl (Has.hd))))))) | exact Has.tl (Has.tl (Has.tl (Has.tl (Has.tl (Has.tl (Has.tl (Has.tl (Has.hd)))))))) | exact Has.tl (Has.tl (Has.tl (Has.tl (Has.tl (Has.tl (Has.tl (Has.tl (Has.tl (Has.hd))))))))) | exact Has.tl (Has.tl (Has.tl (Has.tl (Has.tl (Has.tl (Has.tl (Has.tl (Has.tl (Has.tl (Has.hd)))))))))))
local macro_rules | `(tactic| walk_at "put") => `(tactic| with_reducible first | refine ⟨_, Put.hd, ?_⟩ | refine ⟨_, Put.tl (Put.hd), ?_⟩ | refine ⟨_, Put.tl (Put.tl (Put.hd)), ?_⟩ | refine ⟨_, Put.tl (Put.tl (Put.tl (Put.hd))), ?_⟩ | refine ⟨_, Put.tl (Put.tl (Put.tl (Put.tl (Put.hd)))), ?_⟩ | refine ⟨_, Put.tl (Put.tl (Put.tl (Put.tl (Put.tl (Put.hd))))), ?_⟩ | refine ⟨_, Put.tl (Put.tl (Put.tl (Put.tl (Put.tl (Put.tl (Put.hd)))))), ?_⟩ | refine ⟨_, Put.tl (Put.tl (Put.tl (Put.tl (Put.tl (Put.tl (Put.tl (Put.hd))))))), ?_⟩ | refine ⟨_, Put.tl (Put.tl (Put.tl (Put.tl (Put.tl (Put.tl (Put.tl (Put.tl (Put.hd)))))))), ?_⟩ | refine ⟨_, Put.tl (Put.tl (Put.tl (Put.tl (Put.tl (Put.tl (Put.tl (Put.tl (Put.tl (Put.hd))))))))), ?_⟩ | refine ⟨_, Put.tl (Put.tl (Put.tl (Put.tl (Put.tl (Put.tl (Put.tl (Put.tl (Put.tl (Put.tl (Put.hd)))))))))), ?_⟩)
local macro_rules | `(tactic| walk_at "puts") => `(tactic| with_reducible first | exact Put.hd | exact Put.tl (Put.hd) | exact Put.tl (Put.tl (Put.hd)) | exact Put.tl (Put.tl (Put.tl (Put.hd))) | exact Put.tl (Put.tl (Put.tl (Put.tl (Put.hd)))) | exact Put.tl (Put.tl (Put.tl (Put.tl (Put.tl (Put.hd))))) | exact Put.tl (Put.tl (Put.tl (Put.tl (Put.tl (Put.tl (Put.hd)))))) | exact Put.tl (Put.tl (Put.tl (Put.tl (Put.tl (Put.tl (Put.tl (Put.hd))))))) | exact Put.tl (Put.tl (Put.tl (Put.tl (Put.tl (Put.tl (Put.tl (Put.tl (Put.hd)))))))) | exact Put.tl (Put.tl (Put.tl (Put.tl (Put.tl (Put.tl (Put.tl (Put.tl (Put.tl (Put.hd))))))))) | exact Put.tl (Put.tl (Put.tl (Put.tl (Put.tl (Put.tl (Put.tl (Put.tl (Put.tl (Put.tl (Put.hd)))))))))))
local macro_rules | `(tactic| walk_at "rm") => `(tactic| with_reducible first | exact rm_peek _ | exact rm_take _ | exact rm_is_kind _ | exact rm_is_word _ | exact rm_skip _ | exact rm_need _ | exact rm_one_of _ | exact rm_is_name _ | exact rm_name _ | exact rm_is_sign _ | exact rm_is_number _ | exact rm_octets _)
local macro_rules | `(tactic| walk_at "gvf") => `(tactic| with_reducible first | exact gv_is_part_next _ | exact gv_read_ref _ | exact gv_read_figure _ | exact gv_read_operand _ | exact gv_word_ahead _ | exact gv_begins_operand _ | exact gv_ref_here _ | exact gv_operand_here _ | exact gv_text_here _ | exact gv_begins_text _ | exact gv_bounds_here _ | exact gv_opens_count _ | exact gv_counted_rows _ | exact gv_tallied_rows _ | exact gv_is_reserved _ | exact gv_octets_of_text _ | exact gv_law_pen _ | exact gv_law_draw _ | exact gv_law_pick _ | exact gv_law_words _ | exact gv_law_reader _ | exact gv_law_item _ | exact gv_law_operand _ | exact gv_law_bounds _ | exact gv_law_sort _ | exact gv_law_right _ | exact gv_law _)
local macro_rules | `(tactic| walk_at "gvb") => `(tactic| with_reducible first | exact gv_len _ | exact gv_sum _ | exact gv_abs _ | exact gv_ord _)
local macro_rules | `(tactic| walk_at "gvt") => `(tactic| with_reducible first | exact gv_tuple _ | exact gv_bytes _ | exact gv_range _ | exact gv_int _ | exact gv_enumerate _)
local macro_rules | `(tactic| walk_at "gv") => `(tactic| with_reducible first | exact gv_is_part_next _ | exact gv_read_ref _ | exact gv_read_figure _ | exact gv_read_operand _ | exact gv_word_ahead _ | exact gv_begins_operand _ | exact gv_ref_here _ | exact gv_operand_here _ | exact gv_text_here _ | exact gv_begins_text _ | exact gv_bounds_here _ | exact gv_opens_count _ | exact gv_counted_rows _ | exact gv_tallied_rows _ | exact gv_is_reserved _ | exact gv_octets_of_text _ | exact gv_law_pen _ | exact gv_law_draw _ | exact gv_law_pick _ | exact gv_law_words _ | exact gv_law_reader _ | exact gv_law_item _ | exact gv_law_operand _ | exact gv_law_bounds _ | exact gv_law_sort _ | exact gv_law_right _ | exact gv_law _ | exact gv_len _ | exact gv_sum _ | exact gv_enumerate _ | exact gv_abs _ | exact gv_ord _ | exact gv_tuple _ | exact gv_bytes _ | exact gv_range _ | exact gv_int _ | exact gv_Reader _ | exact gv_Token _ | exact gv_FIGURE_NAMES _ | exact gv_FIGURE_WORDS _ | exact gv_MOST_OCTET _ | exact gv_RESERVED _ | exact gv_read_expression _)
local macro_rules | `(tactic| walk_at "kp") => `(tactic| with_reducible first | exact kp139 _ | exact kp160 _ | exact kp174 _ | exact kp181 _ | exact kp244 _ | exact kp251 _ | exact kp258 _ | exact kp272 _ | exact kp279 _ | exact kp286 _ | exact kp293 _ | exact kp300 _ | exact kp307 _ | exact kp314 _ | exact kp321 _ | exact kp326 _ | exact kp534 _ | exact kp541 _ | exact kp548 _ | exact kp553 _ | exact kp558 _ | exact kp565 _ | exact kp572 _ | exact kp579 _ | exact kp586 _ | exact kp593 _ | exact kp598 _)
local macro_rules | `(tactic| walk_at "g") => `(tactic| first
  | with_reducible refine' s_next ?_ | with_reducible refine' s_back ?_ | with_reducible refine' sel_t ?_ | with_reducible refine' sel_f ?_ | with_reducible refine' sel_nt ?_ | with_reducible refine' sel_nf ?_
  | with_reducible refine' s_nil ?_
  | with_reducible refine' s_cons ?_ | with_reducible refine' s_if ?_ | with_reducible refine' s_ret ?_ | (with_reducible refine' s_asg ?_ ?e; (case e => kernel_rfl)) | (with_reducible refine' s_drop ?_ ?e ?q; (case e => kernel_rfl); (case q => kernel_rfl)) | (with_reducible refine' s_seta ?_ ?e; (case e => kernel_rfl)) | (with_reducible refine' r_set ?R ?_; (case R => assumption))
  | with_reducible refine' g_none ?_ | with_reducible refine' g_bool ?_ | (with_reducible refine' g_str ?_; intro _) | (with_reducible refine' g_int ?_; intro _)
  | (with_reducible refine' g_loc ?h ?_; (case h => walk_at "has"))
  | (with_reducible refine' r_at ?h (by assumption) ?_ ?e; (case h => walk_at "has"); (case e => kernel_rfl))
  | (with_reducible refine' r_tokens ?h (by assumption) ?_ ?e; (case h => walk_at "has"); (case e => kernel_rfl))
  | (with_reducible refine' g_rm0 ?h (by assumption) ?m ?_ ?e; (case h => walk_at "has"); (case m => walk_at "rm"); (case e => kernel_rfl))
  | (with_reducible refine' g_rm ?h (by assumption) ?m ?_ ?e ?q ?p; (case h => walk_at "has"); (case m => walk_at "rm"); (case e => kernel_rfl); (case q => kernel_rfl); (case p => kernel_rfl))
  | (with_reducible refine' g_fn ?h ?s ?k ?_ ?e ?q ?p; (case h => walk_at "gvf"); (case s => kernel_rfl); (case k => walk_at "kp"); (case e => kernel_rfl); (case q => kernel_rfl); (case p => kernel_rfl))
  | (with_reducible refine' g_bi ?h ?s ?_ ?e ?q ?p; (case h => walk_at "gvb"); (case s => kernel_rfl); (case e => kernel_rfl); (case q => kernel_rfl); (case p => kernel_rfl))
  | (with_reducible refine' g_ty ?h ?s ?_ ?e ?q ?p; (case h => walk_at "gvt"); (case s => kernel_rfl); (case e => kernel_rfl); (case q => kernel_rfl); (case p => kernel_rfl))
  | (with_reducible refine' g_glo ?h ?s ?_; (case h => walk_at "gv"); (case s => kernel_rfl))
  | (with_reducible refine' g_mcall ?_ ?e; (case e => kernel_rfl)) | ((with_reducible show GE _ _ _ (getMethod (Value.str _ _) _ _) _); with_reducible refine' m_split ?_) | (with_reducible refine' w_bui ?_ ?q ?p; (case q => kernel_rfl); (case p => kernel_rfl))
  | (with_reducible refine' two_k1 ?p ?q ?_; (case p => walk_at "puts"); (case q => walk_at "puts")) | (with_reducible refine' twoW_k1 ?p ?q ?_; (case p => walk_at "puts"); (case q => walk_at "puts"))
  | (with_reducible refine' s_two ?_ ?h ?q; (case h => with_unfolding_all rfl); (case q => with_unfolding_all rfl)) | (with_reducible refine' s_twoW ?_ ?h ?q; (case h => with_unfolding_all rfl); (case q => with_unfolding_all rfl))
  | with_reducible refine' g_tup ?_ | with_reducible refine' g_list ?_ | (with_reducible refine' r_tup (by assumption) ?h ?_; (case h => exact Nat.le_of_ble_eq_true rfl); intro D l1 l2 R9) | (with_reducible refine' r_list (by assumption) ?h ?_; (case h => exact Nat.le_of_ble_eq_true rfl); intro D l1 l2 R9) | (with_reducible refine' p_tup (by assumption) ?h ?_; (case h => exact Nat.le_of_ble_eq_true rfl); intro D l1 l2 R9) | (with_reducible refine' p_list (by assumption) ?h ?_; (case h => exact Nat.le_of_ble_eq_true rfl); intro D l1 l2 R9) | (with_reducible refine' n_tup ?h ?_; (case h => exact Nat.le_of_ble_eq_true rfl); intro D l1) | (with_reducible refine' n_list ?h ?_; (case h => exact Nat.le_of_ble_eq_true rfl); intro D l1)
  | (with_reducible refine' s_for ?_ ?h ?q; (case h => kernel_rfl); (case q => (intro _; kernel_rfl)))
  | (with_reducible refine' g_attr ?_ ?e; (case e => kernel_rfl))
  | (with_reducible refine' g_cmp ?_ ?e; (case e => kernel_rfl)) | (with_reducible refine' t_cmp ?_ ?e; (case e => kernel_rfl)) | with_reducible refine' g_binop ?_ | with_reducible refine' g_sub ?_
  | with_reducible refine' g_un ?_ | with_reducible refine' o_notb ?_ | with_reducible refine' t_not ?_ | with_reducible refine' t_and ?_ | with_reducible refine' t_or ?_ | with_reducible refine' g_ifx ?_ | with_reducible refine' t_ifx ?_ | with_reducible refine' t_andn ?_ | with_reducible refine' t_orn ?_ | with_reducible refine' g_and ?_ | with_reducible refine' g_or ?_ | with_reducible refine' g_one ?_
  | with_reducible refine' a_nil ?_ | (with_reducible refine' a_cons ?_ ?q; (case q => kernel_rfl))
  | (with_reducible refine' o_addi ?_; intro _) | with_reducible refine' o_lti ?_ | with_reducible refine' o_gti ?_ | with_reducible refine' o_eqi ?_ | with_reducible refine' o_nei ?_ | with_reducible refine' o_eqs ?_ | with_reducible refine' o_nes ?_ | (with_reducible refine' o_adds ?a ?b ?_; (case a => walk_at "len"); (case b => walk_at "len"); intro _) | with_reducible refine' o_ins ?_
  | with_reducible refine' o_isn_ref ?_ | with_reducible refine' o_is_ref ?_ | with_reducible refine' o_isn_none ?_ | with_reducible refine' o_is_none ?_
  | (with_reducible refine' r_isn ?R ?a ?b ?_; (case R => assumption); (case a => assumption); (case b => assumption)) | (with_reducible refine' r_is ?R ?a ?b ?_; (case R => assumption); (case a => assumption); (case b => assumption))
  | (with_reducible refine' r_kind ?R ?a ?b ?_; (case R => assumption); (case a => assumption); (case b => assumption); intro _) | (with_reducible refine' r_worth ?R ?a ?b ?_; (case R => assumption); (case a => assumption); (case b => assumption); intro _)
  | with_reducible refine' tr_bool ?_
  | (with_reducible refine' t_val ?_ ?q; (case q => with_unfolding_all rfl))
  | walk_at "put"
  | ((with_reducible show GS _ _ _ (execs _ _) _); refine' s_cons ?_))
local macro_rules | `(tactic| walk_at "gs") => `(tactic| repeat (walk_at "g"))
namespace Mine
open Ob
section
variable {W : Wd} {K : Value → Led → Prop} {r rd tl nd : Addr} {t1 t2 t3 : Tok} {i : Nat} {ti : Tok} {rest : Led} {vs : List Value} {ts : List (Str × Str)}
theorem peek_b {x : Value} {tk : Tok} {n : Nat} (R : RdOk W.w rest r rd tl vs ts) (hx : (vs[i]?).getD .none = x) (k : K x ((rd, rdObj W.w tl nd t1 t2 t3 i ti) :: rest)) (c : Cx W f349 n) :
    GS c [some (.ref r), some (.int 0 tk)] ((rd, rdObj W.w tl nd t1 t2 t3 i ti) :: rest) (execs (fB (nth (cB (st 54)) 1)) c.env) fun fl _ l => K (retv fl) l := by
  obtain ⟨m, hl⟩ := R.list
  have hlen := R.len
  refine s_cons (s_if ?_)
  walk_at "gs"
  refine b_len (.tail _ hl) hlen fun t' => ?_
  walk_at "gs"
  by_cases hi : i < vs.length
  · refine sel_eqt (decide_eq_true (by omega)) ?_
    walk_at "gs"
    refine o_item (.tail _ hl) (by omega) (by omega) ?_ k (by with_unfolding_all rfl)
    rw [show ((i : Int) + 0).toNat = i by omega, ← hx, List.getElem?_eq_getElem hi]; rfl
  · refine sel_eqf (decide_eq_false (by omega)) ?_
    walk_at "gs"
    rw [List.getElem?_eq_none (by omega)] at hx
    have e : x = .none := hx.symm
    rw [e] at k; exact k
theorem peek_c {x : Value} {args : List Value} (R : RdOk W.w rest r rd tl vs ts) (hx : (vs[i]?).getD .none = x) (ha : args = [.ref r] ∨ ∃ tk, args = [.ref r, .int 0 tk]) (k : K x ((rd, rdObj W.w tl nd t1 t2 t3 i ti) :: rest)) :
    Calls W 0 349 args ((rd, rdObj W.w tl nd t1 t2 t3 i ti) :: rest) K := by
  rcases ha with rfl | ⟨tk, rfl⟩
  · exact ent349d (peek_b R hx k)
  · exact ent349 (peek_b R hx k)
theorem RdOk.none (R : RdOk W.w rest r rd tl vs ts) (e : ts[i]? = .none) : (vs[i]?).getD .none = .none := by
  rcases R.toks.get (i := i) with ⟨_, a⟩ | ⟨k, x, v, a, _, _⟩
  · rw [a]; rfl
  · rw [a] at e; cases e
theorem RdOk.some {t : Str × Str} (R : RdOk W.w rest r rd tl vs ts) (e : ts[i]? = .some t) : ∃ v, vs[i]? = .some v ∧ (vs[i]?).getD .none = v := by
  rcases R.toks.get (i := i) with ⟨a, _⟩ | ⟨k, x, v, a, b, _⟩
  · rw [a] at e; cases e
  · exact ⟨v, b, by rw [b]; rfl⟩
theorem is_kind_b {kd : Str} {tk ta : Tok} {n : Nat} (R : RdOk W.w rest r rd tl vs ts) (k : K (.bool (isK ts i kd)) ((rd, rdObj W.w tl nd t1 t2 t3 i ti) :: rest)) (c : Cx W f378 (n + 1)) :
    GS c [some (.ref r), some (.str kd tk), some (.int 0 ta), none] ((rd, rdObj W.w tl nd t1 t2 t3 i ti) :: rest) (execs (fB (nth (cB (st 54)) 5)) c.env) fun fl _ l => K (retv fl) l := by
  unfold isK at k
  cases e1 : ts[i]? with
  | none =>
    rw [e1] at k
    walk_at "gs"
    refine g_use (peek_c R (R.none e1) (.inr ⟨_, rfl⟩) ?_) (Nat.succ_pos _)
    walk_at "gs"
    exact k
  | some t =>
    rw [e1] at k
    obtain ⟨v, e2, hx⟩ := R.some e1
    walk_at "gs"
    refine g_use (peek_c R hx (.inr ⟨_, rfl⟩) ?_) (Nat.succ_pos _)
    walk_at "gs"
    exact k
theorem is_kind_c {kd : Str} {tk : Tok} {args : List Value} (R : RdOk W.w rest r rd tl vs ts) (ha : args = [.ref r, .str kd tk] ∨ ∃ ta, args = [.ref r, .str kd tk, .int 0 ta]) (k : K (.bool (isK ts i kd)) ((rd, rdObj W.w tl nd t1 t2 t3 i ti) :: rest)) :
    Calls W 1 378 args ((rd, rdObj W.w tl nd t1 t2 t3 i ti) :: rest) K := by
  rcases ha with rfl | ⟨tk, rfl⟩
  · exact ent378d (is_kind_b R k)
  · exact ent378 (is_kind_b R k)
end
end Mine
namespace Mine
open Ob
theorem Good.no_number {ts : List (Str × Str)} (G : Good ts) (i : Nat) : isK ts i (Str.ofString "number") = false := by
  unfold isK
  split
  · rename_i t e
    have := G t (List.mem_of_getElem? e)
    rcases this with h | h | h <;> rw [h] <;> decide
  · rfl
theorem Good.sign {ts : List (Str × Str)} (G : Good ts) {i : Nat} {x : Str} (e : ts[i]? = some (Str.ofString "sign", x)) : x = Str.ofString "." := by
  have := G _ (List.mem_of_getElem? e)
  rcases this with h | h | h
  · exact absurd (show Str.ofString "sign" = Str.ofString "word" from h) (by decide)
  · exact absurd (show Str.ofString "sign" = Str.ofString "literal" from h) (by decide)
  · exact (Prod.mk.inj h).2
section
variable {W : Wd} {K : Value → Led → Prop} {r rd tl nd : Addr} {t1 t2 t3 : Tok} {i : Nat} {ti : Tok} {rest : Led} {vs : List Value} {ts : List (Str × Str)}
theorem is_sign_c {tk : Tok} {s : Str} (R : RdOk W.w rest r rd tl vs ts) (hs : (Str.ofString "." == s) = false) (k : K (.bool false) ((rd, rdObj W.w tl nd t1 t2 t3 i ti) :: rest)) :
    Calls W 2 443 [.ref r, .str s tk] ((rd, rdObj W.w tl nd t1 t2 t3 i ti) :: rest) K := ent443d fun c => by
  walk_at "gs"
  refine g_use (is_kind_c R (.inr ⟨_, rfl⟩) ?_) (by decide)
  walk_at "gs"
  cases hk : isK ts i (Str.ofString "sign") with
  | false => exact k
  | true =>
    unfold isK at hk
    cases e1 : ts[i]? with
    | none => rw [e1] at hk; cases hk
    | some t =>
      rw [e1] at hk
      obtain ⟨v, e2, hx⟩ := R.some e1
      have e : t.2 = Str.ofString "." := R.good.sign (i := i) (x := t.2) (by rw [e1, ← of_decide_eq_true hk])
      walk_at "gs"
      refine g_use (peek_c R hx (.inr ⟨_, rfl⟩) ?_) (by decide)
      walk_at "gs"
      rw [e, hs]
      exact k
theorem is_number_c (R : RdOk W.w rest r rd tl vs ts) (k : K (.bool false) ((rd, rdObj W.w tl nd t1 t2 t3 i ti) :: rest)) : Calls W 3 464 [.ref r] ((rd, rdObj W.w tl nd t1 t2 t3 i ti) :: rest) K := ent464 fun c => by
  walk_at "gs"
  refine g_use (is_sign_c R (by decide) ?_) (by decide)
  walk_at "gs"
  refine g_use (is_sign_c R (by decide) ?_) (by decide)
  walk_at "gs"
  refine g_use (is_kind_c R (.inl rfl) ?_) (by decide)
  rw [R.good.no_number i]
  walk_at "gs"
  exact k
noncomputable def reserved (x : Str) : Bool := !(Builtin.Str.occurrences RES (Str.ofString " " ++ x ++ Str.ofString " ") 0 RES.length 1).isEmpty
noncomputable def isN (ts : List (Str × Str)) (i : Nat) : Bool := match ts[i]? with
  | some t => decide (t.1 = Str.ofString "word") && !reserved t.2
  | none => false
theorem is_reserved_c {x : Str} {tk : Tok} {led : Led} (hx : x.length ≤ 100) (k : K (.bool (reserved x)) led) : Calls W 0 321 [.str x tk] led K := ent321 fun c => by
  walk_at "gs"
  exact k
theorem isN_eq {t : Str × Str} (e : ts[i]? = some t) : isN ts i = (decide (t.1 = Str.ofString "word") && !reserved t.2) := by unfold isN; rw [e]
theorem isK_eq {t : Str × Str} {kd : Str} (e : ts[i]? = some t) : isK ts i kd = decide (t.1 = kd) := by unfold isK; rw [e]
theorem isK_no {kd : Str} (e : ts[i]? = none) : isK ts i kd = false := by unfold isK; rw [e]
theorem is_name_c (R : RdOk W.w rest r rd tl vs ts) (k : K (.bool (isN ts i)) ((rd, rdObj W.w tl nd t1 t2 t3 i ti) :: rest)) :
    Calls W 2 421 [.ref r] ((rd, rdObj W.w tl nd t1 t2 t3 i ti) :: rest) K := ent421d fun c => by
  walk_at "gs"
  refine g_use (is_kind_c R (.inr ⟨_, rfl⟩) ?_) (by decide)
  walk_at "gs"
  cases e1 : ts[i]? with
  | none =>
    rw [isK_no e1]
    have e : isN ts i = false := by unfold isN; rw [e1]
    rw [e] at k
    exact k
  | some t =>
    rw [isK_eq e1]
    rw [isN_eq e1] at k
    cases hk : decide (t.1 = Str.ofString "word") with
    | false => rw [hk] at k; exact k
    | true =>
      rw [hk, Bool.true_and] at k
      obtain ⟨v, e2, hx⟩ := R.some e1
      have hl := R.short _ (List.mem_of_getElem? e1)
      walk_at "gs"
      refine g_use (peek_c R hx (.inr ⟨_, rfl⟩) ?_) (by decide)
      walk_at "gs"
      refine g_use (is_reserved_c hl ?_) (by decide)
      walk_at "gs"
      exact k
theorem take_c {v : Value} {t : Str × Str} (R : RdOk W.w rest r rd tl vs ts) (e1 : ts[i]? = some t) (e2 : vs[i]? = some v) (k : ∀ ti', K v ((rd, rdObj W.w tl nd t1 t2 t3 ((i + 1 : Nat) : Int) ti') :: rest)) :
    Calls W 1 370 [.ref r] ((rd, rdObj W.w tl nd t1 t2 t3 i ti) :: rest) K := ent370 fun c => by
  walk_at "gs"
  refine g_use (peek_c (x := v) R (by rw [e2]; rfl) (.inl rfl) ?_) (by decide)
  walk_at "gs"
  exact k _
noncomputable def isW (ts : List (Str × Str)) (i : Nat) (x : Str) : Bool := match ts[i]? with
  | some t => decide (t.1 = Str.ofString "word") && decide (t.2 = x)
  | none => false
theorem isW_eq {t : Str × Str} {y : Str} (e : ts[i]? = some t) : isW ts i y = (decide (t.1 = Str.ofString "word") && decide (t.2 = y)) := by unfold isW; rw [e]
theorem isW_no {y : Str} (e : ts[i]? = none) : isW ts i y = false := by unfold isW; rw [e]
theorem name_c {t : Str × Str} (R : RdOk W.w rest r rd tl vs ts) (hn : isN ts i = true) (e1 : ts[i]? = some t) (k : ∀ u ti', K (.str t.2 u) ((rd, rdObj W.w tl nd t1 t2 t3 ((i + 1 : Nat) : Int) ti') :: rest)) :
    Calls W 3 428 [.ref r] ((rd, rdObj W.w tl nd t1 t2 t3 i ti) :: rest) K := ent428 fun c => by
  obtain ⟨v, e2, hx⟩ := R.some e1
  walk_at "gs"
  refine g_use (is_name_c R ?_) (by decide)
  rw [hn]
  walk_at "gs"
  refine g_use (take_c R e1 e2 fun ti' => ?_) (by decide)
  walk_at "gs"
  exact k _ _
theorem word_ahead_c {y : Str} {ta tb : Tok} (R : RdOk W.w rest r rd tl vs ts) (k : K (.bool (isW ts i y)) ((rd, rdObj W.w tl nd t1 t2 t3 i ti) :: rest)) :
    Calls W 1 244 [.ref r, .int 0 ta, .str y tb] ((rd, rdObj W.w tl nd t1 t2 t3 i ti) :: rest) K := ent244 fun c => by
  walk_at "gs"
  cases e1 : ts[i]? with
  | none =>
    rw [isW_no e1] at k
    refine g_use (peek_c R (R.none e1) (.inr ⟨_, rfl⟩) ?_) (by decide)
    walk_at "gs"
    exact k
  | some t =>
    obtain ⟨v, e2, hx⟩ := R.some e1
    rw [isW_eq e1] at k
    refine g_use (peek_c R hx (.inr ⟨_, rfl⟩) ?_) (by decide)
    walk_at "gs"
    cases hk : decide (t.1 = Str.ofString "word") with
    | false =>
      rw [hk, Bool.false_and] at k
      refine sel_eqf hk ?_
      walk_at "gs"
      exact (show (t.1 == Str.ofString "word") = false from hk) ▸ k
    | true =>
      rw [hk, Bool.true_and] at k
      refine sel_eqt hk ?_
      walk_at "gs"
      exact k
end
end Mine
namespace Mine
open Ob
section
variable {W : Wd} {K : Value → Led → Prop} {r rd tl nd : Addr} {t1 t2 t3 : Tok} {i : Nat} {ti : Tok} {rest : Led} {vs : List Value} {ts : List (Str × Str)}
theorem sub_own {a : Addr × Obj} {l own : Led} : ∀ p ∈ a :: l, p ∈ a :: (l ++ own) := fun p hp => by
  rcases List.mem_cons.mp hp with rfl | hp
  · exact .head _
  · exact .tail _ (List.mem_append_left _ hp)
theorem one_at {α : Type} {a v : α} {j : Nat} (h : [a][j]? = some v) : j = 0 ∧ v = a := by
  cases j with
  | zero => exact ⟨rfl, (Option.some.inj h).symm⟩
  | succ j => cases h
structure WJ (W : Wd) (r rd tl nd : Addr) (t1 t2 t3 : Tok) (i : Nat) (ti : Tok) (rest : Led) (ts : List (Str × Str)) (y : Str) (tb : Tok) (j : Nat) (vs : List (Option Value)) (nx : Led) : Prop where
  nx : nx = (rd, rdObj W.w tl nd t1 t2 t3 i ti) :: rest
  vs : ∃ a b z, vs = [some (.ref r), some (.str y tb), some (.int z a), b] ∧ (j = 0 → z = 0)
  is : j = 0 ∨ isW ts i y = true
theorem is_word_c {y : Str} {tb : Tok} (R : RdOk W.w rest r rd tl vs ts) (hy : y.length ≤ 20) (hw : Txt.split y (Str.ofString " ") = [y]) (k : ∀ rest', Ext rd rest rest' → K (.bool (isW ts i y)) ((rd, rdObj W.w tl nd t1 t2 t3 i ti) :: rest')) :
    Calls W 2 385 [.ref r, .str y tb] ((rd, rdObj W.w tl nd t1 t2 t3 i ti) :: rest) K := ent385 fun c => by
  walk_at "gs"
  refine g_split (by decide) hw (by rw [sizeLine_eq]; omega) fun D u l1 l2 => ?_
  have R1 := R.ext (Ext.refl.cons (o := listOf [Value.str y u].toArray 0) l1 l2)
  refine l_list (WJ W r rd tl nd t1 t2 t3 i ti ((D, listOf [Value.str y u].toArray 0) :: rest) ts y tb) (.tail _ (.head _)) ⟨rfl, ⟨_, _, _, rfl, fun _ => rfl⟩, .inl rfl⟩ ?_ ?_
  · intro j v vs1 nx own hv hoff hm J
    obtain ⟨rfl, rfl⟩ := one_at hv
    obtain ⟨rfl, ⟨a, b, z, rfl, hz⟩, -⟩ := J
    obtain rfl := hz rfl
    have R2 := R1.wide hoff
    have X : Ext rd rest ((D, listOf [Value.str y u].toArray 0) :: rest) := Ext.refl.cons l1 l2
    walk_at "put"
    show GS c _ ((rd, rdObj W.w tl nd t1 t2 t3 i ti) :: (((D, listOf [Value.str y u].toArray 0) :: rest) ++ own)) _ _
    walk_at "gs"
    refine g_use (is_kind_c R2 (.inr ⟨_, rfl⟩) ?_) (by decide)
    walk_at "gs"
    cases e1 : ts[i]? with
    | none =>
      rw [isK_no e1]
      refine sel_nf (sel_t (GS.sub sub_own ?_))
      walk_at "gs"
      rw [isW_no e1] at k
      exact k _ X
    | some t =>
      rw [isK_eq e1]
      rw [isW_eq e1] at k
      cases hk : decide (t.1 = Str.ofString "word") with
      | false =>
        rw [hk, Bool.false_and] at k
        refine sel_nf (sel_t (GS.sub sub_own ?_))
        walk_at "gs"
        exact k _ X
      | true =>
        rw [hk, Bool.true_and] at k
        obtain ⟨v, e2, hx⟩ := R.some e1
        walk_at "gs"
        refine g_use (peek_c R2 hx (.inr ⟨_, rfl⟩) ?_) (by decide)
        walk_at "gs"
        cases hb : (t.2 != y) with
        | true =>
          rw [show decide (t.2 = y) = false from decide_eq_false (bne_iff_ne.mp hb)] at k
          refine sel_t (sel_t (GS.sub sub_own ?_))
          walk_at "gs"
          exact k _ X
        | false =>
          walk_at "gs"
          refine t_end (nx := (rd, rdObj W.w tl nd t1 t2 t3 i ti) :: (D, listOf [Value.str y u].toArray 0) :: rest) sub_own (fun p hp => .tail _ (List.mem_append_right _ hp)) hoff hm ⟨rfl, ⟨_, _, _, rfl, fun e => by cases e⟩, .inr ?_⟩
          rw [isW_eq e1, hk, Bool.true_and]
          exact decide_eq_true (by simpa using hb)
  · rintro vs1 nx ⟨rfl, ⟨a, b, z, rfl, -⟩, h⟩
    have h := h.resolve_left (Nat.succ_ne_zero 0)
    rw [h] at k
    walk_at "gs"
    exact k _ (Ext.refl.cons l1 l2)
end
end Mine
namespace Mine
open Ob
theorem Ext.drop {rd : Addr} {ro : Obj} {a own b : Led} (x : Ext rd (a ++ own) b) (h : OwnOff own (((rd, ro) :: a).map (·.1))) : ∃ b', (∀ p ∈ b', p ∈ b) ∧ Ext rd a b' ∧ ∀ ro' : Obj, OwnOff own (((rd, ro') :: b').map (·.1)) := by
  classical
  refine ⟨b.filter fun p => decide (p.1 ∉ own.map (·.1)), fun p hp => (List.mem_filter.mp hp).1, ⟨fun p hp => List.mem_filter.mpr ⟨x.sub p (List.mem_append_left _ hp), decide_eq_true fun hm => ?_⟩, fun p hp => ?_⟩, fun ro' p hp q hq => ?_⟩
  · obtain ⟨o, ho, e⟩ := List.mem_map.mp hm
    exact h o ho p.1 (List.mem_cons_of_mem _ (List.mem_map_of_mem hp)) e
  · obtain ⟨h1, h2⟩ := List.mem_filter.mp hp
    rcases x.new p h1 with h3 | h3
    · rcases List.mem_append.mp h3 with h4 | h4
      · exact .inl h4
      · exact absurd (List.mem_map_of_mem h4) (of_decide_eq_true h2)
    · exact .inr ⟨h3.1, fun q hq => h3.2 q (List.mem_append_left _ hq)⟩
  · rcases List.mem_cons.mp hq with rfl | hq
    · exact h p hp _ (List.mem_cons_self ..)
    · obtain ⟨q', hq', rfl⟩ := List.mem_map.mp hq
      exact fun e => of_decide_eq_true (List.mem_filter.mp hq').2 (e ▸ List.mem_map_of_mem hp)
theorem cons_sub {a : Addr × Obj} {l l' : Led} (h : ∀ p ∈ l', p ∈ l) : ∀ p ∈ a :: l', p ∈ a :: l := fun p hp => (List.mem_cons.mp hp).elim (fun e => e ▸ .head _) fun hp => .tail _ (h p hp)
section
variable {W : Wd} {K : Value → Led → Prop} {r rd tl nd : Addr} {t1 t2 t3 : Tok} {i : Nat} {ti : Tok} {rest : Led} {vs : List Value} {ts : List (Str × Str)}
theorem skip_f {y : Str} {tb : Tok} (R : RdOk W.w rest r rd tl vs ts) (hb : isW ts i y = false) (hy : y.length ≤ 20) (hw : Txt.split y (Str.ofString " ") = [y]) (k : ∀ rest', Ext rd rest rest' → K (.bool false) ((rd, rdObj W.w tl nd t1 t2 t3 i ti) :: rest')) :
    Calls W 3 392 [.ref r, .str y tb] ((rd, rdObj W.w tl nd t1 t2 t3 i ti) :: rest) K := ent392 fun c => by
  walk_at "gs"
  refine g_use (is_word_c R hy hw fun rest' X => ?_) (by decide)
  rw [hb]
  walk_at "gs"
  exact k _ X
theorem skip_t {y : Str} {tb : Tok} (R : RdOk W.w rest r rd tl vs ts) (hb : isW ts i y = true) (hy : y.length ≤ 20) (hw : Txt.split y (Str.ofString " ") = [y]) (k : ∀ rest' ti', Ext rd rest rest' → K (.bool true) ((rd, rdObj W.w tl nd t1 t2 t3 ((i + 1 : Nat) : Int) ti') :: rest')) :
    Calls W 3 392 [.ref r, .str y tb] ((rd, rdObj W.w tl nd t1 t2 t3 i ti) :: rest) K := ent392 fun c => by
  walk_at "gs"
  refine g_use (is_word_c R hy hw fun rest' X => ?_) (by decide)
  rw [hb]
  have R1 := R.ext X
  walk_at "gs"
  refine g_split (by decide) hw (by rw [sizeLine_eq]; omega) fun D u l1 l2 => ?_
  have X2 : Ext rd rest ((D, listOf [Value.str y u].toArray 0) :: rest') := X.cons l1 l2
  have R2 := R.ext X2
  walk_at "gs"
  refine b_len (.tail _ (.head _)) (by show ((1 : Nat) : Int) < 1000000; decide) fun t => ?_
  walk_at "gs"
  exact k _ _ X2
theorem need_c {y : Str} {tb : Tok} (R : RdOk W.w rest r rd tl vs ts) (hb : isW ts i y = true) (hy : y.length ≤ 20) (hw : Txt.split y (Str.ofString " ") = [y]) (k : ∀ rest' ti', Ext rd rest rest' → K .none ((rd, rdObj W.w tl nd t1 t2 t3 ((i + 1 : Nat) : Int) ti') :: rest')) :
    Calls W 4 399 [.ref r, .str y tb] ((rd, rdObj W.w tl nd t1 t2 t3 i ti) :: rest) K := ent399 fun c => by
  walk_at "gs"
  refine g_use (skip_t R hb hy hw fun rest' ti' X => ?_) (by decide)
  walk_at "gs"
  exact k _ _ X
noncomputable def ofInR : Bool → Bool → Str
  | true, _ => Str.ofString "OF"
  | false, true => Str.ofString "IN"
  | false, false => Str.ofString ""
noncomputable def ofInK : Bool → Bool → Nat
  | true, _ => 1
  | false, true => 1
  | false, false => 0
structure OJ (W : Wd) (r rd tl nd : Addr) (t1 t2 t3 : Tok) (i : Nat) (ti : Tok) (rest : Led) (b1 b2 : Bool) (tb : Tok) (j : Nat) (vs : List (Option Value)) (nx : Led) : Prop where
  nx : ∃ rest', nx = (rd, rdObj W.w tl nd t1 t2 t3 i ti) :: rest' ∧ Ext rd rest rest'
  vs : ∃ b, vs = [some (.ref r), some (.str (Str.ofString "OF IN") tb), b]
  n1 : 1 ≤ j → b1 = false
  n2 : 2 ≤ j → b2 = false
theorem two_at {α : Type} {a b v : α} {j : Nat} (h : [a, b][j]? = some v) : (j = 0 ∧ v = a) ∨ (j = 1 ∧ v = b) := by
  rcases j with _ | _ | j
  · exact .inl ⟨rfl, (Option.some.inj h).symm⟩
  · exact .inr ⟨rfl, (Option.some.inj h).symm⟩
  · cases h
theorem one_of_c {tb : Tok} {b1 b2 : Bool} (R : RdOk W.w rest r rd tl vs ts) (hb1 : isW ts i (Str.ofString "OF") = b1) (hb2 : isW ts i (Str.ofString "IN") = b2)
    (k : ∀ rest' ti' u, Ext rd rest rest' → K (.str (ofInR b1 b2) u) ((rd, rdObj W.w tl nd t1 t2 t3 ((i + ofInK b1 b2 : Nat) : Int) ti') :: rest')) :
    Calls W 4 406 [.ref r, .str (Str.ofString "OF IN") tb] ((rd, rdObj W.w tl nd t1 t2 t3 i ti) :: rest) K := ent406 fun c => by
  walk_at "gs"
  refine g_split2 (a := Str.ofString "OF") (b := Str.ofString "IN") (by decide) (by decide +kernel) (by decide +kernel) fun D u1 u2 l1 l2 => ?_
  have X0 : Ext rd rest ((D, listOf [Value.str (Str.ofString "OF") u1, Value.str (Str.ofString "IN") u2].toArray 0) :: rest) := Ext.refl.cons l1 l2
  refine l_list (OJ W r rd tl nd t1 t2 t3 i ti ((D, listOf [Value.str (Str.ofString "OF") u1, Value.str (Str.ofString "IN") u2].toArray 0) :: rest) b1 b2 tb) (.tail _ (.head _)) ⟨⟨_, rfl, Ext.refl⟩, ⟨_, rfl⟩, fun h => absurd h (by decide), fun h => absurd h (by decide)⟩ ?_ ?_
  · intro j v vs1 nx own hv hoff hm J
    obtain ⟨⟨rest1, rfl, X1⟩, ⟨b, rfl⟩, n1, n2⟩ := J
    have R2 := (R.ext (X0.trans X1)).wide hoff
    walk_at "put"
    show GS c _ ((rd, rdObj W.w tl nd t1 t2 t3 i ti) :: (rest1 ++ own)) _ _
    walk_at "gs"
    rcases two_at hv with ⟨rfl, rfl⟩ | ⟨rfl, rfl⟩
    · cases b1 with
      | true =>
        refine g_use (skip_t R2 hb1 (by decide) (by decide +kernel) fun rest' ti' X => ?_) (by decide)
        obtain ⟨b', hb', X', _⟩ := X.drop hoff
        refine GE.sub (cons_sub hb') ?_
        walk_at "gs"
        exact k _ _ _ (X0.trans (X1.trans X'))
      | false =>
        refine g_use (skip_f R2 hb1 (by decide) (by decide +kernel) fun rest' X => ?_) (by decide)
        obtain ⟨b', hb', X', ho⟩ := X.drop hoff
        walk_at "gs"
        exact t_end (cons_sub hb') (fun p hp => .tail _ (X.sub p (List.mem_append_right _ hp))) (ho _) (.tail _ (X'.sub _ (X1.sub _ (.head _)))) ⟨⟨_, rfl, X1.trans X'⟩, ⟨_, rfl⟩, fun _ => rfl, fun h => absurd h (by decide)⟩
    · obtain rfl := n1 (Nat.le_refl 1)
      cases b2 with
      | true =>
        refine g_use (skip_t R2 hb2 (by decide) (by decide +kernel) fun rest' ti' X => ?_) (by decide)
        obtain ⟨b', hb', X', _⟩ := X.drop hoff
        refine GE.sub (cons_sub hb') ?_
        walk_at "gs"
        exact k _ _ _ (X0.trans (X1.trans X'))
      | false =>
        refine g_use (skip_f R2 hb2 (by decide) (by decide +kernel) fun rest' X => ?_) (by decide)
        obtain ⟨b', hb', X', ho⟩ := X.drop hoff
        walk_at "gs"
        exact t_end (cons_sub hb') (fun p hp => .tail _ (X.sub p (List.mem_append_right _ hp))) (ho _) (.tail _ (X'.sub _ (X1.sub _ (.head _)))) ⟨⟨_, rfl, X1.trans X'⟩, ⟨_, rfl⟩, fun _ => rfl, fun _ => rfl⟩
  · rintro vs1 nx ⟨⟨rest1, rfl, X1⟩, ⟨b, rfl⟩, n1, n2⟩
    obtain rfl := n1 (show 1 ≤ 2 by decide)
    obtain rfl := n2 (Nat.le_refl 2)
    walk_at "gs"
    exact k _ _ _ (X0.trans X1)
end
end Mine
namespace Mine
open Ob
section
variable {W : Wd} {K : Value → Led → Prop} {r rd tl nd : Addr} {t1 t2 t3 : Tok} {i : Nat} {ti : Tok} {rest : Led} {vs : List Value} {ts : List (Str × Str)}
theorem is_part_next_c (R : RdOk W.w rest r rd tl vs ts) (k : ∀ rest', Ext rd rest rest' → K (.bool false) ((rd, rdObj W.w tl nd t1 t2 t3 i ti) :: rest')) :
    Calls W 3 139 [.ref r] ((rd, rdObj W.w tl nd t1 t2 t3 i ti) :: rest) K := ent139 fun c => by
  walk_at "gs"
  rename_i ta tb D l1 l2 R1
  have X : Ext rd rest ((D, tupO [.int 0 ta, .int 0 tb]) :: rest) := Ext.refl.cons l1 l2
  refine s_while (fun m vs1 l1 => m = 0 ∧ vs1 = [some (.ref r), some (.int 0 ta), some (.int 0 tb)] ∧ l1 = (rd, rdObj W.w tl nd t1 t2 t3 i ti) :: (D, tupO [.int 0 ta, .int 0 tb]) :: rest) 0 ⟨rfl, rfl, rfl⟩ ?_
  rintro m vs1 l1 ⟨rfl, rfl, rfl⟩
  walk_at "gs"
  refine sel_n (by decide) ?_
  walk_at "gs"
  refine sel_eqt rfl ?_
  walk_at "gs"
  refine g_use (is_sign_c R1 (by decide) ?_) (by decide)
  walk_at "gs"
  exact k _ X
theorem read_figure_none {t : Str × Str} (R : RdOk W.w rest r rd tl vs ts) (e1 : ts[i]? = some t) (hf : nsIn W.K 132 t.2 = some none) (k : K .none ((rd, rdObj W.w tl nd t1 t2 t3 i ti) :: rest)) :
    Calls W 3 174 [.ref r] ((rd, rdObj W.w tl nd t1 t2 t3 i ti) :: rest) K := ent174 fun c => by
  obtain ⟨v, e2, hx⟩ := R.some e1
  walk_at "gs"
  refine g_use (is_kind_c R (.inl rfl) ?_) (by decide)
  walk_at "gs"
  rw [isK_eq e1]
  cases hk : decide (t.1 = Str.ofString "word") with
  | false =>
    walk_at "gs"
    exact k
  | true =>
    walk_at "gs"
    refine g_use (peek_c R hx (.inl rfl) ?_) (by decide)
    walk_at "gs"
    refine b_notin hf (tr_bool (sel_t ?_))
    walk_at "gs"
    exact k
theorem read_figure_some {x y : Str} {ty : Tok} (R : RdOk W.w rest r rd tl vs ts) (e1 : ts[i]? = some (Str.ofString "word", x)) (hf : nsIn W.K 132 x = some (some (.str y ty)))
    (k : ∀ rest' ti' v, Ext rd rest rest' → DatIn rest' v (.tuple [.str (Str.ofString "figure"), .str y]) → K v ((rd, rdObj W.w tl nd t1 t2 t3 ((i + 1 : Nat) : Int) ti') :: rest')) :
    Calls W 3 174 [.ref r] ((rd, rdObj W.w tl nd t1 t2 t3 i ti) :: rest) K := ent174 fun c => by
  obtain ⟨v, e2, hx⟩ := R.some e1
  walk_at "gs"
  refine g_use (is_kind_c R (.inl rfl) ?_) (by decide)
  rw [show isK ts i (Str.ofString "word") = true from (isK_eq e1).trans (decide_eq_true rfl)]
  walk_at "gs"
  refine g_use (peek_c R hx (.inl rfl) ?_) (by decide)
  walk_at "gs"
  refine b_notin hf (tr_bool (sel_f ?_))
  walk_at "gs"
  refine g_use (take_c R e1 e2 fun ti' => ?_) (by decide)
  walk_at "gs"
  refine b_fig hf ?_ (by with_unfolding_all rfl)
  walk_at "gs"
  exact k _ _ _ (Ext.refl.cons (by assumption) (by assumption)) (.tuple (.head _) (.cons (.str _ _) (.cons (.str _ _) .nil)))
end
end Mine
namespace Mine
open Ob
theorem at_drop {ts l : List (Str × Str)} {i : Nat} (h : ts.drop i = l) (j : Nat) : ts[i + j]? = l[j]? := by rw [← h, List.getElem?_drop]
theorem isW_drop {ts l : List (Str × Str)} {i : Nat} (h : ts.drop i = l) (j : Nat) (y : Str) : isW ts (i + j) y = isW l j y := by unfold isW; rw [at_drop h]
theorem isN_drop {ts l : List (Str × Str)} {i : Nat} (h : ts.drop i = l) (j : Nat) : isN ts (i + j) = isN l j := by unfold isN; rw [at_drop h]
theorem isK_drop {ts l : List (Str × Str)} {i : Nat} (h : ts.drop i = l) (j : Nat) (k : Str) : isK ts (i + j) k = isK l j k := by unfold isK; rw [at_drop h]
theorem drop_more {ts a b : List (Str × Str)} {i n : Nat} (h : ts.drop i = a ++ b) (hn : n = i + a.length) : ts.drop n = b := by
  rw [hn, ← List.drop_drop, h, List.drop_left]
/-- the tree of an item -/
noncomputable def refD (x : Str) (qs : List Str) : Dat := .tuple [.str (Str.ofString "ref"), .str x, .tuple (qs.map .str), .tuple [], .none]
inductive Strs : List Value → List Str → Prop
  | nil : Strs [] []
  | cons {x : Str} {t : Tok} {vs xs} : Strs vs xs → Strs (.str x t :: vs) (x :: xs)
theorem Strs.snoc {x : Str} {t : Tok} : ∀ {vs : List Value} {xs : List Str}, Strs vs xs → Strs (vs ++ [.str x t]) (xs ++ [x])
  | _, _, .nil => .cons .nil
  | _, _, .cons h => .cons h.snoc
theorem Strs.len : ∀ {vs : List Value} {xs : List Str}, Strs vs xs → vs.length = xs.length
  | _, _, .nil => rfl
  | _, _, .cons h => congrArg (· + 1) h.len
theorem Strs.dat {led : Led} : ∀ {vs : List Value} {xs : List Str}, Strs vs xs → DatAll led vs (xs.map .str)
  | _, _, .nil => .nil
  | _, _, .cons h => .cons (.str _ _) h.dat
section
variable {W : Wd} {K : Value → Led → Prop} {r rd tl nd : Addr} {t1 t2 t3 : Tok} {i : Nat} {ti : Tok} {rest : Led} {vs : List Value} {ts : List (Str × Str)}
/-- the qualifiers qs stand in the text from place i on, and no more -/
noncomputable def Quals (ts : List (Str × Str)) : Nat → List Str → Prop
  | i, [] => isW ts i (Str.ofString "OF") = false ∧ isW ts i (Str.ofString "IN") = false
  | i, y :: qs => (isW ts i (Str.ofString "OF") || isW ts i (Str.ofString "IN")) = true ∧ isN ts (i + 1) = true ∧ (∃ k, ts[i + 1]? = some (k, y)) ∧ Quals ts (i + 2) qs
structure RJ (W : Wd) (r rd tl nd : Addr) (t1 t2 t3 : Tok) (rest : Led) (ts : List (Str × Str)) (lq : Addr) (f : Value) (x : Str) (u : Tok) (qs : List Str) (e m : Nat) (vs : List (Option Value)) (led : Led) : Prop where
  vs : vs = [some (.ref r), some f, some (.str x u), some (.ref lq), none, none]
  led : ∃ (rest' : Led) (ti' : Tok) (i : Nat) (done left : List Str) (vals : List Value) (c0 : Nat), led = (rd, rdObj W.w tl nd t1 t2 t3 i ti') :: rest' ∧ Ext rd rest rest' ∧ (lq, listOf vals.toArray c0) ∈ rest' ∧ Strs vals done ∧ qs = done ++ left ∧ Quals ts i left ∧ m = left.length ∧ i + 2 * left.length = e
theorem read_ref_c {k x : Str} {qs : List Str} {f : Value} (R : RdOk W.w rest r rd tl vs ts) (hn : isN ts i = true) (e : ts[i]? = some (k, x)) (hq : Quals ts (i + 1) qs) (hz : qs.length ≤ 100)
    (kk : ∀ rest' ti' v, Ext rd rest rest' → DatIn rest' v (refD x qs) → K v ((rd, rdObj W.w tl nd t1 t2 t3 ((i + 1 + 2 * qs.length : Nat) : Int) ti') :: rest')) :
    Calls W 5 160 [.ref r, f] ((rd, rdObj W.w tl nd t1 t2 t3 i ti) :: rest) K := ent160 fun c => by
  walk_at "gs"
  refine g_use (name_c R hn e fun u ti' => ?_) (by decide)
  walk_at "gs"
  rename_i lq l1 l2 _
  have X0 : Ext rd rest ((lq, listOf [].toArray 0) :: rest) := Ext.refl.cons l1 l2
  refine s_while (RJ W r rd tl nd t1 t2 t3 rest ts lq f x u qs (i + 1 + 2 * qs.length)) qs.length ⟨rfl, _, _, _, [], qs, [], 0, rfl, X0, .head _, .nil, rfl, hq, rfl, rfl⟩ ?_
  rintro m vs1 led ⟨rfl, rest', ti'', i', done, left, vals, c0, rfl, X, hm, hS, hqs, hQ, rfl, he⟩
  have R1 := R.ext X
  walk_at "gs"
  cases left with
  | nil =>
    refine g_use (one_of_c R1 hQ.1 hQ.2 fun rest2 ti2 u2 X2 => ?_) (by decide)
    walk_at "gs"
    refine sel_eqf (by decide) ?_
    have R2 := R1.ext X2
    walk_at "gs"
    rename_i D1 a1 b1 R3 _
    refine g_use (is_sign_c R3 (by decide) ?_) (by decide)
    walk_at "gs"
    refine g_use (is_part_next_c R3 fun rest3 X3 => ?_) (by decide)
    have R5 := R3.ext X3
    walk_at "gs"
    refine r_tupOf (by assumption) (X3.sub _ (.tail _ (X2.sub _ hm))) (by rw [hS.len, show done = qs from by rw [hqs, List.append_nil]]; omega) fun D3 a3 b3 R4 => ?_
    walk_at "gs"
    rename_i D5 a5 b5 _
    have ed : done = qs := by rw [hqs, List.append_nil]
    rw [ed] at hS
    rw [show i' + ofInK false false = i + 1 + 2 * qs.length from he]
    exact kk _ _ _ (((((X.trans X2).cons a1 b1).trans X3).cons a3 b3).cons a5 b5) (.tuple (.head _) (.cons (.str _ _) (.cons (.str _ _) (.cons (.tuple (.tail _ (.head _)) hS.dat) (.cons (.tuple (.tail _ (.tail _ (X3.sub _ (.head _)))) .nil) (.cons .none .nil))))))
  | cons y left =>
    obtain ⟨q1, q2, ⟨k2, q3⟩, q4⟩ := hQ
    refine g_use (one_of_c R1 rfl rfl fun rest2 ti2 u2 X2 => ?_) (by decide)
    generalize hb1 : isW ts i' (Str.ofString "OF") = b1 at q1 ⊢
    generalize hb2 : isW ts i' (Str.ofString "IN") = b2 at q1 ⊢
    have e1 : i' + ofInK b1 b2 = i' + 1 := by cases b1 <;> cases b2 <;> first | rfl | cases q1
    have e2 : (ofInR b1 b2 != Str.ofString "") = true := by cases b1 <;> cases b2 <;> first | decide | cases q1
    rw [e1]
    have R2 := R1.ext X2
    walk_at "gs"
    refine sel_eqt e2 ?_
    walk_at "gs"
    refine m_append (.tail _ (X2.sub _ hm)) ?_
    walk_at "gs"
    refine g_use (name_c R2 q2 q3 fun u3 ti3 => ?_) (by decide)
    walk_at "gs"
    refine r_append (X2.sub _ hm) l1 (by rw [hS.len]; rw [sizeLine_eq]; have := congrArg List.length hqs; simp at this; omega) ?_
    walk_at "gs"
    walk_at "gs"
    exact ⟨left.length, _, Nat.lt_succ_self _, fun _ h => h, rfl, _, _, _, done ++ [y], left, _, _, rfl, (X.trans X2).put l1 l2, .head _, hS.snoc, by rw [hqs, List.append_assoc]; rfl, q4, rfl, by rw [List.length_cons] at he; omega⟩
end
end Mine
namespace Mine
open Ob
noncomputable def wd (x : Str) : Str × Str := (Str.ofString "word", x)
/-- an operand as it is written -/
inductive Op
  | item (x : Str)
  | qual (x q y : Str)
  | fig (x y : Str) (t : Tok)
  | lit
noncomputable def Op.toks : Op → List (Str × Str)
  | .item x => [wd x]
  | .qual x q y => [wd x, wd q, wd y]
  | .fig x _ _ => [wd x]
  | .lit => [(Str.ofString "literal", Str.ofString "FOR")]
noncomputable def Op.dat : Op → Dat
  | .item x => refD x []
  | .qual x _ y => refD x [y]
  | .fig _ y _ => .tuple [.str (Str.ofString "figure"), .str y]
  | .lit => .tuple [.str (Str.ofString "text"), .bytes #[70, 79, 82]]
noncomputable def Op.isRef : Op → Bool
  | .item _ => true
  | .qual _ _ _ => true
  | _ => false
noncomputable def NameOk (w : World) (x : Str) : Prop := reserved x = false ∧ nsIn (Ob.KF w.params) 132 x = some none
noncomputable def figText : Str := Str.ofString " ZERO ZEROS ZEROES SPACE SPACES HIGH-VALUE HIGH-VALUES LOW-VALUE LOW-VALUES QUOTE QUOTES ALL "
noncomputable def figw (x : Str) : Bool := !(Builtin.Str.occurrences figText (Str.ofString " " ++ x ++ Str.ofString " ") 0 figText.length 1).isEmpty
noncomputable def Op.Ok (w : World) : Op → Prop
  | .item x => NameOk w x
  | .qual x q y => NameOk w x ∧ (q = Str.ofString "OF" ∨ q = Str.ofString "IN") ∧ NameOk w y
  | .fig x y t => reserved x = true ∧ figw x = true ∧ x ≠ Str.ofString "ALL" ∧ nsIn (Ob.KF w.params) 132 x = some (some (.str y t))
  | .lit => True
noncomputable def NoRef (l : List (Str × Str)) : Prop := isW l 0 (Str.ofString "OF") = false ∧ isW l 0 (Str.ofString "IN") = false
noncomputable def begO (ts : List (Str × Str)) (i : Nat) : Bool := match ts[i]? with
  | none => false
  | some t => decide (t.1 = Str.ofString "literal") || (decide (t.1 = Str.ofString "word") && (!reserved t.2 || figw t.2))
section
variable {W : Wd} {K : Value → Led → Prop} {r rd tl nd : Addr} {t1 t2 t3 : Tok} {i : Nat} {ti : Tok} {rest : Led} {vs : List Value} {ts : List (Str × Str)}
theorem ref_here_c {o : Op} {post : List (Str × Str)} (R : RdOk W.w rest r rd tl vs ts) (hd : ts.drop i = o.toks ++ post) (hp : NoRef post) (hr : o.isRef = true) (ok : o.Ok W.w)
    (k : ∀ rest' ti' v, Ext rd rest rest' → DatIn rest' v o.dat → K v ((rd, rdObj W.w tl nd t1 t2 t3 ((i + o.toks.length : Nat) : Int) ti') :: rest')) :
    Calls W 6 258 [.ref r] ((rd, rdObj W.w tl nd t1 t2 t3 i ti) :: rest) K := ent258 fun c => by
  have key : ∃ x qs, isN ts i = true ∧ (∃ k, ts[i]? = some (k, x)) ∧ Quals ts (i + 1) qs ∧ qs.length ≤ 100 ∧ o.dat = refD x qs ∧ i + o.toks.length = i + 1 + 2 * qs.length := by
    cases o with
    | item x =>
      have e0 : ts[i]? = some (Str.ofString "word", x) := at_drop hd 0
      exact ⟨x, [], by rw [isN_eq e0, decide_eq_true rfl, ok.1]; rfl, ⟨_, e0⟩, ⟨(isW_drop hd 1 _).trans hp.1, (isW_drop hd 1 _).trans hp.2⟩, Nat.zero_le _, rfl, rfl⟩
    | qual x q y =>
      have e0 : ts[i]? = some (Str.ofString "word", x) := at_drop hd 0
      have e2 : ts[i + 2]? = some (Str.ofString "word", y) := at_drop hd 2
      refine ⟨x, [y], by rw [isN_eq e0, decide_eq_true rfl, ok.1.1]; rfl, ⟨_, e0⟩, ⟨?_, by rw [isN_eq e2, decide_eq_true rfl, ok.2.2.1]; rfl, ⟨_, e2⟩, (isW_drop hd 3 _).trans hp.1, (isW_drop hd 3 _).trans hp.2⟩, Nat.le_of_ble_eq_true rfl, rfl, rfl⟩
      rw [isW_drop hd 1, isW_drop hd 1]
      rcases ok.2.1 with rfl | rfl
      · rw [(isW_eq (t := (Str.ofString "word", Str.ofString "OF")) rfl).trans (show _ = true by decide), Bool.true_or]
      · rw [(isW_eq (y := Str.ofString "IN") (t := (Str.ofString "word", Str.ofString "IN")) rfl).trans (show _ = true by decide), Bool.or_true]
    | fig x y t => cases hr
    | lit => cases hr
  obtain ⟨x, qs, hn, ⟨k1, e1⟩, hq, hz, hdat, hlen⟩ := key
  rw [hdat, hlen] at k
  walk_at "gs"
  refine g_use (is_name_c R ?_) (by decide)
  rw [hn]
  walk_at "gs"
  refine g_use (read_ref_c R hn e1 hq hz fun rest' ti' v X d => ?_) (by decide)
  walk_at "gs"
  exact k _ _ _ X d
theorem isN_K (h : isN ts i = true) : isK ts i (Str.ofString "word") = true := by
  unfold isN at h; unfold isK
  cases e : ts[i]? with
  | none => rw [e] at h; cases h
  | some t => rw [e] at h; exact (Bool.and_eq_true_iff.mp h).1
theorem begins_operand_c (R : RdOk W.w rest r rd tl vs ts) (k : K (.bool (begO ts i)) ((rd, rdObj W.w tl nd t1 t2 t3 i ti) :: rest)) :
    Calls W 4 251 [.ref r] ((rd, rdObj W.w tl nd t1 t2 t3 i ti) :: rest) K := ent251 fun c => by
  walk_at "gs"
  refine g_use (is_number_c R ?_) (by decide)
  walk_at "gs"
  refine g_use (is_kind_c R (.inl rfl) ?_) (by decide)
  walk_at "gs"
  cases e1 : ts[i]? with
  | none =>
    rw [isK_no e1]
    walk_at "gs"
    refine g_use (is_name_c R ?_) (by decide)
    rw [show isN ts i = false by unfold isN; rw [e1]]
    walk_at "gs"
    refine g_use (is_kind_c R (.inl rfl) ?_) (by decide)
    rw [isK_no e1]
    walk_at "gs"
    rw [show begO ts i = false by unfold begO; rw [e1]] at k
    exact k
  | some t =>
    have eb : begO ts i = (decide (t.1 = Str.ofString "literal") || (decide (t.1 = Str.ofString "word") && (!reserved t.2 || figw t.2))) := by unfold begO; rw [e1]
    rw [eb] at k
    rw [isK_eq e1]
    cases hl : decide (t.1 = Str.ofString "literal") with
    | true =>
      rw [hl, Bool.true_or] at k
      walk_at "gs"
      exact k
    | false =>
      rw [hl, Bool.false_or] at k
      walk_at "gs"
      refine g_use (is_name_c R ?_) (by decide)
      rw [isN_eq e1]
      cases hw : decide (t.1 = Str.ofString "word") with
      | false =>
        rw [hw, Bool.false_and] at k
        rw [Bool.false_and]
        walk_at "gs"
        refine g_use (is_kind_c R (.inl rfl) ?_) (by decide)
        rw [isK_eq e1, hw]
        walk_at "gs"
        exact k
      | true =>
        rw [hw, Bool.true_and] at k
        rw [Bool.true_and]
        cases hr : reserved t.2 with
        | false =>
          rw [hr, Bool.not_false, Bool.true_or] at k
          walk_at "gs"
          exact k
        | true =>
          rw [hr, Bool.not_true, Bool.false_or] at k
          walk_at "gs"
          refine g_use (is_kind_c R (.inl rfl) ?_) (by decide)
          rw [isK_eq e1, hw]
          walk_at "gs"
          obtain ⟨v, e2, hx⟩ := R.some e1
          have hlen := R.short _ (List.mem_of_getElem? e1)
          refine g_use (peek_c R hx (.inl rfl) ?_) (by decide)
          walk_at "gs"
          exact k
end
end Mine
namespace Mine
open Ob
theorem three_of {ys : List Value} {x : Str} {a b d : Nat} (hx : x.cps = #[a, b, d]) (hl : ys.length = 3) (h : ∀ (i : Nat) y, ys[i]? = some y → ∃ q t, x.cps[i]? = some q ∧ y = .int (q : Int) t) : ∃ t1 t2 t3, ys = [.int a t1, .int b t2, .int d t3] := by
  obtain ⟨y1, y2, y3, rfl⟩ : ∃ y1 y2 y3, ys = [y1, y2, y3] := by
    match ys, hl with
    | [y1, y2, y3], _ => exact ⟨_, _, _, rfl⟩
  rw [hx] at h
  obtain ⟨_, t1, e1, rfl⟩ := h 0 _ rfl
  obtain ⟨_, t2, e2, rfl⟩ := h 1 _ rfl
  obtain ⟨_, t3, e3, rfl⟩ := h 2 _ rfl
  cases e1; cases e2; cases e3
  exact ⟨_, _, _, rfl⟩
section
variable {W : Wd} {K : Value → Led → Prop} {led : Led} {tk : Tok}
set_option maxHeartbeats 4000000 in
theorem octets_of_text_c (k : ∀ l t, (∀ p ∈ led, p ∈ l) → K (.bytes #[70, 79, 82] t) l) : Calls W 0 326 [.str (Str.ofString "FOR") tk] led K := ent326 fun c => by
  have hcps : (Str.ofString "FOR").cps = #[70, 79, 82] := by decide +kernel
  refine s_cons ?_
  refine' s_lcStr (R := fun i r => ∃ (a : Nat) (t : Tok), (Str.ofString "FOR").cps[i]? = some a ∧ r = .int (a : Int) t) ?_ ?k1 ?k2 ?k3 ?k4 ?k5 ?k6 ?k7 ?k8
  case k1 => with_unfolding_all rfl
  case k2 => exact rfl
  case k3 => decide
  case k4 => exact rfl
  case k5 => decide
  case k6 => exact rfl
  case k7 => exact .tail _ (.head _)
  case k8 => exact fun _ => rfl
  walk_at "gs"
  refine ⟨_, _, rfl, Nat.le_of_ble_eq_true rfl, by decide +kernel, ?_, ?_⟩
  · rintro i v ⟨a, u, ha, rfl⟩
    exact p_ord (gv_ord _) rfl rfl (by decide +kernel) (by kernel_rfl) (fun t => ⟨a, t, ha, rfl⟩) (fun _ => by kernel_rfl)
  · intro D ys hl hr o
    obtain ⟨t1, t2, t3, rfl⟩ := three_of hcps (by rw [hl, hcps]; rfl) hr
    walk_at "gs"
    refine' o_lcNone ?_ ?k1 ?k2 ?k3 ?k4 ?k5 ?k6
    case k1 => exact rfl
    case k2 => decide
    case k3 => exact rfl
    case k4 => decide
    case k5 => exact rfl
    case k6 => exact fun _ => rfl
    walk_at "gs"
    refine ⟨D, _, _, rfl, .head _, Nat.le_of_ble_eq_true rfl, ?_, fun D2 o2 => ?_⟩
    · intro i v hv
      have : ∃ (a : Nat) (t : Tok), v = .int (a : Int) t ∧ a ≤ 255 := by
        match i, hv with
        | 0, hv => cases hv; exact ⟨70, _, rfl, by decide⟩
        | 1, hv => cases hv; exact ⟨79, _, rfl, by decide⟩
        | 2, hv => cases hv; exact ⟨82, _, rfl, by decide⟩
      obtain ⟨a, t, rfl, ha⟩ := this
      exact p_gtNo (gv_MOST_OCTET _) rfl rfl (by decide +kernel) (by kernel_rfl) (by omega)
    · refine tr_nolist (.head _) ?_
      walk_at "gs"
      refine o_bytes (.tail _ (.head _)) (ns := [70, 79, 82]) ?_ ?_ (by decide) fun t => ?_
      · exact .cons _ _ (.cons _ _ (.cons _ _ .nil))
      · unfold KBa.In; decide
      · exact k _ _ fun p hp => .tail _ (.tail _ hp)
end
section
variable {W : Wd} {K : Value → Led → Prop} {r rd tl nd : Addr} {t1 t2 t3 : Tok} {i : Nat} {ti : Tok} {rest : Led} {vs : List Value} {ts : List (Str × Str)}
set_option maxHeartbeats 4000000 in
theorem octets_c (R : RdOk W.w rest r rd tl vs ts) (e : ts[i]? = some (Str.ofString "literal", Str.ofString "FOR"))
    (k : ∀ t ti', K (.bytes #[70, 79, 82] t) ((rd, rdObj W.w tl nd t1 t2 t3 ((i + 1 : Nat) : Int) ti') :: rest)) :
    Calls W 2 492 [.ref r] ((rd, rdObj W.w tl nd t1 t2 t3 i ti) :: rest) K := ent492 fun c => by
  have hk : isK ts i (Str.ofString "literal") = true := by unfold isK; rw [e]; rfl
  walk_at "gs"
  refine g_use (is_kind_c R (.inl rfl) ?_) (by decide)
  rw [hk]
  obtain ⟨v, e2, hx⟩ := R.some e
  walk_at "gs"
  refine g_use (peek_c R hx (.inl rfl) ?_) (by decide)
  walk_at "gs"
  refine g_use (octets_of_text_c fun l t hs => ?_) (by decide)
  walk_at "put"
  refine s_next ?_
  refine GS.sub hs ?_
  walk_at "gs"
  refine o_is (by with_unfolding_all rfl) ?_
  rw [show (Value.bytes #[70, 79, 82] t == Value.none) = false by with_unfolding_all rfl]
  walk_at "gs"
  exact k _ _
end
end Mine
namespace Mine
open Ob
noncomputable def subL (y : List Nat) : List Nat → Bool
  | [] => y.isEmpty
  | c :: l => y.isPrefixOf (c :: l) || subL y l
theorem subL_iff (y : List Nat) : ∀ l : List Nat, subL y l = true ↔ ∃ i, i + y.length ≤ l.length ∧ (l.drop i).take y.length = y
  | [] => by
    cases y with
    | nil => simp [subL]
    | cons c y => simp [subL]
  | c :: l => by
    rw [subL, Bool.or_eq_true, subL_iff y l, List.isPrefixOf_iff_prefix, List.prefix_iff_eq_take]
    constructor
    · rintro (h | ⟨i, h1, h2⟩)
      · refine ⟨0, ?_, h.symm⟩
        have := congrArg List.length h
        simp at this ⊢
        omega
      · exact ⟨i + 1, by simp; omega, by simpa using h2⟩
    · rintro ⟨i, h1, h2⟩
      cases i with
      | zero => exact .inl h2.symm
      | succ i => exact .inr ⟨i, by simp at h1; omega, by simpa using h2⟩
theorem found_sub (x y : Str) : (!(Builtin.Str.occurrences x y 0 x.length 1).isEmpty) = subL y.cps.toList x.cps.toList := by
  rw [Bool.eq_iff_iff, StrLaws.found_iff, subL_iff]
  have hx : x.length = x.cps.toList.length := by simp [Str.length]
  have hy : y.length = y.cps.toList.length := by simp [Str.length]
  constructor
  all_goals
    rintro ⟨i, h1, h2⟩
    refine ⟨i, by omega, ?_⟩
  · rw [StrLaws.subAt_eq, beq_iff_eq, hy] at h2
    exact h2
  · rw [StrLaws.subAt_eq, beq_iff_eq, hy]
    exact h2
theorem spaced (x : Str) : (Str.ofString " " ++ x ++ Str.ofString " ").cps.toList = 32 :: (x.cps.toList ++ [32]) := by
  show ((Str.ofString " ").cps ++ x.cps ++ (Str.ofString " ").cps).toList = _
  rw [Array.toList_append, Array.toList_append, show (Str.ofString " ").cps.toList = [32] by decide +kernel]
  rfl
theorem rawOf (l : List Char) : Str.ofString (String.ofList l) = ⟨⟨R.mapR Char.toNat l⟩⟩ := by
  rw [Fast.ofString_ofList, R.mapR_eq]
/-- the long text's signs, as the row has them -/
noncomputable def resSig : {l : List Char // ∃ n p k q r, pg.main.body[51]? = some (Stmt.Assign [Expr.Name n p] (Expr.Constant (Const.str (Str.ofString (String.ofList l))) k q) r)} :=
  ⟨_, _, _, _, _, _, rfl⟩
local macro_rules | `(tactic| walk_at "resNums") => do
  let x := match PySem.Challenge.pw_pb0271_01.main.body[51]? with
    | some (Stmt.Assign _ (Expr.Constant (Const.str x) _ _) _) => x
    | _ => Str.empty
  let ns := x.cps.map fun n => Lean.Syntax.mkNumLit (toString n)
  `(tactic| exact [$ns,*])
noncomputable def resNums : List Nat := by walk_at "resNums"
theorem resRaw_eq : Str.ofString (String.ofList resSig.1) = ⟨⟨resNums⟩⟩ := rawOf _
theorem nth_get : ∀ (l : List Stmt) (i : Nat), nth l i = (l[i]?).getD noSt
  | [], _ => rfl
  | _ :: _, 0 => rfl
  | _ :: l, i + 1 => by rw [List.getElem?_cons_succ]; exact nth_get l i
theorem RES_eq : RES = ⟨⟨resNums⟩⟩ := by
  unfold RES Ob.st
  rw [nth_get]
  obtain ⟨n, p, k, q, r, e⟩ := resSig.2
  rw [show pg.main.body[(nat_lit 51 : Nat)]? = _ from e]
  exact resRaw_eq
theorem reserved_sub (x : Str) : reserved x = subL (32 :: (x.cps.toList ++ [32])) resNums := by
  unfold reserved
  rw [found_sub, spaced, RES_eq]
theorem figw_sub (x : Str) : figw x = subL (32 :: (x.cps.toList ++ [32])) figText.cps.toList := by
  unfold figw
  rw [found_sub, spaced]
/-- the words that the law writes -/
theorem res_t : ∀ x ∈ ["BEFORE", "AFTER", "INITIAL", "FOR", "OF", "IN", "CHARACTERS", "ALL", "LEADING", "SPACES", "ZERO", "REPLACING", "CONTINUE", "END-IF"], reserved (Str.ofString x) = true := by
  intro x hx
  rw [reserved_sub]
  revert x
  decide +kernel
theorem res_f : ∀ x ∈ ["K", "N-1", "C", "D", "R"], reserved (Str.ofString x) = false := by
  intro x hx
  rw [reserved_sub]
  revert x
  decide +kernel
theorem figw_t : ∀ x ∈ ["SPACES", "ZERO", "ALL"], figw (Str.ofString x) = true := by
  intro x hx
  rw [figw_sub]
  revert x
  decide +kernel
theorem figw_f : ∀ x ∈ ["BEFORE", "AFTER", "INITIAL", "FOR", "OF", "IN", "CHARACTERS", "LEADING", "REPLACING", "CONTINUE", "END-IF"], figw (Str.ofString x) = false := by
  intro x hx
  rw [figw_sub]
  revert x
  decide +kernel
theorem ns_k (P : Params) : ∀ x ∈ ["K", "N-1", "C", "D", "R"], nsIn (KF P) 132 (Str.ofString x) = some none := by
  intro x hx
  simp only [List.mem_cons, List.not_mem_nil, or_false] at hx
  rcases hx with rfl | rfl | rfl | rfl | rfl <;> kernel_rfl
theorem ns_spaces (P : Params) : nsIn (KF P) 132 (Str.ofString "SPACES") = some (some (.str (Str.ofString "SPACE") (nat_lit 356))) := by kernel_rfl
theorem ns_zero (P : Params) : nsIn (KF P) 132 (Str.ofString "ZERO") = some (some (.str (Str.ofString "ZERO") (nat_lit 348))) := by kernel_rfl
end Mine
namespace Mine
open Ob
theorem begO_drop {ts l : List (Str × Str)} {i : Nat} (h : ts.drop i = l) (j : Nat) : begO ts (i + j) = begO l j := by unfold begO; rw [at_drop h]
theorem ne_of_res {x y : Str} (h : reserved x = false) (k : reserved y = true) : x ≠ y := fun e => by rw [e, k] at h; cases h
noncomputable def kws : List String := ["BEFORE", "AFTER", "INITIAL", "FOR", "OF", "IN", "CHARACTERS", "LEADING", "REPLACING", "CONTINUE", "END-IF"]
theorem Op.noW {w : World} {o : Op} (ok : o.Ok w) {post : List (Str × Str)} {kw : String} (h : kw ∈ "ALL" :: kws) : isW (o.toks ++ post) 0 (Str.ofString kw) = false := by
  have hr : reserved (Str.ofString kw) = true := res_t _ ((by decide : ∀ k ∈ "ALL" :: kws, k ∈ ["BEFORE", "AFTER", "INITIAL", "FOR", "OF", "IN", "CHARACTERS", "ALL", "LEADING", "SPACES", "ZERO", "REPLACING", "CONTINUE", "END-IF"]) kw h)
  cases o with
  | item x => simpa [isW, Op.toks, wd] using ne_of_res ok.1 hr
  | qual x q y => simpa [isW, Op.toks, wd] using ne_of_res ok.1.1 hr
  | fig x y t =>
    have e : x ≠ Str.ofString kw := by
      rcases List.mem_cons.mp h with rfl | h
      · exact ok.2.2.1
      · intro e
        have h1 := ok.2.1
        have h2 := figw_f kw h
        rw [e, h2] at h1
        cases h1
    simpa [isW, Op.toks, wd] using e
  | lit =>
    have e : Str.ofString "literal" ≠ Str.ofString "word" := by decide
    simp [isW, Op.toks, e]
theorem Op.beg {w : World} {o : Op} (ok : o.Ok w) (post : List (Str × Str)) : begO (o.toks ++ post) 0 = true := by
  cases o with
  | item x => simp [begO, Op.toks, wd, ok.1]
  | qual x q y => simp [begO, Op.toks, wd, ok.1.1]
  | fig x y t => simp [begO, Op.toks, wd, ok.2.1]
  | lit => simp [begO, Op.toks]
theorem dat_ref {l : Led} {v : Value} {ds : List Dat} (h : DatIn l v (.tuple ds)) : ∃ a, v = .ref a := by cases h; exact ⟨_, rfl⟩
theorem Op.aref {l : Led} {v : Value} {o : Op} (h : DatIn l v o.dat) : ∃ a, v = .ref a := by
  cases o <;> exact dat_ref h
section
variable {W : Wd} {K : Value → Led → Prop} {r rd tl nd : Addr} {t1 t2 t3 : Tok} {i : Nat} {ti : Tok} {rest : Led} {vs : List Value} {ts : List (Str × Str)}
theorem Op.keyN {o : Op} {post : List (Str × Str)} (hd : ts.drop i = o.toks ++ post) (hp : NoRef post) (hr : o.isRef = true) (ok : o.Ok W.w) :
    ∃ x qs, isN ts i = true ∧ ts[i]? = some (Str.ofString "word", x) ∧ Quals ts (i + 1) qs ∧ qs.length ≤ 100 ∧ o.dat = refD x qs ∧ i + o.toks.length = i + 1 + 2 * qs.length ∧ NameOk W.w x := by
    cases o with
    | item x =>
      have e0 : ts[i]? = some (Str.ofString "word", x) := at_drop hd 0
      exact ⟨x, [], by rw [isN_eq e0, decide_eq_true rfl, ok.1]; rfl, e0, ⟨(isW_drop hd 1 _).trans hp.1, (isW_drop hd 1 _).trans hp.2⟩, Nat.zero_le _, rfl, rfl, ok⟩
    | qual x q y =>
      have e0 : ts[i]? = some (Str.ofString "word", x) := at_drop hd 0
      have e2 : ts[i + 2]? = some (Str.ofString "word", y) := at_drop hd 2
      refine ⟨x, [y], by rw [isN_eq e0, decide_eq_true rfl, ok.1.1]; rfl, e0, ⟨?_, by rw [isN_eq e2, decide_eq_true rfl, ok.2.2.1]; rfl, ⟨_, e2⟩, (isW_drop hd 3 _).trans hp.1, (isW_drop hd 3 _).trans hp.2⟩, Nat.le_of_ble_eq_true rfl, rfl, rfl, ok.1⟩
      rw [isW_drop hd 1, isW_drop hd 1]
      rcases ok.2.1 with rfl | rfl
      · rw [(isW_eq (t := (Str.ofString "word", Str.ofString "OF")) rfl).trans (show _ = true by decide), Bool.true_or]
      · rw [(isW_eq (y := Str.ofString "IN") (t := (Str.ofString "word", Str.ofString "IN")) rfl).trans (show _ = true by decide), Bool.or_true]
    | fig x y t => cases hr
    | lit => cases hr
theorem nolit (x : Str) : decide ((Str.ofString "word", x).1 = Str.ofString "literal") = false := decide_eq_false (by decide : Str.ofString "word" ≠ Str.ofString "literal")
set_option maxHeartbeats 4000000 in
theorem read_operand_c {o : Op} {post : List (Str × Str)} {f : Value} (R : RdOk W.w rest r rd tl vs ts) (hd : ts.drop i = o.toks ++ post) (hp : NoRef post) (ok : o.Ok W.w)
    (k : ∀ rest' ti' v, Ext rd rest rest' → DatIn rest' v o.dat → K v ((rd, rdObj W.w tl nd t1 t2 t3 ((i + o.toks.length : Nat) : Int) ti') :: rest')) :
    Calls W 6 181 [.ref r, f] ((rd, rdObj W.w tl nd t1 t2 t3 i ti) :: rest) K := ent181 fun c => by
  have hall : isW ts i (Str.ofString "ALL") = false := (isW_drop hd 0 _).trans (Op.noW ok (.head _))
  walk_at "gs"
  refine g_use (is_number_c R ?_) (by decide)
  walk_at "gs"
  refine g_use (is_kind_c R (.inl rfl) ?_) (by decide)
  cases hq : o.isRef with
  | true =>
    obtain ⟨x, qs, hn, e1, hQ, hz, hdat, hlen, hf⟩ := Op.keyN hd hp hq ok
    rw [isK_eq e1, nolit]
    walk_at "gs"
    refine g_use (skip_f R hall (by decide) (by decide +kernel) fun rest1 X => ?_) (by decide)
    have R1 := R.ext X
    walk_at "gs"
    refine g_use (read_figure_none R1 e1 hf.2 ?_) (by decide)
    walk_at "gs"
    refine g_use (read_ref_c R1 hn e1 hQ hz fun rest' ti' v X' d => ?_) (by decide)
    rw [hdat, hlen] at k
    walk_at "gs"
    exact k _ _ _ (X.trans X') d
  | false =>
    cases o with
    | item x => cases hq
    | qual x q y => cases hq
    | fig x y t =>
      have e1 : ts[i]? = some (Str.ofString "word", x) := at_drop hd 0
      rw [isK_eq e1, nolit]
      walk_at "gs"
      refine g_use (skip_f R hall (by decide) (by decide +kernel) fun rest1 X => ?_) (by decide)
      have R1 := R.ext X
      walk_at "gs"
      refine g_use (read_figure_some R1 e1 ok.2.2.2 fun rest' ti' v X' d => ?_) (by decide)
      obtain ⟨a, rfl⟩ := dat_ref d
      walk_at "gs"
      exact k _ _ _ (X.trans X') d
    | lit =>
      have e1 : ts[i]? = some (Str.ofString "literal", Str.ofString "FOR") := at_drop hd 0
      rw [show isK ts i (Str.ofString "literal") = true from (isK_eq e1).trans (decide_eq_true rfl)]
      walk_at "gs"
      refine g_use (octets_c R e1 fun t ti' => ?_) (by decide)
      walk_at "gs"
      exact k _ _ _ (Ext.refl.cons (by assumption) (by assumption)) (.tuple (.head _) (.cons (.str _ _) (.cons (.bytes _ _) .nil)))
end
end Mine
namespace Mine
open Ob
theorem tup_head {led : Led} {v : Value} {x : Str} {ds : List Dat} (h : DatIn led v (.tuple (.str x :: ds))) : ∃ (a : Addr) (vs : List Value) (n : Nat) (u : Tok), v = .ref a ∧ (a, ({ cls := .type "tuple", data := .seq vs.toArray n } : Obj)) ∈ led ∧ vs[0]? = some (.str x u) := by
  cases h
  rename_i m r
  cases r
  rename_i h r
  cases h
  exact ⟨_, _, _, _, rfl, m, rfl⟩
theorem Op.head (o : Op) : ∃ x ds, o.dat = .tuple (.str x :: ds) ∧ ([Str.ofString "number", Str.ofString "all"].any (· == x)) = false := by
  cases o with
  | item x => exact ⟨_, _, rfl, by decide⟩
  | qual x q y => exact ⟨_, _, rfl, by decide⟩
  | fig x y t => exact ⟨_, _, rfl, by decide⟩
  | lit => exact ⟨_, _, rfl, by decide⟩
section
variable {W : Wd} {K : Value → Led → Prop} {r rd tl nd : Addr} {t1 t2 t3 : Tok} {i : Nat} {ti : Tok} {rest : Led} {vs : List Value} {ts : List (Str × Str)}
theorem operand_here_c {o : Op} {post : List (Str × Str)} (R : RdOk W.w rest r rd tl vs ts) (hd : ts.drop i = o.toks ++ post) (hp : NoRef post) (ok : o.Ok W.w)
    (k : ∀ rest' ti' v, Ext rd rest rest' → DatIn rest' v o.dat → K v ((rd, rdObj W.w tl nd t1 t2 t3 ((i + o.toks.length : Nat) : Int) ti') :: rest')) :
    Calls W 7 272 [.ref r] ((rd, rdObj W.w tl nd t1 t2 t3 i ti) :: rest) K := ent272 fun c => by
  have hb : begO ts i = true := (begO_drop hd 0).trans (Op.beg ok post)
  walk_at "gs"
  refine g_use (begins_operand_c R ?_) (by decide)
  rw [hb]
  walk_at "gs"
  refine g_use (read_operand_c R hd hp ok fun rest' ti' v X d => ?_) (by decide)
  walk_at "gs"
  exact k _ _ _ X d
theorem text_here_c {o : Op} {post : List (Str × Str)} (R : RdOk W.w rest r rd tl vs ts) (hd : ts.drop i = o.toks ++ post) (hp : NoRef post) (ok : o.Ok W.w)
    (k : ∀ rest' ti' v, Ext rd rest rest' → DatIn rest' v o.dat → K v ((rd, rdObj W.w tl nd t1 t2 t3 ((i + o.toks.length : Nat) : Int) ti') :: rest')) :
    Calls W 8 279 [.ref r] ((rd, rdObj W.w tl nd t1 t2 t3 i ti) :: rest) K := ent279 fun c => by
  walk_at "gs"
  refine g_use (operand_here_c R hd hp ok fun rest' ti' v X d => ?_) (by decide)
  have R1 := R.ext X
  obtain ⟨x, ds, hx, hn⟩ := o.head
  have d' := d
  rw [hx] at d'
  obtain ⟨a, ws, m, u, rfl, hm, hv⟩ := tup_head d'
  walk_at "gs"
  refine o_tup (.tail _ hm) (by decide) (by decide) hv ?_ (by with_unfolding_all rfl) (by intro _; with_unfolding_all rfl)
  walk_at "gs"
  refine o_intup (.tail _ (.head _)) (.cons _ _ (.cons _ _ .nil)) ?_
  rw [hn]
  walk_at "gs"
  exact k _ _ _ (X.cons (by assumption) (by assumption)) (d.mono fun _ h => .tail _ h)
theorem begins_text_c {b1 b2 : Bool} (R : RdOk W.w rest r rd tl vs ts) (hb : begO ts i = b1) (h2 : isW ts i (Str.ofString "ALL") = b2) (k : K (.bool (b1 && !b2)) ((rd, rdObj W.w tl nd t1 t2 t3 i ti) :: rest)) :
    Calls W 5 286 [.ref r] ((rd, rdObj W.w tl nd t1 t2 t3 i ti) :: rest) K := ent286 fun c => by
  walk_at "gs"
  refine g_use (begins_operand_c R ?_) (by decide)
  rw [hb]
  walk_at "gs"
  cases b1
  · walk_at "gs"
    exact k
  · walk_at "gs"
    refine g_use (word_ahead_c R ?_) (by decide)
    rw [h2]
    walk_at "gs"
    exact k
end
end Mine
local macro_rules | `(tactic| walk_at "if") => `(tactic| repeat ((fail_if_success (with_reducible refine' s_if ?_)); walk_at "g"))
namespace Mine
open Ob
/-- the bounds as they are written: false for BEFORE, true for AFTER INITIAL -/
noncomputable def bdToks : List (Bool × Op) → List (Str × Str)
  | [] => []
  | (false, o) :: l => wd (Str.ofString "BEFORE") :: (o.toks ++ bdToks l)
  | (true, o) :: l => wd (Str.ofString "AFTER") :: wd (Str.ofString "INITIAL") :: (o.toks ++ bdToks l)
noncomputable def bdTold (b : Bool) : List (Bool × Op) → Dat
  | [] => .none
  | (c, o) :: l => if c = b then o.dat else bdTold b l
noncomputable def NoB (l : List (Str × Str)) : Prop := isW l 0 (Str.ofString "BEFORE") = false ∧ isW l 0 (Str.ofString "AFTER") = false ∧ NoRef l
noncomputable def BdOk (w : World) (l : List (Bool × Op)) : Prop := (∀ x ∈ l, x.2.Ok w) ∧ (l.map (·.1)).Nodup
theorem isW_wd (x : Str) (l : List (Str × Str)) (y : Str) : isW (wd x :: l) 0 y = decide (x = y) := by simp [isW, wd]
theorem bd_noRef {l : List (Bool × Op)} {post : List (Str × Str)} (h : NoRef post) : NoRef (bdToks l ++ post) := by
  match l with
  | [] => exact h
  | (false, o) :: l => exact ⟨(isW_wd _ _ _).trans (decide_eq_false (by decide)), (isW_wd _ _ _).trans (decide_eq_false (by decide))⟩
  | (true, o) :: l => exact ⟨(isW_wd _ _ _).trans (decide_eq_false (by decide)), (isW_wd _ _ _).trans (decide_eq_false (by decide))⟩
theorem bdToks_app : ∀ a b : List (Bool × Op), bdToks (a ++ b) = bdToks a ++ bdToks b
  | [], _ => rfl
  | (false, o) :: l, b => by simp [bdToks, bdToks_app l b]
  | (true, o) :: l, b => by simp [bdToks, bdToks_app l b]
theorem bdTold_not {b : Bool} : ∀ {l : List (Bool × Op)}, b ∉ l.map (·.1) → bdTold b l = .none
  | [], _ => rfl
  | (c, o) :: l, h => by
    simp only [List.map_cons, List.mem_cons, not_or] at h
    rw [bdTold, if_neg (fun e => h.1 e.symm), bdTold_not h.2]
theorem bdTold_snoc {b c : Bool} {o : Op} : ∀ {l : List (Bool × Op)}, bdTold b l = .none → bdTold b (l ++ [(c, o)]) = if c = b then o.dat else .none
  | [], _ => rfl
  | (d, p) :: l, h => by
    rw [bdTold] at h
    by_cases e : d = b
    · rw [if_pos e] at h; cases p <;> cases h
    · rw [if_neg e] at h
      show (if d = b then p.dat else bdTold b (l ++ [(c, o)])) = _
      rw [if_neg e, bdTold_snoc h]
theorem bdTold_keep {b c : Bool} {o : Op} (hc : c ≠ b) : ∀ {l : List (Bool × Op)}, bdTold b (l ++ [(c, o)]) = bdTold b l
  | [] => by show (if c = b then o.dat else .none) = _; rw [if_neg hc]; rfl
  | (d, p) :: l => by show (if d = b then p.dat else bdTold b (l ++ [(c, o)])) = (if d = b then p.dat else bdTold b l); rw [bdTold_keep hc]
theorem told_cases {led : Led} {v : Value} {b : Bool} : ∀ {l : List (Bool × Op)}, DatIn led v (bdTold b l) → v = .none ∨ ∃ a, v = .ref a
  | [], h => by cases h; exact .inl rfl
  | (c, o) :: l, h => by
    rw [bdTold] at h
    by_cases e : c = b
    · rw [if_pos e] at h; exact .inr (Op.aref h)
    · rw [if_neg e] at h; exact told_cases h
theorem pair_at {led : Led} {v : Value} {d e : Dat} (h : DatIn led v (.tuple [d, e])) : ∃ (a : Addr) (vs : List Value) (x y : Value) (n : Nat), v = .ref a ∧ (a, ({ cls := .type "tuple", data := .seq vs.toArray n } : Obj)) ∈ led ∧ vs = [x, y] ∧ DatIn led x d ∧ DatIn led y e := by
  cases h
  rename_i m r
  cases r
  rename_i h1 r
  cases r
  rename_i h2 r
  cases r
  exact ⟨_, _, _, _, _, rfl, m, rfl, h1, h2⟩
section
variable {W : Wd} {f : Fn} {n : Nat} {c : Cx W f n} {vs : List (Option Value)} {led : Led} {Ks : KS} {pos : Pos}
theorem s_if_f {test : Expr} {body orelse : List Stmt} (J : Led → Prop) (h : GT c vs led test fun b l => b = false ∧ J l) (h2 : ∀ l, J l → GS c vs l (execs orelse c.env) Ks) : GS c vs led (exec (.If test body orelse pos) c.env) Ks :=
  s_if (h.mono fun b l ⟨e, j⟩ => by subst e; exact h2 l j)
end
section
variable {W : Wd} {K : Value → Led → Prop} {r rd tl nd : Addr} {t1 t2 t3 : Tok} {i : Nat} {ti : Tok} {rest : Led} {vs : List Value} {ts : List (Str × Str)}
inductive BJ (W : Wd) (r rd tl nd : Addr) (t1 t2 t3 : Tok) (rest : Led) (l : List (Bool × Op)) (e m : Nat) (vs : List (Option Value)) (led : Led) : Prop
  | mk (l1 l2 : List (Bool × Op)) (k : Nat) (vb va : Value) (rest' : Led) (tj : Tok) (h0 : l = l1 ++ l2) (h1 : m = l2.length) (h2 : k + (bdToks l2).length = e) (h3 : vs = [some (.ref r), some vb, some va]) (h4 : led = (rd, rdObj W.w tl nd t1 t2 t3 k tj) :: rest') (h5 : Ext rd rest rest') (h6 : DatIn rest' vb (bdTold false l1)) (h7 : DatIn rest' va (bdTold true l1)) : BJ W r rd tl nd t1 t2 t3 rest l e m vs led
/-- the reader at k, the ledger grown -/
noncomputable def AtK (W : Wd) (rd tl nd : Addr) (t1 t2 t3 : Tok) (k : Nat) (tj : Tok) (rest : Led) (l : Led) : Prop := ∃ rest2, l = (rd, rdObj W.w tl nd t1 t2 t3 k tj) :: rest2 ∧ Ext rd rest rest2
theorem bounds_here_c {l : List (Bool × Op)} {post : List (Str × Str)} (R : RdOk W.w rest r rd tl vs ts) (hts : ts.drop i = bdToks l ++ post) (hp : NoB post) (ok : BdOk W.w l)
    (kk : ∀ rest' ti' v, Ext rd rest rest' → DatIn rest' v (.tuple [bdTold false l, bdTold true l]) → K v ((rd, rdObj W.w tl nd t1 t2 t3 ((i + (bdToks l).length : Nat) : Int) ti') :: rest')) :
    Calls W 9 293 [.ref r] ((rd, rdObj W.w tl nd t1 t2 t3 i ti) :: rest) K := ent293 fun c => by
  walk_at "gs"
  refine s_whileH (BJ W r rd tl nd t1 t2 t3 rest l (i + (bdToks l).length)) l.length ⟨[], l, i, .none, .none, _, ti, rfl, rfl, rfl, rfl, rfl, Ext.refl.cons (by assumption) (by assumption), .none, .none⟩ ?_
  rintro m vs1 led KB hKB ⟨l1, l2, k, vb, va, rest', tj, hl, rfl, he, rfl, rfl, X, db, da⟩
  have hk : k = i + (bdToks l1).length := by rw [hl, bdToks_app, List.length_append] at he; omega
  have hd1 : ts.drop k = bdToks l2 ++ post := by
    rw [hl, bdToks_app, List.append_assoc] at hts
    exact drop_more hts hk
  have R1 := R.ext X
  walk_at "if"
  cases l2 with
  | nil =>
    have hB : isW ts k (Str.ofString "BEFORE") = false := (isW_drop hd1 0 _).trans hp.1
    have hA : isW ts k (Str.ofString "AFTER") = false := (isW_drop hd1 0 _).trans hp.2.1
    obtain rfl : l1 = l := by rw [hl, List.append_nil]
    refine s_if_f (AtK W rd tl nd t1 t2 t3 k tj rest') ?_ ?_
    · rcases told_cases db with rfl | ⟨b1, rfl⟩
      · walk_at "gs"
        refine g_use (skip_f R1 hB (by decide) (by decide +kernel) fun rest2 X2 => ?_) (by decide)
        walk_at "gs"
        exact ⟨rfl, _, rfl, X2⟩
      · walk_at "gs"
        exact ⟨rfl, _, rfl, Ext.refl⟩
    rintro _ ⟨rest2, rfl, X2⟩
    have R2 := R1.ext X2
    walk_at "if"
    refine s_if_f (AtK W rd tl nd t1 t2 t3 k tj rest2) ?_ ?_
    · rcases told_cases da with rfl | ⟨b1, rfl⟩
      · walk_at "gs"
        refine g_use (skip_f R2 hA (by decide) (by decide +kernel) fun rest2 X2 => ?_) (by decide)
        walk_at "gs"
        exact ⟨rfl, _, rfl, X2⟩
      · walk_at "gs"
        exact ⟨rfl, _, rfl, Ext.refl⟩
    rintro _ ⟨rest3, rfl, X3⟩
    have R3 := R2.ext X3
    walk_at "gs"
    rename_i D a b R9
    have X4 := X2.trans X3
    rw [show k = i + (bdToks l1).length from he]
    exact hKB _ _ _ (kk _ _ _ ((X.trans X4).cons a b) (.tuple (.head _) (.cons (db.mono fun _ h => .tail _ (X4.sub _ h)) (.cons (da.mono fun _ h => .tail _ (X4.sub _ h)) .nil))))
  | cons x l2 =>
    obtain ⟨cc, o⟩ := x
    subst hl
    have oko : o.Ok W.w := ok.1 (cc, o) (List.mem_append_right _ (.head _))
    have hnr : NoRef (bdToks l2 ++ post) := bd_noRef hp.2.2
    have hnd := ok.2
    rw [List.map_append, List.nodup_append] at hnd
    have hno : cc ∉ l1.map (·.1) := fun h => hnd.2.2 _ h _ (.head _) rfl
    have hno2 := bdTold_not hno
    cases cc with
    | false =>
      rw [hno2] at db
      cases db
      have hB : isW ts k (Str.ofString "BEFORE") = true := (isW_drop hd1 0 _).trans (by simp [bdToks, isW_wd])
      have hd2 : ts.drop (k + 1) = o.toks ++ (bdToks l2 ++ post) := by
        rw [bdToks] at hd1
        rw [← List.append_assoc]
        exact drop_more (a := [wd (Str.ofString "BEFORE")]) hd1 rfl
      have hI : isW ts (k + 1) (Str.ofString "INITIAL") = false := (isW_drop hd2 0 _).trans (Op.noW oko (by decide))
      walk_at "gs"
      refine g_use (skip_t R1 hB (by decide) (by decide +kernel) fun rest2 ti2 X2 => ?_) (by decide)
      have R2 := R1.ext X2
      walk_at "gs"
      refine g_use (skip_f R2 hI (by decide) (by decide +kernel) fun rest3 X3 => ?_) (by decide)
      have R3 := R2.ext X3
      walk_at "gs"
      refine g_use (text_here_c R3 hd2 hnr oko fun rest4 ti4 v X4 d => ?_) (by decide)
      walk_at "gs"
      have X5 := (X2.trans X3).trans X4
      exact hKB _ _ _ ⟨l2.length, _, Nat.lt_succ_self _, fun _ h => h, ⟨l1 ++ [(false, o)], l2, k + 1 + o.toks.length, _, _, _, _, by simp, rfl, by simp [bdToks] at he; omega, rfl, rfl, X.trans X5, by rw [bdTold_snoc hno2, if_pos rfl]; exact d, by rw [bdTold_keep (by decide)]; exact da.mono X5.sub⟩⟩
    | true =>
      rw [hno2] at da
      cases da
      have hB : isW ts k (Str.ofString "BEFORE") = false := (isW_drop hd1 0 _).trans (by simp [bdToks, isW_wd]; decide)
      have hA : isW ts k (Str.ofString "AFTER") = true := (isW_drop hd1 0 _).trans (by simp [bdToks, isW_wd])
      have hI : isW ts (k + 1) (Str.ofString "INITIAL") = true := (isW_drop hd1 1 _).trans (by simp [bdToks, isW, wd])
      have hd2 : ts.drop (k + 1 + 1) = o.toks ++ (bdToks l2 ++ post) := by
        rw [bdToks] at hd1
        rw [← List.append_assoc]
        exact drop_more (a := [wd (Str.ofString "AFTER"), wd (Str.ofString "INITIAL")]) hd1 rfl
      refine s_if_f (AtK W rd tl nd t1 t2 t3 k tj rest') ?_ ?_
      · rcases told_cases db with rfl | ⟨b1, rfl⟩
        · walk_at "gs"
          refine g_use (skip_f R1 hB (by decide) (by decide +kernel) fun rest2 X2 => ?_) (by decide)
          walk_at "gs"
          exact ⟨rfl, _, rfl, X2⟩
        · walk_at "gs"
          exact ⟨rfl, _, rfl, Ext.refl⟩
      rintro _ ⟨rest0, rfl, X0⟩
      have R0 := R1.ext X0
      walk_at "gs"
      refine g_use (skip_t R0 hA (by decide) (by decide +kernel) fun rest2 ti2 X2 => ?_) (by decide)
      have R2 := R0.ext X2
      walk_at "gs"
      refine g_use (skip_t R2 hI (by decide) (by decide +kernel) fun rest3 ti3 X3 => ?_) (by decide)
      have R3 := R2.ext X3
      walk_at "gs"
      refine g_use (text_here_c R3 hd2 hnr oko fun rest4 ti4 v X4 d => ?_) (by decide)
      walk_at "gs"
      have X5 := ((X0.trans X2).trans X3).trans X4
      exact hKB _ _ _ ⟨l2.length, _, Nat.lt_succ_self _, fun _ h => h, ⟨l1 ++ [(true, o)], l2, k + 1 + 1 + o.toks.length, _, _, _, _, by simp, rfl, by simp [bdToks] at he; omega, rfl, rfl, X.trans X5, by rw [bdTold_keep (by decide)]; exact db.mono X5.sub, by rw [bdTold_snoc hno2, if_pos rfl]; exact d⟩⟩
end
end Mine
namespace Mine
open Ob
noncomputable def Opens (w : World) (ts : List (Str × Str)) (i : Nat) (b : Bool) : Prop :=
  (isN ts i = false ∧ b = false) ∨ ∃ (o : Op) (post : List (Str × Str)), ts.drop i = o.toks ++ post ∧ o.isRef = true ∧ o.Ok w ∧ NoRef post ∧ isW post 0 (Str.ofString "FOR") = b
section
variable {W : Wd} {K : Value → Led → Prop} {r rd tl nd : Addr} {t1 t2 t3 : Tok} {i : Nat} {ti : Tok} {rest : Led} {vs : List Value} {ts : List (Str × Str)}
theorem opens_count_c {b : Bool} (R : RdOk W.w rest r rd tl vs ts) (ho : Opens W.w ts i b) (k : ∀ rest' ti', Ext rd rest rest' → K (.bool b) ((rd, rdObj W.w tl nd t1 t2 t3 i ti') :: rest')) :
    Calls W 7 300 [.ref r] ((rd, rdObj W.w tl nd t1 t2 t3 i ti) :: rest) K := ent300 fun c => by
  rcases ho with ⟨hn, rfl⟩ | ⟨o, post, hts, hr, ok, hnr, hf⟩
  · walk_at "gs"
    refine g_use (is_name_c R ?_) (by decide)
    rw [hn]
    walk_at "gs"
    exact k _ _ Ext.refl
  · have hn : isN ts i = true := by
      have e := isN_drop hts 0
      cases o with
      | item x => exact e.trans (by simp [isN, Op.toks, wd, ok.1])
      | qual x q y => exact e.trans (by simp [isN, Op.toks, wd, ok.1.1])
      | fig x y t => cases hr
      | lit => cases hr
    have hf1 : isW ts (i + o.toks.length) (Str.ofString "FOR") = b := (isW_drop (drop_more hts rfl) 0 _).trans hf
    walk_at "gs"
    refine g_use (is_name_c R ?_) (by decide)
    rw [hn]
    walk_at "gs"
    refine g_use (ref_here_c R hts hnr hr ok fun rest' ti' v X d => ?_) (by decide)
    have R1 := R.ext X
    walk_at "gs"
    refine g_use (word_ahead_c R1 ?_) (by decide)
    rw [hf1]
    walk_at "gs"
    exact k _ _ X
theorem begins_text_d {b : Bool} (R : RdOk W.w rest r rd tl vs ts) (hb : (begO ts i && !isW ts i (Str.ofString "ALL")) = b) (k : K (.bool b) ((rd, rdObj W.w tl nd t1 t2 t3 i ti) :: rest)) :
    Calls W 5 286 [.ref r] ((rd, rdObj W.w tl nd t1 t2 t3 i ti) :: rest) K := by
  subst hb
  exact begins_text_c R rfl rfl k
end
end Mine
namespace Mine
open Ob
mutual
noncomputable def noL : Dat → Bool
  | .list _ => false
  | .tuple ds => noLs ds
  | _ => true
noncomputable def noLs : List Dat → Bool
  | [] => true
  | d :: ds => noL d && noLs ds
end
noncomputable def TSub (led led' : Led) : Prop := ∀ p ∈ led, p.2.cls = .type "tuple" → p ∈ led'
mutual
theorem DatIn.tmono {led led' : Led} (hs : TSub led led') : ∀ {v : Value} {d : Dat}, DatIn led v d → noL d = true → DatIn led' v d
  | _, _, .none, _ => .none
  | _, _, .bool b, _ => .bool b
  | _, _, .int i t, _ => .int i t
  | _, _, .str x t, _ => .str x t
  | _, _, .bytes b t, _ => .bytes b t
  | _, _, .tuple m r, h => .tuple (hs _ m rfl) (DatAll.tmono hs r (by rw [noL] at h; exact h))
  | _, _, .list _ _, h => by rw [noL] at h; cases h
theorem DatAll.tmono {led led' : Led} (hs : TSub led led') : ∀ {vs : List Value} {ds : List Dat}, DatAll led vs ds → noLs ds = true → DatAll led' vs ds
  | _, _, .nil, _ => .nil
  | _, _, .cons a r, h => by
    rw [noLs, Bool.and_eq_true] at h
    exact .cons (DatIn.tmono hs a h.1) (DatAll.tmono hs r h.2)
end
theorem TSub.app {a b c : Led} (h : TSub a c) (k : TSub b c) : TSub (a ++ b) c := fun p hp => (List.mem_append.mp hp).elim (h p) (k p)
theorem TSub.lst {l : Addr} {vs : List Value} {n : Nat} {b c : Led} (k : TSub b c) : TSub ((l, listOf vs.toArray n) :: b) c := fun p hp ht => by
  rcases List.mem_cons.mp hp with rfl | hp
  · exact absurd (Value.type.inj ht) (by decide)
  · exact k p hp ht
theorem TSub.of {a b : Led} (h : ∀ p ∈ a, p ∈ b) : TSub a b := fun p hp _ => h p hp
theorem Op.noL (o : Op) : noL o.dat = true := by cases o <;> rfl
theorem bdTold_noL {b : Bool} : ∀ l : List (Bool × Op), noL (bdTold b l) = true
  | [] => rfl
  | (c, o) :: l => by
    rw [bdTold]
    split
    · exact o.noL
    · exact bdTold_noL l
noncomputable abbrev Part := Op × List (Bool × Op)
noncomputable def partsToks : List Part → List (Str × Str)
  | [] => []
  | q :: l => q.1.toks ++ (bdToks q.2 ++ partsToks l)
noncomputable def rowD (cd : Dat) (k : Str) (q : Part) : Dat := .tuple [cd, .str k, q.1.dat, bdTold false q.2, bdTold true q.2]
theorem partsToks_app : ∀ a b : List Part, partsToks (a ++ b) = partsToks a ++ partsToks b
  | [], _ => rfl
  | q :: l, b => by simp [partsToks, partsToks_app l b]
noncomputable def PartOk (w : World) (q : Part) : Prop := q.1.Ok w ∧ BdOk w q.2
/-- what may stand behind the rows of a sort -/
structure EndP (w : World) (post : List (Str × Str)) : Prop where
  nob : NoB post
  nof : isW post 0 (Str.ofString "FOR") = false
  stop : (begO post 0 && !isW post 0 (Str.ofString "ALL")) = false ∨ ((begO post 0 && !isW post 0 (Str.ofString "ALL")) = true ∧ Opens w post 0 true)
theorem Op.noB {w : World} {o : Op} (ok : o.Ok w) (post : List (Str × Str)) : NoB (o.toks ++ post) :=
  ⟨Op.noW ok (by decide), Op.noW ok (by decide), Op.noW ok (by decide), Op.noW ok (by decide)⟩
theorem parts_noB {w : World} {l : List Part} {post : List (Str × Str)} (h : NoB post) (ok : ∀ q ∈ l, PartOk w q) : NoB (partsToks l ++ post) := by
  cases l with
  | nil => exact h
  | cons q l => rw [partsToks, List.append_assoc]; exact Op.noB (ok q (.head _)).1 _
theorem parts_noF {w : World} {l : List Part} {post : List (Str × Str)} (h : isW post 0 (Str.ofString "FOR") = false) (ok : ∀ q ∈ l, PartOk w q) : isW (partsToks l ++ post) 0 (Str.ofString "FOR") = false := by
  cases l with
  | nil => exact h
  | cons q l => rw [partsToks, List.append_assoc]; exact Op.noW (ok q (.head _)).1 (by decide)
theorem bd_noF {l : List (Bool × Op)} {post : List (Str × Str)} (h : isW post 0 (Str.ofString "FOR") = false) : isW (bdToks l ++ post) 0 (Str.ofString "FOR") = false := by
  match l with
  | [] => exact h
  | (false, o) :: l => exact (isW_wd _ _ _).trans (decide_eq_false (by decide))
  | (true, o) :: l => exact (isW_wd _ _ _).trans (decide_eq_false (by decide))
theorem Opens.drop {w : World} {ts l : List (Str × Str)} {i : Nat} {b : Bool} (h : ts.drop i = l) (o : Opens w l 0 b) : Opens w ts i b := by
  rcases o with ⟨a, c⟩ | ⟨o, post, e, r⟩
  · exact .inl ⟨(isN_drop h 0).trans a, c⟩
  · exact .inr ⟨o, post, h.trans e, r⟩
theorem Op.notOpen {w : World} {o : Op} {post : List (Str × Str)} (ok : o.Ok w) (hn : NoRef post) (hf : isW post 0 (Str.ofString "FOR") = false) : Opens w (o.toks ++ post) 0 false := by
  cases o with
  | item x => exact .inr ⟨.item x, post, rfl, rfl, ok, hn, hf⟩
  | qual x q y => exact .inr ⟨.qual x q y, post, rfl, rfl, ok, hn, hf⟩
  | fig x y t => exact .inl ⟨by simp [isN, Op.toks, wd, ok.1], rfl⟩
  | lit => exact .inl ⟨by simp [isN, Op.toks]; intro h; exact absurd h (by decide), rfl⟩
/-! a list that grows, kept apart at the ledger's head -/
theorem Ext.tsub {rd lr : Addr} {L : Obj} {a b : Led} (x : Ext rd ((lr, L) :: a) b) (hn : ∀ p ∈ a, p.1 ≠ lr) (hL : L.cls = .type "list") : TSub b (off lr b) := fun p hp ht => by
  rcases x.new p hp with h | h
  · rcases List.mem_cons.mp h with rfl | h
    · rw [hL] at ht; exact absurd (Value.type.inj ht) (by decide)
    · exact off_mem hp (hn p h)
  · exact off_mem hp (Nat.ne_of_gt (h.2 _ (.head _)))
theorem Ext.take {rd lr : Addr} {L : Obj} {a b d : Led} (y : Ext rd a b) (x : Ext rd ((lr, L) :: b) d) (hn : ∀ p ∈ b, p.1 ≠ lr) : Ext rd a (off lr d) :=
  ⟨fun p hp => off_mem (x.sub p (.tail _ (y.sub p hp))) (hn p (y.sub p hp)), fun p hp => by
    rcases x.new p (off_sub p hp) with h | h
    · rcases List.mem_cons.mp h with rfl | h
      · exact absurd rfl (off_ne _ hp)
      · exact y.new p h
    · exact .inr ⟨h.1, fun q hq => h.2 q (.tail _ (y.sub q hq))⟩⟩
theorem Ext.kept {rd lr : Addr} {L : Obj} {a b : Led} (x : Ext rd ((lr, L) :: a) b) (hn : ∀ p ∈ a, p.1 ≠ lr) : ∀ p ∈ a, p ∈ off lr b := fun p hp => off_mem (x.sub p (.tail _ hp)) (hn p hp)
theorem Ext.top {rd l : Addr} {o : Obj} {a b : Led} (x : Ext rd a b) (h : rd < l) (k : ∀ q ∈ a, q.1 < l) : Ext rd a ((l, o) :: b) :=
  ⟨fun p hp => .tail _ (x.sub p hp), fun p hp => by
    rcases List.mem_cons.mp hp with rfl | hp
    · exact .inr ⟨h, k⟩
    · exact x.new p hp⟩
theorem RdOk.top {w : World} {rest : Led} {r rd tl l : Addr} {o : Obj} {vs : List Value} {ts : List (Str × Str)} (R : RdOk w rest r rd tl vs ts) (h : rd < l) : RdOk w ((l, o) :: rest) r rd tl vs ts :=
  R.sub (fun _ hp => .tail _ hp) (List.forall_mem_cons.mpr ⟨Nat.ne_of_gt h, R.sep⟩)
section
variable {W : Wd} {K : Value → Led → Prop} {r rd tl nd : Addr} {t1 t2 t3 : Tok} {i : Nat} {ti : Tok} {rest : Led} {vs : List Value} {ts : List (Str × Str)}
inductive CJ (W : Wd) (r rd tl nd : Addr) (t1 t2 t3 : Tok) (rest : Led) (cv : Value) (cd : Dat) (kd : Str) (kt : Tok) (lr : Addr) (l : List Part) (e m : Nat) (vs : List (Option Value)) (led : Led) : Prop
  | mk (l1 l2 : List Part) (k : Nat) (rvs : List Value) (c : Nat) (rest' : Led) (tj : Tok) (o1 o2 o3 : Option Value) (h0 : l = l1 ++ l2) (h1 : m = l2.length) (h2 : k + (partsToks l2).length = e) (h3 : vs = [some (.ref r), some cv, some (.str kd kt), some (.ref lr), o1, o2, o3]) (h4 : led = (rd, rdObj W.w tl nd t1 t2 t3 k tj) :: (lr, listOf rvs.toArray c) :: rest') (h5 : Ext rd rest rest') (h6 : (∀ p ∈ rest', p.1 ≠ lr)) (h7 : DatAll rest' rvs (l1.map (rowD cd kd))) : CJ W r rd tl nd t1 t2 t3 rest cv cd kd kt lr l e m vs led
theorem counted_rows_c {l : List Part} {post : List (Str × Str)} {cv : Value} {cd : Dat} {kd : Str} {kt : Tok} (R : RdOk W.w rest r rd tl vs ts) (hts : ts.drop i = partsToks l ++ post) (hne : l ≠ []) (hsm : l.length < 1000) (ok : ∀ q ∈ l, PartOk W.w q) (hp : EndP W.w post) (dc : DatIn rest cv cd)
    (kk : ∀ rest' ti' lr rvs c, Ext rd rest ((lr, listOf rvs.toArray c) :: rest') → rd < lr → (∀ q ∈ rest, q.1 < lr) → DatAll rest' rvs (l.map (rowD cd kd)) → K (.ref lr) ((rd, rdObj W.w tl nd t1 t2 t3 ((i + (partsToks l).length : Nat) : Int) ti') :: (lr, listOf rvs.toArray c) :: rest')) :
    Calls W 10 307 [.ref r, cv, .str kd kt] ((rd, rdObj W.w tl nd t1 t2 t3 i ti) :: rest) K := ent307 fun c => by
  walk_at "gs"
  rename_i lr la lb R0
  refine s_whileH (CJ W r rd tl nd t1 t2 t3 rest cv cd kd kt lr l (i + (partsToks l).length)) l.length ⟨[], l, i, [], 0, rest, ti, none, none, none, rfl, rfl, rfl, rfl, rfl, Ext.refl, fun p hp => Nat.ne_of_lt (lb p hp), .nil⟩ ?_
  rintro m vs1 led KB hKB ⟨l1, l2, k, rvs, cc, rest', tj, o1, o2, o3, hl, rfl, he, rfl, rfl, X, hn, da⟩
  have hk : k = i + (partsToks l1).length := by rw [hl, partsToks_app, List.length_append] at he; omega
  have hd1 : ts.drop k = partsToks l2 ++ post := by
    rw [hl, partsToks_app, List.append_assoc] at hts
    exact drop_more hts hk
  have hlen : rvs.length = l1.length := by rw [da.length, List.length_map]
  have R1 := (R.ext X).top (o := listOf rvs.toArray cc) la
  clear R0
  obtain ⟨b1, b2, hb, ho, hbb⟩ : ∃ b1 b2, (begO ts k && !isW ts k (Str.ofString "ALL")) = b1 ∧ (b1 = true → Opens W.w ts k b2) ∧ (rvs.isEmpty || (b1 && !b2)) = !l2.isEmpty := by
    cases l2 with
    | nil =>
      obtain rfl : l1 = l := by rw [hl, List.append_nil]
      have hemp : rvs.isEmpty = false := by
        cases rvs with
        | nil => exact absurd (List.length_eq_zero_iff.mp hlen.symm) hne
        | cons _ _ => rfl
      have hq : (begO ts k && !isW ts k (Str.ofString "ALL")) = (begO post 0 && !isW post 0 (Str.ofString "ALL")) := by
        rw [show begO ts k = begO post 0 from begO_drop hd1 0, show isW ts k (Str.ofString "ALL") = isW post 0 (Str.ofString "ALL") from isW_drop hd1 0 _]
      rw [hemp]
      rcases hp.stop with hs | ⟨hs, ho⟩
      · exact ⟨false, false, hq.trans hs, fun h => absurd h (by decide), rfl⟩
      · exact ⟨true, true, hq.trans hs, fun _ => Opens.drop hd1 ho, rfl⟩
    | cons x l2 =>
      obtain ⟨o, bs⟩ := x
      have okx : PartOk W.w (o, bs) := ok _ (by rw [hl]; exact List.mem_append_right _ (.head _))
      have okl : ∀ q ∈ l2, PartOk W.w q := fun q hq => ok q (by rw [hl]; exact List.mem_append_right _ (.tail _ hq))
      have hB : NoB (partsToks l2 ++ post) := parts_noB hp.nob okl
      have hd2 : ts.drop k = o.toks ++ (bdToks bs ++ (partsToks l2 ++ post)) := by
        rw [hd1, partsToks, List.append_assoc, List.append_assoc]
      refine ⟨true, false, ?_, fun _ => Opens.drop hd2 (Op.notOpen okx.1 (bd_noRef hB.2.2) (bd_noF (parts_noF hp.nof okl))), by simp⟩
      rw [show begO ts k = true from (begO_drop hd2 0).trans (Op.beg okx.1 _), show isW ts k (Str.ofString "ALL") = false from (isW_drop hd2 0 _).trans (Op.noW okx.1 (.head _))]; rfl
  refine GE.mono (K := fun b l' => b = (rvs.isEmpty || (b1 && !b2)) ∧ ∃ tj2, AtK W rd tl nd t1 t2 t3 k tj2 ((lr, listOf rvs.toArray cc) :: rest') l') ?_ ?_
  · walk_at "gs"
    rename_i D da1 db1 R2
    refine o_eqnil (by decide) (.tail _ (.tail _ (.head _))) (.tail _ (.head _)) ?_
    cases rvs.isEmpty with
    | true =>
      walk_at "gs"
      exact ⟨rfl, _, _, rfl, Ext.refl.cons da1 db1⟩
    | false =>
      walk_at "gs"
      refine g_use (begins_text_d R2 hb ?_) (by decide)
      cases b1 with
      | false =>
        walk_at "gs"
        exact ⟨rfl, _, _, rfl, Ext.refl.cons da1 db1⟩
      | true =>
        walk_at "gs"
        refine g_use (opens_count_c R2 (ho rfl) fun rest2 ti2 X2 => ?_) (by decide)
        walk_at "gs"
        cases b2 with
        | false =>
          walk_at "gs"
          exact ⟨rfl, _, _, rfl, (Ext.refl.cons da1 db1).trans X2⟩
        | true =>
          walk_at "gs"
          exact ⟨rfl, _, _, rfl, (Ext.refl.cons da1 db1).trans X2⟩
  · rintro b l' ⟨rfl, tj2, rest2, rfl, X2⟩
    rw [hbb]
    have R2 := R1.ext X2
    have mlr : (lr, listOf rvs.toArray cc) ∈ rest2 := X2.sub _ (.head _)
    cases l2 with
    | nil =>
      obtain rfl : l1 = l := by rw [hl, List.append_nil]
      refine sel_f (s_next ?_)
      refine GS.sub (led' := (rd, rdObj W.w tl nd t1 t2 t3 k tj2) :: (lr, listOf rvs.toArray cc) :: off lr rest2) (cons_sub fun p hp => (List.mem_cons.mp hp).elim (fun e => e ▸ mlr) (off_sub p)) ?_
      walk_at "gs"
      rw [hk]
      exact kk _ _ _ _ _ ((X.take X2 hn).top la lb) la lb (da.mono (X2.kept hn))
    | cons x l2 =>
      obtain ⟨o, bs⟩ := x
      subst hl
      have okx : PartOk W.w (o, bs) := ok _ (List.mem_append_right _ (.head _))
      have okl : ∀ q ∈ l2, PartOk W.w q := fun q hq => ok q (List.mem_append_right _ (.tail _ hq))
      have hB : NoB (partsToks l2 ++ post) := parts_noB hp.nob okl
      have hR : NoRef (bdToks bs ++ (partsToks l2 ++ post)) := bd_noRef hB.2.2
      have hd2 : ts.drop k = o.toks ++ (bdToks bs ++ (partsToks l2 ++ post)) := by
        rw [hd1, partsToks, List.append_assoc, List.append_assoc]
      have hd3 : ts.drop (k + o.toks.length) = bdToks bs ++ (partsToks l2 ++ post) := drop_more hd2 rfl
      refine sel_t ?_
      walk_at "gs"
      refine g_use (text_here_c R2 hd2 hR okx.1 fun rest3 ti3 v X3 d => ?_) (by decide)
      have R3 := R2.ext X3
      walk_at "gs"
      refine g_use (bounds_here_c R3 hd3 hB okx.2 fun rest4 ti4 v2 X4 d2 => ?_) (by decide)
      have R4 := R3.ext X4
      obtain ⟨a, ws, x, y, m2, rfl, hm, rfl, d4, d5⟩ := pair_at d2
      refine two_k (.tail _ hm) (by walk_at "puts") (by walk_at "puts") ?_
      have m4 := X4.sub _ (X3.sub _ mlr)
      walk_at "gs"
      refine m_append (.tail _ m4) ?_
      walk_at "gs"
      rename_i D da1 db1 R5
      refine r_append (.tail _ m4) la (by rw [hlen, sizeLine_eq]; rw [List.length_append] at hsm; omega) ?_
      walk_at "gs"
      have Y := ((X2.trans X3).trans X4).cons (o := tupO [cv, .str kd kt, v, x, y]) da1 db1
      have T := Y.tsub hn rfl
      have Z := X.take Y hn
      refine hKB _ _ _ ⟨l2.length, _, Nat.lt_succ_self _, fun _ h => h, ⟨l1 ++ [(o, bs)], l2, k + o.toks.length + (bdToks bs).length, _, _, _, _, _, _, _, by simp, rfl, by simp [partsToks] at he; omega, rfl, rfl, Z, fun p hp => off_ne p hp, ?_⟩⟩
      rw [List.map_append]
      exact DatAll.append (da.mono (Y.kept hn)) (DatAll.one (.tuple (off_mem (.head _) (Nat.ne_of_gt (db1 _ m4))) (.cons (dc.mono Z.sub) (.cons (.str _ _) (.cons (DatIn.tmono T (d.mono fun _ h => .tail _ (X4.sub _ h)) (Op.noL o)) (.cons (DatIn.tmono T (d4.mono fun _ h => .tail _ h) (bdTold_noL _)) (.cons (DatIn.tmono T (d5.mono fun _ h => .tail _ h) (bdTold_noL _)) .nil)))))))
end
end Mine
local macro_rules | `(tactic| walk_at "if") => `(tactic| repeat ((fail_if_success (with_reducible refine' s_if ?_)); walk_at "g"))
namespace Mine
open Ob
/-- a sort of count as it is written: CHARACTERS with its bounds; ALL (false) or LEADING (true) with its operands -/
inductive Srt
  | chars (bs : List (Bool × Op))
  | some (lead : Bool) (ps : List Part)
noncomputable def Srt.kw : Srt → String
  | .chars _ => "CHARACTERS"
  | .some false _ => "ALL"
  | .some true _ => "LEADING"
noncomputable def Srt.body : Srt → List (Str × Str)
  | .chars bs => bdToks bs
  | .some _ ps => partsToks ps
noncomputable def srtsToks : List Srt → List (Str × Str)
  | [] => []
  | s :: l => wd (Str.ofString s.kw) :: (s.body ++ srtsToks l)
noncomputable def Srt.rows (cd : Dat) : Srt → List Dat
  | .chars bs => [.tuple [cd, .str (Str.ofString "CHARACTERS"), .none, bdTold false bs, bdTold true bs]]
  | .some false ps => ps.map (rowD cd (Str.ofString "ALL"))
  | .some true ps => ps.map (rowD cd (Str.ofString "LEADING"))
noncomputable def Srt.Ok (w : World) : Srt → Prop
  | .chars bs => BdOk w bs
  | .some _ ps => ps ≠ [] ∧ ∀ q ∈ ps, PartOk w q
noncomputable def srtsRows (cd : Dat) : List Srt → List Dat
  | [] => []
  | s :: l => s.rows cd ++ srtsRows cd l
noncomputable abbrev Cnt := Op × List Srt
noncomputable def cntsToks : List Cnt → List (Str × Str)
  | [] => []
  | c :: l => c.1.toks ++ (wd (Str.ofString "FOR") :: (srtsToks c.2 ++ cntsToks l))
noncomputable def cntsRows : List Cnt → List Dat
  | [] => []
  | c :: l => srtsRows c.1.dat c.2 ++ cntsRows l
noncomputable def CntOk (w : World) (c : Cnt) : Prop := c.1.isRef = true ∧ c.1.Ok w ∧ c.2 ≠ [] ∧ ∀ s ∈ c.2, s.Ok w
structure Tail (w : World) (l : List (Str × Str)) : Prop where
  fin : EndP w l
  noc : isW l 0 (Str.ofString "CHARACTERS") = false
  noa : isW l 0 (Str.ofString "ALL") = false
  nol : isW l 0 (Str.ofString "LEADING") = false
/-- what may stand behind the whole -/
structure EndT (w : World) (l : List (Str × Str)) : Prop where
  tail : Tail w l
  non : isN l 0 = false
theorem srts_end {w : World} {l : List Srt} {tl : List (Str × Str)} (h : EndP w tl) : EndP w (srtsToks l ++ tl) := by
  cases l with
  | nil => exact h
  | cons s l =>
    have hw : ∀ y : Str, isW (srtsToks (s :: l) ++ tl) 0 y = decide (Str.ofString s.kw = y) := fun y => isW_wd _ _ _
    have hb : begO (srtsToks (s :: l) ++ tl) 0 = (!reserved (Str.ofString s.kw) || figw (Str.ofString s.kw)) := by simp [begO, srtsToks, wd]; intro h; exact absurd h (by decide)
    have hr : reserved (Str.ofString s.kw) = true := by
      cases s with
      | chars bs => exact res_t "CHARACTERS" (by decide)
      | some b ps =>
        cases b
        · exact res_t "ALL" (by decide)
        · exact res_t "LEADING" (by decide)
    have hne : ∀ y : Str, Str.ofString "CHARACTERS" ≠ y → Str.ofString "ALL" ≠ y → Str.ofString "LEADING" ≠ y → isW (srtsToks (s :: l) ++ tl) 0 y = false := fun y a b c => by
      rw [hw]
      refine decide_eq_false ?_
      cases s with
      | chars bs => exact a
      | some e ps =>
        cases e
        · exact b
        · exact c
    refine ⟨⟨hne _ (by decide) (by decide) (by decide), hne _ (by decide) (by decide) (by decide), hne _ (by decide) (by decide) (by decide), hne _ (by decide) (by decide) (by decide)⟩, hne _ (by decide) (by decide) (by decide), .inl ?_⟩
    rw [hb, hr, hw]
    cases s with
    | chars bs => rw [show figw (Str.ofString (Srt.chars bs).kw) = false from figw_f "CHARACTERS" (by decide)]; rfl
    | some b ps =>
      cases b
      · rw [show decide (Str.ofString (Srt.some false ps).kw = Str.ofString "ALL") = true from decide_eq_true rfl]; simp
      · rw [show figw (Str.ofString (Srt.some true ps).kw) = false from figw_f "LEADING" (by decide)]; rfl
theorem cnts_tail {w : World} {l : List Cnt} {post : List (Str × Str)} (h : EndT w post) (ok : ∀ c ∈ l, CntOk w c) : Tail w (cntsToks l ++ post) := by
  cases l with
  | nil => exact h.tail
  | cons c l =>
    have okc := ok c (.head _)
    rw [cntsToks, List.append_assoc]
    refine ⟨⟨Op.noB okc.2.1 _, Op.noW okc.2.1 (by decide), .inr ⟨?_, .inr ⟨c.1, _, rfl, okc.1, okc.2.1, ?_, ?_⟩⟩⟩, Op.noW okc.2.1 (by decide), Op.noW okc.2.1 (.head _), Op.noW okc.2.1 (by decide)⟩
    · rw [Op.beg okc.2.1, Op.noW okc.2.1 (.head _)]; rfl
    · exact ⟨(isW_wd _ _ _).trans (decide_eq_false (by decide)), (isW_wd _ _ _).trans (decide_eq_false (by decide))⟩
    · exact (isW_wd _ _ _).trans (decide_eq_true rfl)
theorem srtsToks_app : ∀ a b : List Srt, srtsToks (a ++ b) = srtsToks a ++ srtsToks b
  | [], _ => rfl
  | s :: l, b => by simp [srtsToks, srtsToks_app l b]
theorem srtsRows_app {cd : Dat} : ∀ a b : List Srt, srtsRows cd (a ++ b) = srtsRows cd a ++ srtsRows cd b
  | [], _ => rfl
  | s :: l, b => by simp [srtsRows, srtsRows_app l b]
theorem cntsToks_app : ∀ a b : List Cnt, cntsToks (a ++ b) = cntsToks a ++ cntsToks b
  | [], _ => rfl
  | s :: l, b => by simp [cntsToks, cntsToks_app l b]
theorem cntsRows_app : ∀ a b : List Cnt, cntsRows (a ++ b) = cntsRows a ++ cntsRows b
  | [], _ => rfl
  | s :: l, b => by simp [cntsRows, cntsRows_app l b]
theorem noLs_app : ∀ {a b : List Dat}, noLs a = true → noLs b = true → noLs (a ++ b) = true
  | [], _, _, h => h
  | d :: a, b, h, k => by
    rw [noLs, Bool.and_eq_true] at h
    show (noL d && noLs (a ++ b)) = true
    rw [h.1, noLs_app h.2 k]; rfl
theorem rowD_noL {cd : Dat} {k : Str} (h : noL cd = true) (q : Part) : noL (rowD cd k q) = true := by
  simp [rowD, noL, noLs, h, Op.noL, bdTold_noL]
theorem rows_noL {cd : Dat} {k : Str} (h : noL cd = true) : ∀ l : List Part, noLs (l.map (rowD cd k)) = true
  | [] => rfl
  | q :: l => by show (noL (rowD cd k q) && noLs (l.map (rowD cd k))) = true; rw [rowD_noL h, rows_noL h l]; rfl
theorem srt_noL {cd : Dat} (h : noL cd = true) : ∀ s : Srt, noLs (s.rows cd) = true
  | .chars bs => by simp [Srt.rows, noL, noLs, h, bdTold_noL]
  | .some false ps => rows_noL h ps
  | .some true ps => rows_noL h ps
theorem srts_noL {cd : Dat} (h : noL cd = true) : ∀ l : List Srt, noLs (srtsRows cd l) = true
  | [] => rfl
  | s :: l => noLs_app (srt_noL h s) (srts_noL h l)
theorem Srt.rows_pos {w : World} {s : Srt} (ok : s.Ok w) (cd : Dat) : 0 < (s.rows cd).length := by
  cases s with
  | chars bs => exact Nat.one_pos
  | some b ps => cases b <;> (rw [Srt.rows, List.length_map]; exact List.length_pos_iff.mpr ok.1)
theorem srtsRows_pos {w : World} {l : List Srt} (hne : l ≠ []) (ok : ∀ s ∈ l, s.Ok w) (cd : Dat) : 0 < (srtsRows cd l).length := by
  cases l with
  | nil => exact absurd rfl hne
  | cons s l => rw [srtsRows, List.length_append]; have := Srt.rows_pos (ok s (.head _)) cd; omega
theorem ne_of_all {led : Led} {vs : List Value} {ps : List Part} {f : Part → Dat} (d : DatAll led vs (ps.map f)) (h : ps ≠ []) : vs ≠ [] := fun e => by
  have := d.length
  rw [e, List.length_map] at this
  exact h (List.length_eq_zero_iff.mp this.symm)
theorem len_of_all {led : Led} {vs : List Value} {ps : List Part} {f : Part → Dat} (d : DatAll led vs (ps.map f)) : vs.length = ps.length := by rw [d.length, List.length_map]
section
variable {W : Wd} {f : Fn} {n : Nat} {c : Cx W f n} {vs : List (Option Value)} {led : Led} {Ks : KS} {pos : Pos}
theorem s_break (h : Ks .brk vs led) : GS c vs led (exec (.Break pos) c.env) Ks := fun _ _ A => wpAny_Break ⟨_, _, A, h⟩
theorem s_brk {rest : List Stmt} (h : Ks .brk vs led) : nxt c rest Ks .brk vs led := h
end
section
variable {W : Wd} {K : Value → Led → Prop} {r rd tl nd : Addr} {t1 t2 t3 : Tok} {i : Nat} {ti : Tok} {rest : Led} {vs : List Value} {ts : List (Str × Str)}
inductive TJ (W : Wd) (r rd tl nd : Addr) (t1 t2 t3 : Tok) (rest : Led) (lr : Addr) (l : List Cnt) (e m : Nat) (vs : List (Option Value)) (led : Led) : Prop
  | mk (l1 l2 : List Cnt) (k : Nat) (rvs : List Value) (c : Nat) (rest' : Led) (tj : Tok) (o1 o2 o3 o4 : Option Value) (h0 : l = l1 ++ l2) (h1 : m = l2.length) (h2 : k + (cntsToks l2).length = e) (h3 : vs = [some (.ref r), some (.ref lr), o1, o2, o3, o4]) (h4 : led = (rd, rdObj W.w tl nd t1 t2 t3 k tj) :: (lr, listOf rvs.toArray c) :: rest') (h5 : Ext rd rest rest') (h6 : (∀ p ∈ rest', p.1 ≠ lr)) (h7 : DatAll rest' rvs (cntsRows l1)) : TJ W r rd tl nd t1 t2 t3 rest lr l e m vs led
inductive SJ (W : Wd) (r rd tl nd : Addr) (t1 t2 t3 : Tok) (rest : Led) (lr lf : Addr) (av : Value) (cd : Dat) (l : List Srt) (e m : Nat) (vs : List (Option Value)) (led : Led) : Prop
  | mk (l1 l2 : List Srt) (k : Nat) (rvs : List Value) (c : Nat) (rest' : Led) (tj : Tok) (o3 o4 : Option Value) (h0 : l = l1 ++ l2) (h1 : m = l2.length) (h2 : k + (srtsToks l2).length = e) (h3 : vs = [some (.ref r), some (.ref lr), some av, some (.ref lf), o3, o4]) (h4 : led = (rd, rdObj W.w tl nd t1 t2 t3 k tj) :: (lf, listOf rvs.toArray c) :: rest') (h5 : Ext rd rest rest') (h6 : (∀ p ∈ rest', p.1 ≠ lf)) (h7 : DatAll rest' rvs (srtsRows cd l1)) : SJ W r rd tl nd t1 t2 t3 rest lr lf av cd l e m vs led
/-- the list brought to the head again -/
theorem head_sub {rd lr : Addr} {L ro : Obj} {a b : Led} (x : Ext rd ((lr, L) :: a) b) : ∀ p ∈ (rd, ro) :: (lr, L) :: off lr b, p ∈ (rd, ro) :: b :=
  cons_sub fun p hp => (List.mem_cons.mp hp).elim (fun e => e ▸ x.sub _ (.head _)) (off_sub p)
set_option maxHeartbeats 4000000 in
theorem tallied_rows_c {l : List Cnt} {post : List (Str × Str)} (R : RdOk W.w rest r rd tl vs ts) (hts : ts.drop i = cntsToks l ++ post) (hne : l ≠ []) (hsm : (cntsRows l).length < 1000) (ok : ∀ c ∈ l, CntOk W.w c) (hp : EndT W.w post)
    (kk : ∀ rest' ti' v, Ext rd rest rest' → DatIn rest' v (.tuple (cntsRows l)) → K v ((rd, rdObj W.w tl nd t1 t2 t3 ((i + (cntsToks l).length : Nat) : Int) ti') :: rest')) :
    Calls W 11 314 [.ref r] ((rd, rdObj W.w tl nd t1 t2 t3 i ti) :: rest) K := ent314 fun c => by
  walk_at "gs"
  rename_i lr la lb R0
  refine s_whileH (TJ W r rd tl nd t1 t2 t3 rest lr l (i + (cntsToks l).length)) l.length ⟨[], l, i, [], 0, rest, ti, none, none, none, none, rfl, rfl, rfl, rfl, rfl, Ext.refl, fun p hp => Nat.ne_of_lt (lb p hp), .nil⟩ ?_
  rintro m vs1 led KB hKB ⟨l1, l2, k, rvs, cc, rest', tj, o1, o2, o3, o4, hl, rfl, he, rfl, rfl, X, hn, da⟩
  have hk : k = i + (cntsToks l1).length := by rw [hl, cntsToks_app, List.length_append] at he; omega
  have hd1 : ts.drop k = cntsToks l2 ++ post := by
    rw [hl, cntsToks_app, List.append_assoc] at hts
    exact drop_more hts hk
  have hlen : rvs.length = (cntsRows l1).length := da.length
  have R1 := (R.ext X).top (o := listOf rvs.toArray cc) la
  clear R0
  obtain ⟨b2, ho, hbb⟩ : ∃ b2, Opens W.w ts k b2 ∧ (rvs.isEmpty || b2) = !l2.isEmpty := by
    cases l2 with
    | nil =>
      obtain rfl : l1 = l := by rw [hl, List.append_nil]
      have hpos : 0 < (cntsRows l1).length := by
        cases l1 with
        | nil => exact absurd rfl hne
        | cons x l1 =>
          rw [cntsRows, List.length_append]
          have := srtsRows_pos (ok x (.head _)).2.2.1 (ok x (.head _)).2.2.2 x.1.dat
          omega
      have hemp : rvs.isEmpty = false := by
        cases rvs with
        | nil => rw [← hlen] at hpos; cases hpos
        | cons _ _ => rfl
      rw [hemp]
      exact ⟨false, Opens.drop hd1 (.inl ⟨hp.non, rfl⟩), rfl⟩
    | cons x l2 =>
      obtain ⟨o, ss⟩ := x
      have okx : CntOk W.w (o, ss) := ok _ (by rw [hl]; exact List.mem_append_right _ (.head _))
      refine ⟨true, Opens.drop hd1 ?_, by simp⟩
      rw [show cntsToks ((o, ss) :: l2) ++ post = o.toks ++ (wd (Str.ofString "FOR") :: (srtsToks ss ++ (cntsToks l2 ++ post))) by rw [cntsToks]; simp]
      exact .inr ⟨o, _, rfl, okx.1, okx.2.1, ⟨(isW_wd _ _ _).trans (decide_eq_false (by decide)), (isW_wd _ _ _).trans (decide_eq_false (by decide))⟩, (isW_wd _ _ _).trans (decide_eq_true rfl)⟩
  refine GE.mono (K := fun b l' => b = (rvs.isEmpty || b2) ∧ ∃ tj2, AtK W rd tl nd t1 t2 t3 k tj2 ((lr, listOf rvs.toArray cc) :: rest') l') ?_ ?_
  · walk_at "gs"
    rename_i D da1 db1 R2
    refine o_eqnil (by decide) (.tail _ (.tail _ (.head _))) (.tail _ (.head _)) ?_
    cases rvs.isEmpty with
    | true =>
      walk_at "gs"
      exact ⟨rfl, _, _, rfl, Ext.refl.cons da1 db1⟩
    | false =>
      walk_at "gs"
      refine g_use (opens_count_c R2 ho fun rest2 ti2 X2 => ?_) (by decide)
      walk_at "gs"
      cases b2 with
      | false =>
        walk_at "gs"
        exact ⟨rfl, _, _, rfl, (Ext.refl.cons da1 db1).trans X2⟩
      | true =>
        walk_at "gs"
        exact ⟨rfl, _, _, rfl, (Ext.refl.cons da1 db1).trans X2⟩
  rintro b l' ⟨rfl, tj2, rest2, rfl, X2⟩
  rw [hbb]
  have R2 := R1.ext X2
  cases l2 with
  | nil =>
    obtain rfl : l1 = l := by rw [hl, List.append_nil]
    refine sel_f (s_next ?_)
    walk_at "gs"
    refine r_tupOf R2 (X2.sub _ (.head _)) (by omega) fun D da1 db1 _ => ?_
    walk_at "gs"
    rw [hk]
    exact kk _ _ _ (((X.top la lb).trans X2).cons da1 db1) (.tuple (.head _) (da.mono fun p hp => .tail _ (X2.sub _ (.tail _ hp))))
  | cons x l2 =>
    obtain ⟨o, ss⟩ := x
    subst hl
    have okx : CntOk W.w (o, ss) := ok _ (List.mem_append_right _ (.head _))
    have okl : ∀ q ∈ l2, CntOk W.w q := fun q hq => ok q (List.mem_append_right _ (.tail _ hq))
    have hT := cnts_tail hp okl
    have hd2 : ts.drop k = o.toks ++ (wd (Str.ofString "FOR") :: (srtsToks ss ++ (cntsToks l2 ++ post))) := by
      rw [hd1, cntsToks]; simp
    have hR : NoRef (wd (Str.ofString "FOR") :: (srtsToks ss ++ (cntsToks l2 ++ post))) := ⟨(isW_wd _ _ _).trans (decide_eq_false (by decide)), (isW_wd _ _ _).trans (decide_eq_false (by decide))⟩
    have hd3 : ts.drop (k + o.toks.length) = wd (Str.ofString "FOR") :: (srtsToks ss ++ (cntsToks l2 ++ post)) := drop_more hd2 rfl
    have hfor : isW ts (k + o.toks.length) (Str.ofString "FOR") = true := (isW_drop hd3 0 _).trans ((isW_wd _ _ _).trans (decide_eq_true rfl))
    refine sel_t ?_
    walk_at "gs"
    refine g_use (ref_here_c R2 hd2 hR okx.1 okx.2.1 fun rest3 ti3 av X3 dO => ?_) (by decide)
    have R3 := R2.ext X3
    walk_at "gs"
    rename_i lf lfa lfb Rf D9 d9a d9b R9 tq
    refine g_use (need_c R9 hfor (by decide) (by decide +kernel) fun rest4 ti4 X4 => ?_) (by decide)
    have X4' := (Ext.refl.cons d9a d9b).trans X4
    walk_at "gs"
    refine GS.sub (head_sub X4') ?_
    have hn3 : ∀ p ∈ rest3, p.1 ≠ lf := fun p hp => Nat.ne_of_lt (lfb p hp)
    have hd4 : ts.drop (k + o.toks.length + 1) = srtsToks ss ++ (cntsToks l2 ++ post) := drop_more (a := [wd (Str.ofString "FOR")]) hd3 rfl
    have oks : ∀ s ∈ ss, s.Ok W.w := okx.2.2.2
    have hne2 : ss ≠ [] := okx.2.2.1
    have hall : rvs.length + (srtsRows o.dat ss).length < 1000 := by
      rw [cntsRows_app, List.length_append, cntsRows, List.length_append] at hsm
      have hsm : (cntsRows l1).length + ((srtsRows o.dat ss).length + (cntsRows l2).length) < 1000 := hsm
      omega
    have X23 := X2.trans X3
    have lfb' : ∀ q ∈ (lr, listOf rvs.toArray cc) :: rest', q.1 < lf := fun q hq => lfb q (X23.sub q hq)
    clear R9 Rf X4 hsm hfor hd1 hd2 hd3 hR
    refine s_whileH (SJ W r rd tl nd t1 t2 t3 rest3 lr lf av o.dat ss (k + o.toks.length + 1 + (srtsToks ss).length)) ss.length ⟨[], ss, _, [], 0, _, _, _, _, rfl, rfl, rfl, rfl, rfl, Ext.refl.take X4' hn3, fun p hp => off_ne p hp, .nil⟩ ?_
    rintro m2 vs2 led2 KC hKC ⟨s1, s2, j, fvs, dd, rest5, tj5, p3, p4, hs, rfl, hj, rfl, rfl, X5, hn5, dB⟩
    have hjk : j = k + o.toks.length + 1 + (srtsToks s1).length := by rw [hs, srtsToks_app, List.length_append] at hj; omega
    have hd5 : ts.drop j = srtsToks s2 ++ (cntsToks l2 ++ post) := by
      rw [hs, srtsToks_app, List.append_assoc] at hd4
      exact drop_more hd4 hjk
    have R5 := (R3.ext X5).top (o := listOf fvs.toArray dd) lfa
    have hlf : fvs.length = (srtsRows o.dat s1).length := dB.length
    have hall2 := hall
    rw [hs, srtsRows_app, List.length_append] at hall2
    walk_at "gs"
    cases s2 with
    | nil =>
      have hC : isW ts j (Str.ofString "CHARACTERS") = false := (isW_drop hd5 0 _).trans hT.noc
      have hA : isW ts j (Str.ofString "ALL") = false := (isW_drop hd5 0 _).trans hT.noa
      have hL : isW ts j (Str.ofString "LEADING") = false := (isW_drop hd5 0 _).trans hT.nol
      obtain rfl : s1 = ss := by rw [hs, List.append_nil]
      refine g_use (skip_f R5 hC (by decide) (by decide +kernel) fun resta X6 => ?_) (by decide)
      have R6 := R5.ext X6
      walk_at "gs"
      refine g_use (skip_f R6 hA (by decide) (by decide +kernel) fun restb X7 => ?_) (by decide)
      have R7 := R6.ext X7
      walk_at "gs"
      refine g_use (skip_f R7 hL (by decide) (by decide +kernel) fun restc X8 => ?_) (by decide)
      have R8 := R7.ext X8
      have Xa := (X6.trans X7).trans X8
      have hpos : 0 < (srtsRows o.dat s1).length := srtsRows_pos hne2 oks _
      have hemp : fvs.isEmpty = false := by
        cases fvs with
        | nil => rw [← hlf] at hpos; cases hpos
        | cons _ _ => rfl
      have hne3 : fvs ≠ [] := by
        intro e; rw [e] at hemp; cases hemp
      walk_at "gs"
      refine s_break ?_
      repeat refine s_brk ?_
      refine hKC _ _ _ ?_
      dsimp only
      walk_at "gs"
      rename_i D da1 db1 R9
      refine o_eqnil (by decide) (.tail _ (.tail _ (Xa.sub _ (.head _)))) (.tail _ (.head _)) ?_
      rw [hemp]
      have mlr := Xa.sub _ (.tail _ (X5.sub _ (X23.sub _ (.head _))))
      walk_at "gs"
      refine m_extend (.tail _ (.tail _ mlr)) ?_
      walk_at "gs"
      refine r_extend (.tail _ mlr) (.tail _ (Xa.sub _ (.head _))) (Nat.ne_of_gt (lfb' _ (.head _))) la hne3 (by rw [hlen, hlf]; omega) ?_
      walk_at "gs"
      have Y := (((X23.trans X5).top (o := listOf fvs.toArray dd) lfa lfb').trans Xa).cons (o := listOf [].toArray 0) da1 db1
      refine hKB _ _ _ ⟨l2.length, _, Nat.lt_succ_self _, fun _ h => h, ⟨l1 ++ [(o, s1)], l2, j, _, _, _, _, _, _, _, _, by simp, rfl, by simp [cntsToks] at he; omega, rfl, rfl, X.take Y hn, fun p hp => off_ne p hp, ?_⟩⟩
      rw [cntsRows_app, show cntsRows [(o, s1)] = srtsRows o.dat s1 by simp [cntsRows]]
      exact DatAll.append (da.mono (Y.kept hn)) (DatAll.tmono (Y.tsub hn rfl) (dB.mono fun p hp => .tail _ (Xa.sub _ (.tail _ hp))) (srts_noL (Op.noL o) s1))
    | cons x s2 =>
      have okx2 : x.Ok W.w := oks x (by rw [hs]; exact List.mem_append_right _ (.head _))
      have okr : ∀ s ∈ s2, s.Ok W.w := fun s h => oks s (by rw [hs]; exact List.mem_append_right _ (.tail _ h))
      have hE : EndP W.w (srtsToks s2 ++ (cntsToks l2 ++ post)) := srts_end hT.fin
      have hd6 : ts.drop (j + 1) = x.body ++ (srtsToks s2 ++ (cntsToks l2 ++ post)) := by
        rw [srtsToks] at hd5
        rw [← List.append_assoc]
        exact drop_more (a := [wd (Str.ofString x.kw)]) hd5 rfl
      have hw : ∀ y, isW ts j y = decide (Str.ofString x.kw = y) := fun y => (isW_drop hd5 0 _).trans (isW_wd _ _ _)
      cases x with
      | chars bs =>
        have hC : isW ts j (Str.ofString "CHARACTERS") = true := (hw _).trans (decide_eq_true rfl)
        refine g_use (skip_t R5 hC (by decide) (by decide +kernel) fun resta ti6 X6 => ?_) (by decide)
        have R6 := R5.ext X6
        walk_at "gs"
        refine g_use (bounds_here_c R6 hd6 hE.nob okx2 fun rest9 ti9 v X9 d9 => ?_) (by decide)
        have R9 := R6.ext X9
        obtain ⟨a, ws, x, y, m2, rfl, hm, rfl, d4, d5⟩ := pair_at d9
        refine two_k (.tail _ hm) (by walk_at "puts") (by walk_at "puts") ?_
        have mlf := X9.sub _ (X6.sub _ (.head _))
        walk_at "gs"
        refine m_append (.tail _ mlf) ?_
        walk_at "gs"
        rename_i tq2 D da1 db1 R10
        refine r_append (.tail _ mlf) lfa (by rw [hlf, sizeLine_eq]; omega) ?_
        walk_at "gs"
        have Y := (X6.trans X9).cons (o := tupO [av, .str (Str.ofString "CHARACTERS") tq2, .none, x, y]) da1 db1
        have T := Y.tsub hn5 rfl
        have Z := X5.take Y hn5
        refine hKC _ _ _ ⟨s2.length, _, Nat.lt_succ_self _, fun _ h => h, ⟨s1 ++ [.chars bs], s2, j + 1 + (bdToks bs).length, _, _, _, _, _, _, by simp [hs], rfl, by simp [srtsToks, Srt.body] at hj; omega, rfl, rfl, Z, fun p hp => off_ne p hp, ?_⟩⟩
        rw [srtsRows_app]
        exact DatAll.append (dB.mono (Y.kept hn5)) (DatAll.one (.tuple (off_mem (.head _) (Nat.ne_of_gt (db1 _ mlf))) (.cons (dO.mono Z.sub) (.cons (.str _ _) (.cons .none (.cons (DatIn.tmono T (d4.mono fun _ h => .tail _ h) (bdTold_noL _)) (.cons (DatIn.tmono T (d5.mono fun _ h => .tail _ h) (bdTold_noL _)) .nil)))))))
      | some lead ps =>
        cases lead with
        | false =>
          have hA : isW ts j (Str.ofString "ALL") = true := (hw _).trans (decide_eq_true rfl)
          have hC : isW ts j (Str.ofString "CHARACTERS") = false := (hw _).trans (decide_eq_false (by decide : Str.ofString "ALL" ≠ Str.ofString "CHARACTERS"))
          refine g_use (skip_f R5 hC (by decide) (by decide +kernel) fun resta X6 => ?_) (by decide)
          have R6 := R5.ext X6
          walk_at "gs"
          refine g_use (skip_t R6 hA (by decide) (by decide +kernel) fun restb ti6 X7 => ?_) (by decide)
          have Ra := R6.ext X7
          have Xa := X6.trans X7
          have mlf := Xa.sub _ (.head _)
          have hps : ps.length < 1000 := by
            rw [srtsRows, Srt.rows, List.length_append, List.length_map] at hall2
            omega
          walk_at "gs"
          refine m_extend (.tail _ mlf) ?_
          walk_at "gs"
          refine g_use (counted_rows_c Ra hd6 okx2.1 hps okx2.2 hE ((dO.mono X5.sub).mono fun _ h => Xa.sub _ (.tail _ h)) fun rest9 ti9 l9 rvs9 c9 X9 l9a l9b d9 => ?_) (by decide)
          have mlf9 := X9.sub _ mlf
          have Y := Xa.trans X9
          have Z := X5.take Y hn5
          walk_at "gs"
          refine r_extend mlf9 (.head _) (Nat.ne_of_gt (l9b _ mlf)) lfa (ne_of_all d9 okx2.1) (by rw [len_of_all d9, hlf]; omega) ?_
          walk_at "gs"
          refine hKC _ _ _ ⟨s2.length, _, Nat.lt_succ_self _, fun _ h => h, ⟨s1 ++ [.some false ps], s2, j + 1 + (partsToks ps).length, _, _, _, _, _, _, by simp [hs], rfl, by simp [srtsToks, Srt.body] at hj; omega, rfl, rfl, Z, fun p hp => off_ne p hp, ?_⟩⟩
          rw [srtsRows_app]
          rw [show srtsRows o.dat [.some false ps] = ps.map (rowD o.dat (Str.ofString "ALL")) by simp [srtsRows, Srt.rows]]
          exact DatAll.append (dB.mono (Y.kept hn5)) (DatAll.tmono (Y.tsub hn5 rfl) (d9.mono fun _ h => .tail _ h) (rows_noL (Op.noL o) ps))
        | true =>
          have hA : isW ts j (Str.ofString "ALL") = false := (hw _).trans (decide_eq_false (by decide : Str.ofString "LEADING" ≠ Str.ofString "ALL"))
          have hC : isW ts j (Str.ofString "CHARACTERS") = false := (hw _).trans (decide_eq_false (by decide : Str.ofString "LEADING" ≠ Str.ofString "CHARACTERS"))
          have hL : isW ts j (Str.ofString "LEADING") = true := (hw _).trans (decide_eq_true rfl)
          refine g_use (skip_f R5 hC (by decide) (by decide +kernel) fun resta X6 => ?_) (by decide)
          have R6 := R5.ext X6
          walk_at "gs"
          refine g_use (skip_f R6 hA (by decide) (by decide +kernel) fun restb X7 => ?_) (by decide)
          have R7 := R6.ext X7
          walk_at "gs"
          refine g_use (skip_t R7 hL (by decide) (by decide +kernel) fun restc ti6 X8 => ?_) (by decide)
          have Ra := R7.ext X8
          have Xa := (X6.trans X7).trans X8
          have mlf := Xa.sub _ (.head _)
          have hps : ps.length < 1000 := by
            rw [srtsRows, Srt.rows, List.length_append, List.length_map] at hall2
            omega
          walk_at "gs"
          refine m_extend (.tail _ mlf) ?_
          walk_at "gs"
          refine g_use (counted_rows_c Ra hd6 okx2.1 hps okx2.2 hE ((dO.mono X5.sub).mono fun _ h => Xa.sub _ (.tail _ h)) fun rest9 ti9 l9 rvs9 c9 X9 l9a l9b d9 => ?_) (by decide)
          have mlf9 := X9.sub _ mlf
          have Y := Xa.trans X9
          have Z := X5.take Y hn5
          walk_at "gs"
          refine r_extend mlf9 (.head _) (Nat.ne_of_gt (l9b _ mlf)) lfa (ne_of_all d9 okx2.1) (by rw [len_of_all d9, hlf]; omega) ?_
          walk_at "gs"
          refine hKC _ _ _ ⟨s2.length, _, Nat.lt_succ_self _, fun _ h => h, ⟨s1 ++ [.some true ps], s2, j + 1 + (partsToks ps).length, _, _, _, _, _, _, by simp [hs], rfl, by simp [srtsToks, Srt.body] at hj; omega, rfl, rfl, Z, fun p hp => off_ne p hp, ?_⟩⟩
          rw [srtsRows_app]
          rw [show srtsRows o.dat [.some true ps] = ps.map (rowD o.dat (Str.ofString "LEADING")) by simp [srtsRows, Srt.rows]]
          exact DatAll.append (dB.mono (Y.kept hn5)) (DatAll.tmono (Y.tsub hn5 rfl) (d9.mono fun _ h => .tail _ h) (rows_noL (Op.noL o) ps))
end
end Mine
local macro_rules | `(tactic| walk_at "in") => `(tactic| first | exact List.Mem.head _ | (refine List.Mem.tail _ ?_; walk_at "in") | (refine List.mem_append_right _ ?_; walk_at "in") | (refine List.mem_append_left _ ?_; walk_at "in") | assumption)
local macro_rules | `(tactic| walk_at "g") => `(tactic| first
  | (with_reducible refine' o_mod ?b ?_; (case b => first | decide | omega); intro _)
  | (with_reducible refine' o_mul ?b ?_; (case b => mul_fits); intro _)
  | (with_reducible refine' o_fdiv ?b ?d ?_; (case b => omega); (case d => omega); intro _)
  | (with_reducible refine' o_pow ?b ?d ?e ?_; (case b => decide); (case d => decide); (case e => omega); intro _)
  | (with_reducible refine' g_bytes ?_; intro _)
  | (with_reducible refine' s_seti ?_ ?q; (case q => kernel_rfl))
  | ((with_reducible show GE _ _ ((_, _) :: _) (subscriptTail _ _ (Value.ref _) (Value.int _ _)) _); refine h_item (by decide) (by decide) rfl ?_ (by with_unfolding_all rfl))
  | ((with_reducible show GE _ _ ((_, _) :: _) (setItem (Value.ref _) (Value.int _ _) _) _); refine h_set (by decide) (of_decide_eq_true rfl) (by decide) ?s ?_; (case s => first | exact Mine.PnOk.sep (by assumption) | assumption)))
local macro_rules | `(tactic| walk_at "has") => `(tactic| with_reducible first | exact Has.tl (Has.tl (Has.tl (Has.tl (Has.tl (Has.tl (Has.tl (Has.tl (Has.tl (Has.tl (Has.tl (Has.hd))))))))))) | exact Has.tl (Has.tl (Has.tl (Has.tl (Has.tl (Has.tl (Has.tl (Has.tl (Has.tl (Has.tl (Has.tl (Has.tl (Has.hd)))))))))))) | exact Has.tl (Has.tl (Has.tl (Has.tl (Has.tl (Has.tl (Has.tl (Has.tl (Has.tl (Has.tl (Has.tl (Has.tl (Has.tl (Has.hd))))))))))))) | exact Has.tl (Has.tl (Has.tl (Has.tl (Has.tl (Has.tl (Has.tl (Has.tl (Has.tl (Has.tl (Has.tl (Has.tl (Has.tl (Has.tl (Has.hd)))))))))))))) | exact Has.tl (Has.tl (Has.tl (Has.tl (Has.tl (Has.tl (Has.tl (Has.tl (Has.tl (Has.tl (Has.tl (Has.tl (Has.tl (Has.tl (Has.tl (Has.hd))))))))))))))) | fail "deep")
local macro_rules | `(tactic| walk_at "puts") => `(tactic| with_reducible first | exact Put.tl (Put.tl (Put.tl (Put.tl (Put.tl (Put.tl (Put.tl (Put.tl (Put.tl (Put.tl (Put.tl (Put.hd))))))))))) | exact Put.tl (Put.tl (Put.tl (Put.tl (Put.tl (Put.tl (Put.tl (Put.tl (Put.tl (Put.tl (Put.tl (Put.tl (Put.hd)))))))))))) | exact Put.tl (Put.tl (Put.tl (Put.tl (Put.tl (Put.tl (Put.tl (Put.tl (Put.tl (Put.tl (Put.tl (Put.tl (Put.tl (Put.hd))))))))))))) | exact Put.tl (Put.tl (Put.tl (Put.tl (Put.tl (Put.tl (Put.tl (Put.tl (Put.tl (Put.tl (Put.tl (Put.tl (Put.tl (Put.tl (Put.hd)))))))))))))) | exact Put.tl (Put.tl (Put.tl (Put.tl (Put.tl (Put.tl (Put.tl (Put.tl (Put.tl (Put.tl (Put.tl (Put.tl (Put.tl (Put.tl (Put.tl (Put.hd))))))))))))))) | fail "deep")
local macro_rules | `(tactic| walk_at "put") => `(tactic| with_reducible first | refine ⟨_, Put.tl (Put.tl (Put.tl (Put.tl (Put.tl (Put.tl (Put.tl (Put.tl (Put.tl (Put.tl (Put.tl (Put.hd))))))))))), ?_⟩ | refine ⟨_, Put.tl (Put.tl (Put.tl (Put.tl (Put.tl (Put.tl (Put.tl (Put.tl (Put.tl (Put.tl (Put.tl (Put.tl (Put.hd)))))))))))), ?_⟩ | refine ⟨_, Put.tl (Put.tl (Put.tl (Put.tl (Put.tl (Put.tl (Put.tl (Put.tl (Put.tl (Put.tl (Put.tl (Put.tl (Put.tl (Put.hd))))))))))))), ?_⟩ | refine ⟨_, Put.tl (Put.tl (Put.tl (Put.tl (Put.tl (Put.tl (Put.tl (Put.tl (Put.tl (Put.tl (Put.tl (Put.tl (Put.tl (Put.tl (Put.hd)))))))))))))), ?_⟩ | refine ⟨_, Put.tl (Put.tl (Put.tl (Put.tl (Put.tl (Put.tl (Put.tl (Put.tl (Put.tl (Put.tl (Put.tl (Put.tl (Put.tl (Put.tl (Put.tl (Put.hd))))))))))))))), ?_⟩ | fail "deep")
local macro_rules | `(tactic| walk_at "subA") => `(tactic| first | exact fun _ h => h | (refine Mine.sub_tail ?_; walk_at "subA") | (refine Mine.sub_l ?_; walk_at "subA") | (refine Mine.sub_r ?_; walk_at "subA"))
local macro_rules | `(tactic| walk_at "sub") => `(tactic| first | exact Mine.sub_nil | (refine Mine.sub_cons ?_ ?_; (walk_at "in"); (walk_at "sub")) | (refine Mine.sub_app ?_ ?_ <;> walk_at "sub") | walk_at "subA")
namespace Mine
open Ob
section
variable {W : Wd} {K : Value → Led → Prop} {led : Led}
set_option maxHeartbeats 4000000 in
theorem law_words_c {x : Str} {tk : Tok} {ws : List Str} (hx : (x != Str.ofString "") = true) (hsp : Txt.split x (Str.ofString " ") = ws) (hlen : x.length ≤ 100) (hwl : ws.length ≤ 1000)
    (k : ∀ add v, Off led add → DatIn add v (.list (ws.map fun y => tokD (wd y))) → K v (add ++ led)) : Calls W 0 553 [.str x tk] led K := ent553 fun c => by
  walk_at "gs"
  refine sel_eqt hx ?_
  refine' o_lc ?_ ?k1 ?k2 ?k3 ?k4 ?k5 ?k6
  case k1 => exact rfl
  case k2 => decide
  case k3 => exact rfl
  case k4 => decide
  case k5 => exact rfl
  case k6 => exact fun _ => rfl
  walk_at "gs"
  refine n_split (by decide) hsp (by rw [sizeLine_eq]; omega) fun D l sa lt => ?_
  have hll : l.length = ws.length := StrsAre.length sa
  refine ⟨D, l, 0, fun i ys nx => ∃ add, nx = add ++ led ∧ Off led add ∧ DatAll add ys ((ws.take i).map fun y => tokD (wd y)), rfl, .head _, by rw [sizeLine_eq]; omega, ⟨[(D, listOf l.toArray 0)], rfl, Off.cons (fun q hq => Nat.ne_of_lt (lt q hq)) Off.nil, .nil⟩, ?_, ?_⟩
  · rintro i ys nx v C oC m₂ own hv ⟨add, rfl, fo, da⟩ hk hC hNs hx2 ho
    obtain ⟨y, ty, hy, rfl⟩ := strs_at sa i v hv
    walk_at "gs"
    refine gc_loc (List.mem_append_right _ hC) hNs hx2 rfl rfl (by decide) ?_
    walk_at "gs"
    rename_i T lt2
    refine lc_cons lt2 ho hk ⟨_ :: add, rfl, Off.lt (fun p hp => lt2 p (List.mem_append_left _ hp)) fo, ?_⟩
    rw [List.take_add_one, hy, List.map_append]
    exact DatAll.append (da.mono fun _ h => .tail _ h) (DatAll.one (.tuple (.head _) (.cons (.str _ _) (.cons (.str _ _) .nil))))
  · rintro ys nx D1 ⟨add, rfl, fo, da⟩ o1
    rw [List.take_of_length_le (by omega)] at da
    walk_at "gs"
    exact k ((D1, _) :: add) _ (Off.cons (fun q hq => off1_of o1 q (List.mem_append_right _ hq)) fo) (.list (.head _) (da.mono fun _ h => .tail _ h))
theorem law_item_c {x : Str} {tk : Tok} (hx : (x != Str.ofString "") = true) (hsp : Txt.split x (Str.ofString " ") = [x]) (hlen : x.length ≤ 100)
    (k : ∀ add v, Off led add → DatIn add v (.tuple [.list [tokD (wd x)], refD x []]) → K v (add ++ led)) : Calls W 1 565 [.str x tk] led K := ent565 fun c => by
  walk_at "gs"
  refine g_use (law_words_c hx hsp hlen (show 1 ≤ 1000 by decide) fun add v fo d => ?_) (by decide)
  walk_at "gs"
  rename_i tq D4 l4 D3 l3 D2 l2 D1 l1
  exact k ((D1, _) :: (D2, _) :: (D3, _) :: (D4, _) :: add) _ (Off.lt l1 (Off.lt l2 (Off.lt l3 (Off.lt l4 fo)))) (.tuple (.head _) (.cons (d.mono fun _ h => .tail _ (.tail _ (.tail _ (.tail _ h)))) (.cons (.tuple (.tail _ (.head _)) (.cons (.str _ _) (.cons (.str _ _) (.cons (.tuple (.tail _ (.tail _ (.tail _ (.head _)))) .nil) (.cons (.tuple (.tail _ (.tail _ (.head _))) .nil) (.cons .none .nil)))))) .nil)))
end
end Mine
namespace Mine
open Ob
theorem fdiv_nn {a b : Int} (h : 0 ≤ a) (k : 0 < b) : 0 ≤ a.fdiv b := Int.fdiv_nonneg h (Int.le_of_lt k)
section
variable {W : Wd} {K : Value → Led → Prop} {rest : Led} {pn ca : Addr}
theorem law_draw_c {t v many : Int} {tt tv mt : Tok} {m : Nat} (R : PnOk rest pn ca) (h0 : 0 < many) (h1 : many ≤ 100) (hv : 0 ≤ v) (ht : 0 ≤ t) (ht2 : t ≤ 900)
    (k : ∀ d dt P, PenNow ca (t + 1) P → 0 ≤ d → d < many → K (.int d dt) ((pn, P) :: rest)) : Calls W 1 541 [.ref pn, .int many mt] ((pn, penObj ca t tt v tv m) :: rest) K := ent541 fun c => by
  obtain ⟨cvs, cn, hm, ⟨ns, hi, hb⟩, hl⟩ := R.cells
  refine s_seq (fun vs' l => ∃ t' tt' v' tv' m' x y, vs' = [some (.ref pn), some (.int many mt), x, y, none] ∧ l = (pn, penObj ca t' tt' v' tv' m') :: rest ∧ 0 ≤ v' ∧ 0 ≤ t' ∧ t' ≤ t + 1) ?_ ?_
  · walk_at "gs"
    cases hv0 : (v == 0) with
    | false =>
      walk_at "gs"
      exact ⟨rfl, _, _, _, _, _, _, _, rfl, rfl, hv, ht, by omega⟩
    | true =>
      walk_at "gs"
      have fin : ∀ (fr : Int), 0 ≤ fr → fr ≤ many → 0 ≤ (fr + 2 * t + 5) ^ Int.toNat 7 + Int.fmod ns.sum 1000003 := fun fr h1 h2 => Int.add_nonneg (Int.pow_nonneg (by omega)) (Int.fmod_nonneg_of_pos _ (by decide))
      refine b_len (.tail _ hm) (by omega) fun _ => ?_
      walk_at "gs"
      by_cases hlt : t < cvs.length
      · obtain ⟨k, kt, e1, e2⟩ : ∃ k kt, cvs[t.toNat]? = some (.int k kt) ∧ k ∈ ns := by
          have hn : t.toNat < cvs.length := by omega
          obtain ⟨k, kt, e', e⟩ := IntsAre.at hi t.toNat _ (List.getElem?_eq_getElem hn)
          exact ⟨k, kt, by rw [List.getElem?_eq_getElem hn, e'], List.mem_of_getElem? e⟩
        have hk := hb k e2
        refine sel_y hlt ?_
        walk_at "gs"
        refine o_item (.tail _ hm) ht (by omega) e1 ?_ (by with_unfolding_all rfl)
        walk_at "gs"
        by_cases hg : many < k
        · refine sel_y hg ?_
          walk_at "gs"
          exact ⟨rfl, _, _, _, _, _, _, _, rfl, rfl, hk.1, by omega, by omega⟩
        · refine sel_n hg ?_
          walk_at "gs"
          refine b_sum (.tail _ hm) hi fun _ => ?_
          walk_at "gs"
          exact ⟨rfl, _, _, _, _, _, _, _, rfl, rfl, fin k hk.1 (by omega), by omega, by omega⟩
      · refine sel_n hlt ?_
        walk_at "gs"
        refine sel_n (by omega) ?_
        walk_at "gs"
        refine b_sum (.tail _ hm) hi fun _ => ?_
        walk_at "gs"
        exact ⟨rfl, _, _, _, _, _, _, _, rfl, rfl, fin 0 (Int.le_refl 0) (by omega), by omega, by omega⟩
  · rintro vs' l ⟨t', tt', v', tv', m', x, y, rfl, rfl, hv', ht', ht2'⟩
    walk_at "gs"
    exact k _ _ _ ⟨_, _, _, _, _, rfl, Int.fdiv_nonneg hv' (by omega), ht', ht2'⟩ (Int.fmod_nonneg_of_pos _ h0) (Int.fmod_lt_of_pos _ h0)
theorem draw_c {P : Obj} {t many : Int} {mt : Tok} (R : PnOk rest pn ca) (hP : PenNow ca t P) (h0 : 0 < many) (h1 : many ≤ 100) (ht : t ≤ 900)
    (k : ∀ d dt P', PenNow ca (t + 1) P' → 0 ≤ d → d < many → K (.int d dt) ((pn, P') :: rest)) : Calls W 1 541 [.ref pn, .int many mt] ((pn, P) :: rest) K := by
  obtain ⟨t', tt, v, tv, m, rfl, hv, ht0, ht1⟩ := hP
  exact law_draw_c R h0 h1 hv ht0 (by omega) fun d dt P' hp => k d dt P' (hp.mono (by omega))
theorem pick_c {P : Obj} {t : Int} {sl : Addr} {svs : List Value} {sn : Nat} (R : PnOk rest pn ca) (hP : PenNow ca t P) (hs : (sl, listOf svs.toArray sn) ∈ rest) (h0 : 0 < svs.length) (h1 : svs.length ≤ 100) (ht : t ≤ 900)
    (k : ∀ (d : Nat) v P', svs[d]? = some v → PenNow ca (t + 1) P' → K v ((pn, P') :: rest)) : Calls W 2 548 [.ref pn, .ref sl] ((pn, P) :: rest) K := ent548 fun c => by
  walk_at "gs"
  refine b_len (.tail _ hs) (by omega) fun _ => ?_
  walk_at "gs"
  refine g_use (draw_c R hP (by omega) (by omega) ht fun d dt P' hp d0 d1 => ?_) (by decide)
  walk_at "gs"
  refine o_item (.tail _ hs) d0 (by omega) (List.getElem?_eq_getElem (by omega)) ?_ (by with_unfolding_all rfl)
  walk_at "gs"
  exact k _ _ _ (List.getElem?_eq_getElem (by omega)) hp
end
end Mine
namespace Mine
open Ob
theorem pick6 {a b c d e f v : Value} {k : Nat} (h : [a, b, c, d, e, f][k]? = some v) : v = a ∨ v = b ∨ v = c ∨ v = d ∨ v = e ∨ v = f := by
  have := List.mem_of_getElem? h
  simpa using this
theorem pair_of {led : Led} {v : Value} {d e : Dat} (h : DatIn led v (.tuple [d, e])) : ∃ (a : Addr) (x y : Value) (n : Nat), v = .ref a ∧ (a, ({ cls := .type "tuple", data := .seq [x, y].toArray n } : Obj)) ∈ led ∧ DatIn led x d ∧ DatIn led y e := by
  cases h
  rename_i m r
  cases r
  rename_i h1 r
  cases r
  rename_i h2 r
  cases r
  exact ⟨_, _, _, _, rfl, m, h1, h2⟩
theorem op_len {led : Led} {vs : List Value} {o : Op} (h : DatAll led vs (o.toks.map tokD)) : vs.length ≤ 3 := by
  rw [h.length, List.length_map]
  cases o <;> exact Nat.le_of_ble_eq_true rfl
/-- an operand's words are short -/
noncomputable def Op.Short : Op → Prop
  | .item x => x.length ≤ 100
  | .qual x q y => x.length ≤ 100 ∧ q.length ≤ 100 ∧ y.length ≤ 100
  | .fig x _ _ => x.length ≤ 100
  | .lit => True
structure OpFit (w : World) (o : Op) : Prop where
  ok : Op.Ok w o
  short : o.Short
noncomputable def opD (o : Op) : Dat := .tuple [.list (o.toks.map tokD), o.dat]
theorem sp_one (x : String) (hx : x ∈ ["K", "N-1", "SPACES", "ZERO", "C", "D", "BEFORE", "FOR", "CHARACTERS", "ALL", "LEADING", "REPLACING", "CONTINUE", "END-IF"]) : Txt.split (Str.ofString x) (Str.ofString " ") = [Str.ofString x] := by
  revert x
  decide +kernel
theorem ok_item {w : World} {x : String} (h : x ∈ ["K", "N-1", "C", "D"]) : Op.Ok w (.item (Str.ofString x)) := by
  have h' := (by decide : ∀ k ∈ ["K", "N-1", "C", "D"], k ∈ ["K", "N-1", "C", "D", "R"]) x h
  exact ⟨res_f x h', ns_k w.params x h'⟩
theorem ok_qual {w : World} {q : Str} (h : q = Str.ofString "OF" ∨ q = Str.ofString "IN") : Op.Ok w (.qual (Str.ofString "K") q (Str.ofString "R")) :=
  ⟨⟨res_f "K" (by decide), ns_k w.params "K" (by decide)⟩, h, ⟨res_f "R" (by decide), ns_k w.params "R" (by decide)⟩⟩
theorem ok_spaces (w : World) : Op.Ok w (.fig (Str.ofString "SPACES") (Str.ofString "SPACE") (nat_lit 356)) :=
  ⟨res_t "SPACES" (by decide), figw_t "SPACES" (by decide), by decide, ns_spaces w.params⟩
theorem ok_zero (w : World) : Op.Ok w (.fig (Str.ofString "ZERO") (Str.ofString "ZERO") (nat_lit 348)) :=
  ⟨res_t "ZERO" (by decide), figw_t "ZERO" (by decide), by decide, ns_zero w.params⟩
/-- the pieces of a sort: what is told of each, and the sort that tells it alone -/
noncomputable def Srt.pcs : Srt → List (List (Str × Str) × Srt)
  | .chars bs => [(bdToks bs, .chars bs)]
  | .some b ps => ps.map fun q => (q.1.toks ++ bdToks q.2, .some b [q])
noncomputable def Srt.row1 (cd : Dat) (s : Srt) : Dat := (s.rows cd).headD .none
noncomputable def pieceD (cd : Dat) (q : List (Str × Str) × Srt) : Dat := .tuple [.list (q.1.map tokD), q.2.row1 cd]
noncomputable def srtD (cd : Dat) (s : Srt) : Dat := .tuple [.str (Str.ofString s.kw), .list (s.pcs.map (pieceD cd))]
noncomputable def cntD (c : Cnt) : Dat := .tuple [.tuple [.list (c.1.toks.map tokD), c.1.dat], .list (c.2.map (srtD c.1.dat))]
/-- the same told anew at each piece -/
noncomputable def again1 (o : Op) (q : List (Str × Str) × Srt) : Cnt := (o, [q.2])
noncomputable def againS (o : Op) : List Srt → List Cnt
  | [] => []
  | s :: l => s.pcs.map (again1 o) ++ againS o l
noncomputable def againC : List Cnt → List Cnt
  | [] => []
  | c :: l => againS c.1 c.2 ++ againC l
theorem againS_app {o : Op} : ∀ a b : List Srt, againS o (a ++ b) = againS o a ++ againS o b
  | [], _ => rfl
  | s :: l, b => by simp [againS, againS_app l b]
theorem againC_app : ∀ a b : List Cnt, againC (a ++ b) = againC a ++ againC b
  | [], _ => rfl
  | s :: l, b => by simp [againC, againC_app l b]
theorem pcs_body (s : Srt) : s.pcs.flatMap (·.1) = s.body := by
  cases s with
  | chars bs => simp [Srt.pcs, Srt.body]
  | some b ps =>
    show (ps.map _).flatMap _ = partsToks ps
    induction ps with
    | nil => rfl
    | cons q l ih => simp only [List.map_cons, List.flatMap_cons, ih, partsToks, List.append_assoc]
theorem pcs_rows (s : Srt) (cd : Dat) : s.pcs.map (fun q => q.2.row1 cd) = s.rows cd := by
  cases s with
  | chars bs => rfl
  | some b ps =>
    cases b <;> (simp only [Srt.pcs, Srt.rows, List.map_map]; exact List.map_congr_left fun q _ => rfl)
theorem pcs_kw {s : Srt} {q : List (Str × Str) × Srt} (h : q ∈ s.pcs) : q.2.kw = s.kw ∧ q.2.body = q.1 := by
  cases s with
  | chars bs => rw [List.mem_singleton.mp h]; exact ⟨rfl, rfl⟩
  | some b ps =>
    obtain ⟨x, _, rfl⟩ := List.mem_map.mp h
    cases b <;> exact ⟨rfl, by simp [Srt.body, partsToks]⟩
theorem pcs_ok {w : World} {s : Srt} (ok : s.Ok w) {q : List (Str × Str) × Srt} (h : q ∈ s.pcs) : q.2.Ok w := by
  cases s with
  | chars bs => rw [List.mem_singleton.mp h]; exact ok
  | some b ps =>
    obtain ⟨x, hx, rfl⟩ := List.mem_map.mp h
    exact ⟨by simp, fun y hy => by rw [List.mem_singleton.mp hy]; exact ok.2 x hx⟩
theorem pcs_row {s : Srt} {cd : Dat} {q : List (Str × Str) × Srt} (h : q ∈ s.pcs) : q.2.rows cd = [q.2.row1 cd] := by
  cases s with
  | chars bs => rw [List.mem_singleton.mp h]; rfl
  | some b ps =>
    obtain ⟨x, hx, rfl⟩ := List.mem_map.mp h
    cases b <;> rfl
theorem again1_toks {s : Srt} {o : Op} {q : List (Str × Str) × Srt} (h : q ∈ s.pcs) : cntsToks [again1 o q] = o.toks ++ ([wd (Str.ofString "FOR"), wd (Str.ofString s.kw)] ++ q.1) := by
  simp [cntsToks, again1, srtsToks, pcs_kw h]
theorem again1_rows {s : Srt} {o : Op} {q : List (Str × Str) × Srt} (h : q ∈ s.pcs) : cntsRows [again1 o q] = [q.2.row1 o.dat] := by
  simp [cntsRows, again1, srtsRows, pcs_row h]
theorem pcs_again {o : Op} {s : Srt} : ∀ {l : List (List (Str × Str) × Srt)}, (∀ q ∈ l, q ∈ s.pcs) → cntsRows (l.map (again1 o)) = l.map fun q => q.2.row1 o.dat
  | [], _ => rfl
  | q :: l, h => by
    have := pcs_again (o := o) (l := l) fun x hx => h x (.tail _ hx)
    have e := again1_rows (o := o) (h q (.head _))
    rw [List.map_cons, List.map_cons, show again1 o q :: l.map (again1 o) = [again1 o q] ++ l.map (again1 o) from rfl, cntsRows_app, e, this]; rfl
theorem againS_rows {o : Op} : ∀ l : List Srt, cntsRows (againS o l) = srtsRows o.dat l
  | [] => rfl
  | s :: l => by rw [againS, cntsRows_app, againS_rows l, pcs_again (s := s) (fun q h => h), pcs_rows, srtsRows]
theorem againC_rows : ∀ l : List Cnt, cntsRows (againC l) = cntsRows l
  | [] => rfl
  | c :: l => by rw [againC, cntsRows_app, againS_rows, againC_rows l, cntsRows]
theorem againS_ok {w : World} {o : Op} (h1 : o.isRef = true) (h2 : o.Ok w) : ∀ {l : List Srt}, (∀ s ∈ l, s.Ok w) → ∀ c ∈ againS o l, CntOk w c
  | [], _, _, hc => nomatch hc
  | s :: l, h, c, hc => by
    rcases List.mem_append.mp hc with hc | hc
    · obtain ⟨q, hq, rfl⟩ := List.mem_map.mp hc
      exact ⟨h1, h2, by simp [again1], fun y hy => by rw [List.mem_singleton.mp hy]; exact pcs_ok (h s (.head _)) hq⟩
    · exact againS_ok h1 h2 (fun x hx => h x (.tail _ hx)) c hc
theorem againC_ok {w : World} : ∀ {l : List Cnt}, (∀ c ∈ l, CntOk w c) → ∀ c ∈ againC l, CntOk w c
  | [], _, _, hc => nomatch hc
  | x :: l, h, c, hc => by
    rcases List.mem_append.mp hc with hc | hc
    · exact againS_ok (h x (.head _)).1 (h x (.head _)).2.1 (h x (.head _)).2.2.2 c hc
    · exact againC_ok (fun y hy => h y (.tail _ hy)) c hc
theorem pcs_ne {w : World} {s : Srt} (ok : s.Ok w) : s.pcs ≠ [] := by
  intro e
  have := Srt.rows_pos ok .none
  rw [← pcs_rows, e] at this
  exact absurd this (Nat.lt_irrefl _)
theorem againC_ne {w : World} {l : List Cnt} (hne : l ≠ []) (ok : ∀ c ∈ l, CntOk w c) : againC l ≠ [] := by
  cases l with
  | nil => exact absurd rfl hne
  | cons c l =>
    obtain ⟨o, ss⟩ := c
    have h := ok _ (.head _)
    cases ss with
    | nil => exact absurd rfl h.2.2.1
    | cons s ss =>
      have := pcs_ne (h.2.2.2 s (.head _))
      intro e
      simp [againC, againS] at e
      exact this e.1
noncomputable def goodT (t : Str × Str) : Prop := (t.1 = Str.ofString "word" ∨ t.1 = Str.ofString "literal" ∨ t = (Str.ofString "sign", Str.ofString "."))
/-- what a token must be: of the three kinds, and short -/
noncomputable def Fit (l : List (Str × Str)) : Prop := ∀ t ∈ l, (t.1 = Str.ofString "word" ∨ t.1 = Str.ofString "literal" ∨ t = (Str.ofString "sign", Str.ofString ".")) ∧ t.2.length ≤ 100
theorem Fit.app {a b : List (Str × Str)} (h : Fit a) (k : Fit b) : Fit (a ++ b) := fun t ht => (List.mem_append.mp ht).elim (h t) (k t)
theorem Fit.cons {x : Str} {b : List (Str × Str)} (h : x.length ≤ 100) (k : Fit b) : Fit (wd x :: b) := fun t ht => by
  rcases List.mem_cons.mp ht with rfl | ht
  · exact ⟨.inl rfl, h⟩
  · exact k t ht
theorem Fit.nil : Fit [] := fun _ h => nomatch h
theorem Op.fit {o : Op} (h : o.Short) : Fit o.toks := by
  cases o with
  | item x => exact Fit.cons h Fit.nil
  | qual x q y => exact Fit.cons h.1 (Fit.cons h.2.1 (Fit.cons h.2.2 Fit.nil))
  | fig x y t => exact Fit.cons h Fit.nil
  | lit => intro t ht; rw [List.mem_singleton.mp ht]; exact ⟨.inr (.inl rfl), by decide⟩
theorem bd_fit : ∀ {l : List (Bool × Op)}, (∀ x ∈ l, x.2.Short) → Fit (bdToks l)
  | [], _ => Fit.nil
  | (false, o) :: l, h => Fit.cons (by decide) (Fit.app (Op.fit (h _ (.head _))) (bd_fit fun x hx => h x (.tail _ hx)))
  | (true, o) :: l, h => Fit.cons (by decide) (Fit.cons (by decide) (Fit.app (Op.fit (h _ (.head _))) (bd_fit fun x hx => h x (.tail _ hx))))
noncomputable def Srt.Short : Srt → Prop
  | .chars bs => ∀ x ∈ bs, x.2.Short
  | .some _ ps => ∀ q ∈ ps, q.1.Short ∧ ∀ x ∈ q.2, x.2.Short
noncomputable def CntShort (c : Cnt) : Prop := c.1.Short ∧ ∀ s ∈ c.2, s.Short
theorem parts_fit : ∀ {l : List Part}, (∀ q ∈ l, q.1.Short ∧ ∀ x ∈ q.2, x.2.Short) → Fit (partsToks l)
  | [], _ => Fit.nil
  | q :: l, h => Fit.app (Op.fit (h q (.head _)).1) (Fit.app (bd_fit (h q (.head _)).2) (parts_fit fun x hx => h x (.tail _ hx)))
theorem Srt.fit {s : Srt} (h : s.Short) : Fit s.body := by
  cases s with
  | chars bs => exact bd_fit h
  | some b ps => exact parts_fit h
theorem kw_len (s : Srt) : (Str.ofString s.kw).length ≤ 100 := by
  cases s with
  | chars bs => exact (by decide : (Str.ofString "CHARACTERS").length ≤ 100)
  | some b ps =>
    cases b
    · exact (by decide : (Str.ofString "ALL").length ≤ 100)
    · exact (by decide : (Str.ofString "LEADING").length ≤ 100)
theorem srts_fit : ∀ {l : List Srt}, (∀ s ∈ l, s.Short) → Fit (srtsToks l)
  | [], _ => Fit.nil
  | s :: l, h => Fit.cons (kw_len s) (Fit.app (Srt.fit (h s (.head _))) (srts_fit fun x hx => h x (.tail _ hx)))
theorem cnts_fit : ∀ {l : List Cnt}, (∀ c ∈ l, CntShort c) → Fit (cntsToks l)
  | [], _ => Fit.nil
  | c :: l, h => Fit.app (Op.fit (h c (.head _)).1) (Fit.cons (by decide) (Fit.app (srts_fit (h c (.head _)).2) (cnts_fit fun x hx => h x (.tail _ hx))))
theorem pcs_short {s : Srt} (h : s.Short) {q : List (Str × Str) × Srt} (hq : q ∈ s.pcs) : q.2.Short := by
  cases s with
  | chars bs => rw [List.mem_singleton.mp hq]; exact h
  | some b ps =>
    obtain ⟨x, hx, rfl⟩ := List.mem_map.mp hq
    intro y hy
    rw [List.mem_singleton.mp hy]
    exact h x hx
theorem againS_short {o : Op} (h1 : o.Short) : ∀ {l : List Srt}, (∀ s ∈ l, s.Short) → ∀ c ∈ againS o l, CntShort c
  | [], _, _, hc => nomatch hc
  | s :: l, h, c, hc => by
    rcases List.mem_append.mp hc with hc | hc
    · obtain ⟨q, hq, rfl⟩ := List.mem_map.mp hc
      exact ⟨h1, fun y hy => by rw [List.mem_singleton.mp hy]; exact pcs_short (h s (.head _)) hq⟩
    · exact againS_short h1 (fun x hx => h x (.tail _ hx)) c hc
theorem againC_short : ∀ {l : List Cnt}, (∀ c ∈ l, CntShort c) → ∀ c ∈ againC l, CntShort c
  | [], _, _, hc => nomatch hc
  | x :: _, h, c, hc => by
    rcases List.mem_append.mp hc with hc | hc
    · exact againS_short (h x (.head _)).1 (h x (.head _)).2 c hc
    · exact againC_short (fun y hy => h y (.tail _ hy)) c hc
theorem Fit.good {l : List (Str × Str)} (h : Fit l) : Good l := fun t ht => (h t ht).1
theorem Fit.short {l : List (Str × Str)} (h : Fit l) : ∀ t ∈ l, t.2.length ≤ 100 := fun t ht => (h t ht).2
/-! what a def of the law's side has made: a, beside the pen and rest -/
section
variable {pn : Addr} {P : Obj} {rest a b : Led}
theorem offD {D : Addr} {o : Obj} (h : Off ((pn, P) :: rest) a) (l1 : pn < D) (l2 : ∀ p ∈ a ++ rest, p.1 < D) : Off ((pn, P) :: rest) ((D, o) :: a) :=
  Off.cons (List.forall_mem_cons.mpr ⟨Nat.ne_of_lt l1, fun q hq => Nat.ne_of_lt (l2 q (List.mem_append_right _ hq))⟩) h
theorem offA (h : Off ((pn, P) :: rest) a) (k : Off ((pn, P) :: (a ++ rest)) b) : Off ((pn, P) :: rest) (b ++ a) := fun q hq p hp => by
  rcases List.mem_append.mp hp with hp | hp
  · rcases List.mem_cons.mp hq with rfl | hq
    · exact k _ (.head _) p hp
    · exact k q (.tail _ (List.mem_append_right _ hq)) p hp
  · exact h q hq p hp
theorem pen_app : ∀ p ∈ (pn, P) :: ((b ++ a) ++ rest), p ∈ b ++ (pn, P) :: (a ++ rest) := fun p hp => by
  simp only [List.mem_cons, List.mem_append] at hp ⊢
  rcases hp with h | (h | h) | h <;> simp [h]
theorem Off.pen {P' : Obj} {add : Led} (h : Off ((pn, P) :: rest) add) : Off ((pn, P') :: rest) add := fun q hq => by
  rcases List.mem_cons.mp hq with rfl | hq
  · exact h (pn, P) (.head _)
  · exact h q (.tail _ hq)
end
/-- an entry of the ledger, and the rest, which stands elsewhere -/
inductive Mid (e : Addr × Obj) : Led → Led → Prop
  | hd {x} : (∀ p ∈ x, p.1 ≠ e.1) → Mid e (e :: x) x
  | age {D o x y} : (∀ p ∈ y, p.1 < D) → Mid e y x → Mid e ((D, o) :: y) ((D, o) :: x)
  | app {a x y} : (∀ p ∈ a, p.1 ≠ e.1) → Mid e y x → Mid e (a ++ y) (a ++ x)
theorem Mid.sub {e : Addr × Obj} {y x : Led} (m : Mid e y x) : ∀ p ∈ e :: x, p ∈ y := by
  induction m with
  | hd => exact fun _ h => h
  | age q m ih =>
    intro p h
    rcases List.mem_cons.mp h with rfl | h
    · exact .tail _ (ih _ (.head _))
    · rcases List.mem_cons.mp h with rfl | h
      · exact .head _
      · exact .tail _ (ih _ (.tail _ h))
  | app q m ih =>
    intro p h
    rcases List.mem_cons.mp h with rfl | h
    · exact List.mem_append_right _ (ih _ (.head _))
    · rcases List.mem_append.mp h with h | h
      · exact List.mem_append_left _ h
      · exact List.mem_append_right _ (ih _ (.tail _ h))
theorem Mid.sep {e : Addr × Obj} {y x : Led} (m : Mid e y x) : ∀ p ∈ x, p.1 ≠ e.1 := by
  induction m with
  | hd h => exact h
  | age q m ih => exact List.forall_mem_cons.mpr ⟨Nat.ne_of_gt (q _ (m.sub _ (.head _))), ih⟩
  | app q m ih => exact List.forall_mem_append.mpr ⟨q, ih⟩
section
variable {pn : Addr} {P : Obj} {rest a b : Led} {e : Addr × Obj}
theorem offQ {D : Addr} {o : Obj} {Y : Led} (h : Off ((pn, P) :: rest) a) (l1 : pn < D) (l2 : ∀ p ∈ Y, p.1 < D) (s : ∀ p ∈ rest, p ∈ Y) : Off ((pn, P) :: rest) ((D, o) :: a) :=
  Off.cons (List.forall_mem_cons.mpr ⟨Nat.ne_of_lt l1, fun q hq => Nat.ne_of_lt (l2 q (s q hq))⟩) h
theorem offG {P' : Obj} {Z : Led} (h : Off ((pn, P) :: rest) a) (k : Off ((pn, P') :: Z) b) (s : ∀ q ∈ rest, q ∈ Z) : Off ((pn, P) :: rest) (b ++ a) := fun q hq p hp => by
  rcases List.mem_append.mp hp with hp | hp
  · rcases List.mem_cons.mp hq with rfl | hq
    · exact k (pn, P') (.head _) p hp
    · exact k q (.tail _ (s q hq)) p hp
  · exact h q hq p hp
theorem pen_app2 : ∀ p ∈ (pn, P) :: e :: ((b ++ a) ++ rest), p ∈ b ++ (pn, P) :: e :: (a ++ rest) := fun p hp => by
  simp only [List.mem_cons, List.mem_append] at hp ⊢
  rcases hp with h | h | (h | h) | h <;> simp [h]
theorem offA2 (h : Off ((pn, P) :: rest) a) (k : Off ((pn, P) :: e :: (a ++ rest)) b) : Off ((pn, P) :: rest) (b ++ a) := offA h fun q hq => k q (by
  rcases List.mem_cons.mp hq with rfl | hq
  · exact .head _
  · exact .tail _ (.tail _ hq))
theorem sepA2 (h : ∀ p ∈ a ++ rest, p.1 ≠ e.1) (k : Off ((pn, P) :: e :: (a ++ rest)) b) : ∀ p ∈ (b ++ a) ++ rest, p.1 ≠ e.1 := fun p hp => by
  rw [List.append_assoc] at hp
  exact (List.mem_append.mp hp).elim (fun hp => (k e (.tail _ (.head _)) p hp).symm) (h p)
end
section
variable {W : Wd} {f : Fn} {n : Nat} {c : Cx W f n} {vs : List (Option Value)} {K : Value → Led → Prop} {pn l : Addr} {po : Obj} {ws : List Value} {m : Nat} {v : Value} {X Y rest : Led} {e : Addr × Obj}
/-- append beside the pen -/
theorem p_append (hm : Mid (l, listOf ws.toArray m) Y X) (hn : pn ≠ l) (hz : ws.length ≤ 1000000) (h : K .none ((pn, po) :: (l, listOf (ws ++ [v]).toArray (m + 1)) :: X)) : GE c vs ((pn, po) :: Y) (call (.builtin "list.append") [.ref l, v]) K :=
  GE.sub (led' := (pn, po) :: (l, listOf ws.toArray m) :: X) (cons_sub hm.sub) fun _ _ A => app_led A.F A.N (.tail hn (.head hm.sep)) hz fun _ F' N' => ⟨_, A.to F' N', h⟩
theorem GE.fold {α : Type} {t : Sem α} {K : α → Led → Prop} (a : Led) (h : ∀ A, A = a → GE c vs ((pn, po) :: e :: (A ++ rest)) t K) : GE c vs ((pn, po) :: e :: (a ++ rest)) t K := h a rfl
end
end Mine
namespace Mine
open Ob
section
variable {W : Wd} {K : Value → Led → Prop} {rest : Led} {pn ca : Addr}
set_option maxHeartbeats 4000000 in
theorem law_operand_c {P : Obj} {t : Int} (R : PnOk rest pn ca) (hP : PenNow ca t P) (ht : t ≤ 900)
    (k : ∀ add o v P', Off ((pn, P) :: rest) add → OpFit W.w o → DatIn add v (opD o) → PenNow ca (t + 1) P' → K v ((pn, P') :: (add ++ rest))) : Calls W 3 572 [.ref pn] ((pn, P) :: rest) K := ent572 fun c => by
  have R0 := R
  walk_at "gs"
  refine g_use (law_item_c (by decide) (sp_one "K" (by decide)) (by decide) fun a1 v1 f1 d1 => ?_) (by decide)
  refine GE.sub (pen_app (a := [])) ?_
  have o1 := offA Off.nil f1
  have R1 := R.add o1
  walk_at "gs"
  refine g_use (law_item_c (by decide) (sp_one "N-1" (by decide)) (by decide) fun a2 v2 f2 d2 => ?_) (by decide)
  refine GE.sub (pen_app (a := a1 ++ [])) ?_
  have o2 := offA o1 f2
  have R2 := R.add o2
  walk_at "gs"
  refine g_use (law_words_c (by decide) (sp_one "SPACES" (by decide)) (by decide) (by decide) fun a3 v3 f3 d3 => ?_) (by decide)
  refine GE.sub (pen_app (a := a2 ++ (a1 ++ []))) ?_
  have o3 := offA o2 f3
  have R3 := R.add o3
  walk_at "gs"
  rename_i D1 p1 q1 r1 D2 p2 q2 r2 tz
  refine g_use (law_words_c (by decide) (sp_one "ZERO" (by decide)) (by decide) (by decide) fun a4 v4 f4 d4 => ?_) (by decide)
  refine GE.sub (pen_app (a := (D2, _) :: (D1, _) :: (a3 ++ (a2 ++ (a1 ++ []))))) ?_
  have o4 := offA (offD (offD o3 p1 q1) p2 q2) f4
  have R4 := R.add o4
  walk_at "gs"
  rename_i D3 p3 q3 r3 D4 p4 q4 r4 lr pl ql rl
  refine GE.fold ((D4, _) :: (D3, _) :: (a4 ++ ((D2, _) :: (D1, _) :: (a3 ++ (a2 ++ (a1 ++ [])))))) fun A hA => ?_
  have oA : Off ((pn, P) :: rest) A := by rw [hA]; exact offD (offD o4 p3 q3) p4 q4
  have qA : ∀ p ∈ A ++ rest, p.1 < lr := by rw [hA]; exact ql
  have e1 : DatIn A v1 (opD (.item (Str.ofString "K"))) := by rw [hA]; exact d1.mono fun p h => by simp [h]
  have e2 : DatIn A v2 (opD (.item (Str.ofString "N-1"))) := by rw [hA]; exact d2.mono fun p h => by simp [h]
  have e3 : DatIn A (.ref D2) (opD (.fig (Str.ofString "SPACES") (Str.ofString "SPACE") (nat_lit 356))) := by
    rw [hA]
    exact .tuple (by walk_at "in") (.cons (d3.mono fun p h => by simp [h]) (.cons (.tuple (by walk_at "in") (.cons (.str _ _) (.cons (.str _ _) .nil))) .nil))
  have e4 : DatIn A (.ref D4) (opD (.fig (Str.ofString "ZERO") (Str.ofString "ZERO") (nat_lit 348))) := by
    rw [hA]
    exact .tuple (by walk_at "in") (.cons (d4.mono fun p h => by simp [h]) (.cons (.tuple (by walk_at "in") (.cons (.str _ _) (.cons (.str _ _) .nil))) .nil))
  have rA : PnOk ((lr, listOf [v1, v2, .ref D2, .ref D4].toArray 0) :: (A ++ rest)) pn ca := (R.add oA).cons pl
  have oL : ∀ q ∈ (pn, P) :: rest, q.1 ≠ lr := List.forall_mem_cons.mpr ⟨Nat.ne_of_lt pl, fun q hq => Nat.ne_of_lt (qA q (List.mem_append_right _ hq))⟩
  clear hA d1 d2 d3 d4 f1 f2 f3 f4 o1 o2 o3 o4 r1 r2 r3 r4 R1 R2 R3 R4 q1 q2 q3 q4 ql rl p1 p2 p3 p4
  refine m_append (.tail _ (.head _)) ?_
  walk_at "gs"
  rename_i D5 p5 q5 r5 D6 p6 q6 r6 t7 t8 D7 p7 q7 r7 D8 p8 q8 r8
  have M1 := Mid.age (o := tupO [.ref D6, .ref D7]) q8 (Mid.age q7 (Mid.age q6 (Mid.age q5 (Mid.hd (e := (lr, listOf [v1, v2, .ref D2, .ref D4].toArray 0)) fun p hp => Nat.ne_of_lt (qA p hp)))))
  refine p_append M1 (Nat.ne_of_lt pl) (show 4 ≤ 1000000 by decide) ?_
  have s8 := M1.sep
  walk_at "gs"
  refine GE.fold ((D8, _) :: (D7, _) :: (D6, _) :: (D5, _) :: A) fun B hB => ?_
  have oB : Off ((pn, P) :: rest) B := by
    rw [hB]
    exact offQ (offQ (offQ (offQ oA p5 q5 fun p h => by simp [h]) p6 q6 fun p h => by simp [h]) p7 q7 fun p h => by simp [h]) p8 q8 fun p h => by simp [h]
  have sB : ∀ p ∈ B ++ rest, p.1 ≠ lr := by rw [hB]; exact s8
  have up : ∀ p ∈ A, p ∈ B := by rw [hB]; exact fun p h => by simp [h]
  replace e1 := e1.mono up
  replace e2 := e2.mono up
  replace e3 := e3.mono up
  replace e4 := e4.mono up
  have e5 : DatIn B (.ref D8) (opD .lit) := by
    rw [hB]
    exact .tuple (by walk_at "in") (.cons (.list (by walk_at "in") (.cons (.tuple (by walk_at "in") (.cons (.str _ _) (.cons (.str _ _) .nil))) .nil)) (.cons (.tuple (by walk_at "in") (.cons (.str _ _) (.cons (.bytes _ _) .nil))) .nil))
  clear hB up M1 s8 q5 q6 q7 q8 r5 r6 r7 r8 p5 p6 p7 p8
  refine m_append (.tail _ (.head _)) ?_
  walk_at "gs"
  refine g_use (law_words_c (ws := [Str.ofString "K", Str.ofString "OF", Str.ofString "R"]) (by decide) (by decide +kernel) (by decide) (by decide) fun a5 v5 f5 d5 => ?_) (by decide)
  refine GE.sub (pen_app2 (a := B)) ?_
  have o5 := offA2 oB f5
  have s5 := sepA2 sB f5
  have R5 : PnOk ((lr, listOf ([v1, v2, Value.ref D2, Value.ref D4] ++ [Value.ref D8]).toArray (0 + 1)) :: ((a5 ++ B) ++ rest)) pn ca := (R.add o5).cons pl
  walk_at "gs"
  rename_i D9 p9 q9 r9 D10 p10 q10 r10 D11 p11 q11 r11 D12 p12 q12 r12
  have M2 := Mid.age (o := tupO [v5, .ref D11]) q12 (Mid.age q11 (Mid.age q10 (Mid.age q9 (Mid.hd (e := (lr, listOf ([v1, v2, Value.ref D2, Value.ref D4] ++ [Value.ref D8]).toArray (0 + 1))) s5))))
  refine p_append M2 (Nat.ne_of_lt pl) (show 5 ≤ 1000000 by decide) ?_
  walk_at "gs"
  refine GE.fold ((D12, _) :: (D11, _) :: (D10, _) :: (D9, _) :: (a5 ++ B)) fun C hC => ?_
  have oC : Off ((pn, P) :: rest) C := by
    rw [hC]
    exact offQ (offQ (offQ (offQ o5 p9 q9 fun p h => by simp [h]) p10 q10 fun p h => by simp [h]) p11 q11 fun p h => by simp [h]) p12 q12 fun p h => by simp [h]
  have up : ∀ p ∈ B, p ∈ C := by rw [hC]; exact fun p h => by simp [h]
  have e6 : DatIn C (.ref D12) (opD (.qual (Str.ofString "K") (Str.ofString "OF") (Str.ofString "R"))) := by
    rw [hC]
    exact .tuple (by walk_at "in") (.cons (d5.mono fun p h => by simp [h]) (.cons (.tuple (by walk_at "in") (.cons (.str _ _) (.cons (.str _ _) (.cons (.tuple (by walk_at "in") (.cons (.str _ _) .nil)) (.cons (.tuple (by walk_at "in") .nil) (.cons .none .nil)))))) .nil))
  refine g_use (pick_c ((R.add oC).cons pl) hP (.head _) (show 0 < 6 by decide) (show 6 ≤ 100 by decide) ht fun d v P' hv hp => ?_) (by decide)
  walk_at "gs"
  have fin : ∀ o v, OpFit W.w o → DatIn C v (opD o) → K v ((pn, P') :: (((lr, listOf ([v1, v2, Value.ref D2, Value.ref D4] ++ [Value.ref D8] ++ [Value.ref D12]).toArray (0 + 1 + 1)) :: C) ++ rest)) := fun o v ho hd => k _ o v P' (Off.cons oL oC) ho (hd.mono fun _ h => .tail _ h) hp
  rcases pick6 (show [v1, v2, Value.ref D2, Value.ref D4, Value.ref D8, Value.ref D12][d]? = some v from hv) with rfl | rfl | rfl | rfl | rfl | rfl
  · exact fin _ _ ⟨ok_item (by decide), (by decide : (Str.ofString "K").length ≤ 100)⟩ (e1.mono up)
  · exact fin _ _ ⟨ok_item (by decide), (by decide : (Str.ofString "N-1").length ≤ 100)⟩ (e2.mono up)
  · exact fin _ _ ⟨ok_spaces _, (by decide : (Str.ofString "SPACES").length ≤ 100)⟩ (e3.mono up)
  · exact fin _ _ ⟨ok_zero _, (by decide : (Str.ofString "ZERO").length ≤ 100)⟩ (e4.mono up)
  · exact fin .lit _ ⟨trivial, trivial⟩ (e5.mono up)
  · exact fin _ _ ⟨ok_qual (.inl rfl), (by decide : (Str.ofString "K").length ≤ 100 ∧ (Str.ofString "OF").length ≤ 100 ∧ (Str.ofString "R").length ≤ 100)⟩ e6
end
end Mine
namespace Mine
open Ob
inductive FlagsAre : List Value → List Bool → Prop
  | nil : FlagsAre [] []
  | no {vs bs} (t : Tok) : FlagsAre vs bs → FlagsAre (.int 0 t :: vs) (false :: bs)
  | yes {vs bs} (t : Tok) : FlagsAre vs bs → FlagsAre (.int 1 t :: vs) (true :: bs)
theorem FlagsAre.at {vs : List Value} {bs : List Bool} (h : FlagsAre vs bs) : ∀ (i : Nat) (v : Value), vs[i]? = some v → (∃ t, bs[i]? = some false ∧ v = .int 0 t) ∨ ∃ t, bs[i]? = some true ∧ v = .int 1 t := by
  induction h with
  | nil => intro i v h; simp at h
  | no t r ih =>
    intro i v hv
    cases i with
    | zero => exact .inl ⟨t, rfl, by simpa using hv.symm⟩
    | succ i => simpa using ih i v (by simpa using hv)
  | yes t r ih =>
    intro i v hv
    cases i with
    | zero => exact .inr ⟨t, rfl, by simpa using hv.symm⟩
    | succ i => simpa using ih i v (by simpa using hv)
theorem FlagsAre.length {vs : List Value} {bs : List Bool} (h : FlagsAre vs bs) : vs.length = bs.length := by
  induction h with
  | nil => rfl
  | no t r ih => simp [ih]
  | yes t r ih => simp [ih]
theorem bdToks_len : ∀ bs : List (Bool × Op), (bdToks bs).length ≤ 5 * bs.length
  | [] => Nat.le_refl _
  | (false, o) :: l => by
    have := bdToks_len l
    have : o.toks.length ≤ 3 := by cases o <;> exact Nat.le_of_ble_eq_true rfl
    simp [bdToks]; omega
  | (true, o) :: l => by
    have := bdToks_len l
    have : o.toks.length ≤ 3 := by cases o <;> exact Nat.le_of_ble_eq_true rfl
    simp [bdToks]; omega
theorem take_not {bs : List Bool} (h : bs.Nodup) {j : Nat} {b : Bool} (e : bs[j]? = some b) : b ∉ bs.take j := by
  intro hm
  obtain ⟨i, hi, e2⟩ := List.mem_iff_getElem.mp hm
  rw [List.getElem_take] at e2
  rw [List.length_take] at hi
  obtain ⟨hj, e3⟩ := List.getElem?_eq_some_iff.mp e
  exact (List.pairwise_iff_getElem.mp h i j (by omega) hj (by omega)) (e2.trans e3.symm)
theorem twoL_at {led : Led} {v : Value} {d e : Dat} (h : DatIn led v (.list [d, e])) : ∃ (a : Addr) (x y : Value) (n : Nat), v = .ref a ∧ (a, listOf [x, y].toArray n) ∈ led ∧ DatIn led x d ∧ DatIn led y e := by
  cases h
  rename_i m r
  cases r
  rename_i h1 r
  cases r
  rename_i h2 r
  cases r
  exact ⟨_, _, _, _, rfl, m, h1, h2⟩
theorem bd_len {w : World} {led : Led} {vs : List Value} {bs : List (Bool × Op)} (ok : BdOk w bs) (h : DatAll led vs ((bdToks bs).map tokD)) : vs.length ≤ 10 := by
  have h1 : bs.length ≤ 2 := by
    have : ∀ l : List Bool, l.Nodup → l.length ≤ 2 := by
      intro l hl
      match l, hl with
      | [], _ => decide
      | [_], _ => exact Nat.le_of_ble_eq_true rfl
      | [_, _], _ => exact Nat.le_of_ble_eq_true rfl
      | a :: b :: c :: r, hl =>
        simp only [List.nodup_cons, List.mem_cons, not_or] at hl
        cases a <;> cases b <;> cases c <;> simp at hl
    simpa using this _ ok.2
  have := bdToks_len bs
  rw [h.length, List.length_map]
  omega
theorem ats_of {led : Led} {l0 l1 l2 l3 l4 l5 : Addr} {n0 n1 n2 n3 n4 n5 : Nat} {ta tb tc td te tf : Tok} {k : Nat} {v : Value} (h : [Value.ref l0, .ref l1, .ref l2, .ref l3, .ref l4, .ref l5][k]? = some v)
    (m0 : (l0, listOf ([] : List Value).toArray n0) ∈ led) (m1 : (l1, listOf ([] : List Value).toArray n1) ∈ led) (m2 : (l2, listOf [Value.int 0 ta].toArray n2) ∈ led) (m3 : (l3, listOf [Value.int 1 tb].toArray n3) ∈ led)
    (m4 : (l4, listOf [Value.int 0 tc, Value.int 1 td].toArray n4) ∈ led) (m5 : (l5, listOf [Value.int 1 te, Value.int 0 tf].toArray n5) ∈ led) :
    ∃ la vs n bs, v = .ref la ∧ (la, listOf (List.toArray vs) n) ∈ led ∧ FlagsAre vs bs ∧ bs.Nodup ∧ bs.length ≤ 2 := by
  rcases pick6 h with rfl | rfl | rfl | rfl | rfl | rfl
  · exact ⟨_, _, _, [], rfl, m0, .nil, by simp, by decide⟩
  · exact ⟨_, _, _, [], rfl, m1, .nil, by simp, by decide⟩
  · exact ⟨_, _, _, [false], rfl, m2, .no _ .nil, by simp, by decide⟩
  · exact ⟨_, _, _, [true], rfl, m3, .yes _ .nil, by simp, by decide⟩
  · exact ⟨_, _, _, [false, true], rfl, m4, .no _ (.yes _ .nil), by simp, by decide⟩
  · exact ⟨_, _, _, [true, false], rfl, m5, .yes _ (.no _ .nil), by simp, by decide⟩
structure BdFit (w : World) (bs : List (Bool × Op)) : Prop where
  ok : BdOk w bs
  short : ∀ b ∈ bs, b.2.Short
noncomputable def bdD (bs : List (Bool × Op)) : Dat := .tuple [.list ((bdToks bs).map tokD), .list [bdTold false bs, bdTold true bs]]
theorem OwnOff.mk {own nx : Led} (h : ∀ p ∈ own, ∀ q ∈ nx, p.1 ≠ q.1) : OwnOff own (nx.map (·.1)) := fun p hp b hb => by
  obtain ⟨q, hq, rfl⟩ := List.mem_map.mp hb
  exact h p hp q hq
section
variable {pn : Addr} {P P' P'' : Obj} {rest own a a' : Led} {e e' : Addr × Obj}
theorem pen_app3 {a b A R : Led} {T : Addr × Obj} : ∀ p ∈ (pn, P) :: e :: ((b ++ (T :: (a ++ A))) ++ R), p ∈ b ++ (pn, P) :: T :: e :: (a ++ (A ++ R)) := fun p hp => by
  simp only [List.mem_cons, List.mem_append] at hp ⊢
  rcases hp with h | h | (h | h | h | h) | h <;> simp [h]
/-- what a loop has set aside counts as the rest -/
theorem ownB (h : Off ((pn, P) :: rest) a) (k : OwnOff own (((pn, P') :: e :: (a ++ rest)).map (·.1))) : Off ((pn, P) :: (rest ++ own)) a := fun q hq p hp => by
  rcases List.mem_cons.mp hq with rfl | hq
  · exact h _ (.head _) p hp
  · rcases List.mem_append.mp hq with hq | hq
    · exact h q (.tail _ hq) p hp
    · exact k q hq p.1 (List.mem_map.mpr ⟨p, .tail _ (.tail _ (List.mem_append_left _ hp)), rfl⟩)
theorem ownE (h : Off ((pn, P) :: (rest ++ own)) a') (k : OwnOff own (((pn, P') :: e :: (a ++ rest)).map (·.1))) (he : e'.1 = e.1) : OwnOff own (((pn, P'') :: e' :: (a' ++ rest)).map (·.1)) := OwnOff.mk fun p hp q hq => by
  simp only [List.mem_cons, List.mem_append] at hq
  rcases hq with rfl | rfl | hq | hq
  · exact k p hp pn (.head _)
  · rw [he]; exact k p hp e.1 (.tail _ (.head _))
  · exact h p (.tail _ (List.mem_append_right _ hp)) q hq
  · exact k p hp q.1 (List.mem_map.mpr ⟨q, .tail _ (.tail _ (List.mem_append_right _ hq)), rfl⟩)
theorem offR (h : Off ((pn, P) :: (rest ++ own)) a) : Off ((pn, P) :: rest) a := fun q hq => h q (by
  rcases List.mem_cons.mp hq with rfl | hq
  · exact .head _
  · exact .tail _ (List.mem_append_left _ hq))
end
section
variable {W : Wd} {f : Fn} {n : Nat} {c : Cx W f n} {vs : List (Option Value)} {led : Led} {K : Value → Led → Prop} {Ks : KS} {pos : Pos} {pn ca l : Addr} {po : Obj} {rest X Y : Led}
theorem assign_sub {M : Model} {A : Around} {E : Value → Shared → Prop} {s : Shared} {env : Env} {o i : Expr} {p : Pos} {v : Value} {Q : Unit → Shared → Prop} (h : wpAny M A (eval o env) (fun ov s₂ => wpAny M A (eval i env) (fun iv s₃ => wpAny M A (setItem ov iv v) Q E s₃) E s₂) E s) :
    wpAny M A (assign (.Subscript o i p) env v) Q E s := fun Γ p hΓ => by
  simp only [assign_Subscript, Sem.wp_bind', Sem.wp_holding, Sem.wp_cmd_standAt, Sem.wp_release, Sem.wp_pure']
  exact Sem.wp_mono M Γ _ (fun ov p₂ s₂ h₂ => Sem.wp_mono M Γ _ (fun iv _ s₃ h₃ => h₃ Γ _ hΓ) (fun _ _ _ h' => h') _ _ (h₂ Γ p₂ hΓ)) (fun _ _ _ h' => h') _ _ (h Γ _ hΓ)
/-- a tuple of two, laid into a local and an item -/
noncomputable def TwoI (c : Cx W f n) (vs : List (Option Value)) (x : Str) (o i : Expr) (Ks : KS) (v : Value) (l : Led) : Prop := ∃ T a b m0 vs1, v = .ref T ∧ (T, ({ cls := .type "tuple", data := .seq [a, b].toArray m0 } : Obj)) ∈ l ∧ Put f.ns vs x a vs1 ∧
  GE c vs1 l (eval o c.env) fun ov l2 => GE c vs1 l2 (eval i c.env) fun iv l3 => GE c vs1 l3 (setItem ov iv b) fun _ l4 => Ks .next vs1 l4
theorem s_twoI {x : Str} {o i : Expr} {px py tp : Pos} {k : Nat} {e : Expr} (h : GE c vs led (eval e c.env) (TwoI c vs x o i Ks)) (hs : swapsWithSole [.Tuple [.Name x px, .Subscript o i py] k tp] e pos.line c.env = pure false)
    (hw : swappedStores [.Tuple [.Name x px, .Subscript o i py] k tp] e c.env = pure none) : GS c vs led (exec (.Assign [.Tuple [.Name x px, .Subscript o i py] k tp] e pos) c.env) Ks := fun s₀ s A =>
  Assign_Tuple (h.th A fun v l s1 A1 ⟨T, a, b, m0, vs1, hv, m, p, hk⟩ => by
    subst hv
    refine unpackN_ (items := #[a, b]) A1.F A1.N ⟨_, (A1.N _ m).1, rfl, m0, rfl⟩ rfl rfl rfl fun h' F' N' => ?_
    refine assignInOrder_cons (assign_Name (st_name (s₀ := s₀) ⟨F', N', A1.g, A1.d, A1.o⟩ p fun s2 A2 => assignInOrder_cons (assign_sub ?_)))
    exact hk.th A2 fun _ _ _ A3 h3 => h3.th A3 fun _ _ _ A4 h4 => h4.th A4 fun _ _ _ A5 h5 => assignInOrder_nil ⟨_, _, A5, h5⟩) hs hw
theorem o_tupT {value slice : Expr} {l : Addr} {ws : List Value} {m : Nat} {i : Int} {u : Tok} {v : Value} (hm : (l, ({ cls := .type "tuple", data := .seq ws.toArray m } : Obj)) ∈ led) (h0 : 0 ≤ i) (hfit : i < 2 ^ 63) (hv : ws[i.toNat]? = some v) (h : K v led)
    (hs : subscripted slice false (.ref l) (.int i u) = operate [.ref l, .int i u] (getItem (.ref l) (.int i u))) : GE c vs led (subscriptTail value slice (.ref l) (.int i u)) K :=
  fun _ _ A => kba_turn (value' := Expr.Name (Str.ofString "_") ⟨0, 0, 0, 0⟩) (fun _ => rfl) (tup_led A.N hm h0 hfit hv ⟨_, A, h⟩ hs fun _ => rfl)
/-- an item of the list beside the pen -/
theorem p_set {ws : List Value} {m : Nat} {k : Int} {t : Tok} {v : Value} {KU : Unit → Led → Prop} (hm : Mid (l, listOf ws.toArray m) Y X) (hn : pn ≠ l) (h0 : 0 ≤ k) (h1 : k < ws.length) (hfit : k < 2 ^ 63) {us : List Value} (e : ws.set k.toNat v = us) (h : KU () ((pn, po) :: (l, listOf us.toArray m) :: X)) :
    GE c vs ((pn, po) :: Y) (setItem (.ref l) (.int k t) v) KU :=
  GE.sub (led' := (pn, po) :: (l, listOf ws.toArray m) :: X) (cons_sub hm.sub) fun _ _ A => set_led A.F A.N (.tail hn (.head hm.sep)) h0 h1 hfit fun _ F' N' => ⟨_, A.to F' N', by rw [e]; exact h⟩
theorem p_add {a b : Addr} {ws us : List Value} {m k : Nat} (R : PnOk rest pn ca) (ha : (a, listOf ws.toArray m) ∈ rest) (hb : (b, listOf us.toArray k) ∈ rest) (hz : ws.length + us.length ≤ 1000000)
    (h : ∀ D, pn < D → (∀ p ∈ rest, p.1 < D) → PnOk ((D, listOf (ws ++ us).toArray 0) :: rest) pn ca → K (.ref D) ((pn, po) :: (D, listOf (ws ++ us).toArray 0) :: rest)) : GE c vs ((pn, po) :: rest) (binaryOp .Add (.ref a) (.ref b)) K :=
  fun _ _ A => add_led A.F A.N (.tail _ ha) (.tail _ hb) hz fun D _ F' N' l => ⟨_, (A.to F' N').sub swap_sub, h D (l _ (.head _)) (fun p hp => l p (.tail _ hp)) (R.cons (l _ (.head _)))⟩
end
end Mine
namespace Mine
open Ob
section
variable {W : Wd} {K : Value → Led → Prop} {rest : Led} {pn ca : Addr}
inductive LJ (W : Wd) (pn ca lt la : Addr) (P : Obj) (rest : Led) (t : Int) (ats : List Value) (nn : Nat) (bsF : List Bool) (j : Nat) (vs : List (Option Value)) (nx : Led) : Prop
  | mk (bs : List (Bool × Op)) (x y : Value) (m : Nat) (A : Led) (P' : Obj) (tl : Addr) (tvs : List Value) (tn : Nat) (o4 o5 : Option Value) (h0 : bs.map (·.1) = bsF.take j) (h1 : (∀ b ∈ bs, OpFit W.w b.2)) (h2 : vs = [some (.ref pn), some (.ref tl), some (.ref lt), o4, o5]) (h3 : nx = (pn, P') :: (lt, listOf [x, y].toArray m) :: (A ++ rest)) (h4 : Off ((pn, P) :: rest) A) (h5 : (∀ p ∈ A ++ rest, p.1 ≠ lt)) (h6 : PenNow ca (t + 1 + (j : Int)) P') (h7 : (la, listOf ats.toArray nn) ∈ A) (h8 : (tl, listOf tvs.toArray tn) ∈ A) (h9 : DatAll A tvs ((bdToks bs).map tokD)) (h10 : DatIn A x (bdTold false bs)) (h11 : DatIn A y (bdTold true bs)) : LJ W pn ca lt la P rest t ats nn bsF j vs nx
set_option maxHeartbeats 4000000 in
theorem law_bounds_c {P : Obj} {t : Int} (R : PnOk rest pn ca) (hP : PenNow ca t P) (ht : t ≤ 890)
    (k : ∀ add bs v P', Off ((pn, P) :: rest) add → BdFit W.w bs → DatIn add v (bdD bs) → PenNow ca (t + 3) P' → K v ((pn, P') :: (add ++ rest))) : Calls W 4 579 [.ref pn] ((pn, P) :: rest) K := ent579 fun c => by
  have R0 := R
  walk_at "gs"
  rename_i tl0 pa qa ra lt pb qb rb T pc qc rc l0 p0 q0 r0 l1 p1 q1 r1 ta l2 p2 q2 r2 tb l3 p3 q3 r3 tc td l4 p4 q4 r4 te tf l5 p5 q5 r5 ll p6 q6 r6
  have M := Mid.age (o := listOf [Value.ref l0, .ref l1, .ref l2, .ref l3, .ref l4, .ref l5].toArray 0) q6 (Mid.age q5 (Mid.age q4 (Mid.age q3 (Mid.age q2 (Mid.age q1 (Mid.age q0 (Mid.age qc (Mid.hd (e := (lt, listOf [Value.none, Value.none].toArray 0)) fun p hp => Nat.ne_of_lt (qb p hp)))))))))
  refine GE.sub (cons_sub M.sub) ?_
  refine GE.fold [(ll, _), (l5, _), (l4, _), (l3, _), (l2, _), (l1, _), (l0, _), (T, _), (tl0, _)] fun A hA => ?_
  have oA : Off ((pn, P) :: rest) A := by
    rw [hA]
    exact offQ (offQ (offQ (offQ (offQ (offQ (offQ (offQ (offQ Off.nil pa qa (by walk_at "sub")) pc qc (by walk_at "sub")) p0 q0 (by walk_at "sub")) p1 q1 (by walk_at "sub")) p2 q2 (by walk_at "sub")) p3 q3 (by walk_at "sub")) p4 q4 (by walk_at "sub")) p5 q5 (by walk_at "sub")) p6 q6 (by walk_at "sub")
  have sA : ∀ p ∈ A ++ rest, p.1 ≠ lt := by rw [hA]; exact M.sep
  have m0 : (l0, listOf ([] : List Value).toArray 0) ∈ A := by rw [hA]; walk_at "in"
  have m1 : (l1, listOf ([] : List Value).toArray 0) ∈ A := by rw [hA]; walk_at "in"
  have m2 : (l2, listOf [Value.int 0 ta].toArray 0) ∈ A := by rw [hA]; walk_at "in"
  have m3 : (l3, listOf [Value.int 1 tb].toArray 0) ∈ A := by rw [hA]; walk_at "in"
  have m4 : (l4, listOf [Value.int 0 tc, Value.int 1 td].toArray 0) ∈ A := by rw [hA]; walk_at "in"
  have m5 : (l5, listOf [Value.int 1 te, Value.int 0 tf].toArray 0) ∈ A := by rw [hA]; walk_at "in"
  have m6 : (ll, listOf [Value.ref l0, .ref l1, .ref l2, .ref l3, .ref l4, .ref l5].toArray 0) ∈ A := by rw [hA]; walk_at "in"
  have mt : (tl0, listOf ([] : List Value).toArray 0) ∈ A := by rw [hA]; walk_at "in"
  clear hA M qa qb qc q0 q1 q2 q3 q4 q5 q6 ra rb rc r0 r1 r2 r3 r4 r5 r6 pa pc p0 p1 p2 p3 p4 p5 p6
  refine g_use (pick_c ((R.add oA).cons pb) hP (.tail _ (List.mem_append_left _ m6)) (show 0 < 6 by decide) (show 6 ≤ 100 by decide) (by omega) fun d v P1 hv hp => ?_) (by decide)
  obtain ⟨la, ats, nn, bsF, rfl, mla, fl, nd, hl2⟩ := ats_of (led := A) hv m0 m1 m2 m3 m4 m5
  have hfl := fl.length
  refine l_list (LJ W pn ca lt la P rest t ats nn bsF) (.tail _ (.tail _ (List.mem_append_left _ mla))) ⟨[], .none, .none, 0, A, P1, tl0, [], 0, none, none, rfl, fun _ h => (nomatch h), rfl, rfl, oA, sA, by simpa using hp, mla, mt, .nil, .none, .none⟩ ?_ ?_
  · rintro j v vs1 nx own hv hoff hla ⟨bs, x, y, m, A2, P2, tl, tvs, tn, o4, o5, hbs, hok, rfl, rfl, oA2, sA2, hp2, mla2, mtl2, dt, dx, dy⟩
    refine ⟨_, by walk_at "puts", ?_⟩
    refine GS.sub (led' := (pn, P2) :: (lt, listOf [x, y].toArray m) :: (A2 ++ (rest ++ own))) (by simp only [List.cons_append, List.append_assoc]; walk_at "sub") ?_
    refine GS.hide fun K1 hK1 => ?_
    have oB := ownB oA2 hoff
    have sB : ∀ p ∈ A2 ++ (rest ++ own), p.1 ≠ lt := by
      rw [← List.append_assoc]
      exact List.forall_mem_append.mpr ⟨sA2, fun p hp => hoff p hp lt (.tail _ (.head _))⟩
    have RW : PnOk (rest ++ own) pn ca := R.wide (P := P) fun p hp b hb => by
      rcases List.mem_cons.mp hb with rfl | hb
      · exact hoff p hp _ (.head _)
      · obtain ⟨q, hq, rfl⟩ := List.mem_map.mp hb
        exact hoff p hp q.1 (List.mem_map.mpr ⟨q, .tail _ (.tail _ (List.mem_append_right _ hq)), rfl⟩)
    have RB : PnOk ((lt, listOf [x, y].toArray m) :: (A2 ++ (rest ++ own))) pn ca := (RW.add oB).cons pb
    have hbl : bs.length ≤ 2 := by
      have := congrArg List.length hbs
      rw [List.length_map, List.length_take] at this
      omega
    have htl : tvs.length ≤ 10 := by
      have := bdToks_len bs
      rw [dt.length, List.length_map]; omega
    have hjl : j < 2 := by
      have := (List.getElem?_eq_some_iff.mp hv).1
      omega
    rcases fl.at j v hv with ⟨tv, hb, rfl⟩ | ⟨tv, hb, rfl⟩
    ·
      have hnot : false ∉ bs.map (·.1) := by
        rw [hbs]
        exact take_not nd hb
      walk_at "gs"
      refine s_twoI ?_ (by with_unfolding_all rfl) (by with_unfolding_all rfl)
      walk_at "gs"
      refine g_use (law_operand_c RB hp2 (by omega) fun a1 o v1 P3 f1 ok1 d1 hp3 => ?_) (by decide)
      obtain ⟨T2, mo, tr, n2, rfl, hT, dmo, dtr⟩ := pair_of d1
      refine ⟨T2, mo, tr, n2, _, rfl, .tail _ (List.mem_append_left _ hT), by walk_at "puts", ?_⟩
      walk_at "gs"
      refine p_set (Mid.app (fun p hp => (f1 (lt, _) (.tail _ (.head _)) p hp).symm) (.hd sB)) (Nat.ne_of_lt pb) (by decide) (show ((0 : Int)) < ((2 : Nat) : Int) by decide) (by decide) (us := [tr, y]) rfl ?_
      have o1 := offG oB f1 (fun q hq => .tail _ (List.mem_append_right _ hq))
      have RC : PnOk ((lt, listOf [tr, y].toArray m) :: (a1 ++ (A2 ++ (rest ++ own)))) pn ca := by
        rw [← List.append_assoc a1]
        exact (RW.add o1).cons pb
      walk_at "gs"
      rename_i T3 pT qT rT
      refine o_tupT (.tail _ (.head _)) (by decide) (by decide) rfl ?_ (by with_unfolding_all rfl)
      walk_at "gs"
      refine g_use (law_words_c (ws := [Str.ofString "BEFORE"]) (by decide) (sp_one "BEFORE" (by decide)) (by decide) (by decide) fun a3 v3 f3 d3 => ?_) (by decide)
      refine GE.sub (pen_app3 (a := a1) (A := A2) (R := rest ++ own)) ?_
      refine GE.fold (a3 ++ ((T3, _) :: (a1 ++ A2))) fun A3 hA3 => ?_
      have o3 : Off ((pn, P) :: (rest ++ own)) A3 := by
        rw [hA3]
        exact offG (offQ o1 pT qT fun q hq => .tail _ (List.mem_append_right _ (List.mem_append_right _ hq))) f3 fun q hq => .tail _ (.tail _ (List.mem_append_right _ (List.mem_append_right _ hq)))
      have s3 : ∀ p ∈ A3 ++ (rest ++ own), p.1 ≠ lt := by
        rw [hA3, List.append_assoc]
        refine List.forall_mem_append.mpr ⟨fun p hp => (f3 (lt, _) (.tail _ (.tail _ (.head _))) p hp).symm, ?_⟩
        refine List.forall_mem_cons.mpr ⟨Nat.ne_of_gt (qT _ (.head _)), ?_⟩
        show ∀ p ∈ (a1 ++ A2) ++ (rest ++ own), p.1 ≠ lt
        rw [List.append_assoc]
        exact List.forall_mem_append.mpr ⟨fun p hp => (f1 (lt, _) (.tail _ (.head _)) p hp).symm, sB⟩
      have up1 : ∀ p ∈ a1, p ∈ A3 := by rw [hA3]; walk_at "sub"
      have up2 : ∀ p ∈ A2, p ∈ A3 := by rw [hA3]; walk_at "sub"
      have up3 : ∀ p ∈ a3, p ∈ A3 := by rw [hA3]; walk_at "sub"
      obtain ⟨w3, ws3, n3, rfl, m3, e3⟩ := list_at d3
      obtain ⟨wm, wsm, nm, rfl, mm, em⟩ := list_at dmo
      have l3 : ws3.length ≤ 2 := by rw [e3.length]; exact Nat.le_of_ble_eq_true rfl
      have lm := op_len em
      have RD : PnOk ((lt, listOf [tr, y].toArray m) :: (A3 ++ (rest ++ own))) pn ca := (RW.add o3).cons pb
      clear hA3 RB RC rT f1 f3 qT
      refine p_add RD (.tail _ (List.mem_append_left _ (up2 _ mtl2))) (.tail _ (List.mem_append_left _ (up3 _ m3))) (by omega) fun D1 pd1 qd1 RE => ?_
      walk_at "gs"
      refine p_add RE (.head _) (.tail _ (.tail _ (List.mem_append_left _ (up1 _ mm)))) (by rw [List.length_append]; omega) fun D2 pd2 qd2 RF => ?_
      walk_at "gs"
      have o5 : Off ((pn, P) :: (rest ++ own)) ((D2, listOf (tvs ++ ws3 ++ wsm).toArray 0) :: (D1, listOf (tvs ++ ws3).toArray 0) :: A3) := offQ (offQ o3 pd1 qd1 fun q hq => .tail _ (List.mem_append_right _ hq)) pd2 qd2 fun q hq => .tail _ (.tail _ (List.mem_append_right _ hq))
      refine hK1 _ _ _ (t_end (nx := (pn, P3) :: (lt, listOf [tr, y].toArray m) :: (((D2, listOf (tvs ++ ws3 ++ wsm).toArray 0) :: (D1, listOf (tvs ++ ws3).toArray 0) :: A3) ++ rest)) (by simp only [List.cons_append, List.append_assoc]; walk_at "sub") (by simp only [List.cons_append, List.append_assoc]; walk_at "sub") (ownE o5 hoff rfl) (.tail _ (.tail _ (.tail _ (.tail _ (List.mem_append_left _ (up2 _ mla2)))))) ⟨bs ++ [(false, o)], _, _, m, _, P3, D2, _, 0, _, _, ?_, ?_, rfl, rfl, offR o5, ?_, ?_, .tail _ (.tail _ (up2 _ mla2)), .head _, ?_, ?_, ?_⟩)
      · rw [List.map_append, hbs, List.take_add_one, hb]; rfl
      · intro b hb2
        rcases List.mem_append.mp hb2 with h | h
        · exact hok b h
        · rw [List.mem_singleton.mp h]; exact ok1
      · refine List.forall_mem_cons.mpr ⟨Nat.ne_of_gt (qd2 _ (.tail _ (.head _))), List.forall_mem_cons.mpr ⟨Nat.ne_of_gt (qd1 _ (.head _)), fun p hp => s3 p ?_⟩⟩
        rw [← List.append_assoc]
        exact List.mem_append_left _ hp
      · rwa [show t + 1 + ((j + 1 : Nat) : Int) = t + 1 + (j : Int) + 1 by omega]
      · rw [bdToks_app, List.map_append, show (bdToks [(false, o)]).map tokD = [tokD (wd (Str.ofString "BEFORE"))] ++ o.toks.map tokD by simp [bdToks], ← List.append_assoc ((bdToks bs).map tokD)]
        exact DatAll.append (DatAll.append (dt.mono fun p hp => .tail _ (.tail _ (up2 p hp))) (e3.mono fun p hp => .tail _ (.tail _ (up3 p hp)))) (em.mono fun p hp => .tail _ (.tail _ (up1 p hp)))
      · rw [bdTold_snoc (bdTold_not hnot), if_pos rfl]; exact dtr.mono (fun p hp => .tail _ (.tail _ (up1 p hp)))
      · rw [bdTold_keep (by decide)]; exact dy.mono (fun p hp => .tail _ (.tail _ (up2 p hp)))
    ·
      have hnot : true ∉ bs.map (·.1) := by
        rw [hbs]
        exact take_not nd hb
      walk_at "gs"
      refine s_twoI ?_ (by with_unfolding_all rfl) (by with_unfolding_all rfl)
      walk_at "gs"
      refine g_use (law_operand_c RB hp2 (by omega) fun a1 o v1 P3 f1 ok1 d1 hp3 => ?_) (by decide)
      obtain ⟨T2, mo, tr, n2, rfl, hT, dmo, dtr⟩ := pair_of d1
      refine ⟨T2, mo, tr, n2, _, rfl, .tail _ (List.mem_append_left _ hT), by walk_at "puts", ?_⟩
      walk_at "gs"
      refine p_set (Mid.app (fun p hp => (f1 (lt, _) (.tail _ (.head _)) p hp).symm) (.hd sB)) (Nat.ne_of_lt pb) (by decide) (show ((1 : Int)) < ((2 : Nat) : Int) by decide) (by decide) (us := [x, tr]) rfl ?_
      have o1 := offG oB f1 (fun q hq => .tail _ (List.mem_append_right _ hq))
      have RC : PnOk ((lt, listOf [x, tr].toArray m) :: (a1 ++ (A2 ++ (rest ++ own)))) pn ca := by
        rw [← List.append_assoc a1]
        exact (RW.add o1).cons pb
      walk_at "gs"
      rename_i T3 pT qT rT
      refine o_tupT (.tail _ (.head _)) (by decide) (by decide) rfl ?_ (by with_unfolding_all rfl)
      walk_at "gs"
      refine g_use (law_words_c (ws := [Str.ofString "AFTER", Str.ofString "INITIAL"]) (by decide) (by decide +kernel) (by decide) (by decide) fun a3 v3 f3 d3 => ?_) (by decide)
      refine GE.sub (pen_app3 (a := a1) (A := A2) (R := rest ++ own)) ?_
      refine GE.fold (a3 ++ ((T3, _) :: (a1 ++ A2))) fun A3 hA3 => ?_
      have o3 : Off ((pn, P) :: (rest ++ own)) A3 := by
        rw [hA3]
        exact offG (offQ o1 pT qT fun q hq => .tail _ (List.mem_append_right _ (List.mem_append_right _ hq))) f3 fun q hq => .tail _ (.tail _ (List.mem_append_right _ (List.mem_append_right _ hq)))
      have s3 : ∀ p ∈ A3 ++ (rest ++ own), p.1 ≠ lt := by
        rw [hA3, List.append_assoc]
        refine List.forall_mem_append.mpr ⟨fun p hp => (f3 (lt, _) (.tail _ (.tail _ (.head _))) p hp).symm, ?_⟩
        refine List.forall_mem_cons.mpr ⟨Nat.ne_of_gt (qT _ (.head _)), ?_⟩
        show ∀ p ∈ (a1 ++ A2) ++ (rest ++ own), p.1 ≠ lt
        rw [List.append_assoc]
        exact List.forall_mem_append.mpr ⟨fun p hp => (f1 (lt, _) (.tail _ (.head _)) p hp).symm, sB⟩
      have up1 : ∀ p ∈ a1, p ∈ A3 := by rw [hA3]; walk_at "sub"
      have up2 : ∀ p ∈ A2, p ∈ A3 := by rw [hA3]; walk_at "sub"
      have up3 : ∀ p ∈ a3, p ∈ A3 := by rw [hA3]; walk_at "sub"
      obtain ⟨w3, ws3, n3, rfl, m3, e3⟩ := list_at d3
      obtain ⟨wm, wsm, nm, rfl, mm, em⟩ := list_at dmo
      have l3 : ws3.length ≤ 2 := by rw [e3.length]; exact Nat.le_of_ble_eq_true rfl
      have lm := op_len em
      have RD : PnOk ((lt, listOf [x, tr].toArray m) :: (A3 ++ (rest ++ own))) pn ca := (RW.add o3).cons pb
      clear hA3 RB RC rT f1 f3 qT
      refine p_add RD (.tail _ (List.mem_append_left _ (up2 _ mtl2))) (.tail _ (List.mem_append_left _ (up3 _ m3))) (by omega) fun D1 pd1 qd1 RE => ?_
      walk_at "gs"
      refine p_add RE (.head _) (.tail _ (.tail _ (List.mem_append_left _ (up1 _ mm)))) (by rw [List.length_append]; omega) fun D2 pd2 qd2 RF => ?_
      walk_at "gs"
      have o5 : Off ((pn, P) :: (rest ++ own)) ((D2, listOf (tvs ++ ws3 ++ wsm).toArray 0) :: (D1, listOf (tvs ++ ws3).toArray 0) :: A3) := offQ (offQ o3 pd1 qd1 fun q hq => .tail _ (List.mem_append_right _ hq)) pd2 qd2 fun q hq => .tail _ (.tail _ (List.mem_append_right _ hq))
      refine hK1 _ _ _ (t_end (nx := (pn, P3) :: (lt, listOf [x, tr].toArray m) :: (((D2, listOf (tvs ++ ws3 ++ wsm).toArray 0) :: (D1, listOf (tvs ++ ws3).toArray 0) :: A3) ++ rest)) (by simp only [List.cons_append, List.append_assoc]; walk_at "sub") (by simp only [List.cons_append, List.append_assoc]; walk_at "sub") (ownE o5 hoff rfl) (.tail _ (.tail _ (.tail _ (.tail _ (List.mem_append_left _ (up2 _ mla2)))))) ⟨bs ++ [(true, o)], _, _, m, _, P3, D2, _, 0, _, _, ?_, ?_, rfl, rfl, offR o5, ?_, ?_, .tail _ (.tail _ (up2 _ mla2)), .head _, ?_, ?_, ?_⟩)
      · rw [List.map_append, hbs, List.take_add_one, hb]; rfl
      · intro b hb2
        rcases List.mem_append.mp hb2 with h | h
        · exact hok b h
        · rw [List.mem_singleton.mp h]; exact ok1
      · refine List.forall_mem_cons.mpr ⟨Nat.ne_of_gt (qd2 _ (.tail _ (.head _))), List.forall_mem_cons.mpr ⟨Nat.ne_of_gt (qd1 _ (.head _)), fun p hp => s3 p ?_⟩⟩
        rw [← List.append_assoc]
        exact List.mem_append_left _ hp
      · rwa [show t + 1 + ((j + 1 : Nat) : Int) = t + 1 + (j : Int) + 1 by omega]
      · rw [bdToks_app, List.map_append, show (bdToks [(true, o)]).map tokD = [tokD (wd (Str.ofString "AFTER")), tokD (wd (Str.ofString "INITIAL"))] ++ o.toks.map tokD by simp [bdToks], ← List.append_assoc ((bdToks bs).map tokD)]
        exact DatAll.append (DatAll.append (dt.mono fun p hp => .tail _ (.tail _ (up2 p hp))) (e3.mono fun p hp => .tail _ (.tail _ (up3 p hp)))) (em.mono fun p hp => .tail _ (.tail _ (up1 p hp)))
      · rw [bdTold_keep (by decide)]; exact dx.mono (fun p hp => .tail _ (.tail _ (up2 p hp)))
      · rw [bdTold_snoc (bdTold_not hnot), if_pos rfl]; exact dtr.mono (fun p hp => .tail _ (.tail _ (up1 p hp)))
  · rintro vs1 nx ⟨bs, x, y, m, A2, P2, tl, tvs, tn, o4, o5, hbs, hok, rfl, rfl, oA2, sA2, hp2, mla2, mtl2, dt, dx, dy⟩
    have RZ : PnOk ((lt, listOf [x, y].toArray m) :: (A2 ++ rest)) pn ca := (R.add oA2).cons pb
    walk_at "gs"
    rename_i T9 p9 q9 r9
    have oL : ∀ q ∈ (pn, P) :: rest, q.1 ≠ lt := List.forall_mem_cons.mpr ⟨Nat.ne_of_lt pb, fun q hq => sA2 q (List.mem_append_right _ hq)⟩
    exact k ((T9, _) :: (lt, _) :: A2) bs _ P2 (offQ (Off.cons oL oA2) p9 q9 fun q hq => .tail _ (List.mem_append_right _ hq)) ⟨⟨fun b hb => (hok b hb).ok, by rw [hbs]; exact (List.take_sublist _ _).nodup nd⟩, fun b hb => (hok b hb).short⟩
      (.tuple (.head _) (.cons (.list (.tail _ (.tail _ mtl2)) (dt.mono fun _ h => .tail _ (.tail _ h))) (.cons (.list (.tail _ (.head _)) (.cons (dx.mono fun _ h => .tail _ (.tail _ h)) (.cons (dy.mono fun _ h => .tail _ (.tail _ h)) .nil))) .nil))) (hp2.mono (by omega))
end
end Mine
namespace Mine
open Ob
open PySem.Spec in
theorem kdr_iter {prog : Program} {w : World} {A : Around} {E : Value → Shared → Prop} {s : Shared} {env : Env} {h₀ : Heap} {x : Str} {body : List Stmt} {Q : Flow → Shared → Prop} {r : Addr} {a₀ b₀ : Int} {t₀ u₀ v₀ : Tok} {n : Nat} {m₀ : Str → Option Value} {news : Led} (J : Nat → (Str → Option Value) → Led → Prop)
    (hh : A.handled = none) (hr : IsRange s.heap r a₀ b₀ 1 t₀ u₀ v₀) (hsmall : Builtin.Range.small a₀ b₀ 1 = true) (hsz : Builtin.Range.rangeSize a₀ b₀ 1 = (n : Int)) (F : Fr h₀ env.locals s.heap m₀) (N : News h₀ env.locals s.heap news) (hj : J 0 m₀ news)
    (turn : ∀ i m₁ nx h tk own tv, i < n → OwnOff own (nx.map (·.1)) → J i m₁ nx → Fr h₀ env.locals h (fun y => if y = x then some (.int (a₀ + (i : Int)) tv) else m₁ y) → News h₀ env.locals h (nx ++ own) →
      wpAny (model prog w) A (execs body env) (InvPostG h₀ env.locals (J (i + 1)) own { s with heap := h, toks := tk } Q) E { s with heap := h, toks := tk })
    (done : ∀ m₁ nx h tk, J n m₁ nx → Fr h₀ env.locals h m₁ → News h₀ env.locals h nx → Q .next { s with heap := h, toks := tk }) :
    wpAny (model prog w) A (pyIter (.ref r)) (fun it s₂ => LoopAtV prog w A h₀ env x body Q E it s₂) E s := by
  refine wpAny_pyIter_range hr hsmall ?_
  have W : Walks prog w A s.heap.objs.size [s.heap.objs.size] [s.heap.objs.size] n (fun i v => i < n ∧ ∃ t, v = .int (a₀ + i * 1) t)
      (fun i h => IsRangeIter h s.heap.objs.size (a₀ + (i : Nat) * 1) ((n : Int) - (i : Nat)) 1) := (Walks.range hh _ a₀ 1 n).bound
  refine kdr_loop J W (fun _ h => h) (fun _ h => h) ?_ ?_ ?_ ?_ (by show IsRangeIter _ _ _ _ _; rw [hsz]; simpa using Heap.get?_push_size _ rfl) (F.push _) (fun p hp => ⟨Heap.get?_push_of_some _ (N p hp).1, (N p hp).2⟩) hj ?_ ?_
  · intro i h hi b hb
    rw [List.mem_singleton.mp hb]
    exact ⟨_, hi⟩
  · intro hm
    exact absurd F.ns.lt ((List.mem_singleton.mp hm) ▸ Nat.lt_irrefl _)
  · intro b hb
    rw [List.mem_singleton.mp hb]
    exact next_is_new F
  · intro p hp hI
    exact absurd (Heap.lt_size (N p hp).1) ((List.mem_singleton.mp hI) ▸ Nat.lt_irrefl _)
  · rintro i v m₁ nx h tk own hi ⟨_, tv, rfl⟩ hoff hJ F₁ N₁
    have e1 : a₀ + (i : Int) * 1 = a₀ + (i : Int) := by omega
    rw [e1] at F₁
    exact turn i m₁ nx h tk own tv hi hoff hJ F₁ N₁
  · rintro m₁ nx h tk hJ F₁ N₁
    exact done m₁ nx h tk hJ F₁ N₁
theorem pick3 {a b c v : Value} {k : Nat} (h : [a, b, c][k]? = some v) : v = a ∨ v = b ∨ v = c := by
  have := List.mem_of_getElem? h
  simpa using this
/-- a sort told with so many pieces -/
noncomputable def SomeOf (w : World) (bl : Bool) (j : Nat) (s : Srt) : Prop := ∃ ps : List Part, s = .some bl ps ∧ ps.length = j ∧ ∀ q ∈ ps, PartOk w q ∧ q.1.Short ∧ ∀ x ∈ q.2, x.2.Short
noncomputable def CharsOf (w : World) (j : Nat) (s : Srt) : Prop := (j = 0 ∧ s = .some false []) ∨ (j = 1 ∧ ∃ bs, s = .chars bs ∧ BdFit w bs)
theorem pen_app4 {a b R : Led} {pn : Addr} {P : Obj} {e : Addr × Obj} : ∀ p ∈ (pn, P) :: e :: ((b ++ a) ++ R), p ∈ (pn, P) :: (b ++ e :: (a ++ R)) := fun p hp => by
  simp only [List.mem_cons, List.mem_append] at hp ⊢
  rcases hp with h | h | (h | h) | h <;> simp [h]
noncomputable abbrev rangeObj (n : Int) (t t1 t2 : Tok) : Obj := { cls := .type "range", dict := none, data := .fields #[.int 0 t1, .int n t, .int 1 t2], slots := #[] }
section
variable {W : Wd} {f : Fn} {n : Nat} {c : Cx W f n} {vs : List (Option Value)} {led : Led} {K : Value → Led → Prop} {Ks : KS}
theorem y_range {m : Int} {t : Tok} (h : ∀ r t1 t2, (∀ p ∈ led, p.1 < r) → K (.ref r) ((r, rangeObj m t t1 t2) :: led)) : GE c vs led (call (.type "range") [.int m t]) K := fun _ s A =>
  call_range_1 ⟨_, A.to (A.F.push _) (fun p hp => by
    rcases List.mem_cons.mp hp with rfl | hp
    · exact ⟨Heap.get?_push_size _ rfl, Nat.ne_of_gt A.F.ns.lt, next_is_new A.F⟩
    · exact ⟨Heap.get?_push_of_some _ (A.N p hp).1, (A.N p hp).2⟩), h _ _ _ fun p hp => Heap.lt_size (A.N p hp).1⟩
/-- what a turn over a range must end in -/
noncomputable abbrev turnR (Ks : KS) (J : List (Option Value) → Led → Prop) (own : Led) : KS := fun fl vs l => match fl with
  | .ret v => Ks (.ret v) vs l
  | .brk => Ks .next vs l
  | _ => ∃ nx, (∀ p ∈ nx, p ∈ l) ∧ (∀ p ∈ own, p ∈ l) ∧ OwnOff own (nx.map (·.1)) ∧ J vs nx
theorem r_end {J : List (Option Value) → Led → Prop} {own nx : Led} (a : ∀ p ∈ nx, p ∈ led) (b : ∀ p ∈ own, p ∈ led) (d : OwnOff own (nx.map (·.1))) (g : J vs nx) : turnR Ks J own .next vs led := ⟨nx, a, b, d, g⟩
theorem l_range {x : Str} {body : List Stmt} {r : Addr} {m : Int} {t t1 t2 : Tok} {kk : Nat} {led0 : Led} (J : Nat → List (Option Value) → Led → Prop) (hr : (r, rangeObj m t t1 t2) ∈ led) (hsm : Builtin.Range.small 0 m 1 = true) (hsz : Builtin.Range.rangeSize 0 m 1 = (kk : Int)) (hs : ∀ p ∈ led0, p ∈ led) (hj : J 0 vs led0)
    (turn : ∀ j vs1 nx own tv, j < kk → OwnOff own (nx.map (·.1)) → J j vs1 nx → ∃ vs2, Put f.ns vs1 x (.int (0 + (j : Int)) tv) vs2 ∧ GS c vs2 (nx ++ own) (execs body c.env) (turnR Ks (J (j + 1)) own))
    (done : ∀ vs1 nx, J kk vs1 nx → Ks .next vs1 nx) : GL c vs led (.ref r) x body Ks := fun s₀ s1 A1 => by
  refine kdr_iter (fun j m nx => ∃ vs1, m = look f.ns vs1 ∧ J j vs1 nx) rfl (A1.N _ hr).1 hsm hsz A1.F (A1.sub hs).N ⟨_, rfl, hj⟩ ?_ ?_
  · rintro j m₁ nx h' tk own tv hjk hoff ⟨vs1, rfl, hj1⟩ F1 N1
    obtain ⟨vs2, hp, hb⟩ := turn j vs1 nx own tv hjk hoff hj1
    have e : (fun y => if y = x then some (.int (0 + (j : Int)) tv) else look f.ns vs1 y) = look f.ns vs2 := funext fun y => (hp.look c.ok.nodup y).symm
    rw [e] at F1
    refine hb.th (s₀ := s₀) ⟨F1, N1, A1.g, A1.d, A1.o⟩ fun fl vs3 l3 s3 A3 h3 => ?_
    have fin : (∃ nx', (∀ p ∈ nx', p ∈ l3) ∧ (∀ p ∈ own, p ∈ l3) ∧ OwnOff own (nx'.map (·.1)) ∧ J (j + 1) vs3 nx') → InvEndG c.h₀ c.env.locals (fun m' nx => ∃ vs1, m' = look f.ns vs1 ∧ J (j + 1) vs1 nx) own { s1 with heap := h', toks := tk } s3 := by
      rintro ⟨nx', a, b, d, g⟩
      refine ⟨s3.heap, s3.toks, _, l3, nx', ?_, A3.F, A3.N, a, b, d, _, rfl, g⟩
      obtain ⟨_, _, _, _, _⟩ := s3
      have := A3.g.trans A1.g.symm; have := A3.d.trans A1.d.symm; have := A3.o.trans A1.o.symm
      simp_all
    cases fl with
    | ret v => exact ⟨_, _, A3, h3⟩
    | brk => exact ⟨_, _, A3, h3⟩
    | next => exact fin h3
    | cont => exact fin h3
  · rintro m₁ nx h' tk ⟨vs1, rfl, hj1⟩ F1 N1
    exact ⟨_, _, ⟨F1, N1, A1.g, A1.d, A1.o⟩, done _ _ hj1⟩
end
end Mine
local macro_rules | `(tactic| walk_at "ifx") => `(tactic| repeat ((fail_if_success (with_reducible refine' g_ifx ?_)); walk_at "g"))
namespace Mine
open Ob
/-- the sort s is of the word kw, told with j pieces -/
noncomputable def SrtIs (w : World) (kw : Str) (j : Nat) (s : Srt) : Prop := (kw = Str.ofString "CHARACTERS" ∧ CharsOf w j s) ∨ ∃ bl, kw = (if bl then Str.ofString "LEADING" else Str.ofString "ALL") ∧ SomeOf w bl j s
/-- what stands ahead of a piece's bounds -/
noncomputable def Ahead (w : World) (kw : Str) (toks : List (Str × Str)) (d : Dat) : Prop := (kw = Str.ofString "CHARACTERS" ∧ toks = [] ∧ d = .none) ∨ (kw ≠ Str.ofString "CHARACTERS" ∧ ∃ o, OpFit w o ∧ toks = o.toks ∧ d = o.dat)
theorem SrtIs.len {w : World} {kw : Str} {j : Nat} {s : Srt} (h : SrtIs w kw j s) : s.pcs.length = if j = 0 then 0 else s.pcs.length := by
  split
  · subst j
    rcases h with ⟨_, ⟨_, rfl⟩ | ⟨h, _⟩⟩ | ⟨bl, _, ps, rfl, h, _⟩
    · rfl
    · cases h
    · simp [Srt.pcs, h]
  · rfl
theorem SrtIs.short {w : World} {kw : Str} {j : Nat} {s : Srt} (h : SrtIs w kw j s) : s.pcs.length ≤ j := by
  rcases h with ⟨_, ⟨rfl, rfl⟩ | ⟨rfl, bs, rfl, _⟩⟩ | ⟨bl, _, ps, rfl, h, _⟩
  · exact Nat.le_refl _
  · exact Nat.le_refl _
  · simp [Srt.pcs, h]
/-- one piece more -/
theorem SrtIs.more {w : World} {kw : Str} {j : Nat} {s : Srt} {toks : List (Str × Str)} {d cd : Dat} {bs : List (Bool × Op)} (h : SrtIs w kw j s) (a : Ahead w kw toks d) (hb : BdFit w bs) (hj : kw = Str.ofString "CHARACTERS" → j = 0) :
    ∃ s', SrtIs w kw (j + 1) s' ∧ s'.pcs.map (pieceD cd) = s.pcs.map (pieceD cd) ++ [.tuple [.list (toks.map tokD ++ (bdToks bs).map tokD), .tuple [cd, .str kw, d, bdTold false bs, bdTold true bs]]] := by
  rcases h with ⟨rfl, h⟩ | ⟨bl, hkw, ps, rfl, hps, hok⟩
  · rcases h with ⟨rfl, rfl⟩ | ⟨e, _⟩
    · rcases a with ⟨_, rfl, rfl⟩ | ⟨a, _⟩
      · exact ⟨.chars bs, .inl ⟨rfl, .inr ⟨rfl, bs, rfl, hb⟩⟩, by simp [Srt.pcs, pieceD, Srt.row1, Srt.rows]⟩
      · exact absurd rfl a
    · rw [hj rfl] at e; cases e
  · rcases a with ⟨a, _⟩ | ⟨_, o, ho, rfl, rfl⟩
    · rw [a] at hkw
      cases bl <;> exact absurd hkw (by decide)
    · refine ⟨.some bl (ps ++ [(o, bs)]), .inr ⟨bl, hkw, ps ++ [(o, bs)], rfl, by simp [hps], fun q hq => ?_⟩, ?_⟩
      · rcases List.mem_append.mp hq with hq | hq
        · exact hok q hq
        · rw [List.mem_singleton.mp hq]
          exact ⟨⟨ho.ok, hb.ok⟩, ho.short, hb.short⟩
      · rw [hkw]
        cases bl <;> simp [Srt.pcs, pieceD, Srt.row1, Srt.rows, rowD]
theorem SrtIs.done {w : World} {kw : Str} {j : Nat} {s : Srt} (h : SrtIs w kw j s) (h1 : 1 ≤ j) : s.Ok w ∧ s.Short ∧ Str.ofString s.kw = kw := by
  rcases h with ⟨rfl, ⟨rfl, _⟩ | ⟨_, bs, rfl, hb⟩⟩ | ⟨bl, rfl, ps, rfl, hps, hok⟩
  · cases h1
  · exact ⟨hb.ok, hb.short, rfl⟩
  · refine ⟨⟨fun e => ?_, fun q hq => (hok q hq).1⟩, fun q hq => (hok q hq).2, ?_⟩
    · rw [e] at hps; simp at hps; omega
    · cases bl <;> rfl
theorem rng2 {b : Int} (hb : b = 1 ∨ b = 2) : ∃ n : Nat, Builtin.Range.small 0 b 1 = true ∧ Builtin.Range.rangeSize 0 b 1 = (n : Int) ∧ b = n ∧ 1 ≤ n ∧ n ≤ 2 := by
  rcases hb with rfl | rfl
  · exact ⟨1, by decide, by decide, rfl, by decide, by decide⟩
  · exact ⟨2, by decide, by decide, rfl, by decide, by decide⟩
theorem GS.fold {α : Type} {W : Wd} {f : Fn} {n : Nat} {c : Cx W f n} {vs : List (Option Value)} {t : Sem α} {K : α → List (Option Value) → Led → Prop} {pn : Addr} {po : Obj} {e : Addr × Obj} {rest : Led} (a : Led) (h : ∀ A, A = a → GS c vs ((pn, po) :: e :: (A ++ rest)) t K) : GS c vs ((pn, po) :: e :: (a ++ rest)) t K := h a rfl
section
variable {W : Wd} {K : Value → Led → Prop} {rest : Led} {pn ca : Addr}
inductive PJ (W : Wd) (pn ca a0 lp : Addr) (P : Obj) (rest cb : Led) (t : Int) (cd : Dat) (kw : Str) (tw : Tok) (j : Nat) (vs : List (Option Value)) (nx : Led) : Prop
  | mk (s : Srt) (pvs : List Value) (m : Nat) (A : Led) (P' : Obj) (o5 o6 o7 o8 o9 : Option Value) (h0 : SrtIs W.w kw j s) (h1 : vs = [some (.ref pn), some (.ref a0), some (.str kw tw), some (.ref lp), o5, o6, o7, o8, o9]) (h2 : nx = (pn, P') :: (lp, listOf pvs.toArray m) :: (A ++ rest)) (h3 : Off ((pn, P) :: rest) A) (h4 : (∀ p ∈ A ++ rest, p.1 ≠ lp)) (h5 : PenNow ca (t + 2 + 4 * (j : Int)) P') (h6 : DatAll (A ++ cb) pvs (s.pcs.map (pieceD cd))) : PJ W pn ca a0 lp P rest cb t cd kw tw j vs nx
set_option maxHeartbeats 4000000 in
theorem law_sort_c {P : Obj} {t : Int} {a0 : Addr} {c1 c2 : Value} {n0 : Nat} {cb : Led} {cd : Dat} (R : PnOk rest pn ca) (hP : PenNow ca t P) (ht : t ≤ 800) (m0 : (a0, ({ cls := .type "tuple", data := .seq [c1, c2].toArray n0 } : Obj)) ∈ cb) (dcd : DatIn cb c2 cd) (hcb : ∀ q ∈ cb, q ∈ rest)
    (k : ∀ add s v P', Off ((pn, P) :: rest) add → s.Ok W.w → s.Short → (s.rows cd).length ≤ 2 → DatIn (add ++ cb) v (srtD cd s) → PenNow ca (t + 12) P' → K v ((pn, P') :: (add ++ rest))) : Calls W 5 586 [.ref pn, .ref a0] ((pn, P) :: rest) K := ent586 fun c => by
  have R0 := R
  walk_at "gs"
  rename_i ta tb tc lw pa qa ra
  refine g_use (pick_c ra hP (.head _) (show 0 < 3 by decide) (show 3 ≤ 100 by decide) (by omega) fun d v P1 hv hp => ?_) (by decide)
  obtain ⟨kw, tw, rfl, hkw⟩ : ∃ kw tw, v = .str kw tw ∧ (kw = Str.ofString "CHARACTERS" ∨ ∃ bl : Bool, kw = (if bl then Str.ofString "LEADING" else Str.ofString "ALL")) := by
    rcases pick3 hv with rfl | rfl | rfl
    · exact ⟨_, _, rfl, .inl rfl⟩
    · exact ⟨_, _, rfl, .inr ⟨false, rfl⟩⟩
    · exact ⟨_, _, rfl, .inr ⟨true, rfl⟩⟩
  walk_at "ifx"
  rename_i lp pl ql rl T pT qT rT
  have M := Mid.age (o := tupO [Value.str kw tw, .ref lp]) qT (Mid.hd (e := (lp, listOf ([] : List Value).toArray 0)) fun p hp => Nat.ne_of_lt (ql p hp))
  refine GE.sub (cons_sub M.sub) ?_
  refine GE.fold [(T, _), (lw, _)] fun A hA => ?_
  have oA : Off ((pn, P) :: rest) A := by
    rw [hA]
    exact offQ (offQ Off.nil pa qa fun p h => by simp [h]) pT qT fun p h => by simp [h]
  have sA : ∀ p ∈ A ++ rest, p.1 ≠ lp := by rw [hA]; exact M.sep
  have RA : PnOk ((lp, listOf ([] : List Value).toArray 0) :: (A ++ rest)) pn ca := (R.add oA).cons pl
  clear hA M qa ql qT ra rl rT pa pT
  refine GE.mono (K := fun v l => ∃ n t' P2, v = .int n t' ∧ l = (pn, P2) :: (lp, listOf ([] : List Value).toArray 0) :: (A ++ rest) ∧ PenNow ca (t + 2) P2 ∧ (n = 1 ∨ n = 2) ∧ (kw = Str.ofString "CHARACTERS" → n = 1)) ?_ ?_
  · walk_at "gs"
    rcases hkw with rfl | ⟨bl, hb⟩
    · refine sel_eqt (by decide) ?_
      walk_at "gs"
      exact ⟨_, _, _, rfl, rfl, hp.mono (by omega), .inl rfl, fun _ => rfl⟩
    · refine sel_eqf (by rw [hb]; cases bl <;> decide) ?_
      walk_at "gs"
      refine g_use (draw_c RA hp (by decide) (by decide) (by omega) fun d dt P2 hp2 d0 d1 => ?_) (by decide)
      walk_at "gs"
      exact ⟨_, _, _, rfl, rfl, hp2.mono (by omega), by omega, fun e => absurd (hb.symm.trans e) (by cases bl <;> decide)⟩
  rintro v l ⟨n, t', P2, rfl, rfl, hp2, hn, hn1⟩
  obtain ⟨kk, hsm, hsz, hnk, hk1, hk2⟩ := rng2 hn
  walk_at "gs"
  refine y_range fun r t1 t2 lr => ?_
  obtain ⟨s0, hs0, es0⟩ : ∃ s0, SrtIs W.w kw 0 s0 ∧ s0.pcs.map (pieceD cd) = [] := by
    rcases hkw with rfl | ⟨bl, hb⟩
    · exact ⟨.some false [], .inl ⟨rfl, .inl ⟨rfl, rfl⟩⟩, rfl⟩
    · exact ⟨.some bl [], .inr ⟨bl, hb, [], rfl, rfl, fun _ h => nomatch h⟩, rfl⟩
  refine l_range (PJ W pn ca a0 lp P rest cb t cd kw tw) (.head _) hsm hsz (fun p hp => .tail _ hp) ⟨s0, [], 0, A, P2, none, none, none, none, none, hs0, rfl, rfl, oA, sA, by simpa using hp2, by rw [es0]; exact .nil⟩ ?_ ?_
  · rintro j vs1 nx own tv hjk hoff ⟨s, pvs, m, A2, P3, o5, o6, o7, o8, o9, hS, rfl, rfl, oA2, sA2, hp3, dA⟩
    refine ⟨_, by walk_at "puts", ?_⟩
    refine GS.sub (led' := (pn, P3) :: (lp, listOf pvs.toArray m) :: (A2 ++ (rest ++ own))) (by simp only [List.cons_append, List.append_assoc]; walk_at "sub") ?_
    refine GS.hide fun K1 hK1 => ?_
    have oB := ownB oA2 hoff
    have sB : ∀ p ∈ A2 ++ (rest ++ own), p.1 ≠ lp := by
      rw [← List.append_assoc]
      exact List.forall_mem_append.mpr ⟨sA2, fun p hp => hoff p hp lp (.tail _ (.head _))⟩
    have RW : PnOk (rest ++ own) pn ca := R.wide (P := P) fun p hp b hb => by
      rcases List.mem_cons.mp hb with rfl | hb
      · exact hoff p hp _ (.head _)
      · obtain ⟨q, hq, rfl⟩ := List.mem_map.mp hb
        exact hoff p hp q.1 (List.mem_map.mpr ⟨q, .tail _ (.tail _ (List.mem_append_right _ hq)), rfl⟩)
    have RB : PnOk ((lp, listOf pvs.toArray m) :: (A2 ++ (rest ++ own))) pn ca := (RW.add oB).cons pl
    have hpv : pvs.length ≤ 2 := by
      rw [dA.length, List.length_map]
      have := hS.short
      omega
    refine s_seq (fun vs' l => ∃ more mm ms tree toks d P4 A3 o8 o9, vs' = [some (.ref pn), some (.ref a0), some (.str kw tw), some (.ref lp), some (.int (0 + (j : Int)) tv), some (.ref more), some tree, o8, o9] ∧
      (∀ p ∈ (pn, P4) :: (lp, listOf pvs.toArray m) :: (A3 ++ (rest ++ own)), p ∈ l) ∧ Off ((pn, P) :: (rest ++ own)) A3 ∧ (∀ p ∈ A3 ++ (rest ++ own), p.1 ≠ lp) ∧ (∀ p ∈ A2, p ∈ A3) ∧ (more, listOf (ms : List Value).toArray mm) ∈ A3 ∧ DatAll A3 ms (toks.map tokD) ∧ DatIn A3 tree d ∧
      PenNow ca (t + 2 + 4 * (j : Int) + 1) P4 ∧ Ahead W.w kw toks d ∧ ms.length ≤ 3) ?_ ?_
    · walk_at "gs"
      rcases hkw with rfl | ⟨bl, hb⟩
      · refine sel_eqf (by decide) ?_
        walk_at "gs"
        rename_i D1 p1 q1 r1 T2 p2 q2 r2
        have M := Mid.age (o := tupO [Value.ref D1, .none]) q2 (Mid.age q1 (Mid.hd sB))
        exact ⟨rfl, D1, 0, [], .none, [], .none, P3, (T2, _) :: (D1, _) :: A2, _, _, rfl, cons_sub M.sub, offQ (offQ oB p1 q1 fun q hq => .tail _ (List.mem_append_right _ hq)) p2 q2 fun q hq => .tail _ (.tail _ (List.mem_append_right _ hq)), M.sep, fun p hp => .tail _ (.tail _ hp), .tail _ (.head _), .nil, .none, hp3.mono (by omega), .inl ⟨rfl, rfl, rfl⟩, Nat.zero_le _⟩
      · refine sel_eqt (by rw [hb]; cases bl <;> decide) ?_
        walk_at "gs"
        refine g_use (law_operand_c RB hp3 (by omega) fun a1 o v1 P4 f1 ok1 d1 hp4 => ?_) (by decide)
        obtain ⟨T2, mo, tr, n2, rfl, hT, dmo, dtr⟩ := pair_of d1
        obtain ⟨wm, wsm, nm, rfl, mm, em⟩ := list_at dmo
        refine two_k (.tail _ (List.mem_append_left _ hT)) (by walk_at "puts") (by walk_at "puts") ?_
        refine ⟨rfl, wm, nm, wsm, tr, o.toks, o.dat, P4, a1 ++ A2, _, _, rfl, pen_app4, offG oB f1 (fun q hq => .tail _ (List.mem_append_right _ hq)), ?_, fun p hp => List.mem_append_right _ hp, List.mem_append_left _ mm, em.mono fun p hp => List.mem_append_left _ hp, dtr.mono fun p hp => List.mem_append_left _ hp, hp4, .inr ⟨?_, o, ok1, rfl, rfl⟩, op_len em⟩
        · rw [List.append_assoc]
          exact List.forall_mem_append.mpr ⟨fun p hp => (f1 (lp, _) (.tail _ (.head _)) p hp).symm, sB⟩
        · rw [hb]; cases bl <;> decide
    · rintro vs' l ⟨more, mm, ms, tree, toks, d, P4, A3, o8, o9, rfl, hsub, oA3, sA3, up, mmo, dmo, dtr, hp4, hah, hms⟩
      refine GS.sub hsub ?_
      have RC : PnOk ((lp, listOf pvs.toArray m) :: (A3 ++ (rest ++ own))) pn ca := (RW.add oA3).cons pl
      clear hsub RB oB sB
      walk_at "gs"
      refine g_use (law_bounds_c RC hp4 (by omega) fun a4 bs v4 P5 f4 okb d4 hp5 => ?_) (by decide)
      obtain ⟨T4, tk, td, n4, rfl, hT4, dtk, dtd⟩ := pair_of d4
      obtain ⟨wk, wsk, nk, rfl, mk, ek⟩ := list_at dtk
      obtain ⟨wt, x7, y7, nt, rfl, mt, dx7, dy7⟩ := twoL_at dtd
      have lk := bd_len okb.ok ek
      refine two_k (.tail _ (List.mem_append_left _ hT4)) (by walk_at "puts") (by walk_at "puts") ?_
      refine GS.sub (pen_app4 (a := A3) (R := rest ++ own)) ?_
      refine GS.fold (a4 ++ A3) fun A4 hA4 => ?_
      have o4 : Off ((pn, P) :: (rest ++ own)) A4 := by rw [hA4]; exact offG oA3 f4 fun q hq => .tail _ (List.mem_append_right _ hq)
      have s4 : ∀ p ∈ A4 ++ (rest ++ own), p.1 ≠ lp := by
        rw [hA4, List.append_assoc]
        exact List.forall_mem_append.mpr ⟨fun p hp => (f4 (lp, _) (.tail _ (.head _)) p hp).symm, sA3⟩
      have u4 : ∀ p ∈ a4, p ∈ A4 := by rw [hA4]; exact fun p h => List.mem_append_left _ h
      have u3 : ∀ p ∈ A3, p ∈ A4 := by rw [hA4]; exact fun p h => List.mem_append_right _ h
      have RD : PnOk ((lp, listOf pvs.toArray m) :: (A4 ++ (rest ++ own))) pn ca := (RW.add o4).cons pl
      clear hA4 RC f4
      walk_at "gs"
      refine m_append (.tail _ (.head _)) ?_
      walk_at "gs"
      refine p_add RD (.tail _ (List.mem_append_left _ (u3 _ mmo))) (.tail _ (List.mem_append_left _ (u4 _ mk))) (by omega) fun D1 p1 q1 R1 => ?_
      walk_at "gs"
      refine o_tup (.tail _ (.tail _ (.tail _ (List.mem_append_right _ (List.mem_append_left _ (hcb _ m0)))))) (by decide) (by decide) rfl ?_ (by with_unfolding_all rfl) (by intro _; with_unfolding_all rfl)
      walk_at "gs"
      refine o_item (.tail _ (.tail _ (.tail _ (List.mem_append_left _ (u4 _ mt))))) (by decide) (by decide) rfl ?_ (by with_unfolding_all rfl)
      walk_at "gs"
      refine o_item (.tail _ (.tail _ (.tail _ (List.mem_append_left _ (u4 _ mt))))) (by decide) (by decide) rfl ?_ (by with_unfolding_all rfl)
      walk_at "gs"
      rename_i D2 p2 q2 R2 D3 p3 q3 R3
      have M := Mid.age (o := tupO [Value.ref D1, .ref D2]) q3 (Mid.age q2 (Mid.age q1 (Mid.hd s4)))
      refine p_append M (Nat.ne_of_lt pl) (by omega) ?_
      walk_at "gs"
      have o5 : Off ((pn, P) :: (rest ++ own)) ((D3, tupO [Value.ref D1, .ref D2]) :: (D2, tupO [c2, .str kw tw, tree, x7, y7]) :: (D1, listOf (ms ++ wsk).toArray 0) :: A4) := offQ (offQ (offQ o4 p1 q1 fun q hq => .tail _ (List.mem_append_right _ hq)) p2 q2 fun q hq => .tail _ (.tail _ (List.mem_append_right _ hq))) p3 q3 fun q hq => .tail _ (.tail _ (.tail _ (List.mem_append_right _ hq)))
      obtain ⟨s', hS', es'⟩ := hS.more (cd := cd) hah okb fun e => by
        have := hn1 e
        omega
      have w4 : ∀ p ∈ A4, p ∈ ((D3, tupO [Value.ref D1, .ref D2]) :: (D2, tupO [c2, .str kw tw, tree, x7, y7]) :: (D1, listOf (ms ++ wsk).toArray 0) :: A4) ++ cb := fun p h => .tail _ (.tail _ (.tail _ (List.mem_append_left _ h)))
      have w0 : ∀ p ∈ cb, p ∈ ((D3, tupO [Value.ref D1, .ref D2]) :: (D2, tupO [c2, .str kw tw, tree, x7, y7]) :: (D1, listOf (ms ++ wsk).toArray 0) :: A4) ++ cb := fun p h => .tail _ (.tail _ (.tail _ (List.mem_append_right _ h)))
      refine hK1 _ _ _ (r_end (nx := (pn, P5) :: (lp, listOf (pvs ++ [Value.ref D3]).toArray (m + 1)) :: (((D3, tupO [Value.ref D1, .ref D2]) :: (D2, tupO [c2, .str kw tw, tree, x7, y7]) :: (D1, listOf (ms ++ wsk).toArray 0) :: A4) ++ rest)) (by simp only [List.cons_append, List.append_assoc]; walk_at "sub") (by walk_at "sub") (ownE o5 hoff rfl) ⟨s', _, _, _, P5, _, _, _, _, _, hS', rfl, rfl, offR o5, ?_, ?_, ?_⟩)
      · intro p hp
        refine M.sep p ?_
        exact (by simp only [List.cons_append, List.append_assoc]; walk_at "sub" : ∀ p ∈ _, p ∈ _) p hp
      · exact hp5.mono (by omega)
      · rw [es']
        refine DatAll.append (dA.mono fun p hp => (List.mem_append.mp hp).elim (fun h => w4 p (u3 p (up p h))) (w0 p)) (DatAll.one (.tuple (.head _) (.cons (.list (.tail _ (.tail _ (.head _))) (DatAll.append (dmo.mono fun p h => w4 p (u3 p h)) (ek.mono fun p h => w4 p (u4 p h)))) (.cons (.tuple (.tail _ (.head _)) (.cons (dcd.mono w0) (.cons (.str _ _) (.cons (dtr.mono fun p h => w4 p (u3 p h)) (.cons (dx7.mono fun p h => w4 p (u4 p h)) (.cons (dy7.mono fun p h => w4 p (u4 p h)) .nil)))))) .nil))))
  · rintro vs1 nx ⟨s, pvs, m, A2, P3, o5, o6, o7, o8, o9, hS, rfl, rfl, oA2, sA2, hp3, dA⟩
    have RZ : PnOk ((lp, listOf pvs.toArray m) :: (A2 ++ rest)) pn ca := (R.add oA2).cons pl
    walk_at "gs"
    rename_i T9 p9 q9 r9
    have oL : ∀ q ∈ (pn, P) :: rest, q.1 ≠ lp := List.forall_mem_cons.mpr ⟨Nat.ne_of_lt pl, fun q hq => sA2 q (List.mem_append_right _ hq)⟩
    obtain ⟨ok, sh, ekw⟩ := hS.done hk1
    refine k ((T9, _) :: (lp, _) :: A2) s _ P3 (offQ (Off.cons oL oA2) p9 q9 fun q hq => .tail _ (List.mem_append_right _ hq)) ok sh ?_ ?_ (hp3.mono (by omega))
    · rw [← pcs_rows, List.length_map]
      have := hS.short
      omega
    · unfold srtD
      rw [ekw]
      exact .tuple (.head _) (.cons (.str _ _) (.cons (.list (.tail _ (.head _)) (dA.mono fun _ h => .tail _ (.tail _ h))) .nil))
end
end Mine
namespace Mine
open Ob
/-- as Calls, for a def that a class calls -/
noncomputable def CallsC (W : Wd) (need : Nat) (f' : Addr) (args : List Value) (led : Led) (K : Value → Led → Prop) : Prop :=
  ∀ (f : Fn) (n : Nat) (c : Cx W f n) (vs : List (Option Value)), need < n → ∀ (s₀ s : Shared) (R : Result → Shared → Prop), At c vs led s₀ s → (∀ v l s', At c vs l s₀ s' → K v l → R (.ok (.ret v)) s') → codeAny W.M c.A (.call (.ref f') ⟨args, []⟩) R s
theorem enterC {W : Wd} {need : Nat} {f' : Addr} {args : List Value} {led : Led} {K : Value → Led → Prop} {F : Fn} {ps more : List Str} {as : List Value} {name : Str} {params : Arguments} {body : List Stmt} {dV kV doc pm cdv ct oc : Value} {an od : Option Addr} {osl : Array (Option Value)}
    (ok : F.Ok) (hn : F.ns = ps ++ more) (hl : ps.length = as.length)
    (ho : W.K.lookup f' = some ⟨oc, od, .func (fnOf name F.cn params body F.sc dV kV doc pm an cdv ct), osl⟩) (hcd : codeIn W.K cdv F.cn = true)
    (hb : ∀ s : Shared, W.K.In s.heap → BindsTo s (fnOf name F.cn params body F.sc dV kV doc pm an cdv ct) ⟨args, []⟩ (ps.zip as))
    (hco : F.sc.isCoroutine = false) (hgen : F.sc.isGenerator = false) (hcell : ∀ x ∈ F.sc.names, x.2 ≠ .cell)
    (h : ∀ c : Cx W F need, GS c (as.map some ++ more.map fun _ => none) led (execs body c.env) fun fl _ l => K (retv fl) l) : CallsC W need f' args led K := by
  intro f n c vs hneed s₀ s R A hR
  have hroom : c.A.depth < recursionLimit := Nat.lt_of_le_of_lt (Nat.le_add_right _ _) c.hd
  refine code_def c.B A.F c.X A.N c.T rfl rfl c.ok.kind ho hcd hroom (hb s (c.X.keeps A.F.keep)) ?_ ?_ hco hgen ok.kind hcell
  · intro y hy
    have : y.1 ∈ F.ns := hn ▸ List.mem_append_left _ (List.of_mem_zip hy).1
    exact (ok.loc _ this).1
  · intro g L' h₁ FG F' N' B' X' T'
    have e : (fun y => ((ps.zip as).reverse).lookup y) = look F.ns (as.map some ++ more.map fun _ => none) := by
      funext y; rw [hn]; exact look_binds ps as more hl (hn ▸ ok.nodup) y
    rw [e] at F'
    have h1 : c.dp + 1 + need < recursionLimit := by have := c.hd; omega
    have h2 : c.un + 3 + 8 * need < cLine := by have := c.hu; omega
    let c' : Cx W F need := Cx.mk (c.dp + 1) (c.un + 3) c.gd L' f' cdv [] (c.env :: c.outer) c.A c.base g ok B' X' T' h1 h2
    refine wpAny_mono (h c' _ { s with heap := h₁, toks := s.toks + (ps.zip as).length } (.start _ F' N')) ?_ (fun _ _ x => x.elim)
    rintro fl s' ⟨vs', l, A', hk⟩
    refine leaveK_ A'.F A'.N fun FF NN => ?_
    have hs : s' = { s with heap := s'.heap, toks := s'.toks } := by
      obtain ⟨h', g', d', t', o'⟩ := s'
      have := A'.g; have := A'.d; have := A'.o
      simp_all
    exact hR _ l _ ⟨FF, NN, A'.g.trans A.g, A'.d.trans A.d, A'.o.trans A.o⟩ hk
theorem cu_cls {C : Addr} {pos : List Value} {kw : List (Str × Value)} : Code.cUnits (.builtin "type.__call__" ⟨.ref C :: pos, kw⟩) ≤ 8 := Nat.le_of_ble_eq_true rfl
theorem o_cls {W : Wd} {f : Fn} {n : Nat} {c : Cx W f (n + 1)} {vs : List (Option Value)} {led : Led} {K : Value → Led → Prop} {C fI : Addr} {args : List Value} {need : Nat} (hm : makesIn W.K C = true) (hi : findIn W.K (.ref C) (Str.ofString "__init__") = some (some (.ref fI))) (hf : isFn W.K (.ref fI) = true) (hn : need < n)
    (h : ∀ x dx, (∀ p ∈ led, p.1 < dx) → dx < x → CallsC W need fI (.ref x :: args) ((x, instObj C dx) :: (dx, dictOf [] 0) :: led) fun v l => v = .none ∧ K (.ref x) l) : GE c vs led (call (.ref C) args) K := fun s₀ s A =>
  call_cls A.F c.X A.N hm hi hf fun x dx h' F' N' l1 l2 => by
    have h1 : c.dp + 1 + n < recursionLimit := by have := c.hd; omega
    have h2 : c.un + Code.cUnits (.builtin "type.__call__" ⟨.ref C :: args, []⟩) + 8 * n < cLine := by
      have := c.hu
      have := cu_cls (C := C) (pos := args) (kw := [])
      omega
    let c1 : Cx W f n := Cx.mk (c.dp + 1) (c.un + Code.cUnits (.builtin "type.__call__" ⟨.ref C :: args, []⟩)) c.gd c.L c.a c.cd c.cl c.outer c.A₀ c.base c.h₀ c.ok c.B c.X c.T h1 h2
    exact h x dx l1 l2 f n c1 vs hn s₀ { s with heap := h' } (InitBack x _) ⟨F', N', A.g, A.d, A.o⟩ fun v l s' A' hk => ⟨hk.1, _, ⟨A'.F, A'.N, A'.g, A'.d, A'.o⟩, hk.2⟩
end Mine
namespace Mine
open Ob
structure SetIn (KF : Frag) (C : Addr) (name : Str) : Prop where
  set : findIn KF (.ref C) "__setattr__" = some (some (.builtin "object.__setattr__"))
  plain : plainOver KF C = true
  taker : takerIn KF C name = some none
  dict : hasDictIn KF C = true
theorem set_kind (P : Params) : SetIn (KF P) 525 (Str.ofString "kind") := ⟨by kernel_rfl, by kernel_rfl, by kernel_rfl, by kernel_rfl⟩
theorem set_worth (P : Params) : SetIn (KF P) 525 (Str.ofString "worth") := ⟨by kernel_rfl, by kernel_rfl, by kernel_rfl, by kernel_rfl⟩
theorem set_tat (P : Params) : SetIn (KF P) 525 (Str.ofString "at") := ⟨by kernel_rfl, by kernel_rfl, by kernel_rfl, by kernel_rfl⟩
theorem set_isin (P : Params) : SetIn (KF P) 525 (Str.ofString "is_in_a") := ⟨by kernel_rfl, by kernel_rfl, by kernel_rfl, by kernel_rfl⟩
theorem set_tokens (P : Params) : SetIn (KF P) 495 (Str.ofString "tokens") := ⟨by kernel_rfl, by kernel_rfl, by kernel_rfl, by kernel_rfl⟩
theorem set_rat (P : Params) : SetIn (KF P) 495 (Str.ofString "at") := ⟨by kernel_rfl, by kernel_rfl, by kernel_rfl, by kernel_rfl⟩
theorem set_named (P : Params) : SetIn (KF P) 495 (Str.ofString "named") := ⟨by kernel_rfl, by kernel_rfl, by kernel_rfl, by kernel_rfl⟩
section
variable {W : Wd} {f : Fn} {n : Nat} {c : Cx W f n} {vs : List (Option Value)} {led : Led} {pos : Pos} {env : Env}
theorem i_set {KU : Unit → Led → Prop} {C x dx : Addr} {name : Str} {v : Value} {es : List DictEntry} {m : Nat} (S : SetIn W.K C name) (hg : (getL name es).isSome = true) (e : ∀ t, (putL name (PyData.keyHash W.w.params name) (.str name t) v es, putN name es m) = (es ++ [ent W.w name t v], m + 1)) (hz : es.length ≤ 900)
    (hx : x ≠ dx) (sep : ∀ p ∈ led, p.1 ≠ dx) (h : ∀ t, KU () ((x, instObj C dx) :: (dx, dictOf (es ++ [ent W.w name t v]) (m + 1)) :: led)) :
    GE c vs ((x, instObj C dx) :: (dx, dictOf es m) :: led) (setAttr (.ref x) name v) KU := fun _ _ A =>
  set_dict (es := es) A.F c.X A.N (InstAt.of_news A.N (.head _) (.tail _ (.head _))) rfl S.set S.plain S.taker S.dict hg (e _) (.tail hx (.head sep)) (by rw [List.length_append]; show es.length + 1 ≤ 1000; omega) fun _ F' N' => ⟨_, A.to F' N', h _⟩
theorem g_dict0 {K : Value → Led → Prop} (h : ∀ D o, (∀ p ∈ led, p.1 < D) → K (.ref D) ((D, o) :: led)) : GE c vs led (eval (.Dict [] [] pos) env) K := fun _ s A =>
  wpAny_Dict_empty ⟨_, A.to (k := s.toks) (A.F.push _) (fun p hp => by
    rcases List.mem_cons.mp hp with rfl | hp
    · exact ⟨Heap.get?_push_size _ rfl, Nat.ne_of_gt A.F.ns.lt, next_is_new A.F⟩
    · exact ⟨Heap.get?_push_of_some _ (A.N p hp).1, (A.N p hp).2⟩), h _ _ fun p hp => Heap.lt_size (A.N p hp).1⟩
end
section
variable {W : Wd} {K : Value → Led → Prop} {led : Led}
theorem init_token {x dx : Addr} {k y : Str} {u1 u2 : Tok} {v3 : Value} (l1 : ∀ p ∈ led, p.1 < dx) (l2 : dx < x) (h : ∀ t1 t2 t3 t4, K .none ((x, instObj 525 dx) :: (dx, tokObj W.w t1 t2 t3 t4 k u1 y u2 v3 (.bool false)) :: led)) :
    CallsC W 0 515 [.ref x, .str k u1, .str y u2, v3] ((x, instObj 525 dx) :: (dx, dictOf [] 0) :: led) K :=
  enterC (ps := [(Str.ofString "self"), (Str.ofString "kind"), (Str.ofString "worth"), (Str.ofString "at"), (Str.ofString "is_in_a")]) (more := []) (as := [.ref x, .str k u1, .str y u2, v3, (.bool false)]) ok515 rfl rfl (ho515 _) (by kernel_rfl) (fun _ hs => binds_K hs rfl (by kernel_rfl : W.K.lookup 508 = some (o508 W.w.params)) rfl rfl rfl) (by kernel_rfl) (by kernel_rfl) (by decide +kernel) fun c => by
    have ne := Ne.symm (Nat.ne_of_lt l2)
    have sep : ∀ p ∈ led, p.1 ≠ dx := fun p hp => Nat.ne_of_lt (l1 p hp)
    show GS c [some (.ref x), some (.str k u1), some (.str y u2), some v3, some (.bool false)] _ (execs (fB (nth (cB (st 56)) 0)) c.env) _
    walk_at "gs"
    refine i_set (set_kind _) (by kernel_rfl) (fun t => by kernel_rfl) (Nat.zero_le _) ne sep fun t1 => ?_
    walk_at "gs"
    refine i_set (set_worth _) (by kernel_rfl) (fun t => by kernel_rfl) (show 1 ≤ 900 by decide) ne sep fun t2 => ?_
    walk_at "gs"
    refine i_set (set_tat _) (by kernel_rfl) (fun t => by kernel_rfl) (show 2 ≤ 900 by decide) ne sep fun t3 => ?_
    walk_at "gs"
    refine i_set (set_isin _) (by kernel_rfl) (fun t => by kernel_rfl) (show 3 ≤ 900 by decide) ne sep fun t4 => ?_
    walk_at "gs"
    exact h _ _ _ _
end
end Mine
namespace Mine
open Ob
section
open PySem.Spec LCg
variable {W : Wd} {f : Fn} {n : Nat} {c : Cx W f n} {vs : List (Option Value)} {led : Led} {K : Value → Led → Prop} {pos : Pos}
theorem o_lcE {elt : Expr} {x x₁ x₂ en xt : Str} {px px₁ px₂ tp tp₂ p1 p2 p3 : Pos} {k k₂ : Nat} {scope : Scope} {cl : List (Str × Addr)} {la : Addr} {ws : List Value} {m : Nat} (hen : Gv W.K en (.type "enumerate")) (hsn : f.sc.names.lookup en = some .globalImplicit) (hxt : Has f.ns vs xt (.ref la)) (hm : (la, listOf ws.toArray m) ∈ led) (hsz : ws.length ≤ sizeLine)
    (J : Nat → List Value → Led → Prop) (h0 : J 0 [] led)
    (turn : ∀ i v ys nx, ws[i]? = some v → J i ys nx → (la, listOf ws.toArray m) ∈ nx → ∃ T v₁ v₂ mT, v = .ref T ∧ (T, ({ cls := .type "tuple", data := .seq [v₁, v₂].toArray mT } : Obj)) ∈ nx ∧
      ∀ tt C oC m₂ own, (C, oC) ∈ own → NsObj oC m₂ → m₂ x = some (.int i tt) → m₂ x₁ = some v₁ → m₂ x₂ = some v₂ → OwnOff own (nx.map (·.1)) → GE c vs (nx ++ own) (eval elt (compEnvC scope cl C c.env)) (lcEnd (la, listOf ws.toArray m) own fun y nx' => J (i + 1) (ys ++ [y]) nx'))
    (fin : ∀ ys nx D, J ws.length ys nx → (∀ p ∈ nx, p.1 ≠ D) → K (.ref D) ((D, lst ys) :: nx))
    (hclos : closureFor scope c.env = pure cl) (hcell : ∀ y ∈ scope.names, y.2 ≠ .cell) (hkind : scope.kind = .function)
    (hnames : ∀ y ∈ scope.names, y.2 = .local → scope.names.lookup y.1 = some .local) (hx : scope.names.lookup x = some .local) (hx₁ : scope.names.lookup x₁ = some .local) (hx₂ : scope.names.lookup x₂ = some .local) (h01 : x ≠ x₁) (h02 : x ≠ x₂) (h12 : x₁ ≠ x₂)
    (e : eval ((Expr.Name en p1).Call [.Name xt p2] [] p3) c.env = (do let f ← eval (Expr.Name en p1) c.env; callWith p3 f [] (backTo p3 (starEach [.Name xt p2] c.env)) (backToKw p3 (keywordEach [] c.env))))
    (hs : ∀ x, foldedSetIterable ((Expr.Name en p1).Call [.Name xt p2] [] p3) c.env x = pure x) :
    GE c vs led (eval (.ListComp elt [⟨.Tuple [.Name x px, .Tuple [.Name x₁ px₁, .Name x₂ px₂] k₂ tp₂] k tp, (Expr.Name en p1).Call [.Name xt p2] [] p3, [], 0⟩] scope pos) c.env) K := by
  intro s₀ s A
  refine ListComp_E A.F hclos hcell hkind hnames hx hx₁ hx₂ h01 h02 h12 ?_ hs
  refine Call_ ((g_glo (K := fun v l => v = .type "enumerate" ∧ l = led) hen hsn ⟨rfl, rfl⟩).th A fun v l s1 A1 h1 => ?_) e
  obtain ⟨rfl, rfl⟩ := h1
  refine callWith_type1 (args_cons ((g_loc (K := fun v l' => v = .ref la ∧ l' = l) hxt ⟨rfl, rfl⟩).th A1 fun v l' s2 A2 h2 => ?_)) rfl rfl
  obtain ⟨rfl, rfl⟩ := h2
  refine args_nil ?_
  refine enum_led A2.F A2.N hm fun e it h1 F1 N1 hE hI hei hLe hLi he0 hi0 off => ?_
  refine ⟨e, it, la, ws, m, l', (fun i ys nx => (la, listOf ws.toArray m) ∈ nx ∧ J i ys nx), rfl, rfl, F1, N1, hm, hE, hI, hei, hLe, hLi, he0, hi0, off, hsz, ⟨hm, h0⟩, ?_, ?_⟩
  · rintro i v ys nx hv ⟨hla, hJ⟩
    obtain ⟨T, v₁, v₂, mT, rfl, hT, ht⟩ := turn i v ys nx hv hJ hla
    refine ⟨T, v₁, v₂, mT, rfl, hT, ?_⟩
    intro tt oE oI C oC D m₂ h₁ tk E' hla2 hC g1 g2 g3 F2 N2 off2
    have ho : OwnOff [(e, oE), (it, oI), (C, oC), (D, lst ys)] (nx.map (·.1)) := OwnOff.mk fun p hp q hq => (off2 q hq p hp).symm
    refine wpAny_mono (ht tt C oC m₂ [(e, oE), (it, oI), (C, oC), (D, lst ys)] (.tail _ (.tail _ (.head _))) hC g1 g2 g3 ho { s2 with heap := h₁, toks := tk } { s2 with heap := h₁, toks := tk } ⟨F2, fun p hp => N2 p ?_, rfl, rfl, rfl⟩) (fun y s₃ h3 => ?_) fun _ _ x => x.elim
    · simp only [List.mem_append, List.mem_cons, List.not_mem_nil, or_false] at hp ⊢
      rcases hp with h | h | h | h | h <;> simp [h]
    · obtain ⟨l3, A3, nx', a, b, d, kp, j⟩ := h3
      refine ⟨s₃.heap, s₃.toks, nx', Heap.sh A3.g A3.d A3.o, A3.F, fun p hp => A3.N p ?_, fun p hp q hq => ?_, kp, kp, j⟩
      · rcases List.mem_append.mp hp with hp | hp
        · exact b p hp
        · exact a p hp
      · exact (d q hq p.1 (List.mem_map_of_mem hp)).symm
  · rintro ys nx D h₁ tk ⟨_, hJ⟩ F2 N2 off2
    exact ⟨_, A2.to F2 N2, fin ys nx D hJ off2⟩
end
section
variable {W : Wd} {K : Value → Led → Prop} {led : Led}
theorem init_reader {x dx tl : Addr} (l1 : ∀ p ∈ led, p.1 < dx) (l2 : dx < x) (h : ∀ nd on t1 t2 t3 ti, x < nd → K .none ((dx, rdObj W.w tl nd t1 t2 t3 ((0 : Nat) : Int) ti) :: (x, instObj 495 dx) :: (nd, on) :: led)) :
    CallsC W 0 341 [.ref x, .ref tl] ((x, instObj 495 dx) :: (dx, dictOf [] 0) :: led) K :=
  enterC (ps := [(Str.ofString "self"), (Str.ofString "tokens"), (Str.ofString "at")]) (more := []) (as := [.ref x, .ref tl, (.int 0 660)]) ok341 rfl rfl (ho341 _) (by kernel_rfl) (fun _ hs => binds_K hs rfl (by kernel_rfl : W.K.lookup 334 = some (o334 W.w.params)) rfl rfl rfl) (by kernel_rfl) (by kernel_rfl) (by decide +kernel) fun c => by
    have ne := Ne.symm (Nat.ne_of_lt l2)
    have sep : ∀ p ∈ led, p.1 ≠ dx := fun p hp => Nat.ne_of_lt (l1 p hp)
    show GS c [some (.ref x), some (.ref tl), some (.int 0 660)] _ (execs (fB (nth (cB (st 54)) 0)) c.env) _
    walk_at "gs"
    refine i_set (set_tokens _) (by kernel_rfl) (fun t => by kernel_rfl) (Nat.zero_le _) ne sep fun t1 => ?_
    walk_at "gs"
    refine i_set (set_rat _) (by kernel_rfl) (fun t => by kernel_rfl) (show 1 ≤ 900 by decide) ne sep fun t2 => ?_
    walk_at "gs"
    refine g_dict0 fun nd on ln => ?_
    walk_at "gs"
    refine GE.sub (led' := (x, instObj 495 dx) :: (dx, dictOf [ent W.w (Str.ofString "tokens") t1 (.ref tl), ent W.w (Str.ofString "at") t2 (.int 0 660)] 2) :: (nd, on) :: led) (fun p hp => by simp only [List.mem_cons] at hp ⊢; rcases hp with h | h | h | h <;> simp [h]) ?_
    refine i_set (set_named _) (by kernel_rfl) (fun t => by kernel_rfl) (show 2 ≤ 900 by decide) ne (List.forall_mem_cons.mpr ⟨Nat.ne_of_gt (ln _ (.tail _ (.head _))), sep⟩) fun t3 => ?_
    refine s_next ?_
    refine GS.sub swap_sub ?_
    walk_at "gs"
    exact h nd on t1 t2 t3 660 (ln _ (.head _))
theorem tok_at {led : Led} {vs : List Value} {ts : List (Str × Str)} (h : DatAll led vs (ts.map tokD)) : ∀ {i : Nat} {v : Value}, vs[i]? = some v → ∃ T k x t₁ t₂ n, v = .ref T ∧ ts[i]? = some (k, x) ∧ (T, ({ cls := .type "tuple", data := .seq [.str k t₁, .str x t₂].toArray n } : Obj)) ∈ led := by
  induction ts generalizing vs with
  | nil => intro i v hv; cases h; simp at hv
  | cons t ts ih =>
    cases h
    rename_i a r
    intro i v hv
    cases i with
    | zero =>
      obtain ⟨A, x, y, n, e, m, d1, d2⟩ := pair_of a
      cases d1
      cases d2
      simp at hv
      subst hv
      exact ⟨_, t.1, t.2, _, _, n, e, rfl, m⟩
    | succ i => simpa using ih r (by simpa using hv)
theorem ToksIn.snoc {w : World} {led : Led} {vs : List Value} {ts : List (Str × Str)} {v : Value} {t : Str × Str} (h : ToksIn w led vs ts) (k : TokIn w led v t) : ToksIn w led (vs ++ [v]) (ts ++ [t]) := by
  induction h with
  | nil => exact .cons k .nil
  | cons a b ih => exact .cons a ih
theorem kp495 (P : Params) : keepIn (KF P) (.ref 495) = true := by kernel_rfl
theorem kp525 (P : Params) : keepIn (KF P) (.ref 525) = true := by kernel_rfl
theorem mk495 (P : Params) : makesIn (KF P) 495 = true := by kernel_rfl
theorem mk525 (P : Params) : makesIn (KF P) 525 = true := by kernel_rfl
theorem in495 (P : Params) : findIn (KF P) (.ref 495) (Str.ofString "__init__") = some (some (.ref 341)) := by kernel_rfl
theorem in525 (P : Params) : findIn (KF P) (.ref 525) (Str.ofString "__init__") = some (some (.ref 515)) := by kernel_rfl
theorem fn341 (P : Params) : isFn (KF P) (.ref 341) = true := by kernel_rfl
theorem fn515 (P : Params) : isFn (KF P) (.ref 515) = true := by kernel_rfl
set_option maxHeartbeats 4000000 in
theorem law_reader_c {tl0 : Addr} {tvs : List Value} {tn : Nat} {ts : List (Str × Str)} (hm : (tl0, listOf tvs.toArray tn) ∈ led) (hdt : DatAll led tvs (ts.map tokD)) (hlen : ts.length ≤ 10000) (hg : Good ts) (hsh : ∀ t ∈ ts, t.2.length ≤ 100)
    (k : ∀ r rd tl nd t1 t2 t3 ti vs add, RdOk W.w (add ++ led) r rd tl vs ts → Off led ((rd, rdObj W.w tl nd t1 t2 t3 ((0 : Nat) : Int) ti) :: add) → K (.ref r) ((rd, rdObj W.w tl nd t1 t2 t3 ((0 : Nat) : Int) ti) :: (add ++ led))) : Calls W 2 558 [.ref tl0] led K := ent558 fun c => by
  have hl : tvs.length = ts.length := by rw [hdt.length, List.length_map]
  walk_at "gs"
  refine g_call ?_ (by kernel_rfl)
  walk_at "gs"
  refine w_def (kp495 _) ?_ (by kernel_rfl) (by kernel_rfl)
  walk_at "gs"
  refine o_lcE (gv_enumerate _) (by kernel_rfl) (by walk_at "has") hm (by rw [sizeLine_eq]; omega) (fun i ys nx => ∃ add, nx = add ++ led ∧ Off led add ∧ ToksIn W.w add ys (ts.take i)) ⟨[], rfl, Off.nil, .nil⟩ ?_ ?_ rfl (by decide) rfl (by decide) rfl rfl rfl (by decide) (by decide) (by decide) (by kernel_rfl) (fun _ => by kernel_rfl)
  · rintro i v ys nx hv ⟨add, rfl, fo, tk0⟩ hla
    obtain ⟨T, kd, x, u1, u2, n, rfl, hk, hT⟩ := tok_at hdt hv
    refine ⟨T, _, _, n, rfl, List.mem_append_right _ hT, ?_⟩
    intro tt C oC m₂ own hC hN g1 g2 g3 ho
    have hC2 : (C, oC) ∈ (add ++ led) ++ own := List.mem_append_right _ hC
    refine g_call ?_ (by kernel_rfl)
    refine gc_glo (gv_Token _) rfl (by kernel_rfl) ?_
    refine w_def (kp525 _) ?_ (by kernel_rfl) (by kernel_rfl)
    refine a_cons ?_ (by kernel_rfl)
    refine gc_loc hC2 hN g2 rfl rfl (by decide) ?_
    refine a_cons ?_ (by kernel_rfl)
    refine gc_loc hC2 hN g3 rfl rfl (by decide) ?_
    refine a_cons ?_ (by kernel_rfl)
    refine g_tup ?_
    refine a_cons ?_ (by kernel_rfl)
    refine g_binop ?_
    refine gc_loc hC2 hN g1 rfl rfl (by decide) ?_
    walk_at "gs"
    rename_i T3 l3
    refine o_cls (mk525 _) (in525 _) (fn515 _) (by decide) fun a dx l1 l2 => init_token l1 l2 fun t1 t2 t3 t4 => ⟨rfl, ?_⟩
    have sd : ∀ p ∈ (add ++ led) ++ own, p.1 < dx := fun p hp => l1 p (.tail _ hp)
    have sa : ∀ p ∈ (add ++ led) ++ own, p.1 < a := fun p hp => Nat.lt_trans (sd p hp) l2
    refine ⟨(a, instObj 525 dx) :: (dx, tokObj W.w t1 t2 t3 t4 kd u1 x u2 (.ref T3) (.bool false)) :: (add ++ led), fun p hp => ?_, fun p hp => .tail _ (.tail _ (.tail _ (List.mem_append_right _ hp))), OwnOff.cons (fun p hp => Nat.ne_of_lt (sa p (List.mem_append_right _ hp))) (OwnOff.cons (fun p hp => Nat.ne_of_lt (sd p (List.mem_append_right _ hp))) ho), .tail _ (.tail _ hla), ⟨(a, instObj 525 dx) :: (dx, tokObj W.w t1 t2 t3 t4 kd u1 x u2 (.ref T3) (.bool false)) :: add, rfl, Off.cons (fun q hq => Nat.ne_of_lt (sa q (List.mem_append_left _ (List.mem_append_right _ hq)))) (Off.cons (fun q hq => Nat.ne_of_lt (sd q (List.mem_append_left _ (List.mem_append_right _ hq)))) fo), ?_⟩⟩
    · simp only [List.mem_cons] at hp ⊢
      rcases hp with h | h | h
      · simp [h]
      · simp [h]
      · exact .inr (.inr (.inr (List.mem_append_left _ h)))
    · rw [List.take_add_one, hk]
      exact (tk0.mono fun _ h => .tail _ (.tail _ h)).snoc (.mk (.head _) (.tail _ (.head _)))
  · rintro ys nx D ⟨add, rfl, fo, tk0⟩ hD
    have ht : ts.take tvs.length = ts := List.take_of_length_le (by omega)
    rw [ht] at tk0
    walk_at "gs"
    refine o_cls (mk495 _) (in495 _) (fn341 _) (by decide) fun r rd l1 l2 => init_reader l1 l2 fun nd on t1 t2 t3 ti l3 => ⟨rfl, ?_⟩
    walk_at "gs"
    have sr : ∀ p ∈ add ++ led, p.1 < rd := fun p hp => l1 p (.tail _ hp)
    have hl2 : ys.length = ts.length := tk0.length
    refine k r rd D nd t1 t2 t3 ti ys ((r, instObj 495 rd) :: (nd, on) :: (D, LCg.lst ys) :: add) ⟨.head _, ⟨_, .tail _ (.tail _ (.head _))⟩, tk0.mono fun _ h => .tail _ (.tail _ (.tail _ (List.mem_append_left _ h))), hg, by omega, hsh, ?_⟩ ?_
    · exact List.forall_mem_cons.mpr ⟨Nat.ne_of_gt l2, List.forall_mem_cons.mpr ⟨Nat.ne_of_gt (Nat.lt_trans l2 l3), List.forall_mem_cons.mpr ⟨Nat.ne_of_lt (l1 _ (.head _)), fun p hp => Nat.ne_of_lt (sr p hp)⟩⟩⟩
    · have lo : ∀ q ∈ led, q.1 < rd := fun q hq => sr q (List.mem_append_right _ hq)
      exact Off.cons (fun q hq => Nat.ne_of_lt (lo q hq)) (Off.cons (fun q hq => Nat.ne_of_lt (Nat.lt_trans (lo q hq) l2)) (Off.cons (fun q hq => Nat.ne_of_lt (Nat.lt_trans (lo q hq) (Nat.lt_trans l2 l3))) (Off.cons (fun q hq => hD q (List.mem_append_right _ hq)) fo)))
end
end Mine
namespace Mine
open Ob
theorem dat_at {α : Type} {led : Led} {f : α → Dat} : ∀ {vs : List Value} {l : List α}, DatAll led vs (l.map f) → ∀ {i : Nat} {v : Value}, vs[i]? = some v → ∃ x, l[i]? = some x ∧ DatIn led v (f x)
  | _, [], h, i, v, hv => by cases h; simp at hv
  | _, x :: l, h, i, v, hv => by
    cases h
    rename_i a r
    cases i with
    | zero => simp at hv; subst hv; exact ⟨x, rfl, a⟩
    | succ i => simpa using dat_at r (by simpa using hv)
theorem kw_facts (s : Srt) : (Str.ofString s.kw != Str.ofString "") = true ∧ Txt.split (Str.ofString s.kw) (Str.ofString " ") = [Str.ofString s.kw] ∧ (Str.ofString "FOR " ++ Str.ofString s.kw != Str.ofString "") = true ∧ Txt.split (Str.ofString "FOR " ++ Str.ofString s.kw) (Str.ofString " ") = [Str.ofString "FOR", Str.ofString s.kw] ∧ (Str.ofString s.kw).length ≤ 20 ∧ (Str.ofString "FOR " ++ Str.ofString s.kw).length ≤ 100 := by
  have key : ∀ x ∈ ["CHARACTERS", "ALL", "LEADING"], (Str.ofString x != Str.ofString "") = true ∧ Txt.split (Str.ofString x) (Str.ofString " ") = [Str.ofString x] ∧ (Str.ofString "FOR " ++ Str.ofString x != Str.ofString "") = true ∧ Txt.split (Str.ofString "FOR " ++ Str.ofString x) (Str.ofString " ") = [Str.ofString "FOR", Str.ofString x] ∧ (Str.ofString x).length ≤ 20 ∧ (Str.ofString "FOR " ++ Str.ofString x).length ≤ 100 := by decide +kernel
  refine key _ ?_
  cases s with
  | chars bs => exact .head _
  | some b ps =>
    cases b
    · exact .tail _ (.head _)
    · exact .tail _ (.tail _ (.head _))
theorem bd_le {w : World} {bs : List (Bool × Op)} (ok : BdOk w bs) : (bdToks bs).length ≤ 10 := by
  have h1 : bs.length ≤ 2 := by
    have : ∀ l : List Bool, l.Nodup → l.length ≤ 2 := by
      intro l hl
      match l, hl with
      | [], _ => decide
      | [_], _ => exact Nat.le_of_ble_eq_true rfl
      | [_, _], _ => exact Nat.le_of_ble_eq_true rfl
      | a :: b :: c :: r, hl =>
        simp only [List.nodup_cons, List.mem_cons, not_or] at hl
        cases a <;> cases b <;> cases c <;> simp at hl
    simpa using this _ ok.2
  have := bdToks_len bs
  omega
theorem piece_len {w : World} {s : Srt} (ok : s.Ok w) {q : List (Str × Str) × Srt} (h : q ∈ s.pcs) : q.1.length ≤ 13 := by
  cases s with
  | chars bs => rw [List.mem_singleton.mp h]; exact Nat.le_trans (bd_le ok) (by decide)
  | some b ps =>
    obtain ⟨x, hx, rfl⟩ := List.mem_map.mp h
    have h1 := bd_le (ok.2 x hx).2
    have h2 : x.1.toks.length ≤ 3 := by cases x.1 <;> exact Nat.le_of_ble_eq_true rfl
    simp only [List.length_append]; omega
theorem take_snoc {α : Type} {l : List α} {i : Nat} {x : α} (h : l[i]? = some x) : l.take (i + 1) = l.take i ++ [x] := by rw [List.take_add_one, h]; rfl
theorem in_end {o : Op} {ss : List Srt} {s : Srt} {j n : Nat} (hs : ss[j]? = some s) (hn : n = s.pcs.length) (hl : n ≤ 2) {X : List (Str × Str)} {Y : List (Str × Str)} {Z : List Dat} {a b c : Nat} :
    X ++ srtsToks (ss.take j) ++ [wd (Str.ofString s.kw)] ++ (s.pcs.take n).flatMap (·.1) = X ++ srtsToks (ss.take (j + 1)) ∧ Y ++ cntsToks (againS o (ss.take j)) ++ cntsToks ((s.pcs.take n).map (again1 o)) = Y ++ cntsToks (againS o (ss.take (j + 1))) ∧
    Z ++ srtsRows o.dat (ss.take j) ++ (s.pcs.take n).map (fun q => q.2.row1 o.dat) = Z ++ srtsRows o.dat (ss.take (j + 1)) ∧ a + 40 * j + 1 + 13 * n ≤ a + 40 * (j + 1) ∧ b + 60 * j + 20 * n ≤ b + 60 * (j + 1) ∧ c + 2 * j + n ≤ c + 2 * (j + 1) := by
  have ht : s.pcs.take n = s.pcs := List.take_of_length_le (by omega)
  rw [ht, take_snoc hs, srtsToks_app, againS_app, cntsToks_app, srtsRows_app, pcs_body, pcs_rows]
  refine ⟨by simp [srtsToks], by simp [againS, cntsToks], by simp [srtsRows], by omega, by omega, by omega⟩
theorem mid_end {cts : List Cnt} {o : Op} {ss : List Srt} {i n : Nat} (hc : cts[i]? = some (o, ss)) (hn : n = ss.length) (hl : n ≤ 3) :
    cntsToks (cts.take i) ++ (o.toks ++ [wd (Str.ofString "FOR")]) ++ srtsToks (ss.take n) = cntsToks (cts.take (i + 1)) ∧ cntsToks (againC (cts.take i)) ++ cntsToks (againS o (ss.take n)) = cntsToks (againC (cts.take (i + 1))) ∧ cntsRows (cts.take i) ++ srtsRows o.dat (ss.take n) = cntsRows (cts.take (i + 1)) ∧
    200 * i + 4 + 40 * n ≤ 200 * (i + 1) ∧ 200 * i + 60 * n ≤ 200 * (i + 1) ∧ 20 * i + 2 * n ≤ 20 * (i + 1) := by
  have ht : ss.take n = ss := List.take_of_length_le (by omega)
  rw [ht, take_snoc hc, cntsToks_app, againC_app, cntsToks_app, cntsRows_app]
  refine ⟨by simp [cntsToks], by simp [againC], by simp [cntsRows], by omega, by omega, by omega⟩
theorem piece_end {s : Srt} {o : Op} {q : List (Str × Str) × Srt} {k : Nat} (hq : s.pcs[k]? = some q) {X Y : List (Str × Str)} {Z : List Dat} {a b c : Nat} :
    X ++ (s.pcs.take k).flatMap (·.1) ++ q.1 = X ++ (s.pcs.take (k + 1)).flatMap (·.1) ∧ Y ++ cntsToks ((s.pcs.take k).map (again1 o)) ++ (o.toks ++ ([wd (Str.ofString "FOR"), wd (Str.ofString s.kw)] ++ q.1)) = Y ++ cntsToks ((s.pcs.take (k + 1)).map (again1 o)) ∧
    Z ++ (s.pcs.take k).map (fun q => q.2.row1 o.dat) ++ [q.2.row1 o.dat] = Z ++ (s.pcs.take (k + 1)).map (fun q => q.2.row1 o.dat) ∧ a + 13 * k + 13 ≤ a + 13 * (k + 1) ∧ b + 20 * k + 20 ≤ b + 20 * (k + 1) ∧ c + k + 1 ≤ c + (k + 1) := by
  have e := again1_toks (o := o) (List.mem_of_getElem? hq)
  rw [take_snoc hq, List.map_append, cntsToks_app, List.map_cons, List.map_nil, e]
  refine ⟨by simp, by simp, by simp, by omega, by omega, by omega⟩
theorem dep_op (o : Op) : depD o.dat ≤ 3 := by cases o <;> exact Nat.le_of_ble_eq_true rfl
theorem dep_bd {b : Bool} : ∀ l : List (Bool × Op), depD (bdTold b l) ≤ 3
  | [] => Nat.zero_le _
  | (c, o) :: l => by
    rw [bdTold]
    split
    · exact dep_op o
    · exact dep_bd l
theorem dep_row (cd : Dat) (h : depD cd ≤ 3) (s : Srt) : depDs (s.rows cd) ≤ 4 := by
  have one : ∀ (k : Str) (q : Part), depD (rowD cd k q) ≤ 4 := fun k q => by
    have h1 := dep_op q.1
    have h2 := dep_bd (b := false) q.2
    have h3 := dep_bd (b := true) q.2
    simp only [rowD, depD, depDs]; omega
  have all : ∀ (k : Str) (ps : List Part), depDs (ps.map (rowD cd k)) ≤ 4 := fun k ps => by
    induction ps with
    | nil => exact Nat.zero_le _
    | cons q l ih => rw [List.map_cons, depDs]; have := one k q; omega
  cases s with
  | chars bs =>
    have h2 := dep_bd (b := false) bs
    have h3 := dep_bd (b := true) bs
    simp only [Srt.rows, depD, depDs]; omega
  | some b ps => cases b <;> exact all _ ps
theorem depDs_app : ∀ a b : List Dat, depDs (a ++ b) = max (depDs a) (depDs b)
  | [], b => by simp [depDs]
  | d :: a, b => by rw [List.cons_append, depDs, depDs, depDs_app a b]; omega
theorem dep_rows : ∀ l : List Cnt, depDs (cntsRows l) < 7
  | [] => by decide
  | c :: l => by
    have h1 := dep_rows l
    have h2 : ∀ ss : List Srt, depDs (srtsRows c.1.dat ss) ≤ 4 := fun ss => by
      induction ss with
      | nil => exact Nat.zero_le _
      | cons s ss ih => rw [srtsRows, depDs_app]; have := dep_row c.1.dat (dep_op c.1) s; omega
    have := h2 c.2
    rw [cntsRows, depDs_app]; omega
section
open PySem.Spec in
theorem kdt_iter {prog : Program} {w : World} {A : Around} {E : Value → Shared → Prop} {s : Shared} {env : Env} {h₀ : Heap} {x : Str} {px : Pos} {body : List Stmt} {Q : Flow → Shared → Prop} {l : Addr} {vs : List Value} {nn : Nat} {m₀ : Str → Option Value} {news : List (Addr × Obj)} (J : Nat → (Str → Option Value) → List (Addr × Obj) → Prop)
    (hh : A.handled = none) (hx : env.kindOf x = some .local) (hp : (env.scope.kind == .class || (env.scope.kind == .module && env.locals != env.globals)) = false)
    (hl : (l, ({ cls := .type "tuple", data := .seq vs.toArray nn } : Obj)) ∈ news) (F : Fr h₀ env.locals s.heap m₀) (N : News h₀ env.locals s.heap news) (hj : J 0 m₀ news)
    (keep : ∀ i m₁ news₁, J i m₁ news₁ → (l, ({ cls := .type "tuple", data := .seq vs.toArray nn } : Obj)) ∈ news₁)
    (turn : ∀ i v m₁ news₁ h tk own, vs[i]? = some v → OwnOff own (news₁.map (·.1)) → J i m₁ news₁ → Fr h₀ env.locals h (fun y => if y = x then some v else m₁ y) → News h₀ env.locals h (news₁ ++ own) →
      wpAny (model prog w) A (execs body env) (InvPostG h₀ env.locals (J (i + 1)) own { s with heap := h, toks := tk } Q) E { s with heap := h, toks := tk })
    (done : ∀ m₁ news₁ h tk, J vs.length m₁ news₁ → Fr h₀ env.locals h m₁ → News h₀ env.locals h news₁ → Q .next { s with heap := h, toks := tk }) :
    wpAny (model prog w) A (pyIter (.ref l)) (fun it s₂ => TurnsAt prog w A h₀ env (.Name x px) body Q E it s₂) E s := by
  generalize hto : ({ cls := .type "tuple", data := .seq vs.toArray nn } : Obj) = to at hl keep
  have hol : s.heap.get? l = some to := (N _ hl).1
  have hls : s.heap.IsTuple l vs.toArray := ⟨_, hol, by rw [← hto], nn, by rw [← hto]⟩
  have hne : l ≠ s.heap.objs.size := Nat.ne_of_lt (Heap.lt_size hol)
  refine wpAny_pyIter_tuple hls ?_
  have W := Walks.tuple (prog := prog) (w := w) hh s.heap.objs.size l hne vs.toArray
  have hlen : vs.toArray.size = vs.length := by simp
  rw [hlen] at W
  have WT := KTurns.ofWalks (target := .Name x px) W (fun i v s Q E st q => letGo_tupleiter st.1 q)
  refine ⟨_, _, _, vs.length, _, _, _, m₀, news, J, rfl, WT, ?_, ?_, ?_, ⟨⟨_, Heap.get?_push_size _ rfl, rfl, rfl⟩, hls.at fun o e => Heap.get?_push_of_some _ e⟩, F.push _, (fun p hp => ⟨Heap.get?_push_of_some _ (N p hp).1, (N p hp).2⟩), hj, ?_, ?_⟩
  · intro hm
    rcases List.mem_cons.mp hm with e | hm
    · exact absurd F.ns.lt (e ▸ Nat.lt_irrefl _)
    · exact (N _ hl).2.1 ((List.mem_singleton.mp hm).symm)
  · intro b hb
    rw [List.mem_singleton.mp hb]
    exact next_is_new F
  · intro p hp hI
    exact absurd (Heap.lt_size (N p hp).1) ((List.mem_singleton.mp hI) ▸ Nat.lt_irrefl _)
  · rintro i v m₁ news₁ hh' tk' own hin hP hJ hoff hown hget hfp hst F₁ N₁
    have hl₁ := keep i m₁ news₁ hJ
    have hP' : vs[i]? = some v := by simpa using hP
    have hI0 : h₀.get? s.heap.objs.size = none := next_is_new F
    obtain ⟨⟨oI, hoI, _⟩, _⟩ := id hst
    have hIown : (s.heap.objs.size, oI) ∈ own.filter fun p => decide (p.1 = s.heap.objs.size) := List.mem_filter.mpr ⟨hfp _ (List.mem_cons.mpr (.inl rfl)) hI0 _ hoI, by simp⟩
    have hsep : OwnOff (own.filter fun p => decide (p.1 = s.heap.objs.size)) (news₁.map (·.1)) := by
      intro p hp b hb e
      obtain ⟨q, hq, rfl⟩ := List.mem_map.mp hb
      have h1 : p.1 = s.heap.objs.size := by simpa using (List.mem_filter.mp hp).2
      exact hoff q hq (List.mem_singleton.mpr (e ▸ h1))
    have N₂ : News h₀ env.locals hh' (news₁ ++ own.filter fun p => decide (p.1 = s.heap.objs.size)) := fun p hp => N₁ p ((List.mem_append.mp hp).elim (fun h => List.mem_append.mpr (.inr h)) fun h => List.mem_append.mpr (.inl ((List.mem_filter.mp h).1)))
    have hlo : hh'.get? l = some to := (N₁ _ (List.mem_append.mpr (.inr hl₁))).1
    refine wpAny_assign_Name (wpAny_storeName_local hx F₁.ns (fun h₂ hn₂ hs₂ => ?_) hp)
    have F₂ : Fr h₀ env.locals h₂ (fun z => if z = x then some v else m₁ z) :=
      ⟨hn₂, fun b o e => hs₂.extBut b o (fun q => by rw [q, Heap.get?_none_of_le F₁.above] at e; cases e) (F₁.keep b o e), F₁.above⟩
    have N₃ : ∀ (led : List (Addr × Obj)), News h₀ env.locals hh' led → News h₀ env.locals h₂ led := fun led N p hp => ⟨hs₂.extBut _ _ (N p hp).2.1 (N p hp).1, (N p hp).2⟩
    refine wpAny_mono (turn i v m₁ news₁ h₂ _ _ hP' hsep hJ F₂ (N₃ _ N₂)) (fun f s₂ p => ?_) fun _ _ e => e
    have fin : ∀ tk₂, InvEndG h₀ env.locals (J (i + 1)) (own.filter fun p => decide (p.1 = s.heap.objs.size)) { s with heap := h₂, toks := tk₂ } s₂ →
        LoopStepU h₀ env.locals [s.heap.objs.size] own (J (i + 1)) { s with heap := hh', toks := tk' } .next s₂ := by
      rintro tk₂ ⟨h', tk, m', news', nx, e, F', N', hn, ho, ha, hm⟩
      refine ⟨rfl, h', tk, m', nx, e, F', fun p hp => ?_, fun p hp hq => ?_, hm⟩
      · rcases List.mem_append.mp hp with h | h
        · by_cases hI : p.1 = s.heap.objs.size
          · exact N' p (ho p (List.mem_filter.mpr ⟨h, by simpa using hI⟩))
          · have h1 : p.1 = l := by
              rcases List.mem_cons.mp (hown p h) with h2 | h2
              · exact absurd h2 hI
              · exact List.mem_singleton.mp h2
            have h2 : hh'.get? p.1 = some p.2 := hget p h
            rw [h1, hlo] at h2
            have h3 : p = (l, to) := Prod.ext h1 (Option.some.inj h2).symm
            rw [h3]
            exact N' _ (hn _ (keep _ _ _ hm))
        · exact N' p (hn p h)
      · exact ha _ hIown p.1 (List.mem_map.mpr ⟨p, hp, rfl⟩) (List.mem_singleton.mp hq).symm
    cases f with
    | ret v => exact .ret p
    | brk => exact .brk p
    | next => exact .next (fin _ p)
    | cont => exact .cont (fin _ p)
  · rintro h' tk m' news' F' N' _ hJ
    exact done m' news' h' tk hJ F' N'
/-- one telling: its words stand as a list, and what they spell -/
structure TellAt (w : World) (base : Led) (rows : List Dat) (v : Value) : Prop where
  ex : ∃ (a : Addr) (vs : List Value) (n : Nat) (l : List Cnt), v = .ref a ∧ (a, listOf vs.toArray n) ∈ base ∧ DatAll base vs ((cntsToks l).map tokD) ∧ vs.length ≤ 1000 ∧ l ≠ [] ∧ (∀ c ∈ l, CntOk w c) ∧ cntsRows l = rows ∧ Fit (cntsToks l)
end
section
open PySem.Spec
variable {W : Wd} {f : Fn} {n : Nat} {c : Cx W f n} {vs : List (Option Value)} {led : Led} {K : Value → Led → Prop} {Ks : KS} {pos : Pos}
/-- a loop over what v names, whose target is t -/
noncomputable def GTt (c : Cx W f n) (vs : List (Option Value)) (led : Led) (v : Value) (t : Expr) (body : List Stmt) (Ks : KS) : Prop :=
  ∀ s₀ s, At c vs led s₀ s → wpAny W.M c.A (pyIter v) (fun it s₂ => TurnsAt pg W.w c.A c.h₀ c.env t body (fun fl s' => ∃ vs' l, At c vs' l s₀ s' ∧ Ks fl vs' l) No it s₂) No s
theorem s_forT {t : Expr} {iter : Expr} {body : List Stmt} (h : GE c vs led (eval iter c.env) fun v l1 => GTt c vs l1 v t body Ks) (q : ∀ x, foldedSetIterable iter c.env x = pure x) : GS c vs led (exec (.For t iter body [] pos) c.env) Ks := fun s₀ s A =>
  For_turns A.F (h.th A fun v l s1 A1 h1 => h1 s₀ s1 A1) q PassesOwn.never
theorem l_pairs {x y : Str} {px py tp : Pos} {k : Nat} {body : List Stmt} {l : Addr} {ws : List Value} {nn : Nat} (J : Nat → List (Option Value) → Led → Prop) (hx : f.sc.names.lookup x = some .local) (hy : f.sc.names.lookup y = some .local) (hl : (l, listOf ws.toArray nn) ∈ led) (hj : J 0 vs led)
    (turn : ∀ j v vs1 nx, ws[j]? = some v → J j vs1 nx → (l, listOf ws.toArray nn) ∈ nx → ∃ T v₁ v₂ mT, v = .ref T ∧ (T, ({ cls := .type "tuple", data := .seq [v₁, v₂].toArray mT } : Obj)) ∈ nx ∧
      ∀ own, OwnOff own (nx.map (·.1)) → ∃ vs2 vs3, Put f.ns vs1 x v₁ vs2 ∧ Put f.ns vs2 y v₂ vs3 ∧ GS c vs3 (nx ++ own) (execs body c.env) (turnK Ks (J (j + 1)) (l, listOf ws.toArray nn) own))
    (done : ∀ vs1 nx, J ws.length vs1 nx → Ks .next vs1 nx) : GTt c vs led (.ref l) (.Tuple [.Name x px, .Name y py] k tp) body Ks := fun s₀ s1 A1 => by
  have hp : (c.env.scope.kind == .class || (c.env.scope.kind == .module && c.env.locals != c.env.globals)) = false := by show (f.sc.kind == .class || (f.sc.kind == .module && c.L != mainGlobals)) = false; rw [c.ok.kind]; rfl
  refine kdp_iter (fun j m nx => ∃ vs1, m = look f.ns vs1 ∧ J j vs1 nx) rfl hx hy hp hl A1.F A1.N ⟨_, rfl, hj⟩ ?_ ?_
  · rintro j v m₁ nx hv ⟨vs1, rfl, hj1⟩ hm
    obtain ⟨T, v₁, v₂, mT, rfl, hT, hb⟩ := turn j v vs1 nx hv hj1 hm
    refine ⟨T, v₁, v₂, mT, rfl, hT, ?_⟩
    intro h' tk own hoff F1 N1
    obtain ⟨vs2, vs3, hp1, hp2, hb⟩ := hb own hoff
    have e : (fun z => if z = y then some v₂ else if z = x then some v₁ else look f.ns vs1 z) = look f.ns vs3 := funext fun z => by rw [hp2.look c.ok.nodup, hp1.look c.ok.nodup]
    rw [e] at F1
    refine hb.th (s₀ := s₀) ⟨F1, N1, A1.g, A1.d, A1.o⟩ fun fl vs3 l3 s3 A3 h3 => ?_
    have fin : (∃ nx', (∀ p ∈ nx', p ∈ l3) ∧ (∀ p ∈ own, p ∈ l3) ∧ OwnOff own (nx'.map (·.1)) ∧ (l, listOf ws.toArray nn) ∈ nx' ∧ J (j + 1) vs3 nx') → InvEndG c.h₀ c.env.locals (fun m' nx => (l, listOf ws.toArray nn) ∈ nx ∧ ∃ vs1, m' = look f.ns vs1 ∧ J (j + 1) vs1 nx) own { s1 with heap := h', toks := tk } s3 := by
      rintro ⟨nx', a, b, d, e, g⟩
      exact ⟨s3.heap, s3.toks, _, l3, nx', Heap.sh (A3.g.trans A1.g.symm) (A3.d.trans A1.d.symm) (A3.o.trans A1.o.symm), A3.F, A3.N, a, b, d, e, _, rfl, g⟩
    cases fl with
    | ret v => exact ⟨_, _, A3, h3⟩
    | brk => exact ⟨_, _, A3, h3⟩
    | next => exact fin h3
    | cont => exact fin h3
  · rintro m₁ nx h' tk ⟨vs1, rfl, hj1⟩ F1 N1
    exact ⟨_, _, ⟨F1, N1, A1.g, A1.d, A1.o⟩, done _ _ hj1⟩
theorem l_tupl {x : Str} {px : Pos} {body : List Stmt} {l : Addr} {ws : List Value} {nn : Nat} (J : Nat → List (Option Value) → Led → Prop) (hx : f.sc.names.lookup x = some .local) (hl : (l, ({ cls := .type "tuple", data := .seq ws.toArray nn } : Obj)) ∈ led) (hj : J 0 vs led) (keep : ∀ j vs1 nx, J j vs1 nx → (l, ({ cls := .type "tuple", data := .seq ws.toArray nn } : Obj)) ∈ nx)
    (turn : ∀ j v vs1 nx own, ws[j]? = some v → OwnOff own (nx.map (·.1)) → J j vs1 nx → ∃ vs2, Put f.ns vs1 x v vs2 ∧ GS c vs2 (nx ++ own) (execs body c.env) (turnR Ks (J (j + 1)) own))
    (done : ∀ vs1 nx, J ws.length vs1 nx → Ks .next vs1 nx) : GTt c vs led (.ref l) (.Name x px) body Ks := fun s₀ s1 A1 => by
  have hp : (c.env.scope.kind == .class || (c.env.scope.kind == .module && c.env.locals != c.env.globals)) = false := by show (f.sc.kind == .class || (f.sc.kind == .module && c.L != mainGlobals)) = false; rw [c.ok.kind]; rfl
  refine kdt_iter (fun j m nx => ∃ vs1, m = look f.ns vs1 ∧ J j vs1 nx) rfl hx hp hl A1.F A1.N ⟨_, rfl, hj⟩ ?_ ?_ ?_
  · rintro j m nx ⟨vs1, rfl, h⟩
    exact keep _ _ _ h
  · rintro j v m₁ nx h' tk own hv hoff ⟨vs1, rfl, hj1⟩ F1 N1
    obtain ⟨vs2, hp1, hb⟩ := turn j v vs1 nx own hv hoff hj1
    have e : (fun y => if y = x then some v else look f.ns vs1 y) = look f.ns vs2 := funext fun y => (hp1.look c.ok.nodup y).symm
    rw [e] at F1
    refine hb.th (s₀ := s₀) ⟨F1, N1, A1.g, A1.d, A1.o⟩ fun fl vs3 l3 s3 A3 h3 => ?_
    have fin : (∃ nx', (∀ p ∈ nx', p ∈ l3) ∧ (∀ p ∈ own, p ∈ l3) ∧ OwnOff own (nx'.map (·.1)) ∧ J (j + 1) vs3 nx') → InvEndG c.h₀ c.env.locals (fun m' nx => ∃ vs1, m' = look f.ns vs1 ∧ J (j + 1) vs1 nx) own { s1 with heap := h', toks := tk } s3 := by
      rintro ⟨nx', a, b, d, g⟩
      exact ⟨s3.heap, s3.toks, _, l3, nx', Heap.sh (A3.g.trans A1.g.symm) (A3.d.trans A1.d.symm) (A3.o.trans A1.o.symm), A3.F, A3.N, a, b, d, _, rfl, g⟩
    cases fl with
    | ret v => exact ⟨_, _, A3, h3⟩
    | brk => exact ⟨_, _, A3, h3⟩
    | next => exact fin h3
    | cont => exact fin h3
  · rintro m₁ nx h' tk ⟨vs1, rfl, hj1⟩ F1 N1
    exact ⟨_, _, ⟨F1, N1, A1.g, A1.d, A1.o⟩, done _ _ hj1⟩
theorem s_threeW {x y z : Str} {px py pz tp : Pos} {k : Nat} {e : Expr} (h : GE c vs led (eval e c.env) fun v l => ∃ T a b d vs1 vs2 vs3, v = .ref T ∧ (T, tupO [a, b, d]) ∈ l ∧ Put f.ns vs z d vs1 ∧ Put f.ns vs1 y b vs2 ∧ Put f.ns vs2 x a vs3 ∧ Ks .next vs3 l)
    (hs : swapsWithSole [.Tuple [.Name x px, .Name y py, .Name z pz] k tp] e pos.line c.env = pure false) (hw : swappedStores [.Tuple [.Name x px, .Name y py, .Name z pz] k tp] e c.env = pure (some [x, y, z])) : GS c vs led (exec (.Assign [.Tuple [.Name x px, .Name y py, .Name z pz] k tp] e pos) c.env) Ks := fun s₀ s A =>
  Assign_Tuple_swapped (h.th A fun v l s1 A1 ⟨T, a, b, d, vs1, vs2, vs3, hv, m, p, q, r, hk⟩ => by
    subst hv
    refine unpackItemsN_ (items := #[a, b, d]) A1.F A1.N ⟨_, (A1.N _ m).1, rfl, 0, rfl⟩ rfl rfl fun h' F' N' => ?_
    exact assignInOrder_cons (bindName_ (st_name (s₀ := s₀) ⟨F', N', A1.g, A1.d, A1.o⟩ p fun s2 A2 => assignInOrder_cons (bindName_ (st_name A2 q fun s3 A3 => assignInOrder_cons (bindName_ (st_name A3 r fun s4 A4 => assignInOrder_nil ⟨_, _, A4, hk⟩))))))) hs hw
/-- append to a list anywhere -/
theorem n_append {l : Addr} {ws : List Value} {m : Nat} {v : Value} {X Y : Led} (hm : Mid (l, listOf ws.toArray m) Y X) (hz : ws.length ≤ 1000000) (h : K .none ((l, listOf (ws ++ [v]).toArray (m + 1)) :: X)) : GE c vs Y (call (.builtin "list.append") [.ref l, v]) K :=
  GE.sub hm.sub fun _ _ A => app_led A.F A.N (.head hm.sep) hz fun _ F' N' => ⟨_, A.to F' N', h⟩
end
theorem offC {Z Y add : Led} {D : Addr} {o : Obj} (h : Off Z add) (l : ∀ p ∈ Y, p.1 < D) (s : ∀ p ∈ Z, p ∈ Y) : Off Z ((D, o) :: add) := Off.cons (fun q hq => Nat.ne_of_lt (l q (s q hq))) h
theorem offW {Z Y add X : Led} (h : Off Z add) (k : Off Y X) (s : ∀ p ∈ Z, p ∈ Y) : Off Z (X ++ add) := fun q hq p hp => (List.mem_append.mp hp).elim (k q (s q hq) p) (h q hq p)
/-- how the three lists of the right reading stand -/
inductive RQ (cl0 bl rl : Addr) (led B : Led) (O A : List (Str × Str)) (R : List Dat) (kO kA kR : Nat) (tail vs : List (Option Value)) (nx : Led) : Prop
  | mk (ol gl : Addr) (ovs gvs rvs : List Value) (on gn m : Nat) (A1 : Led) (h0 : vs = some (.ref cl0) :: some (.ref bl) :: some (.ref ol) :: some (.ref gl) :: some (.ref rl) :: tail) (h1 : nx = (rl, listOf rvs.toArray m) :: (A1 ++ B)) (h2 : Off B A1) (h3 : (∀ p ∈ A1 ++ B, p.1 ≠ rl)) (h4 : (ol, listOf ovs.toArray on) ∈ A1) (h5 : (gl, listOf gvs.toArray gn) ∈ A1) (h6 : DatAll (A1 ++ led) ovs (O.map tokD)) (h7 : DatAll (A1 ++ led) gvs (A.map tokD)) (h8 : DatAll (A1 ++ led) rvs R) (h9 : ovs.length ≤ kO) (h10 : gvs.length ≤ kA) (h11 : rvs.length ≤ kR) : RQ cl0 bl rl led B O A R kO kA kR tail vs nx
theorem RQ.to {cl0 bl rl : Addr} {led B : Led} {O A O' A' : List (Str × Str)} {R R' : List Dat} {kO kA kR kO' kA' kR' : Nat} {tail vs : List (Option Value)} {nx : Led} (h : RQ cl0 bl rl led B O A R kO kA kR tail vs nx) (e1 : O = O') (e2 : A = A') (e3 : R = R') (l1 : kO ≤ kO') (l2 : kA ≤ kA') (l3 : kR ≤ kR') : RQ cl0 bl rl led B O' A' R' kO' kA' kR' tail vs nx := by
  subst e1; subst e2; subst e3
  obtain ⟨ol, gl, ovs, gvs, rvs, on, gn, m, A1, a, b, d, e, f, g, h, i, j, k, l, m⟩ := h
  exact ⟨ol, gl, ovs, gvs, rvs, on, gn, _, A1, a, b, d, e, f, g, h, i, j, Nat.le_trans k l1, Nat.le_trans l l2, Nat.le_trans m l3⟩
/-- more was made -/
theorem off_more {rl : Addr} {L : Obj} {A1 B X : Led} (h1 : Off B A1) (h2 : ∀ p ∈ A1 ++ B, p.1 ≠ rl) (h3 : Off ((rl, L) :: (A1 ++ B)) X) : Off B (X ++ A1) ∧ ∀ p ∈ (X ++ A1) ++ B, p.1 ≠ rl := by
  refine ⟨offW h1 h3 fun p hp => .tail _ (List.mem_append_right _ hp), fun p hp => ?_⟩
  rw [List.append_assoc] at hp
  exact (List.mem_append.mp hp).elim (fun hp => (h3 _ (.head _) p hp).symm) (h2 p)
/-- a turn begins: what is set aside counts as the base -/
theorem own_in {rl : Addr} {L : Obj} {A1 B own : Led} (h1 : Off B A1) (h2 : ∀ p ∈ A1 ++ B, p.1 ≠ rl) (k : OwnOff own (((rl, L) :: (A1 ++ B)).map (·.1))) : Off (B ++ own) A1 ∧ ∀ p ∈ A1 ++ (B ++ own), p.1 ≠ rl := by
  refine ⟨fun q hq p hp => (List.mem_append.mp hq).elim (fun hq => h1 q hq p hp) fun hq => k q hq p.1 (List.mem_map.mpr ⟨p, .tail _ (List.mem_append_left _ hp), rfl⟩), ?_⟩
  rw [← List.append_assoc]
  exact List.forall_mem_append.mpr ⟨h2, fun p hp => k p hp rl (.head _)⟩
/-- a turn ends -/
theorem own_out {cl0 bl rl : Addr} {led B own A0 : Led} {L : Obj} {O A : List (Str × Str)} {R : List Dat} {kO kA kR : Nat} {tail vs : List (Option Value)} {nx : Led} (h : RQ cl0 bl rl led (B ++ own) O A R kO kA kR tail vs nx) (k : OwnOff own (((rl, L) :: (A0 ++ B)).map (·.1))) :
    ∃ nx', RQ cl0 bl rl led B O A R kO kA kR tail vs nx' ∧ (∀ p ∈ nx', p ∈ nx) ∧ (∀ p ∈ own, p ∈ nx) ∧ OwnOff own (nx'.map (·.1)) ∧ ∀ p ∈ B, p ∈ nx' := by
  obtain ⟨ol, gl, ovs, gvs, rvs, on, gn, m, A1, a, rfl, d, e, f, g, h, i, j, kk, l, mm⟩ := h
  refine ⟨(rl, listOf rvs.toArray m) :: (A1 ++ B), ⟨ol, gl, ovs, gvs, rvs, on, gn, m, A1, a, rfl, d.sub fun p hp => List.mem_append_left _ hp, fun p hp => e p (by rw [← List.append_assoc]; exact List.mem_append_left _ hp), f, g, h, i, j, kk, l, mm⟩, fun p hp => ?_, fun p hp => .tail _ (List.mem_append_right _ (List.mem_append_right _ hp)), OwnOff.mk fun p hp q hq => ?_, fun p hp => .tail _ (List.mem_append_right _ hp)⟩
  · rcases List.mem_cons.mp hp with rfl | hp
    · exact .head _
    · exact .tail _ (by rw [← List.append_assoc]; exact List.mem_append_left _ hp)
  · rcases List.mem_cons.mp hq with rfl | hq
    · exact k p hp rl (.head _)
    · rcases List.mem_append.mp hq with hq | hq
      · exact d p (List.mem_append_right _ hp) q hq
      · exact k p hp q.1 (List.mem_map.mpr ⟨q, .tail _ (List.mem_append_right _ hq), rfl⟩)
end Mine
namespace Mine
open Ob
theorem cat4 {led : Led} {a b d e : List Value} {P o w u : List (Str × Str)} (h1 : DatAll led a (P.map tokD)) (h2 : DatAll led b (o.map tokD)) (h3 : DatAll led d (w.map tokD)) (h4 : DatAll led e (u.map tokD)) : DatAll led (a ++ b ++ d ++ e) ((P ++ (o ++ (w ++ u))).map tokD) := by
  rw [List.map_append, List.map_append, List.map_append, ← List.append_assoc, ← List.append_assoc]
  exact DatAll.append (DatAll.append (DatAll.append h1 h2) h3) h4
section
variable {W : Wd} {K : Value → Led → Prop} {led : Led}
set_option maxHeartbeats 4000000 in
theorem law_right_c {cl0 bl : Addr} {cvs bvs : List Value} {n1 n2 : Nat} {cts : List Cnt} {post : List (Str × Str)} (hm : (cl0, listOf cvs.toArray n1) ∈ led) (hdt : DatAll led cvs (cts.map cntD)) (hb : (bl, listOf bvs.toArray n2) ∈ led) (hp : DatAll led bvs (post.map tokD)) (hne : cts ≠ []) (h3 : cts.length ≤ 3)
    (ok : ∀ c ∈ cts, CntOk W.w c ∧ CntShort c ∧ c.2.length ≤ 3 ∧ ∀ s ∈ c.2, s.pcs.length ≤ 2) (hE : EndT W.w post) (hfit : Fit post) (hpl : post.length ≤ 10) (k : K (.bool true) led) :
    Calls W 12 593 [.ref cl0, .ref bl] led K := ent593 fun c => by
  have sF := sp_one "FOR" (by decide)
  walk_at "gs"
  refine s_threeW ?_ (by with_unfolding_all rfl) (by with_unfolding_all rfl)
  walk_at "gs"
  rename_i ol l1 gl l2 rl l3 T l4
  refine ⟨T, _, _, _, _, _, _, rfl, .head _, by walk_at "puts", by walk_at "puts", by walk_at "puts", ?_⟩
  have M := Mid.age (o := tupO [Value.ref ol, .ref gl, .ref rl]) l4 (Mid.hd (e := (rl, listOf ([] : List Value).toArray 0)) fun p hp => Nat.ne_of_lt (l3 p hp))
  walk_at "gs"
  refine GS.sub M.sub ?_
  refine s_forT ?_ (fun _ => by kernel_rfl)
  walk_at "gs"
  refine l_pairs (fun i vs nx => ∃ t6 t7 t8 t9 t10 t11 t12, RQ cl0 bl rl led led (cntsToks (cts.take i)) (cntsToks (againC (cts.take i))) (cntsRows (cts.take i)) (200 * i) (200 * i) (20 * i) [t6, t7, t8, t9, t10, t11, t12] vs nx) rfl rfl (.tail _ (.tail _ (.tail _ (.tail _ hm)))) ⟨_, _, _, _, _, _, _, ⟨ol, gl, [], [], [], 0, 0, 0, [(T, _), (gl, _), (ol, _)], rfl, rfl, Off.cons (fun q hq => Nat.ne_of_lt (l4 q (.tail _ (.tail _ (.tail _ hq))))) (Off.cons (fun q hq => Nat.ne_of_lt (l2 q (.tail _ hq))) (Off.cons (fun q hq => Nat.ne_of_lt (l1 q hq)) Off.nil)), M.sep, .tail _ (.tail _ (.head _)), .tail _ (.head _), .nil, .nil, .nil, Nat.le_refl _, Nat.le_refl _, Nat.le_refl _⟩⟩ ?_ ?_
  · clear M l1 l2 l3 l4
    rintro i v vs1 nx hv ⟨t6, t7, t8, t9, t10, t11, t12, ⟨ol1, gl1, ovs, gvs, rvs, on, gn, m, A1, rfl, rfl, oA, sA, mo, mg, dO, dA, dR, lO, lA, lR⟩⟩ hl1
    obtain ⟨⟨o, ss⟩, hc, dv⟩ := dat_at hdt hv
    obtain ⟨T1, xv, yv, nT, rfl, mT, dxv, dyv⟩ := pair_of dv
    obtain ⟨Ta, xa, ya, na, rfl, ma, dxa, dya⟩ := pair_of dxv
    obtain ⟨cx, xs, nxs, rfl, mxs, dxs⟩ := list_at dxa
    obtain ⟨sl, svs, ns, rfl, msl, dsl⟩ := list_at dyv
    have hok := ok _ (List.mem_of_getElem? hc)
    have hi : i < 3 := by have := (List.getElem?_eq_some_iff.mp hc).1; omega
    have hxl := op_len dxs
    refine ⟨T1, _, _, nT, rfl, .tail _ (List.mem_append_right _ mT), fun own hoff => ⟨_, _, by walk_at "puts", by walk_at "puts", ?_⟩⟩
    obtain ⟨oB, sB⟩ := own_in oA sA hoff
    refine GS.sub (led' := (rl, listOf rvs.toArray m) :: (A1 ++ (led ++ own))) (by simp only [List.cons_append, List.append_assoc]; walk_at "sub") ?_
    refine GS.hide fun K1 hK1 => ?_
    refine s_seq (fun vs' l => ∃ nx, (∀ p ∈ nx, p ∈ l) ∧ RQ cl0 bl rl led (led ++ own) (cntsToks (cts.take i) ++ (o.toks ++ [wd (Str.ofString "FOR")])) (cntsToks (againC (cts.take i))) (cntsRows (cts.take i)) (200 * i + 4) (200 * i) (20 * i) [some (.ref Ta), some (.ref sl), t8, t9, t10, t11, t12] vs' nx) ?_ ?_
    · refine GS.hide fun K9 hK9 => ?_
      walk_at "gs"
      refine o_tup (.tail _ (List.mem_append_right _ (List.mem_append_left _ ma))) (by decide) (by decide) rfl ?_ (by with_unfolding_all rfl) (by intro _; with_unfolding_all rfl)
      walk_at "gs"
      refine n_add (.tail _ (List.mem_append_left _ mo)) (.tail _ (List.mem_append_right _ (List.mem_append_left _ mxs))) (by omega) fun D1 q1 => ?_
      walk_at "gs"
      refine g_use (law_words_c (by decide) sF (by decide) (by decide) fun X vx fx dx => ?_) (by decide)
      obtain ⟨wl, wv, nw, rfl, mw, dw⟩ := list_at dx
      have lw : wv.length = 1 := dw.length
      walk_at "gs"
      refine n_add (List.mem_append_right _ (.head _)) (List.mem_append_left _ mw) (by rw [List.length_append]; omega) fun D2 q2 => ?_
      walk_at "gs"
      have hX : Off ((rl, listOf rvs.toArray m) :: (A1 ++ (led ++ own))) ((D2, listOf (ovs ++ xs ++ wv).toArray 0) :: (X ++ [(D1, listOf (ovs ++ xs).toArray 0)])) := offC (offW (offC Off.nil q1 fun _ h => h) fx fun _ h => .tail _ h) q2 fun p h => List.mem_append_right _ (.tail _ h)
      obtain ⟨oC, sC⟩ := off_more oB sB hX
      refine hK9 _ _ _ ⟨rfl, _, ?_, ⟨D2, gl1, ovs ++ xs ++ wv, gvs, rvs, 0, gn, m, _, rfl, rfl, oC, sC, .head _, List.mem_append_right _ mg, ?_, dA.mono ?_, dR.mono ?_, ?_, lA, lR⟩⟩
      · simp only [List.cons_append, List.append_assoc]
        walk_at "sub"
      · rw [List.map_append, List.map_append, ← List.append_assoc]
        exact DatAll.append (DatAll.append (dO.mono fun p h => by simp only [List.append_assoc]; exact List.mem_append_right _ h) (dxs.mono fun p h => List.mem_append_right _ h)) (dw.mono fun p h => by simp [h])
      · exact fun p h => by simp only [List.append_assoc]; exact List.mem_append_right _ h
      · exact fun p h => by simp only [List.append_assoc]; exact List.mem_append_right _ h
      · simp only [List.length_append]; omega
    · rintro vs' l ⟨nx0, hsub, r⟩
      refine GS.sub hsub ?_
      have r0 := r
      obtain ⟨ol2, gl2, ovs2, gvs2, rvs2, on2, gn2, m2, A2, rfl, rfl, -⟩ := r
      clear hsub oB sB oA sA mo mg dO dA dR lO lA lR
      refine s_cons (s_forT ?_ (fun _ => by kernel_rfl))
      walk_at "gs"
      refine l_pairs (fun j vs nx => ∃ t8 t9 t10 t11 t12, RQ cl0 bl rl led (led ++ own) (cntsToks (cts.take i) ++ (o.toks ++ [wd (Str.ofString "FOR")]) ++ srtsToks (ss.take j)) (cntsToks (againC (cts.take i)) ++ cntsToks (againS o (ss.take j))) (cntsRows (cts.take i) ++ srtsRows o.dat (ss.take j)) (200 * i + 4 + 40 * j) (200 * i + 60 * j) (20 * i + 2 * j) [some (.ref Ta), some (.ref sl), t8, t9, t10, t11, t12] vs nx)
        rfl rfl (.tail _ (List.mem_append_right _ (List.mem_append_left _ msl))) ⟨_, _, _, _, _, r0.to (by simp [srtsToks]) (by simp [againS, cntsToks]) (by simp [srtsRows]) (by omega) (by omega) (by omega)⟩ ?_ ?_
      · clear r0
        rintro j v2 vs2 nx2 hv2 ⟨t8, t9, t10, t11, t12, ⟨ol3, gl3, ovs3, gvs3, rvs3, on3, gn3, m3, A3, rfl, rfl, oA, sA, mo, mg, dO, dA, dR, lO, lA, lR⟩⟩ hl2
        obtain ⟨s, hs, dv2⟩ := dat_at dsl hv2
        obtain ⟨T2, xv2, yv2, nT2, rfl, mT2, dxv2, dyv2⟩ := pair_of dv2
        cases dxv2
        rename_i tw
        obtain ⟨pl, pvs, np, rfl, mpl, dpl⟩ := list_at dyv2
        have hos := hok.1.2.2.2 s (List.mem_of_getElem? hs)
        have hps := hok.2.2.2 s (List.mem_of_getElem? hs)
        have hj : j < 3 := by have := (List.getElem?_eq_some_iff.mp hs).1; have := hok.2.2.1; omega
        obtain ⟨kw1, kw2, kw3, kw4, kw5, kw6⟩ := kw_facts s
        refine ⟨T2, _, _, nT2, rfl, .tail _ (List.mem_append_right _ (List.mem_append_left _ mT2)), fun own2 hoff2 => ⟨_, _, by walk_at "puts", by walk_at "puts", ?_⟩⟩
        obtain ⟨oB, sB⟩ := own_in oA sA hoff2
        refine GS.sub (led' := (rl, listOf rvs3.toArray m3) :: (A3 ++ ((led ++ own) ++ own2))) (by simp only [List.cons_append, List.append_assoc]; walk_at "sub") ?_
        refine GS.hide fun K2 hK2 => ?_
        refine s_seq (fun vs' l => ∃ nx, (∀ p ∈ nx, p ∈ l) ∧ RQ cl0 bl rl led ((led ++ own) ++ own2) (cntsToks (cts.take i) ++ (o.toks ++ [wd (Str.ofString "FOR")]) ++ srtsToks (ss.take j) ++ [wd (Str.ofString s.kw)]) (cntsToks (againC (cts.take i)) ++ cntsToks (againS o (ss.take j))) (cntsRows (cts.take i) ++ srtsRows o.dat (ss.take j)) (200 * i + 4 + 40 * j + 1) (200 * i + 60 * j) (20 * i + 2 * j) [some (.ref Ta), some (.ref sl), some (.str (Str.ofString s.kw) tw), some (.ref pl), t10, t11, t12] vs' nx) ?_ ?_
        · refine GS.hide fun K8 hK8 => ?_
          walk_at "gs"
          refine g_use (law_words_c kw1 kw2 (by omega) (show 1 ≤ 1000 by decide) fun X vx fx dx => ?_) (by decide)
          obtain ⟨wl, wv, nw, rfl, mw, dw⟩ := list_at dx
          have lw : wv.length = 1 := dw.length
          walk_at "gs"
          refine n_add (List.mem_append_right _ (.tail _ (List.mem_append_left _ mo))) (List.mem_append_left _ mw) (by omega) fun D2 q2 => ?_
          walk_at "gs"
          obtain ⟨oC, sC⟩ := off_more oB sB (offC (o := listOf (ovs3 ++ wv).toArray 0) fx q2 fun p h => List.mem_append_right _ h)
          refine hK8 _ _ _ ⟨rfl, _, ?_, ⟨D2, gl3, ovs3 ++ wv, gvs3, rvs3, 0, gn3, m3, _, rfl, rfl, oC, sC, .head _, List.mem_append_right _ mg, ?_, dA.mono ?_, dR.mono ?_, ?_, lA, lR⟩⟩
          · simp only [List.cons_append, List.append_assoc]
            walk_at "sub"
          · rw [List.map_append]
            exact DatAll.append (dO.mono fun p h => by simp only [List.append_assoc]; exact List.mem_append_right _ h) (dw.mono fun p h => by simp [h])
          · exact fun p h => by simp only [List.append_assoc]; exact List.mem_append_right _ h
          · exact fun p h => by simp only [List.append_assoc]; exact List.mem_append_right _ h
          · simp only [List.length_append]; omega
        · rintro vs' l ⟨nx0, hsub, r⟩
          refine GS.sub hsub ?_
          have r0 := r
          obtain ⟨ol4, gl4, ovs4, gvs4, rvs4, on4, gn4, m4, A4, rfl, rfl, -⟩ := r
          clear hsub oB sB oA sA mo mg dO dA dR lO lA lR
          refine s_cons (s_forT ?_ (fun _ => by kernel_rfl))
          walk_at "gs"
          refine l_pairs (fun k vs nx => ∃ t10 t11 t12, RQ cl0 bl rl led ((led ++ own) ++ own2) (cntsToks (cts.take i) ++ (o.toks ++ [wd (Str.ofString "FOR")]) ++ srtsToks (ss.take j) ++ [wd (Str.ofString s.kw)] ++ (s.pcs.take k).flatMap (·.1)) (cntsToks (againC (cts.take i)) ++ cntsToks (againS o (ss.take j)) ++ cntsToks ((s.pcs.take k).map (again1 o)))
              (cntsRows (cts.take i) ++ srtsRows o.dat (ss.take j) ++ (s.pcs.take k).map (fun q => q.2.row1 o.dat)) (200 * i + 4 + 40 * j + 1 + 13 * k) (200 * i + 60 * j + 20 * k) (20 * i + 2 * j + k) [some (.ref Ta), some (.ref sl), some (.str (Str.ofString s.kw) tw), some (.ref pl), t10, t11, t12] vs nx)
            rfl rfl (.tail _ (List.mem_append_right _ (List.mem_append_left _ (List.mem_append_left _ mpl)))) ⟨_, _, _, r0.to (by simp) (by simp [cntsToks]) (by simp) (by omega) (by omega) (by omega)⟩ ?_ ?_
          · clear r0
            rintro kk v3 vs3 nx3 hv3 ⟨t10, t11, t12, ⟨ol5, gl5, ovs5, gvs5, rvs5, on5, gn5, m5, A5, rfl, rfl, oA, sA, mo, mg, dO, dA, dR, lO, lA, lR⟩⟩ hl3
            obtain ⟨q, hq, dv3⟩ := dat_at dpl hv3
            obtain ⟨T3, xv3, row, nT3, rfl, mT3, dxv3, dyv3⟩ := pair_of dv3
            obtain ⟨tl, tvs, tn, rfl, mtl, dtl⟩ := list_at dxv3
            have hql := piece_len hos (List.mem_of_getElem? hq)
            have htl : tvs.length ≤ 13 := by rw [dtl.length, List.length_map]; exact hql
            have hk : kk < 2 := by have := (List.getElem?_eq_some_iff.mp hq).1; omega
            refine ⟨T3, _, _, nT3, rfl, .tail _ (List.mem_append_right _ (List.mem_append_left _ (List.mem_append_left _ mT3))), fun own3 hoff3 => ⟨_, _, by walk_at "puts", by walk_at "puts", ?_⟩⟩
            obtain ⟨oB, sB⟩ := own_in oA sA hoff3
            refine GS.sub (led' := (rl, listOf rvs5.toArray m5) :: (A5 ++ (((led ++ own) ++ own2) ++ own3))) (by simp only [List.cons_append, List.append_assoc]; walk_at "sub") ?_
            refine GS.hide fun K3 hK3 => ?_
            have inl : ∀ p ∈ led, p ∈ ((led ++ own) ++ own2) ++ own3 := fun p h => by simp [h]
            generalize hB3 : ((led ++ own) ++ own2) ++ own3 = B3 at oB sB inl
            walk_at "gs"
            refine n_add (.tail _ (List.mem_append_left _ mo)) (.tail _ (List.mem_append_right _ (inl _ mtl))) (by omega) fun D0 q0 => ?_
            walk_at "gs"
            refine o_tup (.tail _ (.tail _ (List.mem_append_right _ (inl _ ma)))) (by decide) (by decide) rfl ?_ (by with_unfolding_all rfl) (by intro _; with_unfolding_all rfl)
            walk_at "gs"
            refine n_add (.tail _ (.tail _ (List.mem_append_left _ mg))) (.tail _ (.tail _ (List.mem_append_right _ (inl _ mxs)))) (by omega) fun D1 q1 => ?_
            walk_at "gs"
            refine g_use (law_words_c kw3 kw4 kw6 (show 2 ≤ 1000 by decide) fun X vx fx dx => ?_) (by decide)
            obtain ⟨wl, wv, nw, rfl, mw, dw⟩ := list_at dx
            have lw : wv.length = 2 := dw.length
            walk_at "gs"
            refine n_add (List.mem_append_right _ (.head _)) (List.mem_append_left _ mw) (by rw [List.length_append]; omega) fun D2 q2 => ?_
            walk_at "gs"
            refine n_add (.head _) (.tail _ (List.mem_append_right _ (.tail _ (.tail _ (.tail _ (List.mem_append_right _ (inl _ mtl))))))) (by rw [List.length_append, List.length_append]; omega) fun D3 q3 => ?_
            walk_at "gs"
            refine m_append (.tail _ (.tail _ (List.mem_append_right _ (.tail _ (.tail _ (.head _)))))) ?_
            walk_at "gs"
            have M := Mid.age (o := listOf (gvs5 ++ xs ++ wv ++ tvs).toArray 0) q3 (Mid.age q2 (Mid.app (fun p hp => (fx (rl, _) (.tail _ (.tail _ (.head _))) p hp).symm) (Mid.age q1 (Mid.age q0 (Mid.hd (e := (rl, listOf rvs5.toArray m5)) sB)))))
            refine n_append M (by omega) ?_
            have hX : Off ((rl, listOf rvs5.toArray m5) :: (A5 ++ B3)) ((D3, listOf (gvs5 ++ xs ++ wv ++ tvs).toArray 0) :: (D2, listOf (gvs5 ++ xs ++ wv).toArray 0) :: (X ++ [(D1, listOf (gvs5 ++ xs).toArray 0), (D0, listOf (ovs5 ++ tvs).toArray 0)])) :=
              offC (offC (offW (offC (offC Off.nil q0 fun _ h => h) q1 fun _ h => .tail _ h) fx fun _ h => .tail _ (.tail _ h)) q2 fun _ h => List.mem_append_right _ (.tail _ (.tail _ h))) q3 fun _ h => .tail _ (List.mem_append_right _ (.tail _ (.tail _ h)))
            obtain ⟨oC, sC⟩ := off_more oB sB hX
            subst hB3
            have hE6 := piece_end (o := o) hq (X := cntsToks (cts.take i) ++ (o.toks ++ [wd (Str.ofString "FOR")]) ++ srtsToks (ss.take j) ++ [wd (Str.ofString s.kw)]) (Y := cntsToks (againC (cts.take i)) ++ cntsToks (againS o (ss.take j))) (Z := cntsRows (cts.take i) ++ srtsRows o.dat (ss.take j)) (a := 200 * i + 4 + 40 * j + 1) (b := 200 * i + 60 * j) (c := 20 * i + 2 * j)
            walk_at "gs"
            have up : ∀ p ∈ A5 ++ led, p ∈ (((D3, listOf (gvs5 ++ xs ++ wv ++ tvs).toArray 0) :: (D2, listOf (gvs5 ++ xs ++ wv).toArray 0) :: (X ++ [(D1, listOf (gvs5 ++ xs).toArray 0), (D0, listOf (ovs5 ++ tvs).toArray 0)])) ++ A5) ++ led := fun p h => by rw [List.append_assoc]; exact List.mem_append_right _ h
            have upl : ∀ p ∈ led, p ∈ (((D3, listOf (gvs5 ++ xs ++ wv ++ tvs).toArray 0) :: (D2, listOf (gvs5 ++ xs ++ wv).toArray 0) :: (X ++ [(D1, listOf (gvs5 ++ xs).toArray 0), (D0, listOf (ovs5 ++ tvs).toArray 0)])) ++ A5) ++ led := fun p h => List.mem_append_right _ h
            have upx : ∀ p ∈ X, p ∈ (((D3, listOf (gvs5 ++ xs ++ wv ++ tvs).toArray 0) :: (D2, listOf (gvs5 ++ xs ++ wv).toArray 0) :: (X ++ [(D1, listOf (gvs5 ++ xs).toArray 0), (D0, listOf (ovs5 ++ tvs).toArray 0)])) ++ A5) ++ led := fun p h => List.mem_append_left _ (List.mem_append_left _ (.tail _ (.tail _ (List.mem_append_left _ h))))
            have r : RQ cl0 bl rl led (((led ++ own) ++ own2) ++ own3) (cntsToks (cts.take i) ++ (o.toks ++ [wd (Str.ofString "FOR")]) ++ srtsToks (ss.take j) ++ [wd (Str.ofString s.kw)] ++ (s.pcs.take kk).flatMap (·.1) ++ q.1) (cntsToks (againC (cts.take i)) ++ cntsToks (againS o (ss.take j)) ++ cntsToks ((s.pcs.take kk).map (again1 o)) ++ (o.toks ++ ([wd (Str.ofString "FOR"), wd (Str.ofString s.kw)] ++ q.1)))
                (cntsRows (cts.take i) ++ srtsRows o.dat (ss.take j) ++ (s.pcs.take kk).map (fun q => q.2.row1 o.dat) ++ [q.2.row1 o.dat]) (200 * i + 4 + 40 * j + 1 + 13 * kk + 13) (200 * i + 60 * j + 20 * kk + 20) (20 * i + 2 * j + kk + 1) [some (.ref Ta), some (.ref sl), some (.str (Str.ofString s.kw) tw), some (.ref pl), some (.ref tl), some row, t12]
                [some (.ref cl0), some (.ref bl), some (.ref D0), some (.ref D3), some (.ref rl), some (.ref Ta), some (.ref sl), some (.str (Str.ofString s.kw) tw), some (.ref pl), some (.ref tl), some row, t12]
                ((rl, listOf (rvs5 ++ [row]).toArray (m5 + 1)) :: ((((D3, listOf (gvs5 ++ xs ++ wv ++ tvs).toArray 0) :: (D2, listOf (gvs5 ++ xs ++ wv).toArray 0) :: (X ++ [(D1, listOf (gvs5 ++ xs).toArray 0), (D0, listOf (ovs5 ++ tvs).toArray 0)])) ++ A5) ++ (((led ++ own) ++ own2) ++ own3))) := by
              refine ⟨D0, D3, ovs5 ++ tvs, gvs5 ++ xs ++ wv ++ tvs, rvs5 ++ [row], 0, 0, m5 + 1, _, rfl, rfl, oC, sC, List.mem_append_left _ (.tail _ (.tail _ (List.mem_append_right _ (.tail _ (.head _))))), .head _, ?_, ?_, ?_, ?_, ?_, ?_⟩
              · rw [List.map_append]
                exact DatAll.append (dO.mono up) (dtl.mono upl)
              · exact cat4 (dA.mono up) (dxs.mono upl) (dw.mono upx) (dtl.mono upl)
              · exact DatAll.append (dR.mono up) (DatAll.one (dyv3.mono upl))
              · rw [List.length_append]; omega
              · rw [List.length_append, List.length_append, List.length_append]; omega
              · rw [List.length_append]; exact Nat.succ_le_succ lR
            obtain ⟨nx', r', e1, e2, e3, e4⟩ := own_out r hoff3
            have sub : ∀ p ∈ (rl, listOf (rvs5 ++ [row]).toArray (m5 + 1)) :: ((((D3, listOf (gvs5 ++ xs ++ wv ++ tvs).toArray 0) :: (D2, listOf (gvs5 ++ xs ++ wv).toArray 0) :: (X ++ [(D1, listOf (gvs5 ++ xs).toArray 0), (D0, listOf (ovs5 ++ tvs).toArray 0)])) ++ A5) ++ (((led ++ own) ++ own2) ++ own3)), p ∈ (rl, listOf (rvs5 ++ [row]).toArray (m5 + 1)) :: (D3, listOf (gvs5 ++ xs ++ wv ++ tvs).toArray 0) :: (D2, listOf (gvs5 ++ xs ++ wv).toArray 0) :: (X ++ (D1, listOf (gvs5 ++ xs).toArray 0) :: (D0, listOf (ovs5 ++ tvs).toArray 0) :: (A5 ++ (((led ++ own) ++ own2) ++ own3))) := fun p hp => by
              generalize ((led ++ own) ++ own2) ++ own3 = B3 at hp ⊢
              simp only [List.mem_cons, List.mem_append, List.not_mem_nil, or_false] at hp ⊢
              grind
            exact hK3 _ _ _ (t_end (fun p hp => sub p (e1 p hp)) (fun p hp => sub p (e2 p hp)) e3 (e4 _ (List.mem_append_left _ (List.mem_append_left _ mpl))) ⟨_, _, _, r'.to hE6.1 hE6.2.1 hE6.2.2.1 hE6.2.2.2.1 hE6.2.2.2.2.1 hE6.2.2.2.2.2⟩)
          · rintro vs3 nx3 ⟨t10, t11, t12, r⟩
            have hE6 := in_end (o := o) hs (by rw [dpl.length, List.length_map]) (by rw [dpl.length, List.length_map]; exact hps) (n := pvs.length) (X := cntsToks (cts.take i) ++ (o.toks ++ [wd (Str.ofString "FOR")])) (Y := cntsToks (againC (cts.take i))) (Z := cntsRows (cts.take i)) (a := 200 * i + 4) (b := 200 * i) (c := 20 * i)
            obtain ⟨nx', r', e1, e2, e3, e4⟩ := own_out r hoff2
            walk_at "gs"
            exact hK2 _ _ _ (t_end e1 e2 e3 (e4 _ (List.mem_append_left _ msl)) ⟨_, _, _, _, _, r'.to hE6.1 hE6.2.1 hE6.2.2.1 hE6.2.2.2.1 hE6.2.2.2.2.1 hE6.2.2.2.2.2⟩)
      · rintro vs2 nx2 ⟨t8, t9, t10, t11, t12, r⟩
        have hE6 := mid_end hc (by rw [dsl.length, List.length_map]) (by rw [dsl.length, List.length_map]; exact hok.2.2.1) (n := svs.length)
        obtain ⟨nx', r', e1, e2, e3, e4⟩ := own_out r hoff
        walk_at "gs"
        exact hK1 _ _ _ (t_end e1 e2 e3 (e4 _ hm) ⟨_, _, _, _, _, _, _, r'.to hE6.1 hE6.2.1 hE6.2.2.1 hE6.2.2.2.1 hE6.2.2.2.2.1 hE6.2.2.2.2.2⟩)
  · rintro vs1 nx ⟨t6, t7, t8, t9, t10, t11, t12, ⟨ol, gl, ovs, gvs, rvs, on, gn, m, A1, rfl, rfl, oA, sA, mo, mg, dO, dA, dR, lO, lA, lR⟩⟩
    have hcl : cvs.length = cts.length := by rw [hdt.length, List.length_map]
    have ht : cts.take cvs.length = cts := List.take_of_length_le (by omega)
    rw [ht] at dO dA dR
    have hdr : depDs (cntsRows cts) < 7 := dep_rows cts
    have lP : bvs.length ≤ 10 := by rw [hp.length, List.length_map]; exact hpl
    refine s_next ?_
    refine s_cons ?_
    refine s_forT ?_ (fun _ => by kernel_rfl)
    walk_at "gs"
    rename_i D9 l9
    refine l_tupl (fun _ vs nx => nx = (D9, tupO [Value.ref ol, .ref gl]) :: (rl, listOf rvs.toArray m) :: (A1 ++ led) ∧ ∃ t6 t7 t8 t9 t10 t11 t12, vs = [some (.ref cl0), some (.ref bl), some (.ref ol), some (.ref gl), some (.ref rl), t6, t7, t8, t9, t10, t11, t12]) rfl (.head _) ⟨rfl, _, _, _, _, _, _, _, rfl⟩ (fun j vs1 nx h => by rw [h.1]; exact .head _) ?_ ?_
    · rintro j v vs1 nx own hv hoff ⟨rfl, t6, t7, t8, t9, t10, t11, t12, rfl⟩
      obtain ⟨tk, tws, tn, l1, rfl, m1, d1, b1, e1, e2, e3, e4⟩ : ∃ (a : Addr) (ws : List Value) (n : Nat) (l1 : List Cnt), v = .ref a ∧ (a, listOf ws.toArray n) ∈ A1 ∧ DatAll (A1 ++ led) ws ((cntsToks l1).map tokD) ∧ ws.length ≤ 1000 ∧ l1 ≠ [] ∧ (∀ c ∈ l1, CntOk W.w c) ∧ cntsRows l1 = cntsRows cts ∧ Fit (cntsToks l1) := by
        match j, hv with
        | 0, hv => cases hv; exact ⟨ol, ovs, on, cts, rfl, mo, dO, by omega, hne, fun c hc => (ok c hc).1, rfl, cnts_fit fun c hc => (ok c hc).2.1⟩
        | 1, hv => cases hv; exact ⟨gl, gvs, gn, againC cts, rfl, mg, dA, by omega, againC_ne hne fun c hc => (ok c hc).1, againC_ok fun c hc => (ok c hc).1, againC_rows cts, cnts_fit (againC_short fun c hc => (ok c hc).2.1)⟩
        | j + 2, hv => cases hv
      refine ⟨_, by walk_at "puts", ?_⟩
      refine GS.hide fun K4 hK4 => ?_
      have inB : ∀ p ∈ A1 ++ led, p ∈ ((D9, tupO [Value.ref ol, .ref gl]) :: (rl, listOf rvs.toArray m) :: (A1 ++ led)) ++ own := fun p h => List.mem_append_left _ (.tail _ (.tail _ h))
      have inR : (rl, listOf rvs.toArray m) ∈ ((D9, tupO [Value.ref ol, .ref gl]) :: (rl, listOf rvs.toArray m) :: (A1 ++ led)) ++ own := List.mem_append_left _ (.tail _ (.head _))
      generalize hZ : ((D9, tupO [Value.ref ol, .ref gl]) :: (rl, listOf rvs.toArray m) :: (A1 ++ led)) ++ own = Z at inB inR
      have hlv : tws.length = (cntsToks l1).length := by rw [d1.length, List.length_map]
      have hft : Fit (cntsToks l1 ++ post) := Fit.app e4 hfit
      walk_at "gs"
      refine n_add (inB _ (List.mem_append_left _ m1)) (inB _ (List.mem_append_right _ hb)) (by omega) fun Dt qt => ?_
      walk_at "gs"
      refine g_use (law_reader_c (ts := cntsToks l1 ++ post) (.head _) (by rw [List.map_append]; exact DatAll.append (d1.mono fun p h => .tail _ (inB p h)) (hp.mono fun p h => .tail _ (inB p (List.mem_append_right _ h)))) (by rw [List.length_append]; omega) hft.good hft.short fun r rd tl nd s1 s2 s3 ti vsx add R ofr => ?_) (by decide)
      walk_at "gs"
      refine g_use (tallied_rows_c (i := 0) R (l := l1) (post := post) rfl e1 (by rw [e3, ← dR.length]; omega) e2 hE fun rest' ti' v X d => ?_) (by decide)
      obtain ⟨a, rfl⟩ := dat_ref d
      have R1 := R.ext X
      have inZ : ∀ p ∈ Z, p ∈ rest' := fun p h => X.sub p (List.mem_append_right _ (.tail _ h))
      walk_at "gs"
      refine r_tupOf R1 (inZ _ inR) (by omega) fun D da db R2 => ?_
      walk_at "gs"
      rw [e3] at d
      refine o_netup (by decide) (fun p h => .tail _ (.tail _ h)) (fun p h => .tail _ h) d (.tuple (.head _) (dR.mono fun p h => .tail _ (inZ p (inB p h)))) hdr ?_
      walk_at "gs"
      refine b_len (.tail _ (.tail _ (inZ _ (inB _ (List.mem_append_left _ m1))))) (by omega) fun _ => ?_
      walk_at "gs"
      refine sel_eqf (by rw [hlv, Nat.zero_add]; exact bne_self_eq_false' _) ?_
      walk_at "gs"
      subst hZ
      exact hK4 _ _ _ (r_end (nx := (D9, tupO [Value.ref ol, .ref gl]) :: (rl, listOf rvs.toArray m) :: (A1 ++ led)) (fun p hp => .tail _ (.tail _ (inZ _ (List.mem_append_left _ hp)))) (fun p hp => .tail _ (.tail _ (inZ _ (List.mem_append_right _ hp)))) hoff ⟨rfl, _, _, _, _, _, _, _, rfl⟩)
    · rintro vs1 nx ⟨rfl, t6, t7, t8, t9, t10, t11, t12, rfl⟩
      refine s_next ?_
      refine GS.sub (led' := led) (fun p h => .tail _ (.tail _ (List.mem_append_right _ h))) ?_
      walk_at "gs"
      exact k
end
end Mine
namespace Mine
open Ob
theorem ints_snoc {vs : List Value} {ns : List Int} {k : Int} {t : Tok} (h : IntsAre vs ns) : IntsAre (vs ++ [.int k t]) (ns ++ [k]) := by
  induction h with
  | nil => exact .cons k t .nil
  | cons a b r ih => exact .cons a b ih
theorem cell_bound (k : Int) : (0 ≤ (if k < 0 then -k else k).fmod (10 ^ Int.toNat 40) + 10 ^ Int.toNat 40 * if decide (k < 0) = true then 1 else 0) ∧ ((if k < 0 then -k else k).fmod (10 ^ Int.toNat 40) + 10 ^ Int.toNat 40 * if decide (k < 0) = true then 1 else 0) < 2 ^ 140 := by
  have hp : (0 : Int) < 10 ^ Int.toNat 40 := by decide +kernel
  have hq : (2 : Int) * 10 ^ Int.toNat 40 < 2 ^ 140 := by decide +kernel
  have h1 := Int.fmod_nonneg_of_pos (if k < 0 then -k else k) hp
  have h2 := Int.fmod_lt_of_pos (if k < 0 then -k else k) hp
  generalize (if k < 0 then -k else k).fmod (10 ^ Int.toNat 40) = x at *
  generalize (10 : Int) ^ Int.toNat 40 = y at *
  split <;> omega
/-- as Calls, where the heap below keeps what S says -/
noncomputable def CallsS (S : Heap → Prop) (W : Wd) (need : Nat) (f' : Addr) (args : List Value) (led : Led) (K : Value → Led → Prop) : Prop :=
  ∀ (f : Fn) (n : Nat) (c : Cx W f n) (vs : List (Option Value)), need < n → S c.h₀ → GE c vs led (call (.ref f') args) K
theorem enterS {S : Heap → Prop} {W : Wd} {need : Nat} {f' : Addr} {args : List Value} {led : Led} {K : Value → Led → Prop} {F : Fn} {ps more : List Str} {as : List Value} {name : Str} {params : Arguments} {body : List Stmt} {dV kV doc pm cdv ct oc : Value} {an od : Option Addr} {osl : Array (Option Value)}
    (hS : ∀ h h' : Heap, S h → (∀ b o, h.get? b = some o → h'.get? b = some o) → S h')
    (ok : F.Ok) (hn : F.ns = ps ++ more) (hl : ps.length = as.length)
    (ho : W.K.lookup f' = some ⟨oc, od, .func (fnOf name F.cn params body F.sc dV kV doc pm an cdv ct), osl⟩) (hcd : codeIn W.K cdv F.cn = true)
    (hb : ∀ s : Shared, W.K.In s.heap → BindsTo s (fnOf name F.cn params body F.sc dV kV doc pm an cdv ct) ⟨args, []⟩ (ps.zip as))
    (hco : F.sc.isCoroutine = false) (hgen : F.sc.isGenerator = false) (hcell : ∀ x ∈ F.sc.names, x.2 ≠ .cell)
    (h : ∀ c : Cx W F need, S c.h₀ → GS c (as.map some ++ more.map fun _ => none) led (execs body c.env) fun fl _ l => K (retv fl) l) : CallsS S W need f' args led K := by
  intro f n c vs hneed hs₀ s₀ s A
  refine wpAny_call ?_
  have hroom : c.A.depth < recursionLimit := Nat.lt_of_le_of_lt (Nat.le_add_right _ _) c.hd
  refine code_def c.B A.F c.X A.N c.T rfl rfl c.ok.kind ho hcd hroom (hb s (c.X.keeps A.F.keep)) ?_ ?_ hco hgen ok.kind hcell
  · intro y hy
    have : y.1 ∈ F.ns := hn ▸ List.mem_append_left _ (List.of_mem_zip hy).1
    exact (ok.loc _ this).1
  · intro g L' h₁ FG F' N' B' X' T'
    have e : (fun y => ((ps.zip as).reverse).lookup y) = look F.ns (as.map some ++ more.map fun _ => none) := by
      funext y; rw [hn]; exact look_binds ps as more hl (hn ▸ ok.nodup) y
    rw [e] at F'
    have h1 : c.dp + 1 + need < recursionLimit := by have := c.hd; omega
    have h2 : c.un + 3 + 8 * need < cLine := by have := c.hu; omega
    let c' : Cx W F need := Cx.mk (c.dp + 1) (c.un + 3) c.gd L' f' cdv [] (c.env :: c.outer) c.A c.base g ok B' X' T' h1 h2
    refine wpAny_mono (h c' (hS _ _ hs₀ FG.keep) _ { s with heap := h₁, toks := s.toks + (ps.zip as).length } (.start _ F' N')) ?_ (fun _ _ x => x.elim)
    rintro fl s' ⟨vs', l, A', hk⟩
    refine leaveK_ A'.F A'.N fun FF NN => ?_
    have hs : s' = { s with heap := s'.heap, toks := s'.toks } := by
      obtain ⟨h', g', d', t', o'⟩ := s'
      have := A'.g; have := A'.d; have := A'.o
      simp_all
    exact ⟨l, ⟨FF, NN, A'.g.trans A.g, A'.d.trans A.d, A'.o.trans A.o⟩, hk⟩
section
open PySem.Spec LCg
variable {W : Wd} {f : Fn} {n : Nat} {c : Cx W f n} {vs : List (Option Value)} {led : Led} {K : Value → Led → Prop} {Ks : KS} {pos : Pos}
theorem g_upto {x : Str} {sl : Addr} {svs : List Value} {ns : List Int} {k : Int} {kk : Nat} {p1 p2 p3 : Pos} (hx : Has f.ns vs x (.ref sl)) (hS : c.h₀.IsList sl svs.toArray) (hi : IntsAre svs ns) (hz : svs.length ≤ 1000) (h0 : 0 ≤ k)
    (h : ∀ D ws, IntsAre ws (ns.take k.toNat) → (∀ p ∈ led, p.1 < D) → K (.ref D) ((D, listOf ws.toArray 0) :: led)) : GE c vs led (eval (.Subscript (.Name x p1) (.Slice none (some (.Constant (.int k) kk p2)) none p3) pos) c.env) K := fun s₀ s A =>
  Subscript_ ((g_loc (K := fun v l => v = .ref sl ∧ l = led) hx ⟨rfl, rfl⟩).th A fun v l s1 A1 h1 => by
    obtain ⟨rfl, rfl⟩ := h1
    refine wpAny_Slice (evalPart_none_step (evalPart_some_step ((g_int (K := fun v l' => (∃ t, v = .int k t) ∧ l' = l) (fun t => ⟨⟨t, rfl⟩, rfl⟩)).th A1 fun v l' s2 A2 h2 => evalPart_none_step ?_)))
    obtain ⟨⟨t, rfl⟩, rfl⟩ := h2
    exact kmk_slice_ints A2.F A2.N (hS.at fun o e => A2.F.keep sl o e) .none (.int k t) hi (kmk_upto hi h0) rfl (fun D ws h' F' N' l1 hw _ _ => ⟨_, A2.to (k := s2.toks) F' N', h D ws hw l1⟩) (by with_unfolding_all rfl) (fun _ => rfl) (by rw [List.size_toArray, sizeLine_eq]; omega))
theorem s_lc {elt iter : Expr} {x y : Str} {px py : Pos} {scope : Scope} {cl : List (Str × Addr)} {spos : Pos}
    (h : GE c vs led (eval iter c.env) fun v l => ∃ (ax : Addr) (ws : List Value) (m : Nat) (J : Nat → List Value → Led → Prop), v = .ref ax ∧ (ax, listOf ws.toArray m) ∈ l ∧ ws.length ≤ sizeLine ∧ J 0 [] l ∧
      (∀ i ys nx v C oC m₂ own, ws[i]? = some v → J i ys nx → (ax, listOf ws.toArray m) ∈ nx → (C, oC) ∈ own → NsObj oC m₂ → m₂ x = some v → OwnOff own (nx.map (·.1)) →
        GE c vs (nx ++ own) (eval elt (compEnvC scope cl C c.env)) (lcEnd (ax, listOf ws.toArray m) own fun y nx' => J (i + 1) (ys ++ [y]) nx')) ∧
      ∀ ys nx D, J ws.length ys nx → Off1 D nx → ∃ vs', Put f.ns vs y (.ref D) vs' ∧ Ks .next vs' ((D, lst ys) :: nx))
    (hsw : swapsWith (.ListComp elt [⟨.Name x px, iter, [], 0⟩] scope pos) (some (.Name y py)) spos.line c.env = pure true)
    (hclos : closureFor scope c.env = pure cl) (hcell : ∀ z ∈ scope.names, z.2 ≠ .cell) (hkind : scope.kind = .function)
    (hnames : ∀ z ∈ scope.names, z.2 = .local → scope.names.lookup z.1 = some .local) (hx : scope.names.lookup x = some .local)
    (hy : y ∈ f.ns) (hs : ∀ x, foldedSetIterable iter c.env x = pure x := by intro _; rfl) :
    GS c vs led (exec (.Assign [.Name y py] (.ListComp elt [⟨.Name x px, iter, [], 0⟩] scope pos) spos) c.env) Ks := by
  intro s₀ s A
  have hk : c.env.scope.kind = .function := c.ok.kind
  have hp : (c.env.scope.kind == .class || (c.env.scope.kind == .module && c.env.locals != c.env.globals)) = false := by rw [hk]; rfl
  refine LCg.Assign_ListComp_U A.F rfl hsw hclos hcell hkind hnames hx (by exact (c.ok.loc y hy).1) hp (h.th A ?_) hs
  rintro v l s' A' ⟨ax, ws, m, J, rfl, hm, hsz, h0, turn, fin⟩
  refine CompSrc.ledger rfl A'.F A'.N hm (by rw [List.size_toArray]; exact hsz) fun g => ?_
  rw [List.size_toArray]
  refine CompRest_inv (fun i ys nx => (ax, listOf ws.toArray m) ∈ nx ∧ J i ys nx) ⟨hm, h0⟩ ?_ ?_
  · rintro i ys nx v I oI C oC D m₂ h₁ tk E' hi ⟨hk, hJ⟩ hv hC hx2 F N off ne
    have e : ∀ p : Addr × Obj, p ∈ nx ++ [(I, oI), (C, oC), (D, lst ys)] → p ∈ (I, oI) :: (C, oC) :: (D, lst ys) :: nx := fun p hp => by
      simp only [List.mem_append, List.mem_cons, List.not_mem_nil, or_false] at hp ⊢
      rcases hp with h | h | h | h <;> simp [h]
    have ho : OwnOff [(I, oI), (C, oC), (D, lst ys)] (nx.map (·.1)) := OwnOff.mk fun p hp q hq => by
      have := off.mem q hq
      simp only [List.mem_cons, List.not_mem_nil, or_false] at hp
      rcases hp with rfl | rfl | rfl
      · exact this.1.symm
      · exact this.2.1.symm
      · exact this.2.2.symm
    refine wpAny_mono ((turn i ys nx v C oC m₂ _ (by simpa using hv) hJ hk (.tail _ (.head _)) hC hx2 ho) { s' with heap := h₁, toks := tk } { s' with heap := h₁, toks := tk } ⟨F, fun p hp => N p (e p hp), rfl, rfl, rfl⟩) (fun y s₃ h3 => ?_) fun _ _ x => x.elim
    obtain ⟨l3, A3, nx', a, b, d, kp, j⟩ := h3
    refine ⟨s₃.heap, s₃.toks, nx', Heap.sh A3.g A3.d A3.o, A3.F, fun p hp => A3.N p ?_, Off3.of fun p hp => ?_, .inr ⟨_, kp, rfl, _, rfl⟩, kp, j⟩
    · simp only [List.mem_cons] at hp
      rcases hp with rfl | rfl | rfl | hp
      · exact b _ (.head _)
      · exact b _ (.tail _ (.head _))
      · exact b _ (.tail _ (.tail _ (.head _)))
      · exact a _ hp
    · have q := fun r hr => d r hr p.1 (List.mem_map_of_mem hp)
      exact ⟨(q _ (.head _)).symm, (q _ (.tail _ (.head _))).symm, (q _ (.tail _ (.tail _ (.head _)))).symm⟩
  · rintro ys nx ⟨_, hJ⟩ D h₁ tk F N o
    obtain ⟨vs', hput, hK⟩ := fin ys nx D hJ o
    refine ⟨vs', _, A'.to (by have : look f.ns vs' = _ := funext (hput.look c.ok.nodup); rw [this]; exact F) N, hK⟩
end
section
variable {W : Wd} {K : Value → Led → Prop} {led : Led}
set_option maxHeartbeats 4000000 in
theorem law_pen_c {sl : Addr} {svs : List Value} {ns : List Int} (hi : IntsAre svs ns) (hl : svs.length ≤ 63) (k : ∀ pn ca add P, Off led ((pn, P) :: add) → PnOk (add ++ led) pn ca → PenNow ca 0 P → K (.ref pn) ((pn, P) :: (add ++ led))) :
    CallsS (fun h => h.IsList sl svs.toArray) W 1 534 [.ref sl] led K :=
  enterS (F := f534) (ps := [(Str.ofString "script")]) (more := [(Str.ofString "cells")]) (as := [.ref sl]) (fun h h' x y => x.at fun o e => y sl o e) ok534 rfl rfl (ho534 _) (by kernel_rfl) (fun _ _ => .of_eq (by kernel_rfl)) (by kernel_rfl) (by kernel_rfl) (by decide +kernel) fun c hS => by
    show GS c [some (.ref sl), none] _ (execs (fB (st 58)) c.env) _
    refine s_cons ?_
    refine' s_lc ?_ ?k1 ?k2 ?k3 ?k4 ?k5 ?k6 ?k7 ?k8
    case k1 => with_unfolding_all rfl
    case k2 => exact rfl
    case k3 => decide
    case k4 => exact rfl
    case k5 => decide
    case k6 => exact rfl
    case k7 => exact .tail _ (.head _)
    case k8 => exact fun _ => rfl
    refine g_upto (by walk_at "has") hS hi (by omega) (by decide) fun D0 ws0 hw l0 => ?_
    have hwl : ws0.length ≤ 63 := by have := hw.length; have := hi.length; rw [List.length_take] at *; omega
    refine ⟨D0, ws0, 0, fun i ys nx => nx = (D0, listOf ws0.toArray 0) :: led ∧ ys.length = i ∧ ∃ ks, IntsAre ys ks ∧ ∀ k ∈ ks, 0 ≤ k ∧ k < 2 ^ 140, rfl, .head _, by rw [sizeLine_eq]; omega, ⟨rfl, rfl, [], .nil, fun _ h => (nomatch h)⟩, ?_, ?_⟩
    · rintro i ys nx v C oC m₂ own hv ⟨rfl, hyl, ks, hks, hb⟩ hk hC hN hx2 ho
      obtain ⟨kv, kt, e', e⟩ := IntsAre.at hw i v hv
      subst e'
      have hC2 : (C, oC) ∈ ((D0, listOf ws0.toArray 0) :: led) ++ own := List.mem_append_right _ hC
      refine g_binop ?_
      refine g_binop ?_
      refine g_call ?_ (by kernel_rfl)
      refine gc_glo (gv_abs _) rfl (by kernel_rfl) ?_
      refine w_bui ?_ (by kernel_rfl) (by kernel_rfl)
      refine a_cons ?_ (by kernel_rfl)
      refine g_call ?_ (by kernel_rfl)
      refine gc_glo (gv_int _) rfl (by kernel_rfl) ?_
      refine w_ty ?_ (by kernel_rfl) (by kernel_rfl)
      refine a_cons ?_ (by kernel_rfl)
      refine gc_loc hC2 hN hx2 rfl rfl (by decide) ?_
      refine a_nil ?_
      refine y_int ?_
      refine a_nil ?_
      refine b_abs fun _ => ?_
      refine g_binop ?_
      refine g_int fun _ => ?_
      refine g_int fun _ => ?_
      refine o_pow (by decide) (by decide) (by decide) fun _ => ?_
      refine o_mod (by decide +kernel) fun _ => ?_
      refine g_binop ?_
      refine g_binop ?_
      refine g_int fun _ => ?_
      refine g_int fun _ => ?_
      refine o_pow (by decide) (by decide) (by decide) fun _ => ?_
      refine g_call ?_ (by kernel_rfl)
      refine gc_glo (gv_int _) rfl (by kernel_rfl) ?_
      refine w_ty ?_ (by kernel_rfl) (by kernel_rfl)
      refine a_cons ?_ (by kernel_rfl)
      refine g_cmp ?_ (by kernel_rfl)
      refine gc_loc hC2 hN hx2 rfl rfl (by decide) ?_
      refine g_int fun _ => ?_
      refine o_lti ?_
      refine a_nil ?_
      refine y_intb fun _ => ?_
      refine o_mul (IntMulOk.of_right (intBits_le_64 (by split <;> decide) (by split <;> decide))) fun _ => ?_
      refine o_addi fun _ => ?_
      refine ⟨_, fun p h => List.mem_append_left _ h, fun p h => List.mem_append_right _ h, ho, hk, rfl, by simp [hyl], _, ints_snoc hks, ?_⟩
      intro k9 hk9
      rcases List.mem_append.mp hk9 with hk9 | hk9
      · exact hb k9 hk9
      · rw [List.mem_singleton.mp hk9]
        exact cell_bound kv
    · rintro ys nx D ⟨rfl, hyl, ks, hks, hb⟩ o1
      walk_at "gs"
      rename_i ta tb pn lp
      exact k pn D [(D, LCg.lst ys), (D0, listOf ws0.toArray 0)] _ (Off.cons (fun q hq => Nat.ne_of_lt (lp q (.tail _ (.tail _ hq)))) (Off.cons (fun q hq => off1_of o1 q (.tail _ hq)) (Off.cons (fun q hq => Nat.ne_of_lt (l0 q hq)) Off.nil))) ⟨⟨ys, _, .head _, ⟨ks, hks, hb⟩, by omega⟩, fun p hp => Nat.ne_of_lt (lp p hp)⟩ ⟨0, ta, 0, tb, 0, rfl, Int.le_refl 0, Int.le_refl 0, Int.le_refl 0⟩
end
end Mine
namespace Mine
open Ob
noncomputable abbrev oC : Op := .item (Str.ofString "C")
noncomputable abbrev oD : Op := .item (Str.ofString "D")
noncomputable def lone1 : Cnt := (oC, [.some false [(oD, []), (oC, [])]])
noncomputable def lone2 : Cnt := (oD, [.some true [(oC, [])]])
noncomputable def whole1 : Cnt := (oC, [.chars [], .some false [(oC, [])]])
noncomputable def whole2 : Cnt := (oC, [.some false [(oD, [])]])
/-- what the right reading asks of a count -/
noncomputable def CntFit (w : World) (c : Cnt) : Prop := CntOk w c ∧ CntShort c ∧ c.2.length ≤ 3 ∧ ∀ s ∈ c.2, s.pcs.length ≤ 2
theorem okC (w : World) : Op.Ok w oC := ok_item (by decide)
theorem okD (w : World) : Op.Ok w oD := ok_item (by decide)
theorem shC : oC.Short := (by decide : (Str.ofString "C").length ≤ 100)
theorem shD : oD.Short := (by decide : (Str.ofString "D").length ≤ 100)
theorem bd0 (w : World) : BdOk w [] := ⟨fun _ h => absurd h (List.not_mem_nil), List.nodup_nil⟩
theorem one_part {w : World} {o : Op} (ok : o.Ok w) : ∀ q ∈ [((o, []) : Part)], PartOk w q := fun q hq => by rw [List.mem_singleton.mp hq]; exact ⟨ok, bd0 w⟩
theorem one_short {o : Op} (h : o.Short) : ∀ q ∈ [((o, []) : Part)], q.1.Short ∧ ∀ x ∈ q.2, x.2.Short := fun q hq => by rw [List.mem_singleton.mp hq]; exact ⟨h, fun _ h => absurd h List.not_mem_nil⟩
theorem lone1_fit (w : World) : CntFit w lone1 := by
  refine ⟨⟨rfl, okC w, by simp [lone1], fun s hs => ?_⟩, ⟨shC, fun s hs => ?_⟩, by decide, fun s hs => ?_⟩
  · rw [List.mem_singleton.mp hs]
    refine ⟨by simp, fun q hq => ?_⟩
    rcases List.mem_cons.mp hq with rfl | hq
    · exact ⟨okD w, bd0 w⟩
    · exact one_part (okC w) q hq
  · rw [List.mem_singleton.mp hs]
    intro q hq
    rcases List.mem_cons.mp hq with rfl | hq
    · exact ⟨shD, fun _ h => absurd h List.not_mem_nil⟩
    · exact one_short shC q hq
  · rw [List.mem_singleton.mp hs]; exact Nat.le_refl _
theorem lone2_fit (w : World) : CntFit w lone2 := by
  refine ⟨⟨rfl, okD w, by simp [lone2], fun s hs => ?_⟩, ⟨shD, fun s hs => ?_⟩, by decide, fun s hs => ?_⟩
  · rw [List.mem_singleton.mp hs]; exact ⟨by simp, one_part (okC w)⟩
  · rw [List.mem_singleton.mp hs]; exact one_short shC
  · rw [List.mem_singleton.mp hs]; exact Nat.le_succ 1
theorem whole1_fit (w : World) : CntFit w whole1 := by
  refine ⟨⟨rfl, okC w, by simp [whole1], fun s hs => ?_⟩, ⟨shC, fun s hs => ?_⟩, by decide, fun s hs => ?_⟩
  · rcases List.mem_cons.mp hs with rfl | hs
    · exact bd0 w
    · rw [List.mem_singleton.mp hs]; exact ⟨by simp, one_part (okC w)⟩
  · rcases List.mem_cons.mp hs with rfl | hs
    · exact fun _ h => absurd h List.not_mem_nil
    · rw [List.mem_singleton.mp hs]; exact one_short shC
  · rcases List.mem_cons.mp hs with rfl | hs
    · exact Nat.le_succ 1
    · rw [List.mem_singleton.mp hs]; exact Nat.le_succ 1
theorem whole2_fit (w : World) : CntFit w whole2 := by
  refine ⟨⟨rfl, okC w, by simp [whole2], fun s hs => ?_⟩, ⟨shC, fun s hs => ?_⟩, by decide, fun s hs => ?_⟩
  · rw [List.mem_singleton.mp hs]; exact ⟨by simp, one_part (okD w)⟩
  · rw [List.mem_singleton.mp hs]; exact one_short shD
  · rw [List.mem_singleton.mp hs]; exact Nat.le_succ 1
theorem two_fit {w : World} {a b : Cnt} (ha : CntFit w a) (hb : CntFit w b) : ∀ c ∈ [a, b], CntFit w c := fun c hc => by
  rcases List.mem_cons.mp hc with rfl | hc
  · exact ha
  · rw [List.mem_singleton.mp hc]; exact hb
theorem end_of {w : World} {l : List (Str × Str)} (h1 : isN l 0 = false) (h2 : begO l 0 = false) (h3 : ∀ y ∈ ["BEFORE", "AFTER", "OF", "IN", "FOR", "CHARACTERS", "ALL", "LEADING"], isW l 0 (Str.ofString y) = false) : EndT w l :=
  ⟨⟨⟨⟨h3 _ (by decide), h3 _ (by decide), h3 _ (by decide), h3 _ (by decide)⟩, h3 _ (by decide), .inl (by rw [h2]; rfl)⟩, h3 _ (by decide), h3 _ (by decide), h3 _ (by decide)⟩, h1⟩
theorem end_word (w : World) {x : String} (h : x ∈ ["REPLACING", "CONTINUE", "END-IF"]) : EndT w [wd (Str.ofString x)] := by
  have hr : reserved (Str.ofString x) = true := res_t x ((by decide : ∀ y ∈ ["REPLACING", "CONTINUE", "END-IF"], y ∈ ["BEFORE", "AFTER", "INITIAL", "FOR", "OF", "IN", "CHARACTERS", "ALL", "LEADING", "SPACES", "ZERO", "REPLACING", "CONTINUE", "END-IF"]) x h)
  have hf : figw (Str.ofString x) = false := (by decide +kernel : ∀ y ∈ ["REPLACING", "CONTINUE", "END-IF"], figw (Str.ofString y) = false) x h
  refine end_of (by simp [isN, wd, hr]) ?_ fun y hy => ?_
  · simp only [begO, wd, List.getElem?_cons_zero, hr, hf, Bool.not_true, Bool.or_self, Bool.and_false, Bool.or_false]
    exact decide_eq_false (by decide)
  · rw [isW_wd]
    exact decide_eq_false ((by decide : ∀ x ∈ ["REPLACING", "CONTINUE", "END-IF"], ∀ y ∈ ["BEFORE", "AFTER", "OF", "IN", "FOR", "CHARACTERS", "ALL", "LEADING"], Str.ofString x ≠ Str.ofString y) x h y hy)
theorem end_nil (w : World) : EndT w [] := end_of rfl rfl fun _ _ => rfl
theorem end_sign (w : World) : EndT w [(Str.ofString "sign", Str.ofString ".")] := by
  refine end_of (by decide) ?_ fun y hy => ?_
  · simp only [begO, List.getElem?_cons_zero]
    rw [decide_eq_false (by decide : Str.ofString "sign" ≠ Str.ofString "literal"), decide_eq_false (by decide : Str.ofString "sign" ≠ Str.ofString "word")]
    rfl
  · show (decide (Str.ofString "sign" = Str.ofString "word") && decide (Str.ofString "." = Str.ofString y)) = false
    rw [decide_eq_false (by decide : Str.ofString "sign" ≠ Str.ofString "word")]
    rfl
theorem fit_word {x : String} (h : x ∈ ["REPLACING", "CONTINUE", "END-IF"]) : Fit [wd (Str.ofString x)] := Fit.cons ((by decide : ∀ x ∈ ["REPLACING", "CONTINUE", "END-IF"], (Str.ofString x).length ≤ 100) x h) Fit.nil
theorem fit_sign : Fit [(Str.ofString "sign", Str.ofString ".")] := fun t ht => by rw [List.mem_singleton.mp ht]; exact ⟨.inr (.inr rfl), by decide⟩
end Mine
namespace Mine
open Ob
section
open PySem.Spec LCg
variable {W : Wd} {f : Fn} {n : Nat} {c : Cx W f n} {vs : List (Option Value)} {led : Led} {K : Value → Led → Prop} {Ks : KS} {pos : Pos}
/-! names that an inner block shares -/
theorem g_cell {x : Str} {v : Value} {cA : Addr} {o : Obj} (hc : c.cl.lookup x = some cA) (hm : (cA, o) ∈ led) (hd : o.data = .cell (some v)) (hx : c.env.kindOf x = some .cell) (hb : (x == ("__debug__" : Str)) = false) (h : K v led) : GE c vs led (eval (.Name x pos) c.env) K :=
  fun _ _ A => nameX_C A.N hc hm hd ⟨_, A, h⟩ c.ok.kind hx hb
theorem gc_cell {x : Str} {C : Addr} {v : Value} {cA : Addr} {o : Obj} {scope : Scope} {cl : List (Str × Addr)} (hc : cl.lookup x = some cA) (hm : (cA, o) ∈ led) (hd : o.data = .cell (some v)) (hs : scope.kind = .function) (hk : (relabel scope c.env).names.lookup x = some .cell) (hb : (x == ("__debug__" : Str)) = false) (h : K v led) :
    GE c vs led (eval (.Name x pos) (compEnvC scope cl C c.env)) K :=
  fun _ _ A => wpAny_Name (wpAny_loadName_cell (env := compEnvC scope cl C c.env) hs hk hc ⟨o, A.N.get hm, hd⟩ ⟨_, A, h⟩) hb
theorem st_cell {x : Str} {v : Value} {v₀ : Option Value} {cA : Addr} {o : Obj} {X : Led} {s₀ s : Shared} {Q : Unit → Shared → Prop} (A : At c vs led s₀ s) (hc : c.cl.lookup x = some cA) (hM : Mid (cA, o) led X) (hd : o.data = .cell v₀) (hx : c.env.kindOf x = some .cell) (h : ∀ o' s', o'.data = .cell (some v) → At c vs ((cA, o') :: X) s₀ s' → Q () s') : wpAny W.M c.A (storeName c.env x v) Q No s :=
  storeX_C A.F (A.sub hM.sub).N hc (.head hM.sep) hd (fun _ o' F' N' d' => h o' _ d' (A.to (k := s.toks) F' N')) c.ok.kind hx
theorem s_asgC {x : Str} {p' : Pos} {e : Expr} {cA : Addr} (hc : c.cl.lookup x = some cA) (hx : c.env.kindOf x = some .cell) (h : GE c vs led (eval e c.env) fun v l => ∃ o v₀ X, Mid (cA, o) l X ∧ o.data = .cell v₀ ∧ ∀ o' : Obj, o'.data = .cell (some v) → Ks .next vs ((cA, o') :: X)) (q : swapsWith e (some (Expr.Name x p')) pos.line c.env = pure false) : GS c vs led (exec (.Assign [.Name x p'] e pos) c.env) Ks :=
  fun s₀ _ A => wpAny_Assign_Name (h.th A fun v l s1 A1 ⟨_, _, _, hM, hd, h1⟩ => st_cell A1 hc hM hd hx fun o' _ d' A2 => ⟨_, _, A2, h1 o' d'⟩) q
/-- a tuple of two, laid into a shared name and a local -/
theorem s_twoC {x y : Str} {px py tp : Pos} {k : Nat} {e : Expr} {cA : Addr} (hc : c.cl.lookup x = some cA) (hx : c.env.kindOf x = some .cell) (h : GE c vs led (eval e c.env) fun v l => ∃ T a b m0 o v₀ X vs', v = .ref T ∧ (T, ({ cls := .type "tuple", data := .seq [a, b].toArray m0 } : Obj)) ∈ l ∧ Mid (cA, o) l X ∧ o.data = .cell v₀ ∧ Put f.ns vs y b vs' ∧ ∀ o' : Obj, o'.data = .cell (some a) → Ks .next vs' ((cA, o') :: X))
    (hs : swapsWithSole [.Tuple [.Name x px, .Name y py] k tp] e pos.line c.env = pure false) (hw : swappedStores [.Tuple [.Name x px, .Name y py] k tp] e c.env = pure none) : GS c vs led (exec (.Assign [.Tuple [.Name x px, .Name y py] k tp] e pos) c.env) Ks := fun s₀ s A =>
  Assign_Tuple (h.th A fun v l s1 A1 ⟨T, a, b, m0, o, v₀, X, vs', hv, m, hM, hd, p, hk⟩ => by
    subst hv
    refine unpackN_ (items := #[a, b]) A1.F A1.N ⟨_, (A1.N _ m).1, rfl, m0, rfl⟩ rfl rfl rfl fun h' F' N' => ?_
    have A2 : At c vs l s₀ { s1 with heap := h' } := ⟨F', N', A1.g, A1.d, A1.o⟩
    exact assignInOrder_cons (assign_Name (st_cell A2 hc hM hd hx fun o' _ d' A3 => assignInOrder_cons (assign_Name (st_name A3 p fun s4 A4 => assignInOrder_nil ⟨_, _, A4, hk o' d'⟩))))) hs hw
/-- a comprehension over a range -/
theorem o_lcR {elt iter : Expr} {x : Str} {px : Pos} {scope : Scope} {cl : List (Str × Addr)}
    (h : GE c vs led (eval iter c.env) fun v l => ∃ (r : Addr) (b : Int) (t t1 t2 : Tok) (kk : Nat) (l0 : Led) (J : Nat → List Value → Led → Prop), v = .ref r ∧ (r, rangeObj b t t1 t2) ∈ l ∧ Builtin.Range.small 0 b 1 = true ∧ Builtin.Range.rangeSize 0 b 1 = (kk : Int) ∧ kk ≤ sizeLine ∧ (∀ p ∈ l0, p ∈ l) ∧ J 0 [] l0 ∧
      (∀ i ys nx v C oC m₂ own, (∃ t, v = .int (0 + (i : Int)) t) → i < kk → J i ys nx → (C, oC) ∈ own → NsObj oC m₂ → m₂ x = some v → OwnOff own (nx.map (·.1)) →
        GE c vs (nx ++ own) (eval elt (compEnvC scope cl C c.env)) fun y l' => ∃ nx', (∀ p ∈ nx', p ∈ l') ∧ (∀ p ∈ own, p ∈ l') ∧ OwnOff own (nx'.map (·.1)) ∧ J (i + 1) (ys ++ [y]) nx') ∧
      ∀ ys nx D, J kk ys nx → Off1 D nx → K (.ref D) ((D, lst ys) :: nx))
    (hclos : closureFor scope c.env = pure cl) (hcell : ∀ z ∈ scope.names, z.2 ≠ .cell) (hkind : scope.kind = .function)
    (hnames : ∀ z ∈ scope.names, z.2 = .local → scope.names.lookup z.1 = some .local) (hx : scope.names.lookup x = some .local)
    (hs : ∀ x, foldedSetIterable iter c.env x = pure x := by intro _; rfl) :
    GE c vs led (eval (.ListComp elt [⟨.Name x px, iter, [], 0⟩] scope pos) c.env) K := by
  intro s₀ s A
  refine LCg.ListComp_U A.F hclos hcell hkind hnames hx (h.th A ?_) hs
  rintro v l s' A' ⟨r, b, t, t1, t2, kk, l0, J, rfl, hr, hsm, hsz, hkk, hl0, h0, turn, fin⟩
  refine CompSrc.range rfl A'.F (A'.sub hl0).N (A'.N _ hr).1 hsm hsz hkk fun g => ?_
  refine CompRest_inv J h0 ?_ ?_
  · rintro i ys nx v I oI C oC D m₂ h₁ tk E' hi hJ hv hC hx2 F N off ne
    have e : ∀ p : Addr × Obj, p ∈ nx ++ [(I, oI), (C, oC), (D, lst ys)] → p ∈ (I, oI) :: (C, oC) :: (D, lst ys) :: nx := fun p hp => by
      simp only [List.mem_append, List.mem_cons, List.not_mem_nil, or_false] at hp ⊢
      rcases hp with h | h | h | h <;> simp [h]
    have ho : OwnOff [(I, oI), (C, oC), (D, lst ys)] (nx.map (·.1)) := OwnOff.mk fun p hp q hq => by
      have := off.mem q hq
      simp only [List.mem_cons, List.not_mem_nil, or_false] at hp
      rcases hp with rfl | rfl | rfl
      · exact this.1.symm
      · exact this.2.1.symm
      · exact this.2.2.symm
    refine wpAny_mono ((turn i ys nx v C oC m₂ _ hv hi hJ (.tail _ (.head _)) hC hx2 ho) { s' with heap := h₁, toks := tk } { s' with heap := h₁, toks := tk } ⟨F, fun p hp => N p (e p hp), rfl, rfl, rfl⟩) (fun y s₃ h3 => ?_) fun _ _ x => x.elim
    obtain ⟨l3, A3, nx', a, b, d, j⟩ := h3
    refine ⟨s₃.heap, s₃.toks, nx', Heap.sh A3.g A3.d A3.o, A3.F, fun p hp => A3.N p ?_, Off3.of fun p hp => ?_, trivial, j⟩
    · simp only [List.mem_cons] at hp
      rcases hp with rfl | rfl | rfl | hp
      · exact b _ (.head _)
      · exact b _ (.tail _ (.head _))
      · exact b _ (.tail _ (.tail _ (.head _)))
      · exact a _ hp
    · have q := fun r hr => d r hr p.1 (List.mem_map_of_mem hp)
      exact ⟨(q _ (.head _)).symm, (q _ (.tail _ (.head _))).symm, (q _ (.tail _ (.tail _ (.head _)))).symm⟩
  · rintro ys nx hJ D h₁ tk F N o
    exact ⟨_, A'.to F N, fin ys nx D hJ o⟩
/-- x[::-1] of a list of two -/
theorem g_rev2 {x : Str} {l : Addr} {a b : Value} {m kk : Nat} {p1 p2 p3 p4 : Pos} (hx : Has f.ns vs x (.ref l)) (hm : (l, listOf [a, b].toArray m) ∈ led) (h : ∀ D, (∀ p ∈ led, p.1 < D) → K (.ref D) ((D, listOf [b, a].toArray 0) :: led)) :
    GE c vs led (eval (.Subscript (.Name x p1) (.Slice none none (some (.UnaryOp .USub (.Constant (.int 1) kk p2) p4)) p3) pos) c.env) K := fun s₀ s A =>
  Subscript_ ((g_loc (K := fun v l' => v = .ref l ∧ l' = led) hx ⟨rfl, rfl⟩).th A fun v l' s1 A1 h1 => by
    obtain ⟨rfl, rfl⟩ := h1
    refine wpAny_Slice (evalPart_none_step (evalPart_none_step (evalPart_some_step ((g_un (K := fun v l2 => (∃ t, v = .int (-1) t) ∧ l2 = l') (g_int fun _ => fun _ _ A => PyProof.Rows.neg_int ⟨_, A.tok _, ⟨_, rfl⟩, rfl⟩)).th A1 fun v l2 s2 A2 h2 => ?_))))
    obtain ⟨⟨t, rfl⟩, rfl⟩ := h2
    exact kmk_slice3_lit A2.F A2.N (News.isList A2.N hm) .none .none (.int (-1) t) (by decide) (zs := [b, a]) (by kernel_rfl) (fun D h' F' N' l1 => ⟨_, A2.to (k := s2.toks) F' N', h D l1⟩) (by with_unfolding_all rfl) (fun _ => rfl) (Nat.le_of_ble_eq_true rfl))
/-! a lambda -/
theorem g_lam {params : Arguments} {body : Expr} {scope : Scope} {cA P : Addr} {ps : Array Value} {rest : Led} (C : CodeHd c.h₀ cA P) (hcd : c.cd = .ref cA) (sep : ∀ p ∈ rest, p.1 ≠ P) (ht : TriplesOk ps.toList) (hnf : codeAmong pos ps.toList = none) (hcl : closureFor scope c.env = pure []) (hdef : defaultsOf params c.env = ([], []))
    (h : ∀ fp c' oc us t ctv pm (ps' : Array Value), oc.data = .fields us → us[1]? = some (.str (c.env.qual ++ Str.ofString "<lambda>") t) → (∀ p ∈ (P, tabObj ps) :: rest, p.1 < c') → c' < fp → K (.ref fp) ((fp, kla_obj (Str.ofString "<lambda>") (c.env.qual ++ Str.ofString "<lambda>") params body scope [] pm c' ctv) :: (c', oc) :: (P, tabObj ps') :: rest)) :
    GE c vs ((P, tabObj ps) :: rest) (eval (.Lambda params body scope pos) c.env) K := fun _ _ A =>
  kla_eval hdef (kla_nest A.F A.N c.T C hcd (.head sep) ht hnf hcl fun fp c' oc us t ctv h' tk F' N' d1 d2 l1 l2 => ⟨_, A.to F' N', h fp c' oc us t ctv _ _ d1 d2 l1 l2⟩)
theorem call_lam {F : Fn} {m : Nat} {c : Cx W f (m + 1)} {fp c' : Addr} {oc : Obj} {us : Array Value} {t : Tok} {ctv pm : Value} {name : Str} {params : Arguments} {body : Expr} {args as : List Value} {ps : List Str} (ok : F.Ok) (hn : F.ns = ps) (hl : ps.length = as.length)
    (hm : (fp, kla_obj name F.cn params body F.sc [] pm c' ctv) ∈ led) (hc : (c', oc) ∈ led) (d1 : oc.data = .fields us) (d2 : us[1]? = some (.str F.cn t)) (hb : bindArgs (kla_fn name F.cn params body F.sc [] pm (.ref c') ctv) ⟨args, []⟩ = pure (ps.zip as)) (hco : F.sc.isCoroutine = false) (hgen : F.sc.isGenerator = false) (hcell : ∀ x ∈ F.sc.names, x.2 ≠ .cell)
    (h : ∀ c1 : Cx W F m, GE c1 (as.map some) led (eval body c1.env) K) : GE c vs led (call (.ref fp) args) K := by
  intro s₀ s A
  refine wpAny_call ?_
  have hroom : c.A.depth < recursionLimit := Nat.lt_of_le_of_lt (Nat.le_add_right _ _) c.hd
  refine kla_code c.B A.F c.X A.N c.T rfl rfl c.ok.kind hm (codeRec_news A.N hc d1 d2) hroom hb ?_ ?_ hco hgen ok.kind hcell
  · intro y hy
    have : y.1 ∈ F.ns := hn ▸ (List.of_mem_zip hy).1
    exact (ok.loc _ this).1
  · intro g L' h₁ FG F' N' B' X' T'
    have e : (fun y => ((ps.zip as).reverse).lookup y) = look F.ns (as.map some) := by
      funext y
      have := look_binds ps as [] hl (by rw [List.append_nil, ← hn]; exact ok.nodup) y
      rw [List.append_nil, List.map_nil, List.append_nil] at this
      rw [hn, this]
    rw [e] at F'
    have h1 : c.dp + 1 + m < recursionLimit := by have := c.hd; omega
    have h2 : c.un + 3 + 8 * m < cLine := by have := c.hu; omega
    let c1 : Cx W F m := Cx.mk (c.dp + 1) (c.un + 3) c.gd L' fp (.ref c') [] (c.env :: c.outer) c.A c.base g ok B' X' T' h1 h2
    refine wpAny_mono (h c1 _ { s with heap := h₁, toks := s.toks + (ps.zip as).length } (.start _ F' N')) ?_ (fun _ _ x => x.elim)
    rintro v s' ⟨l, A', hk⟩
    refine leaveK_ A'.F A'.N fun FF NN => ?_
    have hs : s' = { s with heap := s'.heap, toks := s'.toks } := Heap.sh A'.g A'.d A'.o
    exact ⟨l, ⟨FF, NN, A'.g.trans A.g, A'.d.trans A.d, A'.o.trans A.o⟩, hk⟩
end
end Mine
namespace Mine
open Ob
@[reducible] noncomputable def f598 : Fn := ⟨Str.ofString "law", fS (st 68), [Str.ofString "script", Str.ofString "one", Str.ofString "other", Str.ofString "plain", Str.ofString "stop", Str.ofString "replacing", Str.ofString "lone", Str.ofString "whole", Str.ofString "counts", Str.ofString "turn"]⟩
theorem ok598 : f598.Ok := ⟨by decide +kernel, by decide +kernel, by kernel_rfl⟩
@[reducible] noncomputable def lamS : Scope := { kind := .function, names := [(Str.ofString "count", .local), (Str.ofString "word", .local), (Str.ofString "operand", .local)], isGenerator := false, isCoroutine := false }
@[reducible] noncomputable def fLam : Fn := ⟨(Str.ofString "law" ++ (".<locals>." : Str)) ++ Str.ofString "<lambda>", lamS, [Str.ofString "count", Str.ofString "word", Str.ofString "operand"]⟩
theorem okLam : fLam.Ok := ⟨by decide +kernel, by decide +kernel, rfl⟩
noncomputable def lamE : Stmt → Expr
  | .Assign _ e _ => e
  | _ => .Constant .none 0 ⟨0, 0, 0, 0⟩
noncomputable def lamB : Expr → Expr
  | .Lambda _ b _ _ => b
  | e => e
noncomputable def lamP : Expr → Arguments
  | .Lambda ps _ _ _ => ps
  | _ => default
noncomputable abbrev lam : Expr := lamE (nth (fB (st 68)) 1)
section
variable {W : Wd} {f : Fn} {m : Nat} {vs : List (Option Value)} {led : Led} {K : Value → Led → Prop}
/-- the lambda and its code stand -/
structure Plain (led : Led) (fp : Addr) : Prop where
  ex : ∃ (c' : Addr) (oc : Obj) (us : Array Value) (t : Tok) (ctv pm : Value), (fp, kla_obj (Str.ofString "<lambda>") fLam.cn (lamP lam) (lamB lam) lamS [] pm c' ctv) ∈ led ∧ (c', oc) ∈ led ∧ oc.data = .fields us ∧ us[1]? = some (.str fLam.cn t)
theorem Plain.mono {led led' : Led} {fp : Addr} (h : Plain led fp) (s : ∀ p ∈ led, p ∈ led') : Plain led' fp := by
  obtain ⟨c', oc, us, t, ctv, pm, a, b, d, e⟩ := h
  exact ⟨c', oc, us, t, ctv, pm, s _ a, s _ b, d, e⟩
set_option maxHeartbeats 4000000 in
theorem plain_c {c : Cx W f (m + 1)} {fp : Addr} {l1 : Led} {cv ov : Value} {wx : Str} {tw : Tok} {ct cd ot od : Dat} (P : Plain led fp) (x : DatIn l1 cv (.tuple [ct, cd])) (y : DatIn l1 ov (.tuple [ot, od])) (sub : ∀ p ∈ l1, p ∈ led)
    (k : ∀ D1 D2 o1 o2, (∀ p ∈ led, p.1 < D1) → (∀ p ∈ (D1, o1) :: led, p.1 < D2) → DatIn ((D2, o2) :: (D1, o1) :: l1) (.ref D2) (.tuple [ot, .tuple [cd, .str wx, od, .none, .none]]) → K (.ref D2) ((D2, o2) :: (D1, o1) :: led)) : GE c vs led (call (.ref fp) [cv, .str wx tw, ov]) K := by
  obtain ⟨c', oc, us, t, ctv, pm, h1, h2, h3, h4⟩ := P
  obtain ⟨Ta, xa, ya, na, rfl, ma, dxa, dya⟩ := pair_of x
  obtain ⟨Tb, xb, yb, nb, rfl, mb, dxb, dyb⟩ := pair_of y
  refine call_lam (F := fLam) (ps := [Str.ofString "count", Str.ofString "word", Str.ofString "operand"]) (as := [.ref Ta, .str wx tw, .ref Tb]) okLam rfl rfl h1 h2 h3 h4 (by kernel_rfl) rfl rfl (by decide) fun c1 => ?_
  show GE c1 [some (.ref Ta), some (.str wx tw), some (.ref Tb)] _ (eval (.Tuple [.Subscript (.Name (Str.ofString "operand") _) (.Constant (.int 0) _ _) _, .Tuple [.Subscript (.Name (Str.ofString "count") _) (.Constant (.int 1) _ _) _, .Name (Str.ofString "word") _, .Subscript (.Name (Str.ofString "operand") _) (.Constant (.int 1) _ _) _, .Constant .none _ _, .Constant .none _ _] _ _] _ _) c1.env) _
  walk_at "gs"
  refine o_tup (sub _ mb) (by decide) (by decide) rfl ?_ (by with_unfolding_all rfl) (by intro _; with_unfolding_all rfl)
  walk_at "gs"
  refine o_tup (sub _ ma) (by decide) (by decide) rfl ?_ (by with_unfolding_all rfl) (by intro _; with_unfolding_all rfl)
  walk_at "gs"
  refine o_tup (sub _ mb) (by decide) (by decide) rfl ?_ (by with_unfolding_all rfl) (by intro _; with_unfolding_all rfl)
  walk_at "gs"
  rename_i D1 q1 D2 q2
  exact k D1 D2 _ _ q1 q2 (.tuple (.head _) (.cons (dxb.mono fun _ h => .tail _ (.tail _ h)) (.cons (.tuple (.tail _ (.head _)) (.cons (dya.mono fun _ h => .tail _ (.tail _ h)) (.cons (.str _ _) (.cons (dyb.mono fun _ h => .tail _ (.tail _ h)) (.cons .none (.cons .none .nil)))))) .nil)))
end
end Mine
namespace Mine
open Ob
section
variable {W : Wd}
theorem GS.foldl {α : Type} {f : Fn} {n : Nat} {c : Cx W f n} {vs : List (Option Value)} {t : Sem α} {K : α → List (Option Value) → Led → Prop} (l : Led) (h : ∀ A, A = l → GS c vs A t K) : GS c vs l t K := h l rfl
theorem GE.foldl {α : Type} {f : Fn} {n : Nat} {c : Cx W f n} {vs : List (Option Value)} {t : Sem α} {K : α → Led → Prop} (l : Led) (h : ∀ A, A = l → GE c vs A t K) : GE c vs l t K := h l rfl
noncomputable abbrev EL (cp : Addr) (op : Obj) (cc : Addr) (oc : Obj) (ps : Array Value) (A : Led) : Led := (cp, op) :: (cc, oc) :: (232, tabObj #[]) :: (595, tabObj ps) :: A
theorem el_add {cp cc : Addr} {op oc : Obj} {ps : Array Value} {A X : Led} : ∀ p ∈ EL cp op cc oc ps (X ++ A), p ∈ X ++ EL cp op cc oc ps A := fun p hp => by
  simp only [List.mem_cons, List.mem_append] at hp ⊢
  grind
/-- nothing of A stands where the cells stand -/
noncomputable def NoC (cp cc : Addr) (A : Led) : Prop := ∀ p ∈ A, p.1 ≠ cp ∧ p.1 ≠ cc
theorem NoC.add {cp cc : Addr} {op oc : Obj} {ps : Array Value} {A X Y : Led} (h : NoC cp cc A) (k : Off Y X) (s : ∀ p ∈ EL cp op cc oc ps A, p ∈ Y) : NoC cp cc (X ++ A) := fun p hp => (List.mem_append.mp hp).elim (fun hp => ⟨(k _ (s _ (.head _)) p hp).symm, (k _ (s _ (.tail _ (.head _))) p hp).symm⟩) (h p)
theorem NoC.cons {cp cc D : Addr} {op oc o : Obj} {ps : Array Value} {A B Y : Led} (h : NoC cp cc B) (k : ∀ p ∈ Y, p.1 < D) (s : ∀ p ∈ EL cp op cc oc ps A, p ∈ Y) : NoC cp cc ((D, o) :: B) := List.forall_mem_cons.mpr ⟨⟨Nat.ne_of_gt (k _ (s _ (.head _))), Nat.ne_of_gt (k _ (s _ (.tail _ (.head _))))⟩, h⟩
theorem w_plain {f : Fn} {n : Nat} {c : Cx W f n} {vs : List (Option Value)} {led : Led} {K : Value → Led → Prop} {env : Env} {pos : Pos} {fp : Addr} {e : Expr} {rest : List Expr} (P : Plain led fp) (h : GE c vs led (spliced (backTo pos (starEach (e :: rest) env))) fun ws l => Plain l fp ∧ GE c vs l (call (.ref fp) ([] ++ ws)) K)
    (q : starEach (e :: rest) env = (false, eval e env) :: starEach rest env) (q' : (backTo pos (starEach rest env)).any (·.1) = false) : GE c vs led (callWith pos (.ref fp) [] (backTo pos (starEach (e :: rest) env)) []) K := fun s₀ s A => by
  have fn : ∀ {l : Led} {s : Shared}, Plain l fp → At c vs l s₀ s → FnAt fp s.heap := fun P A => by
    obtain ⟨c', oc, us, t, ctv, pm, h1, -⟩ := P
    exact FnAt.of A.N h1
  exact callWith_F (fn P A) (h.th A fun ws l s1 A1 h1 => ⟨fn h1.1 A1, h1.2 s₀ s1 A1⟩) q q'
theorem g_plain {f : Fn} {m kk : Nat} {c : Cx W f (m + 1)} {vs : List (Option Value)} {led A : Led} {K : Value → Led → Prop} {fp : Addr} {pn xn yn wx : Str} {p1 p2 p3 p4 p5 : Pos} {cv ov : Value} {ct cd ot od : Dat} (hf : Has f.ns vs pn (.ref fp)) (hx : Has f.ns vs xn cv) (hy : Has f.ns vs yn ov) (P : Plain A fp) (x : DatIn A cv (.tuple [ct, cd])) (y : DatIn A ov (.tuple [ot, od])) (sub : ∀ p ∈ A, p ∈ led)
    (e : eval ((Expr.Name pn p1).Call [.Name xn p2, .Constant (.str wx) kk p3, .Name yn p4] [] p5) c.env = (do let f ← eval (Expr.Name pn p1) c.env; callWith p5 f [] (backTo p5 (starEach [.Name xn p2, .Constant (.str wx) kk p3, .Name yn p4] c.env)) (backToKw p5 (keywordEach [] c.env))))
    (e1 : starEach [.Name xn p2, .Constant (.str wx) kk p3, .Name yn p4] c.env = (false, eval (.Name xn p2) c.env) :: starEach [.Constant (.str wx) kk p3, .Name yn p4] c.env) (e2 : starEach [.Constant (.str wx) kk p3, .Name yn p4] c.env = (false, eval (.Constant (.str wx) kk p3) c.env) :: starEach [.Name yn p4] c.env) (e3 : starEach [.Name yn p4] c.env = (false, eval (.Name yn p4) c.env) :: starEach [] c.env) (q' : (backTo p5 (starEach [.Constant (.str wx) kk p3, .Name yn p4] c.env)).any (·.1) = false)
    (k : ∀ D1 D2 o1 o2, (∀ p ∈ led, p.1 < D1) → (∀ p ∈ (D1, o1) :: led, p.1 < D2) → DatIn ((D2, o2) :: (D1, o1) :: A) (.ref D2) (.tuple [ot, .tuple [cd, .str wx, od, .none, .none]]) → K (.ref D2) ((D2, o2) :: (D1, o1) :: led)) :
    GE c vs led (eval ((Expr.Name pn p1).Call [.Name xn p2, .Constant (.str wx) kk p3, .Name yn p4] [] p5) c.env) K := by
  refine g_call (g_loc hf ?_) e
  refine w_plain (P.mono sub) ?_ e1 q'
  refine a_cons (g_loc hx ?_) e1
  refine a_cons (g_str fun _ => ?_) e2
  refine a_cons (g_loc hy ?_) e3
  exact a_nil ⟨P.mono sub, plain_c (P.mono sub) x y sub k⟩
theorem GS.elf {α : Type} {f : Fn} {n : Nat} {c : Cx W f n} {vs : List (Option Value)} {t : Sem α} {K : α → List (Option Value) → Led → Prop} {cp cc : Addr} {op oc : Obj} {ps : Array Value} (A : Led) (h : ∀ A', A' = A → GS c vs (EL cp op cc oc ps A') t K) : GS c vs (EL cp op cc oc ps A) t K := h A rfl
end
end Mine
namespace Mine
open Ob
/-- what stands once the law's own lists are made -/
structure LawS (A : Led) (v1 v2 : Value) (D3 w3 : Addr) (ws2 ws3 : List Value) (m2 m3 : Nat) : Prop where
  x : DatIn A v1 (opD oC)
  y : DatIn A v2 (opD oD)
  mst : (D3, listOf ws2.toArray m2) ∈ A
  dst : DatAll A ws2 ([(Str.ofString "sign", Str.ofString ".")].map tokD)
  mre : (w3, listOf ws3.toArray m3) ∈ A
  dre : DatAll A ws3 ([wd (Str.ofString "REPLACING")].map tokD)
theorem LawS.mono {A B : Led} {v1 v2 : Value} {D3 w3 : Addr} {ws2 ws3 : List Value} {m2 m3 : Nat} (h : LawS A v1 v2 D3 w3 ws2 ws3 m2 m3) (s : ∀ p ∈ A, p ∈ B) : LawS B v1 v2 D3 w3 ws2 ws3 m2 m3 :=
  ⟨h.x.mono s, h.y.mono s, s _ h.mst, h.dst.mono s, s _ h.mre, h.dre.mono s⟩
/-- the pen, the counts' list, the count's cell; what stands beside them -/
structure Sep3 (pn ca cl cc : Addr) (B : Led) : Prop where
  R : PnOk B pn ca
  pl : pn ≠ cl
  pc : pn ≠ cc
  lc : cl ≠ cc
  bl : ∀ p ∈ B, p.1 ≠ cl
  bc : ∀ p ∈ B, p.1 ≠ cc
theorem rng3 {b : Int} (h0 : 0 ≤ b) (h3 : b < 3) : ∃ n : Nat, Builtin.Range.small 0 (1 + b) 1 = true ∧ Builtin.Range.rangeSize 0 (1 + b) 1 = (n : Int) ∧ 1 ≤ n ∧ n ≤ 3 := by
  obtain rfl | rfl | rfl : b = 0 ∨ b = 1 ∨ b = 2 := by omega
  · exact ⟨1, by decide, by decide, by decide, by decide⟩
  · exact ⟨2, by decide, by decide, by decide, by decide⟩
  · exact ⟨3, by decide, by decide, by decide, by decide⟩
theorem pick4 {a b c d v : Value} {k : Nat} (h : [a, b, c, d][k]? = some v) : v = a ∨ v = b ∨ v = c ∨ v = d := by
  match k, h with
  | 0, h => exact .inl (Option.some.inj h).symm
  | 1, h => exact .inr (.inl (Option.some.inj h).symm)
  | 2, h => exact .inr (.inr (.inl (Option.some.inj h).symm))
  | 3, h => exact .inr (.inr (.inr (Option.some.inj h).symm))
  | k + 4, h => cases h
section
variable {pn ca cl cc : Addr} {B a own : Led} {P o l : Obj}
theorem Sep3.ok (h : Sep3 pn ca cl cc B) : PnOk ((cl, l) :: (cc, o) :: B) pn ca := by
  obtain ⟨cvs, cn, m, k⟩ := h.R.cells
  exact ⟨⟨cvs, cn, .tail _ (.tail _ m), k⟩, List.forall_mem_cons.mpr ⟨h.pl.symm, List.forall_mem_cons.mpr ⟨h.pc.symm, h.R.sep⟩⟩⟩
theorem Sep3.add (h : Sep3 pn ca cl cc B) (k : Off ((pn, P) :: (cl, l) :: (cc, o) :: B) a) : Sep3 pn ca cl cc (a ++ B) :=
  ⟨h.R.add (P := P) fun q hq => k q ((List.mem_cons.mp hq).elim (fun e => e ▸ .head _) fun hq => .tail _ (.tail _ (.tail _ hq))), h.pl, h.pc, h.lc,
   List.forall_mem_append.mpr ⟨fun p hp => (k _ (.tail _ (.head _)) p hp).symm, h.bl⟩, List.forall_mem_append.mpr ⟨fun p hp => (k _ (.tail _ (.tail _ (.head _))) p hp).symm, h.bc⟩⟩
theorem Sep3.cons {D : Addr} {ob : Obj} {Y : Led} (h : Sep3 pn ca cl cc B) (l1 : pn < D) (l2 : ∀ p ∈ Y, p.1 < D) (s1 : (cl, l) ∈ Y) (s2 : (cc, o) ∈ Y) : Sep3 pn ca cl cc ((D, ob) :: B) :=
  ⟨h.R.cons l1, h.pl, h.pc, h.lc, List.forall_mem_cons.mpr ⟨(Nat.ne_of_lt (l2 _ s1)).symm, h.bl⟩, List.forall_mem_cons.mpr ⟨(Nat.ne_of_lt (l2 _ s2)).symm, h.bc⟩⟩
theorem Sep3.wide (h : Sep3 pn ca cl cc B) (k : OwnOff own (((pn, P) :: (cl, l) :: (cc, o) :: B).map (·.1))) : Sep3 pn ca cl cc (B ++ own) :=
  ⟨h.R.wide (P := P) fun p hp b hb => k p hp b ((List.mem_cons.mp hb).elim (fun e => e ▸ .head _) fun hb => .tail _ (.tail _ (.tail _ hb))), h.pl, h.pc, h.lc,
   List.forall_mem_append.mpr ⟨h.bl, fun p hp => k p hp cl (.tail _ (.head _))⟩, List.forall_mem_append.mpr ⟨h.bc, fun p hp => k p hp cc (.tail _ (.tail _ (.head _)))⟩⟩
theorem own3 {P' o' l' : Obj} {B' : Led} (k : OwnOff own (((pn, P) :: (cl, l) :: (cc, o) :: B).map (·.1))) (h : ∀ p ∈ own, ∀ q ∈ B', p.1 ≠ q.1) : OwnOff own (((pn, P') :: (cl, l') :: (cc, o') :: B').map (·.1)) := OwnOff.mk fun p hp q hq => by
  rcases List.mem_cons.mp hq with rfl | hq
  · exact k p hp _ (.head _)
  · rcases List.mem_cons.mp hq with rfl | hq
    · exact k p hp _ (.tail _ (.head _))
    · rcases List.mem_cons.mp hq with rfl | hq
      · exact k p hp _ (.tail _ (.tail _ (.head _)))
      · exact h p hp q hq
theorem app3 : ∀ p ∈ (pn, P) :: (cl, l) :: (cc, o) :: (a ++ B), p ∈ a ++ (pn, P) :: (cl, l) :: (cc, o) :: B := by walk_at "sub"
theorem own3b (k : OwnOff own (((pn, P) :: (cl, l) :: (cc, o) :: B).map (·.1))) : ∀ p ∈ own, ∀ q ∈ B, p.1 ≠ q.1 := fun p hp q hq => k p hp q.1 (List.mem_map.mpr ⟨q, .tail _ (.tail _ (.tail _ hq)), rfl⟩)
theorem own3a {Y : Led} (h : ∀ p ∈ own, ∀ q ∈ B, p.1 ≠ q.1) (k : Off Y a) (s : ∀ p ∈ own, p ∈ Y) : ∀ p ∈ own, ∀ q ∈ a ++ B, p.1 ≠ q.1 := fun p hp => List.forall_mem_append.mpr ⟨fun q hq => k p (s p hp) q hq, h p hp⟩
theorem own3c {D : Addr} {ob : Obj} {Y : Led} (h : ∀ p ∈ own, ∀ q ∈ B, p.1 ≠ q.1) (k : ∀ p ∈ Y, p.1 < D) (s : ∀ p ∈ own, p ∈ Y) : ∀ p ∈ own, ∀ q ∈ (D, ob) :: B, p.1 ≠ q.1 := fun p hp => List.forall_mem_cons.mpr ⟨Nat.ne_of_lt (k p (s p hp)), h p hp⟩
end
section
variable {W : Wd}
inductive DJ (W : Wd) (pn ca cl cc sl D3 w3 : Addr) (v1 v2 v4 v7 v8 : Value) (B : Led) (j : Nat) (vs : List (Option Value)) (nx : Led) : Prop
  | mk (P : Obj) (cs : List Cnt) (cnts : List Value) (n : Nat) (o : Obj) (v₀ : Option Value) (B' : Led) (x : Option Value) (h0 : vs = [some (.ref sl), some v1, some v2, some v4, some (.ref D3), some (.ref w3), some v7, some v8, some (.ref cl), x]) (h1 : nx = (pn, P) :: (cl, listOf cnts.toArray n) :: (cc, o) :: B') (h2 : o.data = .cell v₀) (h3 : Sep3 pn ca cl cc B') (h4 : ∀ p ∈ B, p ∈ B')
      (h5 : PenNow ca (1 + 40 * (j : Int)) P) (h6 : DatAll B' cnts (cs.map cntD)) (h7 : cs.length = j) (h8 : ∀ c ∈ cs, CntFit W.w c) : DJ W pn ca cl cc sl D3 w3 v1 v2 v4 v7 v8 B j vs nx
inductive EJ (W : Wd) (pn ca cl cc : Addr) (l o : Obj) (own Bx : Led) (t : Int) (cd : Dat) (i : Nat) (ys : List Value) (nx : Led) : Prop
  | mk (P : Obj) (ss : List Srt) (a : Led) (h0 : nx = (pn, P) :: (cl, l) :: (cc, o) :: (a ++ own)) (h1 : Sep3 pn ca cl cc (a ++ own)) (h2 : ∀ p ∈ own, ∀ q ∈ a, p.1 ≠ q.1) (h3 : ∀ p ∈ Bx, p ∈ a) (h4 : PenNow ca (t + 12 * (i : Int)) P) (h5 : DatAll a ys (ss.map (srtD cd))) (h6 : ss.length = i) (h7 : ∀ s ∈ ss, s.Ok W.w ∧ s.Short ∧ s.pcs.length ≤ 2) : EJ W pn ca cl cc l o own Bx t cd i ys nx
theorem clos_of {f : Fn} {n : Nat} {c : Cx W f n} {scope : Scope} {cl cl' : List (Str × Addr)} (h : c.cl = cl) (k : ∀ x, x = cl → closureFor scope (envX f.cn f.sc c.L c.a c.cd x) = pure cl') : closureFor scope c.env = pure cl' := k _ h
set_option maxHeartbeats 16000000 in
theorem law_d {c : Cx W f598 14} {sl cp cc : Addr} {svs : List Value} {ns : List Int} {op oc : Obj} {A : Led} {ps : Array Value} {v1 v2 v4 v7 v8 : Value} {D3 w3 : Addr} {ws2 ws3 : List Value} {m2 m3 : Nat} (hS : c.h₀.IsList sl svs.toArray) (hi : IntsAre svs ns) (hl : svs.length ≤ 63) (hcl : c.cl = [(Str.ofString "count", cc), (Str.ofString "pen", cp)])
    (dp : op.data = .cell none) (dc : oc.data = .cell none) (n1 : cp ≠ cc) (n2 : cp ≠ 232) (n3 : cp ≠ 595) (n4 : cc ≠ 232) (n5 : cc ≠ 595) (S : LawS A v1 v2 D3 w3 ws2 ws3 m2 m3) (nc : NoC cp cc A) :
    GS c [some (.ref sl), some v1, some v2, some v4, some (.ref D3), some (.ref w3), some v7, some v8, none, none] (EL cp op cc oc ps A) (execs ((fB (st 68)).drop 7) c.env) fun fl _ l => fl = .ret (.bool true) ∧ (∃ ps, (232, tabObj ps) ∈ l) ∧ ∃ ps, (595, tabObj ps) ∈ l := by
  refine GS.hide fun K0 hK0 => ?_
  refine s_cons ?_
  refine s_twoC (cA := cp) (by rw [hcl]; rfl) (by kernel_rfl) ?_ (by kernel_rfl) (by kernel_rfl)
  walk_at "gs"
  refine law_pen_c hi hl (fun pn ca add P fo R hp => ?_) _ _ c _ (by decide) hS
  walk_at "gs"
  rename_i cl pl ql rl T pT qT rT
  have hcp : ∀ p ∈ (pn, P) :: (T, tupO [Value.ref pn, .ref cl]) :: (cl, listOf ([] : List Value).toArray 0) :: add, p.1 ≠ cp := by
    have i1 : (cp, op) ∈ add ++ EL cp op cc oc ps A := List.mem_append_right _ (.head _)
    exact List.forall_mem_cons.mpr ⟨(fo (cp, op) (.head _) _ (.head _)).symm, List.forall_mem_cons.mpr ⟨Nat.ne_of_gt (qT _ (.tail _ i1)), List.forall_mem_cons.mpr ⟨Nat.ne_of_gt (ql _ i1), fun p hp => (fo (cp, op) (.head _) p (.tail _ hp)).symm⟩⟩⟩
  refine ⟨T, .ref pn, .ref cl, _, op, none, _, _, rfl, .tail _ (.head _), Mid.app (a := (pn, P) :: (T, tupO [Value.ref pn, .ref cl]) :: (cl, listOf ([] : List Value).toArray 0) :: add) hcp (Mid.hd (List.forall_mem_cons.mpr ⟨n1.symm, List.forall_mem_cons.mpr ⟨n2.symm, List.forall_mem_cons.mpr ⟨n3.symm, fun p hp => (nc p hp).1⟩⟩⟩)), dp, by walk_at "puts", fun o' ho' => ?_⟩
  refine s_next ?_
  refine GS.sub (led' := (pn, P) :: (cl, listOf ([] : List Value).toArray 0) :: (cc, oc) :: ((cp, o') :: (T, tupO [Value.ref pn, .ref cl]) :: (add ++ (232, tabObj #[]) :: (595, tabObj ps) :: A))) (by walk_at "sub") ?_
  have S3 : Sep3 pn ca cl cc ((cp, o') :: (T, tupO [Value.ref pn, .ref cl]) :: (add ++ (232, tabObj #[]) :: (595, tabObj ps) :: A)) := by
    have icc : (cc, oc) ∈ EL cp op cc oc ps A := .tail _ (.head _)
    have icp : (cp, op) ∈ EL cp op cc oc ps A := .head _
    have up : ∀ p ∈ (232, tabObj #[]) :: (595, tabObj ps) :: A, p ∈ EL cp op cc oc ps A := fun p h => .tail _ (.tail _ h)
    have ne1 : ∀ p ∈ add ++ EL cp op cc oc ps A, p.1 < T := fun p h => qT p (.tail _ h)
    have ocp : ∀ p ∈ add, p.1 ≠ cp := fun p h => (fo _ icp p (.tail _ h)).symm
    have occ : ∀ p ∈ add, p.1 ≠ cc := fun p h => (fo _ icc p (.tail _ h)).symm
    have z : ∀ p ∈ (232, tabObj #[]) :: (595, tabObj ps) :: A, p.1 ≠ cc := List.forall_mem_cons.mpr ⟨n4.symm, List.forall_mem_cons.mpr ⟨n5.symm, fun p hp => (nc p hp).2⟩⟩
    refine ⟨⟨?_, List.forall_mem_cons.mpr ⟨(R.sep (cp, op) (List.mem_append_right _ icp) : cp ≠ pn), List.forall_mem_cons.mpr ⟨Nat.ne_of_gt pT, List.forall_mem_append.mpr ⟨fun p h => R.sep p (List.mem_append_left _ h), fun p h => R.sep p (List.mem_append_right _ (up p h))⟩⟩⟩⟩, Nat.ne_of_lt pl, (R.sep _ (List.mem_append_right _ icc)).symm, (Nat.ne_of_lt (ql _ (List.mem_append_right _ icc))).symm,
      List.forall_mem_cons.mpr ⟨(Nat.ne_of_lt (ql (cp, op) (List.mem_append_right _ icp)) : cp ≠ cl), List.forall_mem_cons.mpr ⟨Nat.ne_of_gt (qT _ (.head _)), List.forall_mem_append.mpr ⟨fun p h => Nat.ne_of_lt (ql p (List.mem_append_left _ h)), fun p h => Nat.ne_of_lt (ql p (List.mem_append_right _ (up p h)))⟩⟩⟩,
      List.forall_mem_cons.mpr ⟨n1, List.forall_mem_cons.mpr ⟨Nat.ne_of_gt (ne1 _ (List.mem_append_right _ icc)), List.forall_mem_append.mpr ⟨occ, z⟩⟩⟩⟩
    obtain ⟨cvs, cn, m, k⟩ := R.cells
    refine ⟨cvs, cn, .tail _ (.tail _ (List.mem_append.mpr ?_)), k⟩
    rcases List.mem_append.mp m with m | m
    · exact .inl m
    · rcases List.mem_cons.mp m with e | m
      · cases e; cases dp
      · rcases List.mem_cons.mp m with e | m
        · cases e; cases dc
        · exact .inr m
  have hin : ∃ B, B = (cp, o') :: (T, tupO [Value.ref pn, .ref cl]) :: (add ++ (232, tabObj #[]) :: (595, tabObj ps) :: A) := ⟨_, rfl⟩
  obtain ⟨B, hB⟩ := hin
  rw [← hB] at S3 ⊢
  have mcp : (cp, o') ∈ B := by rw [hB]; exact .head _
  have m1 : (232, tabObj #[]) ∈ B := by rw [hB]; exact .tail _ (.tail _ (List.mem_append_right _ (.head _)))
  have m2' : (595, tabObj ps) ∈ B := by rw [hB]; exact .tail _ (.tail _ (List.mem_append_right _ (.tail _ (.head _))))
  replace S := S.mono (B := B) (by rw [hB]; exact fun p h => .tail _ (.tail _ (List.mem_append_right _ (.tail _ (.tail _ h)))))
  have ne : cp ≠ cc := n1
  clear hB hcp fo R ql qT rT rl pT n1 n2 n3 n4 n5 nc dp hS
  refine s_cons ?_
  refine s_for ?_ (by kernel_rfl) (fun _ => by kernel_rfl)
  walk_at "gs"
  refine g_cell (cA := cp) (by rw [hcl]; rfl) (.tail _ (.tail _ (.tail _ mcp))) ho' (by kernel_rfl) (by decide) ?_
  walk_at "gs"
  refine g_use (draw_c S3.ok hp (by decide) (by decide) (by decide) fun d dt P1 hp1 d0 d1 => ?_) (by decide)
  obtain ⟨kk, hsm, hsz, hk1, hk3⟩ := rng3 d0 d1
  walk_at "gs"
  refine y_range fun r t1 t2 lr => ?_
  walk_at "gs"
  refine l_range (DJ W pn ca cl cc sl D3 w3 v1 v2 v4 v7 v8 B)
    (.head _) hsm hsz (fun p hp => .tail _ hp) ⟨P1, [], [], 0, oc, none, B, none, rfl, rfl, dc, S3, fun _ h => h, hp1.mono (by omega), .nil, rfl, fun _ h => nomatch h⟩ ?_ ?_
  · rintro j vs1 nx own tv hjk hoff ⟨P, cs, cnts, n, o, v₀, B', x, rfl, rfl, ho, S4, up, hp, dcs, hj, hfit⟩
    have ib : j ≤ 2 := by omega
    refine ⟨_, by walk_at "puts", ?_⟩
    refine GS.sub (led' := (pn, P) :: (cl, listOf cnts.toArray n) :: (cc, o) :: (B' ++ own)) (by simp only [List.cons_append]; walk_at "sub") ?_
    refine GS.hide fun K1 hK1 => ?_
    have S5 := S4.wide hoff
    refine s_cons ?_
    refine s_asgC (cA := cc) (by rw [hcl]; rfl) (by kernel_rfl) ?_ (by kernel_rfl)
    walk_at "gs"
    refine g_cell (cA := cp) (by rw [hcl]; rfl) (.tail _ (.tail _ (.tail _ (List.mem_append_left _ (up _ mcp))))) ho' (by kernel_rfl) (by decide) ?_
    have R5 := S5.ok (l := listOf cnts.toArray n) (o := o)
    walk_at "gs"
    refine g_use (law_words_c (ws := [Str.ofString "K", Str.ofString "IN", Str.ofString "R"]) (by decide) (by decide +kernel) (by decide) (by decide) fun a5 v5 f5 d5 => ?_) (by decide)
    refine GE.sub app3 ?_
    have S6 := S5.add f5
    have R6 := S6.ok (l := listOf cnts.toArray n) (o := o)
    walk_at "gs"
    rename_i ta tb tc D1 p1 q1 r1 D2 p2 q2 r2 D4 p4 q4 r4 D5 p5 q5 r5 D6 p6 q6 r6
    have S7 := ((((S6.cons (ob := tupO [Value.str (Str.ofString "R") tc]) p1 q1 (.head _) (.tail _ (.head _))).cons (ob := tupO []) p2 q2 (.tail _ (.head _)) (.tail _ (.tail _ (.head _)))).cons (ob := tupO [Value.str (Str.ofString "ref") ta, Value.str (Str.ofString "K") tb, Value.ref D1, Value.ref D2, Value.none]) p4 q4 (.tail _ (.tail _ (.head _))) (.tail _ (.tail _ (.tail _ (.head _))))).cons (ob := tupO [v5, Value.ref D4]) p5 q5 (.tail _ (.tail _ (.tail _ (.head _)))) (.tail _ (.tail _ (.tail _ (.tail _ (.head _)))))).cons (ob := listOf [v1, v2, Value.ref D5].toArray 0) p6 q6 (.tail _ (.tail _ (.tail _ (.tail _ (.head _))))) (.tail _ (.tail _ (.tail _ (.tail _ (.tail _ (.head _))))))
    have O5 : ∀ p ∈ own, ∀ q ∈ B', p.1 ≠ q.1 := own3b hoff
    have O6 : ∀ p ∈ own, ∀ q ∈ a5 ++ B', p.1 ≠ q.1 := own3a O5 f5 fun p h => .tail _ (.tail _ (.tail _ (List.mem_append_right _ h)))
    have iO : ∀ p ∈ own, p ∈ (cl, listOf cnts.toArray n) :: (cc, o) :: (a5 ++ (B' ++ own)) := fun p h => .tail _ (.tail _ (List.mem_append_right _ (List.mem_append_right _ h)))
    have O7 := own3c (D := D6) (ob := listOf [v1, v2, Value.ref D5].toArray 0) (own3c (D := D5) (ob := tupO [v5, Value.ref D4]) (own3c (D := D4) (ob := tupO [Value.str (Str.ofString "ref") ta, Value.str (Str.ofString "K") tb, Value.ref D1, Value.ref D2, Value.none]) (own3c (D := D2) (ob := tupO []) (own3c (D := D1) (ob := tupO [Value.str (Str.ofString "R") tc]) O6 q1 iO) q2 fun p h => .tail _ (iO p h)) q4 fun p h => .tail _ (.tail _ (iO p h))) q5 fun p h => .tail _ (.tail _ (.tail _ (iO p h)))) q6 fun p h => .tail _ (.tail _ (.tail _ (.tail _ (iO p h))))
    refine g_use (pick_c r6 hp (.head _) (show 0 < 3 by decide) (show 3 ≤ 100 by decide) (by omega) fun d v P2 hv hp2 => ?_) (by decide)
    obtain ⟨Bx, hBx⟩ : ∃ Bx, Bx = (D6, listOf [v1, v2, Value.ref D5].toArray 0) :: (D5, tupO [v5, Value.ref D4]) :: (D4, tupO [Value.str (Str.ofString "ref") ta, Value.str (Str.ofString "K") tb, Value.ref D1, Value.ref D2, Value.none]) :: (D2, tupO []) :: (D1, tupO [Value.str (Str.ofString "R") tc]) :: (a5 ++ B') := ⟨_, rfl⟩
    have Sx : Sep3 pn ca cl cc (Bx ++ own) := by rw [hBx]; simpa only [List.cons_append, List.append_assoc] using S7
    have Ox : ∀ p ∈ own, ∀ q ∈ Bx, p.1 ≠ q.1 := by rw [hBx]; exact O7
    have ux : ∀ p ∈ B', p ∈ Bx := by rw [hBx]; exact fun p h => .tail _ (.tail _ (.tail _ (.tail _ (.tail _ (List.mem_append_right _ h)))))
    obtain ⟨oo, oref, ook, osh, od⟩ : ∃ oo : Op, oo.isRef = true ∧ oo.Ok W.w ∧ oo.Short ∧ DatIn Bx v (opD oo) := by
      rcases pick3 hv with rfl | rfl | rfl
      · exact ⟨oC, rfl, okC _, shC, S.x.mono fun p h => ux p (up p h)⟩
      · exact ⟨oD, rfl, okD _, shD, S.y.mono fun p h => ux p (up p h)⟩
      · refine ⟨.qual (Str.ofString "K") (Str.ofString "IN") (Str.ofString "R"), rfl, ok_qual (.inr rfl), (by decide : (Str.ofString "K").length ≤ 100 ∧ (Str.ofString "IN").length ≤ 100 ∧ (Str.ofString "R").length ≤ 100), ?_⟩
        rw [hBx]
        exact .tuple (.tail _ (.head _)) (.cons (d5.mono fun p h => .tail _ (.tail _ (.tail _ (.tail _ (.tail _ (List.mem_append_left _ h)))))) (.cons (.tuple (.tail _ (.tail _ (.head _))) (.cons (.str _ _) (.cons (.str _ _) (.cons (.tuple (.tail _ (.tail _ (.tail _ (.tail _ (.head _))))) (.cons (.str _ _) .nil)) (.cons (.tuple (.tail _ (.tail _ (.tail _ (.head _)))) .nil) (.cons .none .nil)))))) .nil))
    have M := Mid.app (e := (cc, o)) (a := [(pn, P2)]) (fun p h => by rw [List.mem_singleton.mp h]; exact Sx.pc) (Mid.age (o := listOf [v1, v2, Value.ref D5].toArray 0) q6 (Mid.age (o := tupO [v5, Value.ref D4]) q5 (Mid.age (o := tupO [Value.str (Str.ofString "ref") ta, Value.str (Str.ofString "K") tb, Value.ref D1, Value.ref D2, Value.none]) q4 (Mid.age (o := tupO []) q2 (Mid.age (o := tupO [Value.str (Str.ofString "R") tc]) q1 (Mid.app (a := [(cl, listOf cnts.toArray n)]) (fun p h => by rw [List.mem_singleton.mp h]; exact Sx.lc) (Mid.hd S6.bc)))))))
    refine ⟨o, v₀, _, M, ho, fun ov hov => ?_⟩
    refine s_next ?_
    refine GS.sub (led' := (pn, P2) :: (cl, listOf cnts.toArray n) :: (cc, ov) :: (Bx ++ own)) (by rw [hBx]; simp only [List.cons_append, List.nil_append, List.append_assoc]; walk_at "sub") ?_
    clear hBx M S7 O5 O6 O7 S5 S6 r6 r5 r4 r2 r1 q1 q2 q4 q5 q6 p1 p2 p4 p5 p6 f5 d5 R5 R6 iO
    walk_at "gs"
    refine m_append (.tail _ (.head _)) ?_
    walk_at "gs"
    refine g_cell (cA := cc) (by rw [hcl]; rfl) (.tail _ (.tail _ (.head _))) hov (by kernel_rfl) (by decide) ?_
    refine a_cons ?_ (by kernel_rfl)
    refine' o_lcR (cl := [(Str.ofString "pen", cp), (Str.ofString "count", cc)]) ?_ ?k1 ?k2 ?k3 ?k4 ?k5 ?k6
    case k1 => exact clos_of hcl fun _ e => by subst e; kernel_rfl
    case k2 => decide
    case k3 => exact rfl
    case k4 => decide
    case k5 => exact rfl
    case k6 => exact fun _ => rfl
    walk_at "gs"
    refine g_cell (cA := cp) (by rw [hcl]; rfl) (.tail _ (.tail _ (.tail _ (List.mem_append_left _ (ux _ (up _ mcp)))))) ho' (by kernel_rfl) (by decide) ?_
    walk_at "gs"
    refine g_use (draw_c Sx.ok hp2 (by decide) (by decide) (by omega) fun d2 dt2 P3 hp3 e0 e1 => ?_) (by decide)
    obtain ⟨k2, hsm2, hsz2, hk21, hk23⟩ := rng3 e0 e1
    walk_at "gs"
    refine y_range fun r2 t3 t4 lr2 => ?_
    walk_at "gs"
    refine ⟨r2, 1 + d2, _, t3, t4, k2, (pn, P3) :: (cl, listOf cnts.toArray n) :: (cc, ov) :: (Bx ++ own), EJ W pn ca cl cc (listOf cnts.toArray n) ov own Bx (3 + 40 * (j : Int)) oo.dat,
      rfl, .head _, hsm2, hsz2, by rw [sizeLine_eq]; omega, fun p h => .tail _ h, ⟨P3, [], Bx, rfl, Sx, Ox, fun _ h => h, hp3.mono (by omega), .nil, rfl, fun _ h => nomatch h⟩, ?_, ?_⟩
    · rintro i ys nx v9 C oC9 m₂ own9 _ hik ⟨P, ss, a, rfl, Sa, Oa, ua, hpa, dss, hi9, hss⟩ hC hN hx2 ho9
      obtain ⟨Ta, x1, x2, nT, rfl, mT, -, dT⟩ := pair_of od
      have Sb := Sa.wide ho9
      refine GE.sub (led' := (pn, P) :: (cl, listOf cnts.toArray n) :: (cc, ov) :: ((a ++ own) ++ own9)) (fun p hp => hp) ?_
      refine GE.hide fun K2 hK2 => ?_
      refine g_call ?_ (by kernel_rfl)
      refine gc_glo (gv_law_sort _) rfl (by kernel_rfl) ?_
      refine w_def (kp586 _) ?_ (by kernel_rfl) (by kernel_rfl)
      refine a_cons ?_ (by kernel_rfl)
      refine gc_cell (cA := cp) rfl (.tail _ (.tail _ (.tail _ (List.mem_append_left _ (List.mem_append_left _ (ua _ (ux _ (up _ mcp)))))))) ho' rfl (by kernel_rfl) (by decide) ?_
      refine a_cons ?_ (by kernel_rfl)
      refine gc_cell (cA := cc) rfl (.tail _ (.tail _ (.head _))) hov rfl (by kernel_rfl) (by decide) ?_
      refine a_nil ?_
      refine g_use (law_sort_c (cb := Bx) Sb.ok hpa (by omega) mT dT (fun p h => .tail _ (.tail _ (List.mem_append_left _ (List.mem_append_left _ (ua p h))))) fun add9 s y P9 hoff9 sok ssh slen dy hp9 => ?_) (by decide)
      have ea : ∀ p ∈ (add9 ++ a) ++ own, p ∈ add9 ++ (a ++ own) := fun p h => by rwa [List.append_assoc] at h
      refine hK2 _ _ ⟨(pn, P9) :: (cl, listOf cnts.toArray n) :: (cc, ov) :: ((add9 ++ a) ++ own), by walk_at "sub", fun p h => .tail _ (List.mem_append_right _ (.tail _ (.tail _ (List.mem_append_right _ h)))), own3 ho9 ?_, ⟨P9, ss ++ [s], add9 ++ a, rfl, ?_, ?_, fun p h => List.mem_append_right _ (ua p h), hp9.mono (by omega), ?_, ?_, ?_⟩⟩
      · rw [List.append_assoc]
        exact own3a (own3b ho9) hoff9 fun p h => .tail _ (.tail _ (.tail _ (List.mem_append_right _ h)))
      · rw [List.append_assoc]
        exact Sa.add (P := P) (l := listOf cnts.toArray n) (o := ov) (hoff9.sub fun p h => by
          rcases List.mem_cons.mp h with rfl | h
          · exact .head _
          · rcases List.mem_cons.mp h with rfl | h
            · exact .tail _ (.head _)
            · rcases List.mem_cons.mp h with rfl | h
              · exact .tail _ (.tail _ (.head _))
              · exact .tail _ (.tail _ (.tail _ (List.mem_append_left _ h))))
      · exact own3a Oa hoff9 fun p h => .tail _ (.tail _ (.tail _ (List.mem_append_left _ (List.mem_append_right _ h))))
      · rw [List.map_append]
        exact DatAll.append (dss.mono fun p h => List.mem_append_right _ h) (DatAll.one (dy.mono fun p h => (List.mem_append.mp h).elim (List.mem_append_left _) fun h => List.mem_append_right _ (ua p h)))
      · rw [List.length_append, hi9]; rfl
      · refine List.forall_mem_append.mpr ⟨hss, fun s' hs' => ?_⟩
        rw [List.mem_singleton.mp hs']
        refine ⟨sok, ssh, ?_⟩
        have := congrArg List.length (pcs_rows s oo.dat)
        rw [List.length_map] at this
        omega
    · rintro ys nx D ⟨P, ss, a, rfl, Sa, Oa, ua, hpa, dss, hi9, hss⟩ o1
      have oD := off1_of o1
      refine GE.sub (led' := (pn, P) :: (D, LCg.lst ys) :: (cl, listOf cnts.toArray n) :: (cc, ov) :: (a ++ own)) swap_sub ?_
      have R9 : PnOk ((D, LCg.lst ys) :: (cl, listOf cnts.toArray n) :: (cc, ov) :: (a ++ own)) pn ca := by
        have R := Sa.ok (l := listOf cnts.toArray n) (o := ov)
        obtain ⟨cvs, cn, m, k⟩ := R.cells
        exact ⟨⟨cvs, cn, .tail _ m, k⟩, List.forall_mem_cons.mpr ⟨(oD _ (.head _)).symm, R.sep⟩⟩
      walk_at "gs"
      rename_i D9 p9 q9 r9
      have M := Mid.age (o := tupO [v, Value.ref D]) q9 (Mid.app (e := (cl, listOf cnts.toArray n)) (a := [(D, LCg.lst ys)]) (fun p h => by rw [List.mem_singleton.mp h]; exact (oD _ (.tail _ (.head _))).symm) (Mid.hd (List.forall_mem_cons.mpr ⟨Sa.lc.symm, Sa.bl⟩)))
      have hcl3 : cnts.length = j := by rw [dcs.length, List.length_map, hj]
      refine p_append M Sa.pl (by omega) ?_
      walk_at "gs"
      have Oa' : ∀ p ∈ own, ∀ q ∈ (D9, tupO [v, Value.ref D]) :: (D, LCg.lst ys) :: a, p.1 ≠ q.1 := own3c (Y := (D, LCg.lst ys) :: (cl, listOf cnts.toArray n) :: (cc, ov) :: (a ++ own)) (fun p hp => List.forall_mem_cons.mpr ⟨oD p (.tail _ (.tail _ (.tail _ (List.mem_append_right _ hp)))), Oa p hp⟩) q9 fun p h => .tail _ (.tail _ (.tail _ (List.mem_append_right _ h)))
      have ub : ∀ p ∈ a, p ∈ (D9, tupO [v, Value.ref D]) :: (D, LCg.lst ys) :: a := fun p h => .tail _ (.tail _ h)
      refine hK1 _ _ _ (r_end (nx := (pn, P) :: (cl, listOf (cnts ++ [Value.ref D9]).toArray (n + 1)) :: (cc, ov) :: ((D9, tupO [v, Value.ref D]) :: (D, LCg.lst ys) :: a)) (by walk_at "sub") (by walk_at "sub") (own3 hoff Oa')
        ⟨P, cs ++ [(oo, ss)], cnts ++ [Value.ref D9], n + 1, ov, some v, _, _, rfl, rfl, hov, ?_, fun p h => ub p (ua p (ux p (up p h))), hpa.mono (by omega), ?_, by rw [List.length_append, hj]; rfl, ?_⟩)
      · refine Sep3.cons (l := listOf cnts.toArray n) (o := ov) ?_ p9 q9 (.tail _ (.head _)) (.tail _ (.tail _ (.head _)))
        have Sa' : Sep3 pn ca cl cc a := by
          obtain ⟨cvs, cn, m, k⟩ := S4.R.cells
          exact ⟨⟨⟨cvs, cn, ua _ (ux _ m), k⟩, fun p h => Sa.R.sep p (List.mem_append_left _ h)⟩, Sa.pl, Sa.pc, Sa.lc, fun p h => Sa.bl p (List.mem_append_left _ h), fun p h => Sa.bc p (List.mem_append_left _ h)⟩
        obtain ⟨cvs, cn, m, k⟩ := Sa'.R.cells
        exact ⟨⟨⟨cvs, cn, .tail _ m, k⟩, List.forall_mem_cons.mpr ⟨(oD _ (.head _)).symm, Sa'.R.sep⟩⟩, Sa.pl, Sa.pc, Sa.lc, List.forall_mem_cons.mpr ⟨(oD _ (.tail _ (.head _))).symm, Sa'.bl⟩, List.forall_mem_cons.mpr ⟨(oD _ (.tail _ (.tail _ (.head _)))).symm, Sa'.bc⟩⟩
      · rw [List.map_append]
        exact DatAll.append (dcs.mono fun p h => ub p (ua p (ux p h))) (DatAll.one (.tuple (.head _) (.cons (od.mono fun p h => ub p (ua p h)) (.cons (.list (.tail _ (.head _)) (dss.mono ub)) .nil))))
      · refine List.forall_mem_append.mpr ⟨hfit, fun c' hc' => ?_⟩
        rw [List.mem_singleton.mp hc']
        exact ⟨⟨oref, ook, by intro e; rw [show ss = [] from e] at hi9; simp at hi9; omega, fun s hs => (hss s hs).1⟩, ⟨osh, fun s hs => (hss s hs).2.1⟩, by show ss.length ≤ 3; omega, fun s hs => (hss s hs).2.2⟩
  · rintro vs1 nx ⟨P, cs, cnts, n, o, v₀, B', x, rfl, rfl, ho, S4, up, hp, dcs, hj, hfit⟩
    refine s_next ?_
    have R4 := S4.ok (l := listOf cnts.toArray n) (o := o)
    walk_at "gs"
    refine g_cell (cA := cp) (by rw [hcl]; rfl) (.tail _ (.tail _ (.tail _ (up _ mcp)))) ho' (by kernel_rfl) (by decide) ?_
    walk_at "gs"
    refine g_use (law_words_c (by decide) (sp_one "END-IF" (by decide)) (by decide) (by decide) fun a5 v5 f5 d5 => ?_) (by decide)
    refine GE.sub app3 ?_
    have S6 := S4.add f5
    have R6 := S6.ok (l := listOf cnts.toArray n) (o := o)
    walk_at "gs"
    rename_i D1 p1 q1 r1 D2 p2 q2 r2
    refine g_use (pick_c r2 hp (.head _) (show 0 < 4 by decide) (show 4 ≤ 100 by decide) (by omega) fun d9 v P2 hv hp2 => ?_) (by decide)
    have uB : ∀ p ∈ B', p ∈ (pn, P2) :: (D2, listOf [Value.ref D3, .ref w3, v5, .ref D1].toArray 0) :: (D1, listOf ([] : List Value).toArray 0) :: (cl, listOf cnts.toArray n) :: (cc, o) :: (a5 ++ B') := fun p h => .tail _ (.tail _ (.tail _ (.tail _ (.tail _ (List.mem_append_right _ h)))))
    obtain ⟨bl, bvs, n2, post, rfl, hb, hpt, hE, hF, hpl⟩ : ∃ (bl : Addr) (bvs : List Value) (n2 : Nat) (post : List (Str × Str)), v = .ref bl ∧ (bl, listOf bvs.toArray n2) ∈ (pn, P2) :: (D2, listOf [Value.ref D3, .ref w3, v5, .ref D1].toArray 0) :: (D1, listOf ([] : List Value).toArray 0) :: (cl, listOf cnts.toArray n) :: (cc, o) :: (a5 ++ B') ∧
        DatAll ((pn, P2) :: (D2, listOf [Value.ref D3, .ref w3, v5, .ref D1].toArray 0) :: (D1, listOf ([] : List Value).toArray 0) :: (cl, listOf cnts.toArray n) :: (cc, o) :: (a5 ++ B')) bvs (post.map tokD) ∧ EndT W.w post ∧ Fit post ∧ post.length ≤ 10 := by
      rcases pick4 hv with rfl | rfl | rfl | rfl
      · exact ⟨_, _, _, _, rfl, uB _ (up _ S.mst), S.dst.mono fun p h => uB p (up p h), end_sign _, fit_sign, by decide⟩
      · exact ⟨_, _, _, _, rfl, uB _ (up _ S.mre), S.dre.mono fun p h => uB p (up p h), end_word _ (by decide), fit_word (by decide), by decide⟩
      · obtain ⟨a, ws, n', rfl, ma, da⟩ := list_at d5
        have ua : ∀ p ∈ a5, p ∈ (pn, P2) :: (D2, listOf [Value.ref D3, .ref w3, .ref a, .ref D1].toArray 0) :: (D1, listOf ([] : List Value).toArray 0) :: (cl, listOf cnts.toArray n) :: (cc, o) :: (a5 ++ B') := fun p h => .tail _ (.tail _ (.tail _ (.tail _ (.tail _ (List.mem_append_left _ h)))))
        exact ⟨a, ws, n', [wd (Str.ofString "END-IF")], rfl, ua _ ma, da.mono ua, end_word _ (by decide), fit_word (by decide), by decide⟩
      · exact ⟨_, [], 0, [], rfl, .tail _ (.tail _ (.head _)), .nil, end_nil _, Fit.nil, by decide⟩
    walk_at "gs"
    refine g_use (law_right_c (.tail _ (.tail _ (.tail _ (.head _)))) (dcs.mono uB) hb hpt (by intro e; rw [e] at hj; simp at hj; omega) (by omega) hfit hE hF hpl ?_) (by decide)
    walk_at "gs"
    exact hK0 _ _ _ ⟨rfl, ⟨_, uB _ (up _ m1)⟩, ⟨_, uB _ (up _ m2')⟩⟩
end
end Mine
namespace Mine
open Ob
section
variable {W : Wd}
theorem GS.to {α : Type} {f : Fn} {n : Nat} {c : Cx W f n} {vs : List (Option Value)} {l : Led} {t t' : Sem α} {K : α → List (Option Value) → Led → Prop} (h : GS c vs l t K) (e : t' = t) : GS c vs l t' K := e ▸ h
local macro_rules | `(tactic| walk_at "g") => `(tactic| (with_reducible refine' g_rev2 ?h ?m ?_; (case h => walk_at "has"); (case m => assumption); intro D l1))
set_option maxHeartbeats 16000000 in
theorem law_c {c : Cx W f598 14} {sl cp cc : Addr} {svs : List Value} {ns : List Int} {op oc : Obj} {A : Led} {ps : Array Value} {v1 v2 a b : Value} {fp L5 D3 w3 : Addr} {ws2 ws3 : List Value} {m2 m3 n : Nat} (hS : c.h₀.IsList sl svs.toArray) (hi : IntsAre svs ns) (hl : svs.length ≤ 63) (hcl : c.cl = [(Str.ofString "count", cc), (Str.ofString "pen", cp)])
    (dp : op.data = .cell none) (dc : oc.data = .cell none) (n1 : cp ≠ cc) (n2 : cp ≠ 232) (n3 : cp ≠ 595) (n4 : cc ≠ 232) (n5 : cc ≠ 595) (S : LawS A v1 v2 D3 w3 ws2 ws3 m2 m3) (nc : NoC cp cc A) (P : Plain A fp) (mL : (L5, listOf [a, b].toArray n) ∈ A) (da : DatIn A a (cntD lone1)) (db : DatIn A b (cntD lone2)) :
    GS c [some (.ref sl), some v1, some v2, some (.ref fp), some (.ref D3), some (.ref w3), some (.ref L5), none, none, none] (EL cp op cc oc ps A) (execs ((fB (st 68)).drop 4) c.env) fun fl _ l => fl = .ret (.bool true) ∧ (∃ ps, (232, tabObj ps) ∈ l) ∧ ∃ ps, (595, tabObj ps) ∈ l := by
  have inE : ∀ {op : Obj}, ∀ p ∈ A, p ∈ EL cp op cc oc ps A := fun p h => .tail _ (.tail _ (.tail _ (.tail _ h)))
  have mL' := inE (op := op) _ mL
  have s4 := sp_one "CONTINUE" (by decide)
  walk_at "gs"
  refine g_use (law_right_c (cts := [lone1, lone2]) (inE _ mL) ((DatAll.cons da (.cons db .nil)).mono inE) (inE _ S.mst) (S.dst.mono inE) (by decide) (by decide) (two_fit (lone1_fit _) (lone2_fit _)) (end_sign _) fit_sign (by decide) ?_) (by decide)
  walk_at "gs"
  refine g_use (law_right_c (cts := [lone2, lone1]) (.head _) ((DatAll.cons db (.cons da .nil)).mono fun p h => .tail _ (inE p h)) (.tail _ (inE _ S.mre)) (S.dre.mono fun p h => .tail _ (inE p h)) (by decide) (by decide) (two_fit (lone2_fit _) (lone1_fit _)) (end_word _ (by decide)) (fit_word (by decide)) (by decide) ?_) (by decide)
  refine GE.sub (led' := EL cp op cc oc ps A) (fun p h => .tail _ h) ?_
  clear mL' mL da db
  obtain ⟨T1, x1, x2, nT, rfl, mT, dx1, dx2⟩ := pair_of S.x
  walk_at "gs"
  refine o_tup (.tail _ (inE _ mT)) (by decide) (by decide) rfl ?_ (by with_unfolding_all rfl) (by intro _; with_unfolding_all rfl)
  walk_at "gs"
  rename_i tc E1 g1 ti tw E2 g2 E3 g3 E4 g4 E5 g5 tA
  refine g_plain (by walk_at "has") (by walk_at "has") (by walk_at "has") P S.x S.x (fun p h => .tail _ (.tail _ (.tail _ (.tail _ (.tail _ (inE p h)))))) (by kernel_rfl) (by kernel_rfl) (by kernel_rfl) (by kernel_rfl) (by kernel_rfl) fun B1 B2 b1 b2 g6 g7 z1 => ?_
  walk_at "gs"
  rename_i L1 g8 U1 g9 L2 g10 U2 g11 tL
  refine g_plain (by walk_at "has") (by walk_at "has") (by walk_at "has") P S.x S.y (fun p h => .tail _ (.tail _ (.tail _ (.tail _ (.tail _ (.tail _ (.tail _ (.tail _ (.tail _ (.tail _ (.tail _ (inE p h)))))))))))) (by kernel_rfl) (by kernel_rfl) (by kernel_rfl) (by kernel_rfl) (by kernel_rfl) fun B3 B4 b3 b4 g12 g13 z2 => ?_
  walk_at "gs"
  rename_i L3 g14 U3 g15 L4 g16 U4 g17 X g18 tq
  obtain ⟨A', hA'⟩ : ∃ A', A' = (X, listOf [Value.ref U2, .ref U4].toArray 0) :: (U4, tupO [Value.ref T1, Value.ref L4]) :: (L4, listOf [Value.ref U3].toArray 0) :: (U3, tupO [Value.str (Str.ofString "ALL") tL, Value.ref L3]) :: (L3, listOf [Value.ref B4].toArray 0) :: (B4, b4) :: (B3, b3) :: (U2, tupO [Value.ref T1, Value.ref L2]) :: (L2, listOf [Value.ref E5, .ref U1].toArray 0) :: (U1, tupO [Value.str (Str.ofString "ALL") tA, Value.ref L1]) :: (L1, listOf [Value.ref B2].toArray 0) :: (B2, b2) :: (B1, b1) :: (E5, tupO [Value.str (Str.ofString "CHARACTERS") tc, Value.ref E4]) :: (E4, listOf [Value.ref E3].toArray 0) :: (E3, tupO [Value.ref E1, .ref E2]) :: (E2, tupO [x2, .str (Str.ofString "CHARACTERS") tw, .none, .none, .none]) :: (E1, listOf ([] : List Value).toArray 0) :: A := ⟨_, rfl⟩
  refine GE.sub (led' := EL cp op cc oc ps A') (by rw [hA']; exact List.forall_mem_cons.mpr ⟨.tail _ (.tail _ (.tail _ (.tail _ (.tail _ (.tail _ (.tail _ (.tail _ (.tail _ (.tail _ (.tail _ (.tail _ (.tail _ (.tail _ (.tail _ (.tail _ (.tail _ (.tail _ (.head _)))))))))))))))))), List.forall_mem_cons.mpr ⟨.tail _ (.tail _ (.tail _ (.tail _ (.tail _ (.tail _ (.tail _ (.tail _ (.tail _ (.tail _ (.tail _ (.tail _ (.tail _ (.tail _ (.tail _ (.tail _ (.tail _ (.tail _ (.tail _ (.head _))))))))))))))))))), List.forall_mem_cons.mpr ⟨.tail _ (.tail _ (.tail _ (.tail _ (.tail _ (.tail _ (.tail _ (.tail _ (.tail _ (.tail _ (.tail _ (.tail _ (.tail _ (.tail _ (.tail _ (.tail _ (.tail _ (.tail _ (.tail _ (.tail _ (.head _)))))))))))))))))))), List.forall_mem_cons.mpr ⟨.tail _ (.tail _ (.tail _ (.tail _ (.tail _ (.tail _ (.tail _ (.tail _ (.tail _ (.tail _ (.tail _ (.tail _ (.tail _ (.tail _ (.tail _ (.tail _ (.tail _ (.tail _ (.tail _ (.tail _ (.tail _ (.head _))))))))))))))))))))), List.forall_mem_cons.mpr ⟨.head _, List.forall_mem_cons.mpr ⟨.tail _ (.head _), List.forall_mem_cons.mpr ⟨.tail _ (.tail _ (.head _)), List.forall_mem_cons.mpr ⟨.tail _ (.tail _ (.tail _ (.head _))), List.forall_mem_cons.mpr ⟨.tail _ (.tail _ (.tail _ (.tail _ (.head _)))), List.forall_mem_cons.mpr ⟨.tail _ (.tail _ (.tail _ (.tail _ (.tail _ (.head _))))), List.forall_mem_cons.mpr ⟨.tail _ (.tail _ (.tail _ (.tail _ (.tail _ (.tail _ (.head _)))))), List.forall_mem_cons.mpr ⟨.tail _ (.tail _ (.tail _ (.tail _ (.tail _ (.tail _ (.tail _ (.head _))))))), List.forall_mem_cons.mpr ⟨.tail _ (.tail _ (.tail _ (.tail _ (.tail _ (.tail _ (.tail _ (.tail _ (.head _)))))))), List.forall_mem_cons.mpr ⟨.tail _ (.tail _ (.tail _ (.tail _ (.tail _ (.tail _ (.tail _ (.tail _ (.tail _ (.head _))))))))), List.forall_mem_cons.mpr ⟨.tail _ (.tail _ (.tail _ (.tail _ (.tail _ (.tail _ (.tail _ (.tail _ (.tail _ (.tail _ (.head _)))))))))), List.forall_mem_cons.mpr ⟨.tail _ (.tail _ (.tail _ (.tail _ (.tail _ (.tail _ (.tail _ (.tail _ (.tail _ (.tail _ (.tail _ (.head _))))))))))), List.forall_mem_cons.mpr ⟨.tail _ (.tail _ (.tail _ (.tail _ (.tail _ (.tail _ (.tail _ (.tail _ (.tail _ (.tail _ (.tail _ (.tail _ (.head _)))))))))))), List.forall_mem_cons.mpr ⟨.tail _ (.tail _ (.tail _ (.tail _ (.tail _ (.tail _ (.tail _ (.tail _ (.tail _ (.tail _ (.tail _ (.tail _ (.tail _ (.head _))))))))))))), List.forall_mem_cons.mpr ⟨.tail _ (.tail _ (.tail _ (.tail _ (.tail _ (.tail _ (.tail _ (.tail _ (.tail _ (.tail _ (.tail _ (.tail _ (.tail _ (.tail _ (.head _)))))))))))))), List.forall_mem_cons.mpr ⟨.tail _ (.tail _ (.tail _ (.tail _ (.tail _ (.tail _ (.tail _ (.tail _ (.tail _ (.tail _ (.tail _ (.tail _ (.tail _ (.tail _ (.tail _ (.head _))))))))))))))), List.forall_mem_cons.mpr ⟨.tail _ (.tail _ (.tail _ (.tail _ (.tail _ (.tail _ (.tail _ (.tail _ (.tail _ (.tail _ (.tail _ (.tail _ (.tail _ (.tail _ (.tail _ (.tail _ (.head _)))))))))))))))), List.forall_mem_cons.mpr ⟨.tail _ (.tail _ (.tail _ (.tail _ (.tail _ (.tail _ (.tail _ (.tail _ (.tail _ (.tail _ (.tail _ (.tail _ (.tail _ (.tail _ (.tail _ (.tail _ (.tail _ (.head _))))))))))))))))), fun _ h => .tail _ (.tail _ (.tail _ (.tail _ (.tail _ (.tail _ (.tail _ (.tail _ (.tail _ (.tail _ (.tail _ (.tail _ (.tail _ (.tail _ (.tail _ (.tail _ (.tail _ (.tail _ (.tail _ (.tail _ (.tail _ (.tail _ (h))))))))))))))))))))))⟩⟩⟩⟩⟩⟩⟩⟩⟩⟩⟩⟩⟩⟩⟩⟩⟩⟩⟩⟩⟩⟩) ?_
  have up : ∀ p ∈ A, p ∈ A' := by rw [hA']; exact fun _ h => .tail _ (.tail _ (.tail _ (.tail _ (.tail _ (.tail _ (.tail _ (.tail _ (.tail _ (.tail _ (.tail _ (.tail _ (.tail _ (.tail _ (.tail _ (.tail _ (.tail _ (.tail _ (h))))))))))))))))))
  have nc' : NoC cp cc A' := by rw [hA']; exact NoC.cons (A := A) (op := op) (oc := oc) (ps := ps) (NoC.cons (A := A) (op := op) (oc := oc) (ps := ps) (NoC.cons (A := A) (op := op) (oc := oc) (ps := ps) (NoC.cons (A := A) (op := op) (oc := oc) (ps := ps) (NoC.cons (A := A) (op := op) (oc := oc) (ps := ps) (NoC.cons (A := A) (op := op) (oc := oc) (ps := ps) (NoC.cons (A := A) (op := op) (oc := oc) (ps := ps) (NoC.cons (A := A) (op := op) (oc := oc) (ps := ps) (NoC.cons (A := A) (op := op) (oc := oc) (ps := ps) (NoC.cons (A := A) (op := op) (oc := oc) (ps := ps) (NoC.cons (A := A) (op := op) (oc := oc) (ps := ps) (NoC.cons (A := A) (op := op) (oc := oc) (ps := ps) (NoC.cons (A := A) (op := op) (oc := oc) (ps := ps) (NoC.cons (A := A) (op := op) (oc := oc) (ps := ps) (NoC.cons (A := A) (op := op) (oc := oc) (ps := ps) (NoC.cons (A := A) (op := op) (oc := oc) (ps := ps) (NoC.cons (A := A) (op := op) (oc := oc) (ps := ps) (NoC.cons (A := A) (op := op) (oc := oc) (ps := ps) (nc) g1 fun _ h => h) g2 fun _ h => .tail _ (h)) g3 fun _ h => .tail _ (.tail _ (h))) g4 fun _ h => .tail _ (.tail _ (.tail _ (h)))) g5 fun _ h => .tail _ (.tail _ (.tail _ (.tail _ (h))))) g6 fun _ h => .tail _ (.tail _ (.tail _ (.tail _ (.tail _ (h)))))) g7 fun _ h => .tail _ (.tail _ (.tail _ (.tail _ (.tail _ (.tail _ (h))))))) g8 fun _ h => .tail _ (.tail _ (.tail _ (.tail _ (.tail _ (.tail _ (.tail _ (h)))))))) g9 fun _ h => .tail _ (.tail _ (.tail _ (.tail _ (.tail _ (.tail _ (.tail _ (.tail _ (h))))))))) g10 fun _ h => .tail _ (.tail _ (.tail _ (.tail _ (.tail _ (.tail _ (.tail _ (.tail _ (.tail _ (h)))))))))) g11 fun _ h => .tail _ (.tail _ (.tail _ (.tail _ (.tail _ (.tail _ (.tail _ (.tail _ (.tail _ (.tail _ (h))))))))))) g12 fun _ h => .tail _ (.tail _ (.tail _ (.tail _ (.tail _ (.tail _ (.tail _ (.tail _ (.tail _ (.tail _ (.tail _ (h)))))))))))) g13 fun _ h => .tail _ (.tail _ (.tail _ (.tail _ (.tail _ (.tail _ (.tail _ (.tail _ (.tail _ (.tail _ (.tail _ (.tail _ (h))))))))))))) g14 fun _ h => .tail _ (.tail _ (.tail _ (.tail _ (.tail _ (.tail _ (.tail _ (.tail _ (.tail _ (.tail _ (.tail _ (.tail _ (.tail _ (h)))))))))))))) g15 fun _ h => .tail _ (.tail _ (.tail _ (.tail _ (.tail _ (.tail _ (.tail _ (.tail _ (.tail _ (.tail _ (.tail _ (.tail _ (.tail _ (.tail _ (h))))))))))))))) g16 fun _ h => .tail _ (.tail _ (.tail _ (.tail _ (.tail _ (.tail _ (.tail _ (.tail _ (.tail _ (.tail _ (.tail _ (.tail _ (.tail _ (.tail _ (.tail _ (h)))))))))))))))) g17 fun _ h => .tail _ (.tail _ (.tail _ (.tail _ (.tail _ (.tail _ (.tail _ (.tail _ (.tail _ (.tail _ (.tail _ (.tail _ (.tail _ (.tail _ (.tail _ (.tail _ (h))))))))))))))))) g18 fun _ h => .tail _ (.tail _ (.tail _ (.tail _ (.tail _ (.tail _ (.tail _ (.tail _ (.tail _ (.tail _ (.tail _ (.tail _ (.tail _ (.tail _ (.tail _ (.tail _ (.tail _ (h)))))))))))))))))
  have S' := S.mono up
  have mX : (X, listOf [Value.ref U2, .ref U4].toArray 0) ∈ A' := by rw [hA']; exact .head _
  have e1 : DatIn A' (.ref U2) (cntD whole1) := by
    have w := S.x.mono up
    rw [hA'] at w up ⊢
    exact .tuple (.tail _ (.tail _ (.tail _ (.tail _ (.tail _ (.tail _ (.tail _ (.head _)))))))) (.cons w (.cons (.list (.tail _ (.tail _ (.tail _ (.tail _ (.tail _ (.tail _ (.tail _ (.tail _ (.head _))))))))) (.cons (.tuple (.tail _ (.tail _ (.tail _ (.tail _ (.tail _ (.tail _ (.tail _ (.tail _ (.tail _ (.tail _ (.tail _ (.tail _ (.tail _ (.head _)))))))))))))) (.cons (.str _ _) (.cons (.list (.tail _ (.tail _ (.tail _ (.tail _ (.tail _ (.tail _ (.tail _ (.tail _ (.tail _ (.tail _ (.tail _ (.tail _ (.tail _ (.tail _ (.head _))))))))))))))) (.cons (.tuple (.tail _ (.tail _ (.tail _ (.tail _ (.tail _ (.tail _ (.tail _ (.tail _ (.tail _ (.tail _ (.tail _ (.tail _ (.tail _ (.tail _ (.tail _ (.head _)))))))))))))))) (.cons (.list (.tail _ (.tail _ (.tail _ (.tail _ (.tail _ (.tail _ (.tail _ (.tail _ (.tail _ (.tail _ (.tail _ (.tail _ (.tail _ (.tail _ (.tail _ (.tail _ (.tail _ (.head _)))))))))))))))))) .nil) (.cons (.tuple (.tail _ (.tail _ (.tail _ (.tail _ (.tail _ (.tail _ (.tail _ (.tail _ (.tail _ (.tail _ (.tail _ (.tail _ (.tail _ (.tail _ (.tail _ (.tail _ (.head _))))))))))))))))) (.cons (dx2.mono up) (.cons (.str _ _) (.cons .none (.cons .none (.cons .none .nil)))))) .nil))) .nil)) .nil))) (.cons (.tuple (.tail _ (.tail _ (.tail _ (.tail _ (.tail _ (.tail _ (.tail _ (.tail _ (.tail _ (.head _)))))))))) (.cons (.str _ _) (.cons (.list (.tail _ (.tail _ (.tail _ (.tail _ (.tail _ (.tail _ (.tail _ (.tail _ (.tail _ (.tail _ (.head _))))))))))) (.cons (z1.mono (List.forall_mem_cons.mpr ⟨.tail _ (.tail _ (.tail _ (.tail _ (.tail _ (.tail _ (.tail _ (.tail _ (.tail _ (.tail _ (.tail _ (.head _))))))))))), List.forall_mem_cons.mpr ⟨.tail _ (.tail _ (.tail _ (.tail _ (.tail _ (.tail _ (.tail _ (.tail _ (.tail _ (.tail _ (.tail _ (.tail _ (.head _)))))))))))), fun _ h => .tail _ (.tail _ (.tail _ (.tail _ (.tail _ (.tail _ (.tail _ (.tail _ (.tail _ (.tail _ (.tail _ (.tail _ (.tail _ (.tail _ (.tail _ (.tail _ (.tail _ (.tail _ (h))))))))))))))))))⟩⟩)) .nil)) .nil))) .nil))) .nil))
  have e2 : DatIn A' (.ref U4) (cntD whole2) := by
    have w := S.x.mono up
    rw [hA'] at w up ⊢
    exact .tuple (.tail _ (.head _)) (.cons w (.cons (.list (.tail _ (.tail _ (.head _))) (.cons (.tuple (.tail _ (.tail _ (.tail _ (.head _)))) (.cons (.str _ _) (.cons (.list (.tail _ (.tail _ (.tail _ (.tail _ (.head _))))) (.cons (z2.mono (List.forall_mem_cons.mpr ⟨.tail _ (.tail _ (.tail _ (.tail _ (.tail _ (.head _))))), List.forall_mem_cons.mpr ⟨.tail _ (.tail _ (.tail _ (.tail _ (.tail _ (.tail _ (.head _)))))), fun _ h => .tail _ (.tail _ (.tail _ (.tail _ (.tail _ (.tail _ (.tail _ (.tail _ (.tail _ (.tail _ (.tail _ (.tail _ (.tail _ (.tail _ (.tail _ (.tail _ (.tail _ (.tail _ (h))))))))))))))))))⟩⟩)) .nil)) .nil))) .nil)) .nil))
  clear hA' z1 z2 g1 g2 g3 g4 g5 g6 g7 g8 g9 g10 g11 g12 g13 g14 g15 g16 g17 g18
  refine g_use (law_words_c (by decide) s4 (by decide) (by decide) fun a5 v5 f5 d5 => ?_) (by decide)
  obtain ⟨w5, ws5, m5, rfl, mw5, dw5⟩ := list_at d5
  have in5 : ∀ p ∈ A', p ∈ a5 ++ EL cp op cc oc ps A' := fun p h => List.mem_append_right _ (.tail _ (.tail _ (.tail _ (.tail _ h))))
  walk_at "gs"
  refine g_use (law_right_c (cts := [whole1, whole2]) (post := [wd (Str.ofString "CONTINUE")]) (in5 _ mX) ((DatAll.cons e1 (.cons e2 .nil)).mono in5) (List.mem_append_left _ mw5) (dw5.mono fun p h => List.mem_append_left _ h) (by decide) (by decide) (two_fit (whole1_fit _) (whole2_fit _)) (end_word _ (by decide)) (fit_word (by decide)) (by decide) ?_) (by decide)
  refine GE.sub (led' := EL cp op cc oc ps A') (fun p h => List.mem_append_right _ h) ?_
  refine GE.mono (K := fun b l => b = true ∧ l = EL cp op cc oc ps A') (by walk_at "gs"; exact ⟨rfl, rfl⟩) ?_
  rintro b l ⟨rfl, rfl⟩
  refine sel_nt ?_
  refine s_nil ?_
  refine s_next ?_
  exact GS.to (law_d hS hi hl hcl dp dc n1 n2 n3 n4 n5 S' nc') (by kernel_rfl)
end
end Mine
namespace Mine
open Ob
section
variable {W : Wd}
set_option maxHeartbeats 16000000 in
theorem law_run {c : Cx W f598 14} {sl cp cc : Addr} {svs : List Value} {ns : List Int} {op oc : Obj} (hS : c.h₀.IsList sl svs.toArray) (hi : IntsAre svs ns) (hl : svs.length ≤ 63) (hcl : c.cl = [(Str.ofString "count", cc), (Str.ofString "pen", cp)]) (C : CodeHd c.h₀ 597 595) (hcd : c.cd = .ref 597)
    (dp : op.data = .cell none) (dc : oc.data = .cell none) (n1 : cp ≠ cc) (n2 : cp ≠ 232) (n3 : cp ≠ 595) (n4 : cc ≠ 232) (n5 : cc ≠ 595) :
    GS c [some (.ref sl), none, none, none, none, none, none, none, none, none] [(cp, op), (cc, oc), (232, tabObj #[]), (595, tabObj #[])] (execs (fB (st 68)) c.env) fun fl _ l => fl = .ret (.bool true) ∧ (∃ ps, (232, tabObj ps) ∈ l) ∧ ∃ ps, (595, tabObj ps) ∈ l := by
  have s1 := sp_one "C" (by decide)
  have s2 := sp_one "D" (by decide)
  have s3 := sp_one "REPLACING" (by decide)
  walk_at "gs"
  refine g_use (law_item_c (by decide) s1 (by decide) fun a1 v1 f1 d1 => ?_) (by decide)
  walk_at "gs"
  refine g_use (law_item_c (by decide) s2 (by decide) fun a2 v2 f2 d2 => ?_) (by decide)
  walk_at "gs"
  rename_i D1 q1
  refine twoW_k (.head _) (by walk_at "puts") (by walk_at "puts") ?_
  walk_at "gs"
  refine GE.sub (led' := (595, tabObj #[]) :: (cp, op) :: (cc, oc) :: (232, tabObj #[]) :: ((D1, tupO [v1, v2]) :: (a2 ++ a1))) (fun p hp => by simp only [List.mem_cons, List.mem_append, List.not_mem_nil, or_false] at hp ⊢; grind) ?_
  have i5 : (595, tabObj #[]) ∈ a1 ++ [(cp, op), (cc, oc), (232, tabObj #[]), (595, tabObj #[])] := by simp
  refine g_lam C hcd (List.forall_mem_cons.mpr ⟨n3, List.forall_mem_cons.mpr ⟨n5, List.forall_mem_cons.mpr ⟨by decide, List.forall_mem_cons.mpr ⟨Nat.ne_of_gt (q1 _ (List.mem_append_right _ i5)), List.forall_mem_append.mpr ⟨fun p hp => (f2 _ i5 p hp).symm, fun p hp => (f1 (595, tabObj #[]) (by simp) p hp).symm⟩⟩⟩⟩⟩) (by kn_triples) rfl rfl rfl fun fp c' oc' us t ctv pm ps' e1 e2 l1 l2 => ?_
  refine ⟨_, by walk_at "puts", ?_⟩
  refine s_next ?_
  refine GS.sub (led' := EL cp op cc oc ps' ((fp, kla_obj (Str.ofString "<lambda>") fLam.cn (lamP lam) (lamB lam) lamS [] pm c' ctv) :: (c', oc') :: ((D1, tupO [v1, v2]) :: (a2 ++ a1))))
    (List.forall_mem_cons.mpr ⟨.tail _ (.tail _ (.tail _ (.head _))), List.forall_mem_cons.mpr ⟨.tail _ (.tail _ (.tail _ (.tail _ (.head _)))), List.forall_mem_cons.mpr ⟨.tail _ (.tail _ (.tail _ (.tail _ (.tail _ (.head _))))), List.forall_mem_cons.mpr ⟨.tail _ (.tail _ (.head _)), List.forall_mem_cons.mpr ⟨.head _, List.forall_mem_cons.mpr ⟨.tail _ (.head _), fun p h => .tail _ (.tail _ (.tail _ (.tail _ (.tail _ (.tail _ h)))))⟩⟩⟩⟩⟩⟩) ?_
  refine GS.elf _ fun A1 hA1 => ?_
  have P1 : Plain A1 fp := by rw [hA1]; exact ⟨c', oc', us, t, ctv, pm, .head _, .tail _ (.head _), e1, e2⟩
  have x1 : DatIn A1 v1 (.tuple [.list [tokD (wd (Str.ofString "C"))], refD (Str.ofString "C") []]) := by rw [hA1]; exact d1.mono fun p h => by simp [h]
  have y1 : DatIn A1 v2 (.tuple [.list [tokD (wd (Str.ofString "D"))], refD (Str.ofString "D") []]) := by rw [hA1]; exact d2.mono fun p h => by simp [h]
  have nc1 : NoC cp cc A1 := by
    rw [hA1]
    have i1 : (cp, op) ∈ a1 ++ [(cp, op), (cc, oc), (232, tabObj #[]), (595, tabObj #[])] := by simp
    have i2 : (cc, oc) ∈ a1 ++ [(cp, op), (cc, oc), (232, tabObj #[]), (595, tabObj #[])] := by simp
    have g1 := l1 (cp, op) (.tail _ (.head _))
    have g2 := l1 (cc, oc) (.tail _ (.tail _ (.head _)))
    exact List.forall_mem_cons.mpr ⟨⟨Nat.ne_of_gt (Nat.lt_trans g1 l2), Nat.ne_of_gt (Nat.lt_trans g2 l2)⟩, List.forall_mem_cons.mpr ⟨⟨Nat.ne_of_gt g1, Nat.ne_of_gt g2⟩, List.forall_mem_cons.mpr ⟨⟨Nat.ne_of_gt (q1 _ (List.mem_append_right _ i1)), Nat.ne_of_gt (q1 _ (List.mem_append_right _ i2))⟩, List.forall_mem_append.mpr ⟨fun p hp => ⟨(f2 _ i1 p hp).symm, (f2 _ i2 p hp).symm⟩, fun p hp => ⟨(f1 (cp, op) (by simp) p hp).symm, (f1 (cc, oc) (by simp) p hp).symm⟩⟩⟩⟩⟩
  clear hA1 i5 q1 l1 l2 f1 f2 d1 d2 e1 e2 C hcd
  walk_at "gs"
  rename_i ta tb D2 q2 D3 q3 tc
  refine g_use (law_words_c (by decide) s3 (by decide) (by decide) fun a3 v3 f3 d3 => ?_) (by decide)
  walk_at "gs"
  rename_i D4 q4
  refine twoW_k (.head _) (by walk_at "puts") (by walk_at "puts") ?_
  refine s_next ?_
  refine GS.sub (led' := EL cp op cc oc ps' ((D4, tupO [.ref D3, v3]) :: (a3 ++ ((D3, listOf [Value.ref D2].toArray 0) :: (D2, tupO [.str (Str.ofString "sign") ta, .str (Str.ofString ".") tb]) :: A1)))) (fun p hp => by simp only [List.mem_cons, List.mem_append] at hp ⊢; grind) ?_
  refine GS.elf _ fun A2 hA2 => ?_
  have up : ∀ p ∈ A1, p ∈ A2 := by rw [hA2]; exact fun p h => by simp [h]
  have P2 := P1.mono up
  have x2 := x1.mono up
  have y2 := y1.mono up
  obtain ⟨w3, ws3, m3, rfl, mw3, dw3⟩ := list_at d3
  have mst : (D3, listOf [Value.ref D2].toArray 0) ∈ A2 := by rw [hA2]; simp
  have dst : DatAll A2 [Value.ref D2] ([(Str.ofString "sign", Str.ofString ".")].map tokD) := by
    rw [hA2]
    exact .cons (.tuple (by walk_at "in") (.cons (.str _ _) (.cons (.str _ _) .nil))) .nil
  have mre : (w3, listOf ws3.toArray m3) ∈ A2 := by rw [hA2]; simp [mw3]
  have dre : DatAll A2 ws3 ([wd (Str.ofString "REPLACING")].map tokD) := by rw [hA2]; exact dw3.mono fun p h => by simp [h]
  have nc2 : NoC cp cc A2 := by
    rw [hA2]
    refine NoC.cons (A := A1) (op := op) (oc := oc) (ps := ps') (NoC.add (op := op) (oc := oc) (ps := ps') (Y := (D3, listOf [Value.ref D2].toArray 0) :: (D2, tupO [.str (Str.ofString "sign") ta, .str (Str.ofString ".") tb]) :: EL cp op cc oc ps' A1) (NoC.cons (A := A1) (op := op) (oc := oc) (ps := ps') (NoC.cons (A := A1) nc1 q2 fun _ h => h) q3 fun _ h => .tail _ h) f3 ?_) q4 fun _ h => List.mem_append_right _ (.tail _ (.tail _ h))
    exact fun p hp => by simp only [List.mem_cons] at hp ⊢; grind
  clear hA2 q2 q3 q4 f3 d3 dw3 mw3 P1 x1 y1 nc1 up
  have inE : ∀ {op : Obj} {A : Led}, ∀ p ∈ A, p ∈ EL cp op cc oc ps' A := fun p h => .tail _ (.tail _ (.tail _ (.tail _ h)))
  refine s_seq (fun vs' l => ∃ (L5 : Addr) (a b : Value) (n : Nat) (A3 : Led), vs' = [some (.ref sl), some v1, some v2, some (.ref fp), some (.ref D3), some (.ref w3), some (.ref L5), none, none, none] ∧ (∀ p ∈ EL cp op cc oc ps' A3, p ∈ l) ∧ (∀ p ∈ A2, p ∈ A3) ∧ NoC cp cc A3 ∧ (L5, listOf [a, b].toArray n) ∈ A3 ∧ DatIn A3 a (cntD lone1) ∧ DatIn A3 b (cntD lone2)) ?_ ?_
  · walk_at "gs"
    rename_i tA
    refine g_plain (by walk_at "has") (by walk_at "has") (by walk_at "has") P2 x2 y2 inE (by kernel_rfl) (by kernel_rfl) (by kernel_rfl) (by kernel_rfl) (by kernel_rfl) fun B1 B2 b1 b2 g1 g2 z1 => ?_
    walk_at "gs"
    refine g_plain (by walk_at "has") (by walk_at "has") (by walk_at "has") P2 x2 x2 (fun p h => .tail _ (.tail _ (inE p h))) (by kernel_rfl) (by kernel_rfl) (by kernel_rfl) (by kernel_rfl) (by kernel_rfl) fun B3 B4 b3 b4 g3 g4 z2 => ?_
    walk_at "gs"
    rename_i L1 g5 T1 g6 L2 g7 T2 g8 tL
    refine g_plain (by walk_at "has") (by walk_at "has") (by walk_at "has") P2 y2 x2 (fun p h => .tail _ (.tail _ (.tail _ (.tail _ (.tail _ (.tail _ (.tail _ (.tail _ (inE p h))))))))) (by kernel_rfl) (by kernel_rfl) (by kernel_rfl) (by kernel_rfl) (by kernel_rfl) fun B5 B6 b5 b6 g9 g10 z3 => ?_
    walk_at "gs"
    rename_i L3 g11 T3 g12 L4 g13 T4 g14 L5 g15
    refine ⟨rfl, L5, .ref T2, .ref T4, 0, (L5, listOf [Value.ref T2, .ref T4].toArray 0) :: (T4, tupO [v2, Value.ref L4]) :: (L4, listOf [Value.ref T3].toArray 0) :: (T3, tupO [Value.str (Str.ofString "LEADING") tL, Value.ref L3]) :: (L3, listOf [Value.ref B6].toArray 0) :: (B6, b6) :: (B5, b5) :: (T2, tupO [v1, Value.ref L2]) :: (L2, listOf [Value.ref T1].toArray 0) :: (T1, tupO [Value.str (Str.ofString "ALL") tA, Value.ref L1]) :: (L1, listOf [Value.ref B2, .ref B4].toArray 0) :: (B4, b4) :: (B3, b3) :: (B2, b2) :: (B1, b1) :: A2, rfl, List.forall_mem_cons.mpr ⟨.tail _ (.tail _ (.tail _ (.tail _ (.tail _ (.tail _ (.tail _ (.tail _ (.tail _ (.tail _ (.tail _ (.tail _ (.tail _ (.tail _ (.tail _ (.head _))))))))))))))), List.forall_mem_cons.mpr ⟨.tail _ (.tail _ (.tail _ (.tail _ (.tail _ (.tail _ (.tail _ (.tail _ (.tail _ (.tail _ (.tail _ (.tail _ (.tail _ (.tail _ (.tail _ (.tail _ (.head _)))))))))))))))), List.forall_mem_cons.mpr ⟨.tail _ (.tail _ (.tail _ (.tail _ (.tail _ (.tail _ (.tail _ (.tail _ (.tail _ (.tail _ (.tail _ (.tail _ (.tail _ (.tail _ (.tail _ (.tail _ (.tail _ (.head _))))))))))))))))), List.forall_mem_cons.mpr ⟨.tail _ (.tail _ (.tail _ (.tail _ (.tail _ (.tail _ (.tail _ (.tail _ (.tail _ (.tail _ (.tail _ (.tail _ (.tail _ (.tail _ (.tail _ (.tail _ (.tail _ (.tail _ (.head _)))))))))))))))))), List.forall_mem_cons.mpr ⟨.head _, List.forall_mem_cons.mpr ⟨.tail _ (.head _), List.forall_mem_cons.mpr ⟨.tail _ (.tail _ (.head _)), List.forall_mem_cons.mpr ⟨.tail _ (.tail _ (.tail _ (.head _))), List.forall_mem_cons.mpr ⟨.tail _ (.tail _ (.tail _ (.tail _ (.head _)))), List.forall_mem_cons.mpr ⟨.tail _ (.tail _ (.tail _ (.tail _ (.tail _ (.head _))))), List.forall_mem_cons.mpr ⟨.tail _ (.tail _ (.tail _ (.tail _ (.tail _ (.tail _ (.head _)))))), List.forall_mem_cons.mpr ⟨.tail _ (.tail _ (.tail _ (.tail _ (.tail _ (.tail _ (.tail _ (.head _))))))), List.forall_mem_cons.mpr ⟨.tail _ (.tail _ (.tail _ (.tail _ (.tail _ (.tail _ (.tail _ (.tail _ (.head _)))))))), List.forall_mem_cons.mpr ⟨.tail _ (.tail _ (.tail _ (.tail _ (.tail _ (.tail _ (.tail _ (.tail _ (.tail _ (.head _))))))))), List.forall_mem_cons.mpr ⟨.tail _ (.tail _ (.tail _ (.tail _ (.tail _ (.tail _ (.tail _ (.tail _ (.tail _ (.tail _ (.head _)))))))))), List.forall_mem_cons.mpr ⟨.tail _ (.tail _ (.tail _ (.tail _ (.tail _ (.tail _ (.tail _ (.tail _ (.tail _ (.tail _ (.tail _ (.head _))))))))))), List.forall_mem_cons.mpr ⟨.tail _ (.tail _ (.tail _ (.tail _ (.tail _ (.tail _ (.tail _ (.tail _ (.tail _ (.tail _ (.tail _ (.tail _ (.head _)))))))))))), List.forall_mem_cons.mpr ⟨.tail _ (.tail _ (.tail _ (.tail _ (.tail _ (.tail _ (.tail _ (.tail _ (.tail _ (.tail _ (.tail _ (.tail _ (.tail _ (.head _))))))))))))), List.forall_mem_cons.mpr ⟨.tail _ (.tail _ (.tail _ (.tail _ (.tail _ (.tail _ (.tail _ (.tail _ (.tail _ (.tail _ (.tail _ (.tail _ (.tail _ (.tail _ (.head _)))))))))))))), fun _ h => .tail _ (.tail _ (.tail _ (.tail _ (.tail _ (.tail _ (.tail _ (.tail _ (.tail _ (.tail _ (.tail _ (.tail _ (.tail _ (.tail _ (.tail _ (.tail _ (.tail _ (.tail _ (.tail _ (h)))))))))))))))))))⟩⟩⟩⟩⟩⟩⟩⟩⟩⟩⟩⟩⟩⟩⟩⟩⟩⟩⟩, fun _ h => .tail _ (.tail _ (.tail _ (.tail _ (.tail _ (.tail _ (.tail _ (.tail _ (.tail _ (.tail _ (.tail _ (.tail _ (.tail _ (.tail _ (.tail _ (h))))))))))))))), NoC.cons (A := A2) (op := op) (oc := oc) (ps := ps') (NoC.cons (A := A2) (op := op) (oc := oc) (ps := ps') (NoC.cons (A := A2) (op := op) (oc := oc) (ps := ps') (NoC.cons (A := A2) (op := op) (oc := oc) (ps := ps') (NoC.cons (A := A2) (op := op) (oc := oc) (ps := ps') (NoC.cons (A := A2) (op := op) (oc := oc) (ps := ps') (NoC.cons (A := A2) (op := op) (oc := oc) (ps := ps') (NoC.cons (A := A2) (op := op) (oc := oc) (ps := ps') (NoC.cons (A := A2) (op := op) (oc := oc) (ps := ps') (NoC.cons (A := A2) (op := op) (oc := oc) (ps := ps') (NoC.cons (A := A2) (op := op) (oc := oc) (ps := ps') (NoC.cons (A := A2) (op := op) (oc := oc) (ps := ps') (NoC.cons (A := A2) (op := op) (oc := oc) (ps := ps') (NoC.cons (A := A2) (op := op) (oc := oc) (ps := ps') (NoC.cons (A := A2) (op := op) (oc := oc) (ps := ps') (nc2) g1 fun _ h => h) g2 fun _ h => .tail _ (h)) g3 fun _ h => .tail _ (.tail _ (h))) g4 fun _ h => .tail _ (.tail _ (.tail _ (h)))) g5 fun _ h => .tail _ (.tail _ (.tail _ (.tail _ (h))))) g6 fun _ h => .tail _ (.tail _ (.tail _ (.tail _ (.tail _ (h)))))) g7 fun _ h => .tail _ (.tail _ (.tail _ (.tail _ (.tail _ (.tail _ (h))))))) g8 fun _ h => .tail _ (.tail _ (.tail _ (.tail _ (.tail _ (.tail _ (.tail _ (h)))))))) g9 fun _ h => .tail _ (.tail _ (.tail _ (.tail _ (.tail _ (.tail _ (.tail _ (.tail _ (h))))))))) g10 fun _ h => .tail _ (.tail _ (.tail _ (.tail _ (.tail _ (.tail _ (.tail _ (.tail _ (.tail _ (h)))))))))) g11 fun _ h => .tail _ (.tail _ (.tail _ (.tail _ (.tail _ (.tail _ (.tail _ (.tail _ (.tail _ (.tail _ (h))))))))))) g12 fun _ h => .tail _ (.tail _ (.tail _ (.tail _ (.tail _ (.tail _ (.tail _ (.tail _ (.tail _ (.tail _ (.tail _ (h)))))))))))) g13 fun _ h => .tail _ (.tail _ (.tail _ (.tail _ (.tail _ (.tail _ (.tail _ (.tail _ (.tail _ (.tail _ (.tail _ (.tail _ (h))))))))))))) g14 fun _ h => .tail _ (.tail _ (.tail _ (.tail _ (.tail _ (.tail _ (.tail _ (.tail _ (.tail _ (.tail _ (.tail _ (.tail _ (.tail _ (h)))))))))))))) g15 fun _ h => .tail _ (.tail _ (.tail _ (.tail _ (.tail _ (.tail _ (.tail _ (.tail _ (.tail _ (.tail _ (.tail _ (.tail _ (.tail _ (.tail _ (h)))))))))))))), .head _, ?_, ?_⟩
    · have w1 := z1.mono (fun _ h => .tail _ (.tail _ (.tail _ (.tail _ (.tail _ (.tail _ (.tail _ (.tail _ (.tail _ (.tail _ (.tail _ (.tail _ (.tail _ (h))))))))))))) : ∀ p ∈ (B2, b2) :: (B1, b1) :: A2, p ∈ (L5, listOf [Value.ref T2, .ref T4].toArray 0) :: (T4, tupO [v2, Value.ref L4]) :: (L4, listOf [Value.ref T3].toArray 0) :: (T3, tupO [Value.str (Str.ofString "LEADING") tL, Value.ref L3]) :: (L3, listOf [Value.ref B6].toArray 0) :: (B6, b6) :: (B5, b5) :: (T2, tupO [v1, Value.ref L2]) :: (L2, listOf [Value.ref T1].toArray 0) :: (T1, tupO [Value.str (Str.ofString "ALL") tA, Value.ref L1]) :: (L1, listOf [Value.ref B2, .ref B4].toArray 0) :: (B4, b4) :: (B3, b3) :: (B2, b2) :: (B1, b1) :: A2)
      have w2 := z2.mono (List.forall_mem_cons.mpr ⟨.tail _ (.tail _ (.tail _ (.tail _ (.tail _ (.tail _ (.tail _ (.tail _ (.tail _ (.tail _ (.tail _ (.head _))))))))))), List.forall_mem_cons.mpr ⟨.tail _ (.tail _ (.tail _ (.tail _ (.tail _ (.tail _ (.tail _ (.tail _ (.tail _ (.tail _ (.tail _ (.tail _ (.head _)))))))))))), fun _ h => .tail _ (.tail _ (.tail _ (.tail _ (.tail _ (.tail _ (.tail _ (.tail _ (.tail _ (.tail _ (.tail _ (.tail _ (.tail _ (.tail _ (.tail _ (h)))))))))))))))⟩⟩ : ∀ p ∈ (B4, b4) :: (B3, b3) :: A2, p ∈ (L5, listOf [Value.ref T2, .ref T4].toArray 0) :: (T4, tupO [v2, Value.ref L4]) :: (L4, listOf [Value.ref T3].toArray 0) :: (T3, tupO [Value.str (Str.ofString "LEADING") tL, Value.ref L3]) :: (L3, listOf [Value.ref B6].toArray 0) :: (B6, b6) :: (B5, b5) :: (T2, tupO [v1, Value.ref L2]) :: (L2, listOf [Value.ref T1].toArray 0) :: (T1, tupO [Value.str (Str.ofString "ALL") tA, Value.ref L1]) :: (L1, listOf [Value.ref B2, .ref B4].toArray 0) :: (B4, b4) :: (B3, b3) :: (B2, b2) :: (B1, b1) :: A2)
      have w0 := x2.mono (fun _ h => .tail _ (.tail _ (.tail _ (.tail _ (.tail _ (.tail _ (.tail _ (.tail _ (.tail _ (.tail _ (.tail _ (.tail _ (.tail _ (.tail _ (.tail _ (h))))))))))))))) : ∀ p ∈ A2, p ∈ (L5, listOf [Value.ref T2, .ref T4].toArray 0) :: (T4, tupO [v2, Value.ref L4]) :: (L4, listOf [Value.ref T3].toArray 0) :: (T3, tupO [Value.str (Str.ofString "LEADING") tL, Value.ref L3]) :: (L3, listOf [Value.ref B6].toArray 0) :: (B6, b6) :: (B5, b5) :: (T2, tupO [v1, Value.ref L2]) :: (L2, listOf [Value.ref T1].toArray 0) :: (T1, tupO [Value.str (Str.ofString "ALL") tA, Value.ref L1]) :: (L1, listOf [Value.ref B2, .ref B4].toArray 0) :: (B4, b4) :: (B3, b3) :: (B2, b2) :: (B1, b1) :: A2)
      exact .tuple (.tail _ (.tail _ (.tail _ (.tail _ (.tail _ (.tail _ (.tail _ (.head _)))))))) (.cons w0 (.cons (.list (.tail _ (.tail _ (.tail _ (.tail _ (.tail _ (.tail _ (.tail _ (.tail _ (.head _))))))))) (.cons (.tuple (.tail _ (.tail _ (.tail _ (.tail _ (.tail _ (.tail _ (.tail _ (.tail _ (.tail _ (.head _)))))))))) (.cons (.str _ _) (.cons (.list (.tail _ (.tail _ (.tail _ (.tail _ (.tail _ (.tail _ (.tail _ (.tail _ (.tail _ (.tail _ (.head _))))))))))) (.cons w1 (.cons w2 .nil))) .nil))) .nil)) .nil))
    · have w1 := z3.mono (List.forall_mem_cons.mpr ⟨.tail _ (.tail _ (.tail _ (.tail _ (.tail _ (.head _))))), List.forall_mem_cons.mpr ⟨.tail _ (.tail _ (.tail _ (.tail _ (.tail _ (.tail _ (.head _)))))), fun _ h => .tail _ (.tail _ (.tail _ (.tail _ (.tail _ (.tail _ (.tail _ (.tail _ (.tail _ (.tail _ (.tail _ (.tail _ (.tail _ (.tail _ (.tail _ (h)))))))))))))))⟩⟩ : ∀ p ∈ (B6, b6) :: (B5, b5) :: A2, p ∈ (L5, listOf [Value.ref T2, .ref T4].toArray 0) :: (T4, tupO [v2, Value.ref L4]) :: (L4, listOf [Value.ref T3].toArray 0) :: (T3, tupO [Value.str (Str.ofString "LEADING") tL, Value.ref L3]) :: (L3, listOf [Value.ref B6].toArray 0) :: (B6, b6) :: (B5, b5) :: (T2, tupO [v1, Value.ref L2]) :: (L2, listOf [Value.ref T1].toArray 0) :: (T1, tupO [Value.str (Str.ofString "ALL") tA, Value.ref L1]) :: (L1, listOf [Value.ref B2, .ref B4].toArray 0) :: (B4, b4) :: (B3, b3) :: (B2, b2) :: (B1, b1) :: A2)
      have w0 := y2.mono (fun _ h => .tail _ (.tail _ (.tail _ (.tail _ (.tail _ (.tail _ (.tail _ (.tail _ (.tail _ (.tail _ (.tail _ (.tail _ (.tail _ (.tail _ (.tail _ (h))))))))))))))) : ∀ p ∈ A2, p ∈ (L5, listOf [Value.ref T2, .ref T4].toArray 0) :: (T4, tupO [v2, Value.ref L4]) :: (L4, listOf [Value.ref T3].toArray 0) :: (T3, tupO [Value.str (Str.ofString "LEADING") tL, Value.ref L3]) :: (L3, listOf [Value.ref B6].toArray 0) :: (B6, b6) :: (B5, b5) :: (T2, tupO [v1, Value.ref L2]) :: (L2, listOf [Value.ref T1].toArray 0) :: (T1, tupO [Value.str (Str.ofString "ALL") tA, Value.ref L1]) :: (L1, listOf [Value.ref B2, .ref B4].toArray 0) :: (B4, b4) :: (B3, b3) :: (B2, b2) :: (B1, b1) :: A2)
      exact .tuple (.tail _ (.head _)) (.cons w0 (.cons (.list (.tail _ (.tail _ (.head _))) (.cons (.tuple (.tail _ (.tail _ (.tail _ (.head _)))) (.cons (.str _ _) (.cons (.list (.tail _ (.tail _ (.tail _ (.tail _ (.head _))))) (.cons w1 .nil)) .nil))) .nil)) .nil))
  · rintro vs5 l5 ⟨L5, a5, b5, n5', A3, rfl, hl5, u3, nc3, m5, da5, db5⟩
    refine GS.sub hl5 ?_
    have S2 : LawS A2 v1 v2 D3 w3 [Value.ref D2] ws3 0 m3 := ⟨x2, y2, mst, dst, mre, dre⟩
    exact GS.to (law_c hS hi hl hcl dp dc n1 n2 n3 n4 n5 (S2.mono u3) nc3 (P2.mono u3) m5 da5 db5) (by kernel_rfl)
end
end Mine
namespace Mine
open Ob
theorem cells_law (L : Nat) : PySem.cellsFrom L f598.sc.names [] = [(Str.ofString "count", L + 1), (Str.ofString "pen", L)] := by kernel_rfl
theorem look_law (v : Value) : look f598.ns [some v, none, none, none, none, none, none, none, none, none] = fun y => if y = Str.ofString "script" then some v else none := by
  funext y
  simp only [look]
  by_cases h : y = Str.ofString "script"
  · rw [if_pos h, if_pos h]
  · rw [if_neg h, if_neg h]
    repeat (split; rfl)
    rfl
theorem law_top {w : World} {p : Program} {loose : List Str} {mean : ExcName → Option Value} {mg mb m : Str → Option Value} {h₀ h₁ : Heap} {L fa sl : Addr} {svs : List Value} {ns : List Int} {o1 o2 : Obj} {s : Shared} {k : Nat}
    (X : (KF w.params).In h₀) (T : Top p loose mean mg mb h₀) (B : Below callerA h₀ [] h₀) (F : Fr h₀ L h₁ m) (N : News h₀ L h₁ [(L + 1 + 1, o1), (L + 1, o2), (232, tabObj #[]), (595, tabObj #[])]) (hS : h₀.IsList sl svs.toArray) (hi : IntsAre svs ns) (hl : svs.length ≤ 63) (C : CodeHd h₀ 597 595)
    (hm : m = fun y => if y = Str.ofString "script" then some (.ref sl) else none) (d1 : o1.data = .cell none) (d2 : o2.data = .cell none) (hlt : 595 < L) :
    wpAny (model pg w) (callerA.deeper (envX f598.cn f598.sc L fa (.ref 597) (PySem.cellsFrom (L + 1) f598.sc.names []))) (execs (fB (st 68)) (envX f598.cn f598.sc L fa (.ref 597) (PySem.cellsFrom (L + 1) f598.sc.names [])))
      (fun fl s' => fl = .ret (.bool true) ∧ ∃ h' tk led m', s' = { s with heap := h', toks := tk } ∧ Fr h₀ L h' m' ∧ News h₀ L h' led ∧ (∃ ps, (232, tabObj ps) ∈ led) ∧ ∃ ps, (595, tabObj ps) ∈ led) No { s with heap := h₁, toks := k } := by
  let W : Wd := ⟨w, p, loose, mean, mg, mb⟩
  let c : Cx W f598 14 := Cx.mk 302 7 (some []) L fa (.ref 597) (PySem.cellsFrom (L + 1) f598.sc.names []) [] callerA h₀ h₀ ok598 B X T (by decide) (by decide)
  have h1 : 595 < L + 1 := Nat.lt_succ_of_lt hlt
  have h2 : 595 < L + 1 + 1 := Nat.lt_succ_of_lt h1
  have run := law_run (c := c) (sl := sl) (cp := L + 1) (cc := L + 1 + 1) (op := o2) (oc := o1) hS hi hl (cells_law _) C rfl d2 d1 (Nat.ne_of_lt (Nat.lt_succ_self _)) (Nat.ne_of_gt (Nat.lt_trans (by decide : 232 < 595) h1)) (Nat.ne_of_gt h1) (Nat.ne_of_gt (Nat.lt_trans (by decide : 232 < 595) h2)) (Nat.ne_of_gt h2)
  have hA : At c [some (.ref sl), none, none, none, none, none, none, none, none, none] [(L + 1, o2), (L + 1 + 1, o1), (232, tabObj #[]), (595, tabObj #[])] { s with heap := h₁, toks := k } { s with heap := h₁, toks := k } :=
    .start _ (by rw [look_law, ← hm]; exact F) fun p hp => N p (by simp only [List.mem_cons] at hp ⊢; rcases hp with h | h | h | h | h <;> simp [h])
  refine run.th hA fun fl vs' l s' A' h => ⟨h.1, s'.heap, s'.toks, l, _, ?_, A'.F, A'.N, h.2⟩
  obtain ⟨h', g', d', t', o'⟩ := s'
  have := A'.g; have := A'.d; have := A'.o
  simp_all
end Mine
end
namespace Mine
open Ob
theorem wp_to {α : Type} {M M' : Model} {A A' : Around} {t t' : Sem α} {Q : α → Shared → Prop} {E : Value → Shared → Prop} {s : Shared} (h : wpAny M A t Q E s) (e1 : M' = M) (e2 : A' = A) (e3 : t' = t) : wpAny M' A' t' Q E s := by
  subst e1 e2 e3
  exact h
theorem hdT : PySem.Challenge.rw_pb0271_01.Holds := by
  w_on
  refine holds_law said fun said => ?_
  refine holds_open (q := q) (loose := loose) (Xt := Xt) (XP := XL q []) (Yf := Hook.obs (kmHook KF KA ka [232, 595])) (Ya := Hook.val (kmHook KF KA ka [232, 595])) (YP := Hook.says (kmHook KF KA ka [232, 595])) (N := 8000) left (Hook.of (kmHook KF KA ka [232, 595])) (Hook.keeps (kmHook KF KA ka [232, 595])) (fun s e => xl_of s (Bool.and_eq_true_iff.mp e).1) XL.keeps (by rfl) (by rfl) (by rfl) (fun s e => recFacts_of (Bool.and_eq_true_iff.mp e).2) (by rfl) said (by decide +kernel) ⟨rfl, rfl, rfl, rfl, rfl, by decide +kernel⟩ ?hw ?hc
  case hw => w_witness2
  k_fill
  intro w s₀ s₁ mg mb G Y fa o pm cd doc dV kV ho hd hcd hD hmg hg args vals as hpre hlay hrd hwl hlo
  have KX := km_in_of Y
  km_tabs Y
  have X := (Ground.X G).1
  have V := (Ground.X G).2
  refine Ground.open G ?_
  intro T B D TE TW
  try (refine guard_noD D (by decide +kernel) ?_; clear D)
  km_lay T hmg ho hd cd
  clear hmg
  wrow_args hpre hlay hrd hwl hlo
  all_goals (
    first | refine callC_kw (enter_call ?_) | refine enter_call ?_
    w_top on
    kn_posts
    w_call any ho hd hcd hD T F
    clear hd
    kn_ghosts F T
    k_drop
    skip)
  rename Fr _ _ _ _ => F9
  rename News _ _ _ _ => N9
  rename Below _ _ _ _ => B9
  rename IntsAre _ _ => I9
  rename (KF _).In _ => X9
  rename Top topProg _ _ _ _ _ => T9
  refine wpAny_mono (E := No) (Q := fun fl s' => fl = .ret (.bool true) ∧ ∃ h' tk led m', s' = { s₁ with heap := h', toks := tk } ∧ Fr (ghostOf s₁.heap [(236, 232), (597, 595)]) s₁.heap.objs.size h' m' ∧ News (ghostOf s₁.heap [(236, 232), (597, 595)]) s₁.heap.objs.size h' led ∧ (∃ ps, (232, tabObj ps) ∈ led) ∧ ∃ ps, (595, tabObj ps) ∈ led) ?g1 (fun fl s' hq => ?g2) (fun e s' x => ?g3)
  case g3 => exact (x : False).elim
  case g1 =>
    refine wp_to (law_top (s := s₁) (fa := fa) X9 T9 B9 F9 N9 lifted I9 ?hl codeHd ?hm ?d1 ?d2 ?lt) ?e1 ?e2 ?e3
    case e1 => kernel_rfl
    case e2 => kernel_rfl
    case e3 => kernel_rfl
    case hm => kernel_rfl
    case d1 =>
      refine' Eq.trans ?p1 ?p2
      case p1 => assumption
      kernel_rfl
    case d2 =>
      refine' Eq.trans ?p3 ?p4
      case p3 => assumption
      kernel_rfl
    case lt => exact (by assumption : 232 < s₁.heap.objs.size ∧ 595 < s₁.heap.objs.size).2
    case hl =>
      have := I9.length
      rename ¬(_ : Int) < _ => hc
      omega
  case g2 =>
    obtain ⟨rfl, h', tk, led, m', rfl, F', N', ⟨p1, q1⟩, ⟨p2, q2⟩⟩ := hq
    exact ⟨⟨.inl ⟨.bool true, .bool true, [], rfl, fun _ => by rfl, .bool _, by kernel_rfl, fun _ => ⟨List.nodup_nil, fun _ h => nomatch h⟩⟩, F'.keep, rfl, hg⟩, GrownAt.of N' q1, GrownAt.of N' q2, trivial⟩
end Mine
set_option maxHeartbeats 8000000 in
theorem PySem.Challenge.cw_pb0271_01_holds : PySem.Challenge.rw_pb0271_01.Holds :=
  Mine.hdT
