import PyProof.Rows.All
import Wide.All
import OpenK.AllK
import Wide.FinOn
import PyProof.Rows.ListMulArg
import PyProof.Rows.SeqMore
import KE.KDictAnyGet
import KE.KDictObj
import KE.KDictList
import KE.KItemsList
import KE.KSortAsk
import PyProof.Rows.DictListVals
import PyProof.RaisesDict
import KE.KDictSum
import PyProof.Rows.SortStr
import PyProof.Rows.SortWalk
import PyProof.AttrMissSeq
import PyProof.Walks
import KE.KDictOf
import PyProof.StationsW
import PyProof.ExcAttrAll.Exception
import PyProof.TupleIter
import PyProof.DictWalks
import KE.KDictIter
import KE.KPopAny
import PyProof.Rows.ExtendIn
import PySem.Challenge.RW_qz0049_01
set_option Elab.async false
set_option maxRecDepth 100000
set_option pp.deepTerms false
set_option pp.deepTerms.threshold 3
set_option pp.maxSteps 3000
set_option linter.unusedVariables false
set_option compiler.extract_closed false
local macro_rules | `(tactic| k_qdec) => `(tactic| decide +kernel)
namespace Mine
open PySem PySem.W PySem.Calls PyProof.Rows
noncomputable def atS (l : List Stmt) (i : Nat) : Stmt := (l.drop i).headD (.Pass ⟨0, 0, 0, 0⟩)
noncomputable def topS (i : Nat) : Stmt := atS PySem.Challenge.pw_qz0049_01.main.body i
noncomputable def inS : Stmt → List Stmt
  | .ClassDef _ _ _ b _ _ _ _ _ _ _ => b
  | _ => []
noncomputable def methS (i j : Nat) : Stmt := atS (inS (topS i)) j
noncomputable def argsS : Stmt → Arguments
  | .FunctionDef _ a _ _ _ _ _ _ _ _ => a
  | _ => ⟨[], [], none, [], [], none, []⟩
noncomputable def bodyS : Stmt → List Stmt
  | .FunctionDef _ _ b _ _ _ _ _ _ _ => b
  | _ => []
noncomputable def scopeS : Stmt → Scope
  | .FunctionDef _ _ _ _ _ _ s _ _ _ => s
  | _ => ⟨.function, [], false, false, []⟩
noncomputable def loaderV (P : Params) : Value := match (boot_o_3 P).data with
  | .dict es _ => ((es.toList.find? fun e => e.key.isStr (Str.ofString "__loader__")).map (·.val)).getD .none
  | _ => .none
noncomputable def hd.o_21 : Params → Obj := by
  refine (?f : (a : Arguments) → (b : List Stmt) → (c : Scope) → argsS (topS 0) = a → bodyS (topS 0) = b → scopeS (topS 0) = c → Params → Obj) ?a ?b ?c ?h1 ?h2 ?h3
  case f => exact fun a b c _ _ _ P => Obj.mk (.type "function") (.none) (.func (FuncData.mk (Str.ofString "_wall") (Str.ofString "_wall") a (.stmts b) c 3 [] .none .none .none (.str (Str.ofString "__main__") 164) (.none) (.ref 20) .none 0)) #[]
  case h1 => ((conv => lhs; whnf); try exact rfl)
  case h2 => ((conv => lhs; whnf); try exact rfl)
  case h3 => ((conv => lhs; whnf); try exact rfl)
noncomputable def hd.o_36 : Params → Obj := by
  refine (?f : (a : Arguments) → (b : List Stmt) → (c : Scope) → argsS (methS 2 0) = a → bodyS (methS 2 0) = b → scopeS (methS 2 0) = c → Params → Obj) ?a ?b ?c ?h1 ?h2 ?h3
  case f => exact fun a b c _ _ _ P => Obj.mk (.type "function") (.none) (.func (FuncData.mk (Str.ofString "__init__") (Str.ofString "MintError.__init__") a (.stmts b) c 3 [] (.ref 29) .none .none (.str (Str.ofString "octetmint.basics") 194) (.none) (.ref 35) .none 0)) #[]
  case h1 => ((conv => lhs; whnf); try exact rfl)
  case h2 => ((conv => lhs; whnf); try exact rfl)
  case h3 => ((conv => lhs; whnf); try exact rfl)
noncomputable def hd.o_43 : Params → Obj := by
  refine (?f : (a : Arguments) → (b : List Stmt) → (c : Scope) → argsS (methS 2 1) = a → bodyS (methS 2 1) = b → scopeS (methS 2 1) = c → Params → Obj) ?a ?b ?c ?h1 ?h2 ?h3
  case f => exact fun a b c _ _ _ P => Obj.mk (.type "function") (.none) (.func (FuncData.mk (Str.ofString "told") (Str.ofString "MintError.told") a (.stmts b) c 3 [] .none .none .none (.str (Str.ofString "octetmint.basics") 194) (.none) (.ref 42) .none 0)) #[]
  case h1 => ((conv => lhs; whnf); try exact rfl)
  case h2 => ((conv => lhs; whnf); try exact rfl)
  case h3 => ((conv => lhs; whnf); try exact rfl)
noncomputable def hd.o_88 : Params → Obj := by
  refine (?f : (a : Arguments) → (b : List Stmt) → (c : Scope) → argsS (methS 7 0) = a → bodyS (methS 7 0) = b → scopeS (methS 7 0) = c → Params → Obj) ?a ?b ?c ?h1 ?h2 ?h3
  case f => exact fun a b c _ _ _ P => Obj.mk (.type "function") (.none) (.func (FuncData.mk (Str.ofString "__init__") (Str.ofString "Affine.__init__") a (.stmts b) c 3 [] (.ref 81) .none .none (.str (Str.ofString "octetmint.expressions") 266) (.none) (.ref 87) .none 0)) #[]
  case h1 => ((conv => lhs; whnf); try exact rfl)
  case h2 => ((conv => lhs; whnf); try exact rfl)
  case h3 => ((conv => lhs; whnf); try exact rfl)
noncomputable def hd.o_95 : Params → Obj := by
  refine (?f : (a : Arguments) → (b : List Stmt) → (c : Scope) → argsS (methS 7 1) = a → bodyS (methS 7 1) = b → scopeS (methS 7 1) = c → Params → Obj) ?a ?b ?c ?h1 ?h2 ?h3
  case f => exact fun a b c _ _ _ P => Obj.mk (.type "function") (.none) (.func (FuncData.mk (Str.ofString "told") (Str.ofString "Affine.told") a (.stmts b) c 3 [] .none .none .none (.str (Str.ofString "octetmint.expressions") 266) (.none) (.ref 94) .none 0)) #[]
  case h1 => ((conv => lhs; whnf); try exact rfl)
  case h2 => ((conv => lhs; whnf); try exact rfl)
  case h3 => ((conv => lhs; whnf); try exact rfl)
noncomputable def hd.o_102 : Params → Obj := by
  refine (?f : (a : Arguments) → (b : List Stmt) → (c : Scope) → argsS (methS 7 2) = a → bodyS (methS 7 2) = b → scopeS (methS 7 2) = c → Params → Obj) ?a ?b ?c ?h1 ?h2 ?h3
  case f => exact fun a b c _ _ _ P => Obj.mk (.type "function") (.none) (.func (FuncData.mk (Str.ofString "is_number") (Str.ofString "Affine.is_number") a (.stmts b) c 3 [] .none .none .none (.str (Str.ofString "octetmint.expressions") 266) (.none) (.ref 101) .none 0)) #[]
  case h1 => ((conv => lhs; whnf); try exact rfl)
  case h2 => ((conv => lhs; whnf); try exact rfl)
  case h3 => ((conv => lhs; whnf); try exact rfl)
noncomputable def hd.o_109 : Params → Obj := by
  refine (?f : (a : Arguments) → (b : List Stmt) → (c : Scope) → argsS (methS 7 3) = a → bodyS (methS 7 3) = b → scopeS (methS 7 3) = c → Params → Obj) ?a ?b ?c ?h1 ?h2 ?h3
  case f => exact fun a b c _ _ _ P => Obj.mk (.type "function") (.none) (.func (FuncData.mk (Str.ofString "is_symbol") (Str.ofString "Affine.is_symbol") a (.stmts b) c 3 [] .none .none .none (.str (Str.ofString "octetmint.expressions") 266) (.none) (.ref 108) .none 0)) #[]
  case h1 => ((conv => lhs; whnf); try exact rfl)
  case h2 => ((conv => lhs; whnf); try exact rfl)
  case h3 => ((conv => lhs; whnf); try exact rfl)
noncomputable def hd.o_116 : Params → Obj := by
  refine (?f : (a : Arguments) → (b : List Stmt) → (c : Scope) → argsS (methS 7 4) = a → bodyS (methS 7 4) = b → scopeS (methS 7 4) = c → Params → Obj) ?a ?b ?c ?h1 ?h2 ?h3
  case f => exact fun a b c _ _ _ P => Obj.mk (.type "function") (.none) (.func (FuncData.mk (Str.ofString "negate") (Str.ofString "Affine.negate") a (.stmts b) c 3 [] .none .none .none (.str (Str.ofString "octetmint.expressions") 266) (.none) (.ref 115) .none 0)) #[]
  case h1 => ((conv => lhs; whnf); try exact rfl)
  case h2 => ((conv => lhs; whnf); try exact rfl)
  case h3 => ((conv => lhs; whnf); try exact rfl)
noncomputable def hd.o_123 : Params → Obj := by
  refine (?f : (a : Arguments) → (b : List Stmt) → (c : Scope) → argsS (methS 7 5) = a → bodyS (methS 7 5) = b → scopeS (methS 7 5) = c → Params → Obj) ?a ?b ?c ?h1 ?h2 ?h3
  case f => exact fun a b c _ _ _ P => Obj.mk (.type "function") (.none) (.func (FuncData.mk (Str.ofString "add") (Str.ofString "Affine.add") a (.stmts b) c 3 [] .none .none .none (.str (Str.ofString "octetmint.expressions") 266) (.none) (.ref 122) .none 0)) #[]
  case h1 => ((conv => lhs; whnf); try exact rfl)
  case h2 => ((conv => lhs; whnf); try exact rfl)
  case h3 => ((conv => lhs; whnf); try exact rfl)
noncomputable def hd.o_130 : Params → Obj := by
  refine (?f : (a : Arguments) → (b : List Stmt) → (c : Scope) → argsS (methS 7 6) = a → bodyS (methS 7 6) = b → scopeS (methS 7 6) = c → Params → Obj) ?a ?b ?c ?h1 ?h2 ?h3
  case f => exact fun a b c _ _ _ P => Obj.mk (.type "function") (.none) (.func (FuncData.mk (Str.ofString "places") (Str.ofString "Affine.places") a (.stmts b) c 3 [] .none .none .none (.str (Str.ofString "octetmint.expressions") 266) (.none) (.ref 129) .none 0)) #[]
  case h1 => ((conv => lhs; whnf); try exact rfl)
  case h2 => ((conv => lhs; whnf); try exact rfl)
  case h3 => ((conv => lhs; whnf); try exact rfl)
noncomputable def hd.o_142 : Params → Obj := by
  refine (?f : (a : Arguments) → (b : List Stmt) → (c : Scope) → argsS (topS 8) = a → bodyS (topS 8) = b → scopeS (topS 8) = c → Params → Obj) ?a ?b ?c ?h1 ?h2 ?h3
  case f => exact fun a b c _ _ _ P => Obj.mk (.type "function") (.none) (.func (FuncData.mk (Str.ofString "affine_of") (Str.ofString "affine_of") a (.stmts b) c 3 [] .none .none .none (.str (Str.ofString "octetmint.expressions") 266) (.none) (.ref 141) .none 0)) #[]
  case h1 => ((conv => lhs; whnf); try exact rfl)
  case h2 => ((conv => lhs; whnf); try exact rfl)
  case h3 => ((conv => lhs; whnf); try exact rfl)
noncomputable def hd.o_157 : Params → Obj := by
  refine (?f : (a : Arguments) → (b : List Stmt) → (c : Scope) → argsS (methS 9 0) = a → bodyS (methS 9 0) = b → scopeS (methS 9 0) = c → Params → Obj) ?a ?b ?c ?h1 ?h2 ?h3
  case f => exact fun a b c _ _ _ P => Obj.mk (.type "function") (.none) (.func (FuncData.mk (Str.ofString "__init__") (Str.ofString "Scope.__init__") a (.stmts b) c 3 [] (.ref 150) .none .none (.str (Str.ofString "octetmint.expressions") 266) (.none) (.ref 156) .none 0)) #[]
  case h1 => ((conv => lhs; whnf); try exact rfl)
  case h2 => ((conv => lhs; whnf); try exact rfl)
  case h3 => ((conv => lhs; whnf); try exact rfl)
noncomputable def hd.o_164 : Params → Obj := by
  refine (?f : (a : Arguments) → (b : List Stmt) → (c : Scope) → argsS (methS 9 1) = a → bodyS (methS 9 1) = b → scopeS (methS 9 1) = c → Params → Obj) ?a ?b ?c ?h1 ?h2 ?h3
  case f => exact fun a b c _ _ _ P => Obj.mk (.type "function") (.none) (.func (FuncData.mk (Str.ofString "put") (Str.ofString "Scope.put") a (.stmts b) c 3 [] .none .none .none (.str (Str.ofString "octetmint.expressions") 266) (.none) (.ref 163) .none 0)) #[]
  case h1 => ((conv => lhs; whnf); try exact rfl)
  case h2 => ((conv => lhs; whnf); try exact rfl)
  case h3 => ((conv => lhs; whnf); try exact rfl)
noncomputable def hd.o_171 : Params → Obj := by
  refine (?f : (a : Arguments) → (b : List Stmt) → (c : Scope) → argsS (methS 9 2) = a → bodyS (methS 9 2) = b → scopeS (methS 9 2) = c → Params → Obj) ?a ?b ?c ?h1 ?h2 ?h3
  case f => exact fun a b c _ _ _ P => Obj.mk (.type "function") (.none) (.func (FuncData.mk (Str.ofString "find") (Str.ofString "Scope.find") a (.stmts b) c 3 [] .none .none .none (.str (Str.ofString "octetmint.expressions") 266) (.none) (.ref 170) .none 0)) #[]
  case h1 => ((conv => lhs; whnf); try exact rfl)
  case h2 => ((conv => lhs; whnf); try exact rfl)
  case h3 => ((conv => lhs; whnf); try exact rfl)
noncomputable def hd.o_176 : Params → Obj := by
  refine (?f : (a : Arguments) → (b : List Stmt) → (c : Scope) → argsS (methS 9 3) = a → bodyS (methS 9 3) = b → scopeS (methS 9 3) = c → Params → Obj) ?a ?b ?c ?h1 ?h2 ?h3
  case f => exact fun a b c _ _ _ P => Obj.mk (.type "function") (.none) (.func (FuncData.mk (Str.ofString "order_of") (Str.ofString "Scope.order_of") a (.stmts b) c 3 [] .none .none .none (.str (Str.ofString "octetmint.expressions") 266) (.none) (.ref 175) .none 0)) #[]
  case h1 => ((conv => lhs; whnf); try exact rfl)
  case h2 => ((conv => lhs; whnf); try exact rfl)
  case h3 => ((conv => lhs; whnf); try exact rfl)
noncomputable def hd.o_181 : Params → Obj := by
  refine (?f : (a : Arguments) → (b : List Stmt) → (c : Scope) → argsS (methS 9 4) = a → bodyS (methS 9 4) = b → scopeS (methS 9 4) = c → Params → Obj) ?a ?b ?c ?h1 ?h2 ?h3
  case f => exact fun a b c _ _ _ P => Obj.mk (.type "function") (.none) (.func (FuncData.mk (Str.ofString "settled") (Str.ofString "Scope.settled") a (.stmts b) c 3 [] .none .none .none (.str (Str.ofString "octetmint.expressions") 266) (.none) (.ref 180) .none 0)) #[]
  case h1 => ((conv => lhs; whnf); try exact rfl)
  case h2 => ((conv => lhs; whnf); try exact rfl)
  case h3 => ((conv => lhs; whnf); try exact rfl)
noncomputable def hd.o_195 : Params → Obj := by
  refine (?f : (a : Arguments) → (b : List Stmt) → (c : Scope) → argsS (topS 11) = a → bodyS (topS 11) = b → scopeS (topS 11) = c → Params → Obj) ?a ?b ?c ?h1 ?h2 ?h3
  case f => exact fun a b c _ _ _ P => Obj.mk (.type "function") (.none) (.func (FuncData.mk (Str.ofString "plain") (Str.ofString "plain") a (.stmts b) c 3 [] .none .none .none (.str (Str.ofString "octetmint.relax") 413) (.none) (.ref 194) .none 0)) #[]
  case h1 => ((conv => lhs; whnf); try exact rfl)
  case h2 => ((conv => lhs; whnf); try exact rfl)
  case h3 => ((conv => lhs; whnf); try exact rfl)
noncomputable def hd.o_209 : Params → Obj := by
  refine (?f : (a : Arguments) → (b : List Stmt) → (c : Scope) → argsS (methS 13 0) = a → bodyS (methS 13 0) = b → scopeS (methS 13 0) = c → Params → Obj) ?a ?b ?c ?h1 ?h2 ?h3
  case f => exact fun a b c _ _ _ P => Obj.mk (.type "function") (.none) (.func (FuncData.mk (Str.ofString "__init__") (Str.ofString "Program.__init__") a (.stmts b) c 3 [] .none .none .none (.str (Str.ofString "octetmint.sections") 424) (.none) (.ref 208) .none 0)) #[]
  case h1 => ((conv => lhs; whnf); try exact rfl)
  case h2 => ((conv => lhs; whnf); try exact rfl)
  case h3 => ((conv => lhs; whnf); try exact rfl)
noncomputable def hd.o_216 : Params → Obj := by
  refine (?f : (a : Arguments) → (b : List Stmt) → (c : Scope) → argsS (methS 13 1) = a → bodyS (methS 13 1) = b → scopeS (methS 13 1) = c → Params → Obj) ?a ?b ?c ?h1 ?h2 ?h3
  case f => exact fun a b c _ _ _ P => Obj.mk (.type "function") (.none) (.func (FuncData.mk (Str.ofString "section") (Str.ofString "Program.section") a (.stmts b) c 3 [] .none .none .none (.str (Str.ofString "octetmint.sections") 424) (.none) (.ref 215) .none 0)) #[]
  case h1 => ((conv => lhs; whnf); try exact rfl)
  case h2 => ((conv => lhs; whnf); try exact rfl)
  case h3 => ((conv => lhs; whnf); try exact rfl)
noncomputable def hd.o_223 : Params → Obj := by
  refine (?f : (a : Arguments) → (b : List Stmt) → (c : Scope) → argsS (methS 13 2) = a → bodyS (methS 13 2) = b → scopeS (methS 13 2) = c → Params → Obj) ?a ?b ?c ?h1 ?h2 ?h3
  case f => exact fun a b c _ _ _ P => Obj.mk (.type "function") (.none) (.func (FuncData.mk (Str.ofString "home") (Str.ofString "Program.home") a (.stmts b) c 3 [] .none .none .none (.str (Str.ofString "octetmint.sections") 424) (.none) (.ref 222) .none 0)) #[]
  case h1 => ((conv => lhs; whnf); try exact rfl)
  case h2 => ((conv => lhs; whnf); try exact rfl)
  case h3 => ((conv => lhs; whnf); try exact rfl)
noncomputable def hd.o_230 : Params → Obj := by
  refine (?f : (a : Arguments) → (b : List Stmt) → (c : Scope) → argsS (methS 13 3) = a → bodyS (methS 13 3) = b → scopeS (methS 13 3) = c → Params → Obj) ?a ?b ?c ?h1 ?h2 ?h3
  case f => exact fun a b c _ _ _ P => Obj.mk (.type "function") (.none) (.func (FuncData.mk (Str.ofString "add_global") (Str.ofString "Program.add_global") a (.stmts b) c 3 [] .none .none .none (.str (Str.ofString "octetmint.sections") 424) (.none) (.ref 229) .none 0)) #[]
  case h1 => ((conv => lhs; whnf); try exact rfl)
  case h2 => ((conv => lhs; whnf); try exact rfl)
  case h3 => ((conv => lhs; whnf); try exact rfl)
noncomputable def hd.o_237 : Params → Obj := by
  refine (?f : (a : Arguments) → (b : List Stmt) → (c : Scope) → argsS (methS 13 4) = a → bodyS (methS 13 4) = b → scopeS (methS 13 4) = c → Params → Obj) ?a ?b ?c ?h1 ?h2 ?h3
  case f => exact fun a b c _ _ _ P => Obj.mk (.type "function") (.none) (.func (FuncData.mk (Str.ofString "add_difference") (Str.ofString "Program.add_difference") a (.stmts b) c 3 [] .none .none .none (.str (Str.ofString "octetmint.sections") 424) (.none) (.ref 236) .none 0)) #[]
  case h1 => ((conv => lhs; whnf); try exact rfl)
  case h2 => ((conv => lhs; whnf); try exact rfl)
  case h3 => ((conv => lhs; whnf); try exact rfl)
noncomputable def hd.o_244 : Params → Obj := by
  refine (?f : (a : Arguments) → (b : List Stmt) → (c : Scope) → argsS (methS 13 5) = a → bodyS (methS 13 5) = b → scopeS (methS 13 5) = c → Params → Obj) ?a ?b ?c ?h1 ?h2 ?h3
  case f => exact fun a b c _ _ _ P => Obj.mk (.type "function") (.none) (.func (FuncData.mk (Str.ofString "distance") (Str.ofString "Program.distance") a (.stmts b) c 3 [] .none .none .none (.str (Str.ofString "octetmint.sections") 424) (.none) (.ref 243) .none 0)) #[]
  case h1 => ((conv => lhs; whnf); try exact rfl)
  case h2 => ((conv => lhs; whnf); try exact rfl)
  case h3 => ((conv => lhs; whnf); try exact rfl)
noncomputable def hd.o_249 : Params → Obj := by
  refine (?f : (a : Arguments) → (b : List Stmt) → (c : Scope) → argsS (methS 13 6) = a → bodyS (methS 13 6) = b → scopeS (methS 13 6) = c → Params → Obj) ?a ?b ?c ?h1 ?h2 ?h3
  case f => exact fun a b c _ _ _ P => Obj.mk (.type "function") (.none) (.func (FuncData.mk (Str.ofString "told") (Str.ofString "Program.told") a (.stmts b) c 3 [] .none .none .none (.str (Str.ofString "octetmint.sections") 424) (.none) (.ref 248) .none 0)) #[]
  case h1 => ((conv => lhs; whnf); try exact rfl)
  case h2 => ((conv => lhs; whnf); try exact rfl)
  case h3 => ((conv => lhs; whnf); try exact rfl)
noncomputable def hd.o_263 : Params → Obj := by
  refine (?f : (a : Arguments) → (b : List Stmt) → (c : Scope) → argsS (topS 15) = a → bodyS (topS 15) = b → scopeS (topS 15) = c → Params → Obj) ?a ?b ?c ?h1 ?h2 ?h3
  case f => exact fun a b c _ _ _ P => Obj.mk (.type "function") (.none) (.func (FuncData.mk (Str.ofString "_law_base") (Str.ofString "_law_base") a (.stmts b) c 3 [] .none .none .none (.str (Str.ofString "law_qz0049_01") 505) (.none) (.ref 262) .none 0)) #[]
  case h1 => ((conv => lhs; whnf); try exact rfl)
  case h2 => ((conv => lhs; whnf); try exact rfl)
  case h3 => ((conv => lhs; whnf); try exact rfl)
noncomputable def hd.o_270 : Params → Obj := by
  refine (?f : (a : Arguments) → (b : List Stmt) → (c : Scope) → argsS (topS 16) = a → bodyS (topS 16) = b → scopeS (topS 16) = c → Params → Obj) ?a ?b ?c ?h1 ?h2 ?h3
  case f => exact fun a b c _ _ _ P => Obj.mk (.type "function") (.none) (.func (FuncData.mk (Str.ofString "_law_pen") (Str.ofString "_law_pen") a (.stmts b) c 3 [] .none .none .none (.str (Str.ofString "law_qz0049_01") 505) (.none) (.ref 269) .none 0)) #[]
  case h1 => ((conv => lhs; whnf); try exact rfl)
  case h2 => ((conv => lhs; whnf); try exact rfl)
  case h3 => ((conv => lhs; whnf); try exact rfl)
noncomputable def hd.o_277 : Params → Obj := by
  refine (?f : (a : Arguments) → (b : List Stmt) → (c : Scope) → argsS (topS 17) = a → bodyS (topS 17) = b → scopeS (topS 17) = c → Params → Obj) ?a ?b ?c ?h1 ?h2 ?h3
  case f => exact fun a b c _ _ _ P => Obj.mk (.type "function") (.none) (.func (FuncData.mk (Str.ofString "_law_take") (Str.ofString "_law_take") a (.stmts b) c 3 [] .none .none .none (.str (Str.ofString "law_qz0049_01") 505) (.none) (.ref 276) .none 0)) #[]
  case h1 => ((conv => lhs; whnf); try exact rfl)
  case h2 => ((conv => lhs; whnf); try exact rfl)
  case h3 => ((conv => lhs; whnf); try exact rfl)
noncomputable def hd.o_282 : Params → Obj := by
  refine (?f : (a : Arguments) → (b : List Stmt) → (c : Scope) → argsS (topS 18) = a → bodyS (topS 18) = b → scopeS (topS 18) = c → Params → Obj) ?a ?b ?c ?h1 ?h2 ?h3
  case f => exact fun a b c _ _ _ P => Obj.mk (.type "function") (.none) (.func (FuncData.mk (Str.ofString "_law_name") (Str.ofString "_law_name") a (.stmts b) c 3 [] .none .none .none (.str (Str.ofString "law_qz0049_01") 505) (.none) (.ref 281) .none 0)) #[]
  case h1 => ((conv => lhs; whnf); try exact rfl)
  case h2 => ((conv => lhs; whnf); try exact rfl)
  case h3 => ((conv => lhs; whnf); try exact rfl)
noncomputable def hd.o_289 : Params → Obj := by
  refine (?f : (a : Arguments) → (b : List Stmt) → (c : Scope) → argsS (topS 19) = a → bodyS (topS 19) = b → scopeS (topS 19) = c → Params → Obj) ?a ?b ?c ?h1 ?h2 ?h3
  case f => exact fun a b c _ _ _ P => Obj.mk (.type "function") (.none) (.func (FuncData.mk (Str.ofString "_law_counts") (Str.ofString "_law_counts") a (.stmts b) c 3 [] .none .none .none (.str (Str.ofString "law_qz0049_01") 505) (.none) (.ref 288) .none 0)) #[]
  case h1 => ((conv => lhs; whnf); try exact rfl)
  case h2 => ((conv => lhs; whnf); try exact rfl)
  case h3 => ((conv => lhs; whnf); try exact rfl)
noncomputable def hd.o_294 : Params → Obj := by
  refine (?f : (a : Arguments) → (b : List Stmt) → (c : Scope) → argsS (topS 20) = a → bodyS (topS 20) = b → scopeS (topS 20) = c → Params → Obj) ?a ?b ?c ?h1 ?h2 ?h3
  case f => exact fun a b c _ _ _ P => Obj.mk (.type "function") (.none) (.func (FuncData.mk (Str.ofString "_law_due") (Str.ofString "_law_due") a (.stmts b) c 3 [] .none .none .none (.str (Str.ofString "law_qz0049_01") 505) (.none) (.ref 293) .none 0)) #[]
  case h1 => ((conv => lhs; whnf); try exact rfl)
  case h2 => ((conv => lhs; whnf); try exact rfl)
  case h3 => ((conv => lhs; whnf); try exact rfl)
noncomputable def hd.o_301 : Params → Obj := by
  refine (?f : (a : Arguments) → (b : List Stmt) → (c : Scope) → argsS (topS 21) = a → bodyS (topS 21) = b → scopeS (topS 21) = c → Params → Obj) ?a ?b ?c ?h1 ?h2 ?h3
  case f => exact fun a b c _ _ _ P => Obj.mk (.type "function") (.none) (.func (FuncData.mk (Str.ofString "_law_heard") (Str.ofString "_law_heard") a (.stmts b) c 3 [] .none .none .none (.str (Str.ofString "law_qz0049_01") 505) (.none) (.ref 300) .none 0)) #[]
  case h1 => ((conv => lhs; whnf); try exact rfl)
  case h2 => ((conv => lhs; whnf); try exact rfl)
  case h3 => ((conv => lhs; whnf); try exact rfl)
noncomputable def hd.o_308 : Params → Obj := by
  refine (?f : (a : Arguments) → (b : List Stmt) → (c : Scope) → argsS (topS 22) = a → bodyS (topS 22) = b → scopeS (topS 22) = c → Params → Obj) ?a ?b ?c ?h1 ?h2 ?h3
  case f => exact fun a b c _ _ _ P => Obj.mk (.type "function") (.none) (.func (FuncData.mk (Str.ofString "_law_laid") (Str.ofString "_law_laid") a (.stmts b) c 3 [] .none .none .none (.str (Str.ofString "law_qz0049_01") 505) (.none) (.ref 307) .none 0)) #[]
  case h1 => ((conv => lhs; whnf); try exact rfl)
  case h2 => ((conv => lhs; whnf); try exact rfl)
  case h3 => ((conv => lhs; whnf); try exact rfl)
noncomputable def hd.o_313 : Params → Obj := by
  refine (?f : (a : Arguments) → (b : List Stmt) → (c : Scope) → argsS (topS 23) = a → bodyS (topS 23) = b → scopeS (topS 23) = c → Params → Obj) ?a ?b ?c ?h1 ?h2 ?h3
  case f => exact fun a b c _ _ _ P => Obj.mk (.type "function") (.none) (.func (FuncData.mk (Str.ofString "law") (Str.ofString "law") a (.stmts b) c 3 [] .none .none .none (.str (Str.ofString "law_qz0049_01") 505) (.none) (.ref 312) .none 0)) #[]
  case h1 => ((conv => lhs; whnf); try exact rfl)
  case h2 => ((conv => lhs; whnf); try exact rfl)
  case h3 => ((conv => lhs; whnf); try exact rfl)
noncomputable def hd.heap_39 : Params → Frag := fun P =>
  (nat_lit 2, (Obj.mk .none (.none) (.dict #[(DictEntry.mk (PyData.keyHash P (Str.ofString "type.__subclasses__.Exception.0")) (.str (Str.ofString "type.__subclasses__.Exception.0") 230) (.int 46 0)), (DictEntry.mk (PyData.keyHash P (Str.ofString "type.__subclasses__.Exception.n")) (.str (Str.ofString "type.__subclasses__.Exception.n") 231) (.int 1 0))] 2) #[])) ::
  (nat_lit 3, (Obj.mk (.type "dict") (.none) (.dict #[(DictEntry.mk (PyData.keyHash P (Str.ofString "__name__")) (.str (Str.ofString "__name__") 165) (.str (Str.ofString "law_qz0049_01") 505)), (DictEntry.mk (PyData.keyHash P (Str.ofString "__doc__")) (.str (Str.ofString "__doc__") 166) .none), (DictEntry.mk (PyData.keyHash P (Str.ofString "__package__")) (.str (Str.ofString "__package__") 167) .none), (DictEntry.mk (PyData.keyHash P (Str.ofString "__loader__")) (.str (Str.ofString "__loader__") 168) (loaderV P)), (DictEntry.mk (PyData.keyHash P (Str.ofString "__spec__")) (.str (Str.ofString "__spec__") 169) .none), (DictEntry.mk (PyData.keyHash P (Str.ofString "__annotations__")) (.str (Str.ofString "__annotations__") 170) (.ref 6)), (DictEntry.mk (PyData.keyHash P (Str.ofString "__builtins__")) (.str (Str.ofString "__builtins__") 171) (.ref 4)), (DictEntry.mk (PyData.keyHash P (Str.ofString "__file__")) (.str (Str.ofString "__file__") 173) (.str (Str.ofString "/claim/cut.py") 172)), (DictEntry.mk (PyData.keyHash P (Str.ofString "__cached__")) (.str (Str.ofString "__cached__") 174) .none), (DictEntry.mk (PyData.keyHash P (Str.ofString "_wall")) (.str (Str.ofString "_wall") 193) (.ref 21)), (DictEntry.mk (PyData.keyHash P (Str.ofString "MintError")) (.str (Str.ofString "MintError") 233) (.ref 46)), (DictEntry.mk (PyData.keyHash P (Str.ofString "SymbolError")) (.str (Str.ofString "SymbolError") 249) (.ref 59)), (DictEntry.mk (PyData.keyHash P (Str.ofString "LayoutError")) (.str (Str.ofString "LayoutError") 265) (.ref 71)), (DictEntry.mk (PyData.keyHash P (Str.ofString "RING")) (.str (Str.ofString "RING") 269) (.str (Str.ofString "symbols that stand for themselves") 268)), (DictEntry.mk (PyData.keyHash P (Str.ofString "Affine")) (.str (Str.ofString "Affine") 348) (.ref 133)), (DictEntry.mk (PyData.keyHash P (Str.ofString "affine_of")) (.str (Str.ofString "affine_of") 354) (.ref 142)), (DictEntry.mk (PyData.keyHash P (Str.ofString "Scope")) (.str (Str.ofString "Scope") 412) (.ref 184)), (DictEntry.mk (PyData.keyHash P (Str.ofString "plain")) (.str (Str.ofString "plain") 423) (.ref 195)), (DictEntry.mk (PyData.keyHash P (Str.ofString "Program")) (.str (Str.ofString "Program") 504) (.ref 252)), (DictEntry.mk (PyData.keyHash P (Str.ofString "_law_base")) (.str (Str.ofString "_law_base") 512) (.ref 263)), (DictEntry.mk (PyData.keyHash P (Str.ofString "_law_pen")) (.str (Str.ofString "_law_pen") 521) (.ref 270)), (DictEntry.mk (PyData.keyHash P (Str.ofString "_law_take")) (.str (Str.ofString "_law_take") 530) (.ref 277)), (DictEntry.mk (PyData.keyHash P (Str.ofString "_law_name")) (.str (Str.ofString "_law_name") 536) (.ref 282)), (DictEntry.mk (PyData.keyHash P (Str.ofString "_law_counts")) (.str (Str.ofString "_law_counts") 549) (.ref 289)), (DictEntry.mk (PyData.keyHash P (Str.ofString "_law_due")) (.str (Str.ofString "_law_due") 555) (.ref 294)), (DictEntry.mk (PyData.keyHash P (Str.ofString "_law_heard")) (.str (Str.ofString "_law_heard") 563) (.ref 301)), (DictEntry.mk (PyData.keyHash P (Str.ofString "_law_laid")) (.str (Str.ofString "_law_laid") 571) (.ref 308)), (DictEntry.mk (PyData.keyHash P (Str.ofString "law")) (.str (Str.ofString "law") 577) (.ref 313))] 28) #[])) ::
  (nat_lit 15, (Obj.mk (.type "tuple") (.none) (.seq #[] 0) #[])) ::
  (nat_lit 17, (Obj.mk (.type "tuple") (.none) (.seq #[(.str (Str.ofString "k") 190)] 0) #[])) ::
  (nat_lit 18, (Obj.mk (.type "tuple") (.none) (.seq #[] 0) #[])) ::
  (nat_lit 20, (Obj.mk (.type "code") (.none) (.fields #[(.str (Str.ofString "_wall") 187), (.str (Str.ofString "_wall") 188), (.str (Str.ofString "/claim/cut.py") 189), (.int 1 0), (.int 1 0), (.int 0 0), (.int 0 0), (.int 3 0), (.ref 15), (.bool .true), (.int 181 0), (.ref 16), .none, (.ref 17), (.ref 18), (.ref 19), (.int 191 0), (.int 1 0), (.str (Str.ofString "/claim/cut.py") 192)]) #[])) ::
  (nat_lit 21, hd.o_21 P) ::
  (nat_lit 22, (Obj.mk (.type "tuple") (.none) (.seq #[(.type "Exception")] 0) #[])) ::
  (nat_lit 29, (Obj.mk (.type "tuple") (.none) (.seq #[.none] 0) #[])) ::
  (nat_lit 30, (Obj.mk (.type "tuple") (.none) (.seq #[] 0) #[])) ::
  (nat_lit 32, (Obj.mk (.type "tuple") (.none) (.seq #[(.str (Str.ofString "self") 211), (.str (Str.ofString "what") 212), (.str (Str.ofString "at") 213)] 0) #[])) ::
  (nat_lit 33, (Obj.mk (.type "tuple") (.none) (.seq #[] 0) #[])) ::
  (nat_lit 35, (Obj.mk (.type "code") (.none) (.fields #[(.str (Str.ofString "__init__") 208), (.str (Str.ofString "MintError.__init__") 209), (.str (Str.ofString "/claim/cut.py") 210), (.int 7 0), (.int 3 0), (.int 0 0), (.int 0 0), (.int 3 0), (.ref 30), (.bool .true), (.int 181 0), (.ref 31), .none, (.ref 32), (.ref 33), (.ref 34), (.int 214 0), (.int 7 0), (.str (Str.ofString "/claim/cut.py") 215)]) #[])) ::
  (nat_lit 36, hd.o_36 P) ::
  (nat_lit 37, (Obj.mk (.type "tuple") (.none) (.seq #[] 0) #[])) ::
  (nat_lit 39, (Obj.mk (.type "tuple") (.none) (.seq #[(.str (Str.ofString "self") 220)] 0) #[])) ::
  (nat_lit 40, (Obj.mk (.type "tuple") (.none) (.seq #[] 0) #[])) ::
  (nat_lit 42, (Obj.mk (.type "code") (.none) (.fields #[(.str (Str.ofString "told") 217), (.str (Str.ofString "MintError.told") 218), (.str (Str.ofString "/claim/cut.py") 219), (.int 12 0), (.int 1 0), (.int 0 0), (.int 0 0), (.int 3 0), (.ref 37), (.bool .true), (.int 181 0), (.ref 38), .none, (.ref 39), (.ref 40), (.ref 41), (.int 221 0), (.int 12 0), (.str (Str.ofString "/claim/cut.py") 222)]) #[])) ::
  (nat_lit 43, hd.o_43 P) ::
  (nat_lit 44, (Obj.mk (.type "tuple") (.none) (.seq #[(.str (Str.ofString "at") 224), (.str (Str.ofString "what") 225)] 0) #[])) ::
  (nat_lit 45, (Obj.mk (.type "dict") (.none) (.dict #[(DictEntry.mk (PyData.keyHash P (Str.ofString "__module__")) (.str (Str.ofString "__module__") 203) (.str (Str.ofString "octetmint.basics") 194)), (DictEntry.mk (PyData.keyHash P (Str.ofString "__firstlineno__")) (.str (Str.ofString "__firstlineno__") 207) (.int 5 206)), (DictEntry.mk (PyData.keyHash P (Str.ofString "__init__")) (.str (Str.ofString "__init__") 216) (.ref 36)), (DictEntry.mk (PyData.keyHash P (Str.ofString "told")) (.str (Str.ofString "told") 223) (.ref 43)), (DictEntry.mk (PyData.keyHash P (Str.ofString "__static_attributes__")) (.str (Str.ofString "__static_attributes__") 226) (.ref 44)), (DictEntry.mk (PyData.keyHash P (Str.ofString "__weakref__")) (.str (Str.ofString "__weakref__") 228) (.ref 47)), (DictEntry.mk (PyData.keyHash P (Str.ofString "__doc__")) (.str (Str.ofString "__doc__") 229) .none)] 3) #[])) ::
  (nat_lit 46, (Obj.mk (.type "type") (.none) (.cls (ClassData.mk (Str.ofString "MintError") [(.type "Exception")] [(.ref 46), (.type "Exception"), (.type "BaseException"), (.type "object")] 45 (Str.ofString "MintError") .true [] [(.ref 59), (.ref 71)] .false (.none) .false)) #[(.some (.ref 22)), (.none), (.some (.str (Str.ofString "MintError") 196)), (.some (.str (Str.ofString "MintError") 204)), (.some (.builtin "Exception.__new__")), (.some (.bool .true))])) ::
  (nat_lit 47, (Obj.mk (.type "getset_descriptor") (.none) (.fields #[(.str (Str.ofString "__weakref__") 227), (.ref 46), (.builtin "ExceptionGroup.__weakref__"), .none]) #[])) ::
  (nat_lit 50, (Obj.mk (.type "tuple") (.none) (.seq #[(.ref 46)] 0) #[])) ::
  (nat_lit 57, (Obj.mk (.type "tuple") (.none) (.seq #[] 0) #[])) ::
  (nat_lit 58, (Obj.mk (.type "dict") (.none) (.dict #[(DictEntry.mk (PyData.keyHash P (Str.ofString "__module__")) (.str (Str.ofString "__module__") 241) (.str (Str.ofString "octetmint.basics") 194)), (DictEntry.mk (PyData.keyHash P (Str.ofString "__firstlineno__")) (.str (Str.ofString "__firstlineno__") 245) (.int 16 244)), (DictEntry.mk (PyData.keyHash P (Str.ofString "__static_attributes__")) (.str (Str.ofString "__static_attributes__") 246) (.ref 57)), (DictEntry.mk (PyData.keyHash P (Str.ofString "__doc__")) (.str (Str.ofString "__doc__") 247) .none)] 2) #[])) ::
  (nat_lit 59, (Obj.mk (.type "type") (.none) (.cls (ClassData.mk (Str.ofString "SymbolError") [(.ref 46)] [(.ref 59), (.ref 46), (.type "Exception"), (.type "BaseException"), (.type "object")] 58 (Str.ofString "SymbolError") .true [] [] .false (.none) .false)) #[(.some (.ref 50)), (.none), (.some (.str (Str.ofString "SymbolError") 234)), (.some (.str (Str.ofString "SymbolError") 242)), (.some (.builtin "Exception.__new__")), (.some (.bool .true))])) ::
  (nat_lit 62, (Obj.mk (.type "tuple") (.none) (.seq #[(.ref 46)] 0) #[])) ::
  (nat_lit 69, (Obj.mk (.type "tuple") (.none) (.seq #[] 0) #[])) ::
  (nat_lit 70, (Obj.mk (.type "dict") (.none) (.dict #[(DictEntry.mk (PyData.keyHash P (Str.ofString "__module__")) (.str (Str.ofString "__module__") 257) (.str (Str.ofString "octetmint.basics") 194)), (DictEntry.mk (PyData.keyHash P (Str.ofString "__firstlineno__")) (.str (Str.ofString "__firstlineno__") 261) (.int 18 260)), (DictEntry.mk (PyData.keyHash P (Str.ofString "__static_attributes__")) (.str (Str.ofString "__static_attributes__") 262) (.ref 69)), (DictEntry.mk (PyData.keyHash P (Str.ofString "__doc__")) (.str (Str.ofString "__doc__") 263) .none)] 2) #[])) ::
  (nat_lit 71, (Obj.mk (.type "type") (.none) (.cls (ClassData.mk (Str.ofString "LayoutError") [(.ref 46)] [(.ref 71), (.ref 46), (.type "Exception"), (.type "BaseException"), (.type "object")] 70 (Str.ofString "LayoutError") .true [] [] .false (.none) .false)) #[(.some (.ref 62)), (.none), (.some (.str (Str.ofString "LayoutError") 250)), (.some (.str (Str.ofString "LayoutError") 258)), (.some (.builtin "Exception.__new__")), (.some (.bool .true))])) ::
  (nat_lit 81, (Obj.mk (.type "tuple") (.none) (.seq #[(.str (Str.ofString "") 282), (.str (Str.ofString "") 283)] 0) #[])) ::
  (nat_lit 82, (Obj.mk (.type "tuple") (.none) (.seq #[] 0) #[])) ::
  (nat_lit 84, (Obj.mk (.type "tuple") (.none) (.seq #[(.str (Str.ofString "self") 287), (.str (Str.ofString "worth") 288), (.str (Str.ofString "plus") 289), (.str (Str.ofString "minus") 290)] 0) #[])) ::
  (nat_lit 85, (Obj.mk (.type "tuple") (.none) (.seq #[] 0) #[])) ::
  (nat_lit 87, (Obj.mk (.type "code") (.none) (.fields #[(.str (Str.ofString "__init__") 284), (.str (Str.ofString "Affine.__init__") 285), (.str (Str.ofString "/claim/cut.py") 286), (.int 24 0), (.int 4 0), (.int 0 0), (.int 0 0), (.int 3 0), (.ref 82), (.bool .true), (.int 181 0), (.ref 83), .none, (.ref 84), (.ref 85), (.ref 86), (.int 291 0), (.int 24 0), (.str (Str.ofString "/claim/cut.py") 292)]) #[])) ::
  (nat_lit 88, hd.o_88 P) ::
  (nat_lit 89, (Obj.mk (.type "tuple") (.none) (.seq #[] 0) #[])) ::
  (nat_lit 91, (Obj.mk (.type "tuple") (.none) (.seq #[(.str (Str.ofString "self") 297)] 0) #[])) ::
  (nat_lit 92, (Obj.mk (.type "tuple") (.none) (.seq #[] 0) #[])) ::
  (nat_lit 94, (Obj.mk (.type "code") (.none) (.fields #[(.str (Str.ofString "told") 294), (.str (Str.ofString "Affine.told") 295), (.str (Str.ofString "/claim/cut.py") 296), (.int 29 0), (.int 1 0), (.int 0 0), (.int 0 0), (.int 3 0), (.ref 89), (.bool .true), (.int 181 0), (.ref 90), .none, (.ref 91), (.ref 92), (.ref 93), (.int 298 0), (.int 29 0), (.str (Str.ofString "/claim/cut.py") 299)]) #[])) ::
  (nat_lit 95, hd.o_95 P) ::
  (nat_lit 96, (Obj.mk (.type "tuple") (.none) (.seq #[] 0) #[])) ::
  (nat_lit 98, (Obj.mk (.type "tuple") (.none) (.seq #[(.str (Str.ofString "self") 304)] 0) #[])) ::
  (nat_lit 99, (Obj.mk (.type "tuple") (.none) (.seq #[] 0) #[])) ::
  (nat_lit 101, (Obj.mk (.type "code") (.none) (.fields #[(.str (Str.ofString "is_number") 301), (.str (Str.ofString "Affine.is_number") 302), (.str (Str.ofString "/claim/cut.py") 303), (.int 32 0), (.int 1 0), (.int 0 0), (.int 0 0), (.int 3 0), (.ref 96), (.bool .true), (.int 181 0), (.ref 97), .none, (.ref 98), (.ref 99), (.ref 100), (.int 305 0), (.int 32 0), (.str (Str.ofString "/claim/cut.py") 306)]) #[])) ::
  (nat_lit 102, hd.o_102 P) ::
  (nat_lit 103, (Obj.mk (.type "tuple") (.none) (.seq #[] 0) #[])) ::
  (nat_lit 105, (Obj.mk (.type "tuple") (.none) (.seq #[(.str (Str.ofString "self") 311)] 0) #[])) ::
  (nat_lit 106, (Obj.mk (.type "tuple") (.none) (.seq #[] 0) #[])) ::
  (nat_lit 108, (Obj.mk (.type "code") (.none) (.fields #[(.str (Str.ofString "is_symbol") 308), (.str (Str.ofString "Affine.is_symbol") 309), (.str (Str.ofString "/claim/cut.py") 310), (.int 35 0), (.int 1 0), (.int 0 0), (.int 0 0), (.int 3 0), (.ref 103), (.bool .true), (.int 181 0), (.ref 104), .none, (.ref 105), (.ref 106), (.ref 107), (.int 312 0), (.int 35 0), (.str (Str.ofString "/claim/cut.py") 313)]) #[])) ::
  (nat_lit 109, hd.o_109 P) ::
  (nat_lit 110, (Obj.mk (.type "tuple") (.none) (.seq #[] 0) #[])) ::
  (nat_lit 112, (Obj.mk (.type "tuple") (.none) (.seq #[(.str (Str.ofString "self") 318)] 0) #[])) ::
  (nat_lit 113, (Obj.mk (.type "tuple") (.none) (.seq #[] 0) #[])) ::
  (nat_lit 115, (Obj.mk (.type "code") (.none) (.fields #[(.str (Str.ofString "negate") 315), (.str (Str.ofString "Affine.negate") 316), (.str (Str.ofString "/claim/cut.py") 317), (.int 38 0), (.int 1 0), (.int 0 0), (.int 0 0), (.int 3 0), (.ref 110), (.bool .true), (.int 181 0), (.ref 111), .none, (.ref 112), (.ref 113), (.ref 114), (.int 319 0), (.int 38 0), (.str (Str.ofString "/claim/cut.py") 320)]) #[])) ::
  (nat_lit 116, hd.o_116 P) ::
  (nat_lit 117, (Obj.mk (.type "tuple") (.none) (.seq #[] 0) #[])) ::
  (nat_lit 119, (Obj.mk (.type "tuple") (.none) (.seq #[(.str (Str.ofString "self") 325), (.str (Str.ofString "other") 326)] 0) #[])) ::
  (nat_lit 120, (Obj.mk (.type "tuple") (.none) (.seq #[] 0) #[])) ::
  (nat_lit 122, (Obj.mk (.type "code") (.none) (.fields #[(.str (Str.ofString "add") 322), (.str (Str.ofString "Affine.add") 323), (.str (Str.ofString "/claim/cut.py") 324), (.int 41 0), (.int 2 0), (.int 0 0), (.int 0 0), (.int 3 0), (.ref 117), (.bool .true), (.int 181 0), (.ref 118), .none, (.ref 119), (.ref 120), (.ref 121), (.int 327 0), (.int 41 0), (.str (Str.ofString "/claim/cut.py") 328)]) #[])) ::
  (nat_lit 123, hd.o_123 P) ::
  (nat_lit 124, (Obj.mk (.type "tuple") (.none) (.seq #[] 0) #[])) ::
  (nat_lit 126, (Obj.mk (.type "tuple") (.none) (.seq #[(.str (Str.ofString "self") 333), (.str (Str.ofString "known") 334)] 0) #[])) ::
  (nat_lit 127, (Obj.mk (.type "tuple") (.none) (.seq #[] 0) #[])) ::
  (nat_lit 129, (Obj.mk (.type "code") (.none) (.fields #[(.str (Str.ofString "places") 330), (.str (Str.ofString "Affine.places") 331), (.str (Str.ofString "/claim/cut.py") 332), (.int 44 0), (.int 2 0), (.int 0 0), (.int 0 0), (.int 3 0), (.ref 124), (.bool .true), (.int 181 0), (.ref 125), .none, (.ref 126), (.ref 127), (.ref 128), (.int 335 0), (.int 44 0), (.str (Str.ofString "/claim/cut.py") 336)]) #[])) ::
  (nat_lit 130, hd.o_130 P) ::
  (nat_lit 131, (Obj.mk (.type "tuple") (.none) (.seq #[(.str (Str.ofString "minus") 338), (.str (Str.ofString "plus") 339), (.str (Str.ofString "worth") 340)] 0) #[])) ::
  (nat_lit 132, (Obj.mk (.type "dict") (.none) (.dict #[(DictEntry.mk (PyData.keyHash P (Str.ofString "__module__")) (.str (Str.ofString "__module__") 277) (.str (Str.ofString "octetmint.expressions") 266)), (DictEntry.mk (PyData.keyHash P (Str.ofString "__firstlineno__")) (.str (Str.ofString "__firstlineno__") 281) (.int 22 280)), (DictEntry.mk (PyData.keyHash P (Str.ofString "__init__")) (.str (Str.ofString "__init__") 293) (.ref 88)), (DictEntry.mk (PyData.keyHash P (Str.ofString "told")) (.str (Str.ofString "told") 300) (.ref 95)), (DictEntry.mk (PyData.keyHash P (Str.ofString "is_number")) (.str (Str.ofString "is_number") 307) (.ref 102)), (DictEntry.mk (PyData.keyHash P (Str.ofString "is_symbol")) (.str (Str.ofString "is_symbol") 314) (.ref 109)), (DictEntry.mk (PyData.keyHash P (Str.ofString "negate")) (.str (Str.ofString "negate") 321) (.ref 116)), (DictEntry.mk (PyData.keyHash P (Str.ofString "add")) (.str (Str.ofString "add") 329) (.ref 123)), (DictEntry.mk (PyData.keyHash P (Str.ofString "places")) (.str (Str.ofString "places") 337) (.ref 130)), (DictEntry.mk (PyData.keyHash P (Str.ofString "__static_attributes__")) (.str (Str.ofString "__static_attributes__") 341) (.ref 131)), (DictEntry.mk (PyData.keyHash P (Str.ofString "__dict__")) (.str (Str.ofString "__dict__") 343) (.ref 134)), (DictEntry.mk (PyData.keyHash P (Str.ofString "__weakref__")) (.str (Str.ofString "__weakref__") 345) (.ref 135)), (DictEntry.mk (PyData.keyHash P (Str.ofString "__doc__")) (.str (Str.ofString "__doc__") 346) .none)] 4) #[])) ::
  (nat_lit 133, (Obj.mk (.type "type") (.none) (.cls (ClassData.mk (Str.ofString "Affine") [(.type "object")] [(.ref 133), (.type "object")] 132 (Str.ofString "Affine") .true [] [] .false (.none) .false)) #[(.none), (.none), (.some (.str (Str.ofString "Affine") 270)), (.some (.str (Str.ofString "Affine") 278)), (.some (.builtin "object.__new__")), (.some (.bool .true))])) ::
  (nat_lit 134, (Obj.mk (.type "getset_descriptor") (.none) (.fields #[(.str (Str.ofString "__dict__") 342), (.ref 133), (.builtin "function.__dict__"), (.builtin "function.__dict__#set")]) #[])) ::
  (nat_lit 135, (Obj.mk (.type "getset_descriptor") (.none) (.fields #[(.str (Str.ofString "__weakref__") 344), (.ref 133), (.builtin "ExceptionGroup.__weakref__"), .none]) #[])) ::
  (nat_lit 138, (Obj.mk (.type "tuple") (.none) (.seq #[] 0) #[])) ::
  (nat_lit 141, (Obj.mk (.type "code") (.none) (.fields #[(.str (Str.ofString "affine_of") 349), (.str (Str.ofString "affine_of") 350), (.str (Str.ofString "/claim/cut.py") 351), (.int 46 0), (.int 3 0), (.int 0 0), (.int 0 0), (.int 3 0), (.ref 138), (.bool .true), (.int 181 0), (.ref 139), .none, .none, .none, (.ref 140), (.int 352 0), (.int 46 0), (.str (Str.ofString "/claim/cut.py") 353)]) #[])) ::
  (nat_lit 142, hd.o_142 P) ::
  (nat_lit 150, (Obj.mk (.type "tuple") (.none) (.seq #[.none] 0) #[])) ::
  (nat_lit 151, (Obj.mk (.type "tuple") (.none) (.seq #[] 0) #[])) ::
  (nat_lit 153, (Obj.mk (.type "tuple") (.none) (.seq #[(.str (Str.ofString "self") 370), (.str (Str.ofString "equates") 371)] 0) #[])) ::
  (nat_lit 154, (Obj.mk (.type "tuple") (.none) (.seq #[] 0) #[])) ::
  (nat_lit 156, (Obj.mk (.type "code") (.none) (.fields #[(.str (Str.ofString "__init__") 367), (.str (Str.ofString "Scope.__init__") 368), (.str (Str.ofString "/claim/cut.py") 369), (.int 59 0), (.int 2 0), (.int 0 0), (.int 0 0), (.int 3 0), (.ref 151), (.bool .true), (.int 181 0), (.ref 152), .none, (.ref 153), (.ref 154), (.ref 155), (.int 372 0), (.int 59 0), (.str (Str.ofString "/claim/cut.py") 373)]) #[])) ::
  (nat_lit 157, hd.o_157 P) ::
  (nat_lit 158, (Obj.mk (.type "tuple") (.none) (.seq #[] 0) #[])) ::
  (nat_lit 160, (Obj.mk (.type "tuple") (.none) (.seq #[(.str (Str.ofString "self") 378), (.str (Str.ofString "name") 379), (.str (Str.ofString "affine") 380)] 0) #[])) ::
  (nat_lit 161, (Obj.mk (.type "tuple") (.none) (.seq #[] 0) #[])) ::
  (nat_lit 163, (Obj.mk (.type "code") (.none) (.fields #[(.str (Str.ofString "put") 375), (.str (Str.ofString "Scope.put") 376), (.str (Str.ofString "/claim/cut.py") 377), (.int 62 0), (.int 3 0), (.int 0 0), (.int 0 0), (.int 3 0), (.ref 158), (.bool .true), (.int 181 0), (.ref 159), .none, (.ref 160), (.ref 161), (.ref 162), (.int 381 0), (.int 62 0), (.str (Str.ofString "/claim/cut.py") 382)]) #[])) ::
  (nat_lit 164, hd.o_164 P) ::
  (nat_lit 165, (Obj.mk (.type "tuple") (.none) (.seq #[] 0) #[])) ::
  (nat_lit 167, (Obj.mk (.type "tuple") (.none) (.seq #[(.str (Str.ofString "self") 387), (.str (Str.ofString "name") 388)] 0) #[])) ::
  (nat_lit 168, (Obj.mk (.type "tuple") (.none) (.seq #[] 0) #[])) ::
  (nat_lit 170, (Obj.mk (.type "code") (.none) (.fields #[(.str (Str.ofString "find") 384), (.str (Str.ofString "Scope.find") 385), (.str (Str.ofString "/claim/cut.py") 386), (.int 65 0), (.int 2 0), (.int 0 0), (.int 0 0), (.int 3 0), (.ref 165), (.bool .true), (.int 181 0), (.ref 166), .none, (.ref 167), (.ref 168), (.ref 169), (.int 389 0), (.int 65 0), (.str (Str.ofString "/claim/cut.py") 390)]) #[])) ::
  (nat_lit 171, hd.o_171 P) ::
  (nat_lit 172, (Obj.mk (.type "tuple") (.none) (.seq #[] 0) #[])) ::
  (nat_lit 175, (Obj.mk (.type "code") (.none) (.fields #[(.str (Str.ofString "order_of") 392), (.str (Str.ofString "Scope.order_of") 393), (.str (Str.ofString "/claim/cut.py") 394), (.int 68 0), (.int 2 0), (.int 0 0), (.int 0 0), (.int 3 0), (.ref 172), (.bool .true), (.int 181 0), (.ref 173), .none, .none, .none, (.ref 174), (.int 395 0), (.int 68 0), (.str (Str.ofString "/claim/cut.py") 396)]) #[])) ::
  (nat_lit 176, hd.o_176 P) ::
  (nat_lit 177, (Obj.mk (.type "tuple") (.none) (.seq #[] 0) #[])) ::
  (nat_lit 180, (Obj.mk (.type "code") (.none) (.fields #[(.str (Str.ofString "settled") 398), (.str (Str.ofString "Scope.settled") 399), (.str (Str.ofString "/claim/cut.py") 400), (.int 90 0), (.int 2 0), (.int 0 0), (.int 0 0), (.int 3 0), (.ref 177), (.bool .true), (.int 181 0), (.ref 178), .none, .none, .none, (.ref 179), (.int 401 0), (.int 90 0), (.str (Str.ofString "/claim/cut.py") 402)]) #[])) ::
  (nat_lit 181, hd.o_181 P) ::
  (nat_lit 182, (Obj.mk (.type "tuple") (.none) (.seq #[(.str (Str.ofString "equates") 404)] 0) #[])) ::
  (nat_lit 183, (Obj.mk (.type "dict") (.none) (.dict #[(DictEntry.mk (PyData.keyHash P (Str.ofString "__module__")) (.str (Str.ofString "__module__") 362) (.str (Str.ofString "octetmint.expressions") 266)), (DictEntry.mk (PyData.keyHash P (Str.ofString "__firstlineno__")) (.str (Str.ofString "__firstlineno__") 366) (.int 57 365)), (DictEntry.mk (PyData.keyHash P (Str.ofString "__init__")) (.str (Str.ofString "__init__") 374) (.ref 157)), (DictEntry.mk (PyData.keyHash P (Str.ofString "put")) (.str (Str.ofString "put") 383) (.ref 164)), (DictEntry.mk (PyData.keyHash P (Str.ofString "find")) (.str (Str.ofString "find") 391) (.ref 171)), (DictEntry.mk (PyData.keyHash P (Str.ofString "order_of")) (.str (Str.ofString "order_of") 397) (.ref 176)), (DictEntry.mk (PyData.keyHash P (Str.ofString "settled")) (.str (Str.ofString "settled") 403) (.ref 181)), (DictEntry.mk (PyData.keyHash P (Str.ofString "__static_attributes__")) (.str (Str.ofString "__static_attributes__") 405) (.ref 182)), (DictEntry.mk (PyData.keyHash P (Str.ofString "__dict__")) (.str (Str.ofString "__dict__") 407) (.ref 185)), (DictEntry.mk (PyData.keyHash P (Str.ofString "__weakref__")) (.str (Str.ofString "__weakref__") 409) (.ref 186)), (DictEntry.mk (PyData.keyHash P (Str.ofString "__doc__")) (.str (Str.ofString "__doc__") 410) .none)] 4) #[])) ::
  (nat_lit 184, (Obj.mk (.type "type") (.none) (.cls (ClassData.mk (Str.ofString "Scope") [(.type "object")] [(.ref 184), (.type "object")] 183 (Str.ofString "Scope") .true [] [] .false (.none) .false)) #[(.none), (.none), (.some (.str (Str.ofString "Scope") 355)), (.some (.str (Str.ofString "Scope") 363)), (.some (.builtin "object.__new__")), (.some (.bool .true))])) ::
  (nat_lit 185, (Obj.mk (.type "getset_descriptor") (.none) (.fields #[(.str (Str.ofString "__dict__") 406), (.ref 184), (.builtin "function.__dict__"), (.builtin "function.__dict__#set")]) #[])) ::
  (nat_lit 186, (Obj.mk (.type "getset_descriptor") (.none) (.fields #[(.str (Str.ofString "__weakref__") 408), (.ref 184), (.builtin "ExceptionGroup.__weakref__"), .none]) #[])) ::
  (nat_lit 189, (Obj.mk (.type "tuple") (.none) (.seq #[] 0) #[])) ::
  (nat_lit 191, (Obj.mk (.type "tuple") (.none) (.seq #[(.str (Str.ofString "program") 418), (.str (Str.ofString "affine") 419), (.str (Str.ofString "error") 420)] 0) #[])) ::
  (nat_lit 192, (Obj.mk (.type "tuple") (.none) (.seq #[] 0) #[])) ::
  (nat_lit 194, (Obj.mk (.type "code") (.none) (.fields #[(.str (Str.ofString "plain") 415), (.str (Str.ofString "plain") 416), (.str (Str.ofString "/claim/cut.py") 417), (.int 105 0), (.int 2 0), (.int 0 0), (.int 0 0), (.int 3 0), (.ref 189), (.bool .true), (.int 181 0), (.ref 190), .none, (.ref 191), (.ref 192), (.ref 193), (.int 421 0), (.int 105 0), (.str (Str.ofString "/claim/cut.py") 422)]) #[])) ::
  (nat_lit 195, hd.o_195 P) ::
  (nat_lit 203, (Obj.mk (.type "tuple") (.none) (.seq #[] 0) #[])) ::
  (nat_lit 205, (Obj.mk (.type "tuple") (.none) (.seq #[(.str (Str.ofString "self") 441)] 0) #[])) ::
  (nat_lit 206, (Obj.mk (.type "tuple") (.none) (.seq #[] 0) #[])) ::
  (nat_lit 208, (Obj.mk (.type "code") (.none) (.fields #[(.str (Str.ofString "__init__") 438), (.str (Str.ofString "Program.__init__") 439), (.str (Str.ofString "/claim/cut.py") 440), (.int 115 0), (.int 1 0), (.int 0 0), (.int 0 0), (.int 3 0), (.ref 203), (.bool .true), (.int 181 0), (.ref 204), .none, (.ref 205), (.ref 206), (.ref 207), (.int 442 0), (.int 115 0), (.str (Str.ofString "/claim/cut.py") 443)]) #[])) ::
  (nat_lit 209, hd.o_209 P) ::
  (nat_lit 210, (Obj.mk (.type "tuple") (.none) (.seq #[] 0) #[])) ::
  (nat_lit 212, (Obj.mk (.type "tuple") (.none) (.seq #[(.str (Str.ofString "self") 448), (.str (Str.ofString "name") 449)] 0) #[])) ::
  (nat_lit 213, (Obj.mk (.type "tuple") (.none) (.seq #[] 0) #[])) ::
  (nat_lit 215, (Obj.mk (.type "code") (.none) (.fields #[(.str (Str.ofString "section") 445), (.str (Str.ofString "Program.section") 446), (.str (Str.ofString "/claim/cut.py") 447), (.int 121 0), (.int 2 0), (.int 0 0), (.int 0 0), (.int 3 0), (.ref 210), (.bool .true), (.int 181 0), (.ref 211), .none, (.ref 212), (.ref 213), (.ref 214), (.int 450 0), (.int 121 0), (.str (Str.ofString "/claim/cut.py") 451)]) #[])) ::
  (nat_lit 216, hd.o_216 P) ::
  (nat_lit 217, (Obj.mk (.type "tuple") (.none) (.seq #[] 0) #[])) ::
  (nat_lit 219, (Obj.mk (.type "tuple") (.none) (.seq #[(.str (Str.ofString "self") 456), (.str (Str.ofString "label") 457)] 0) #[])) ::
  (nat_lit 220, (Obj.mk (.type "tuple") (.none) (.seq #[] 0) #[])) ::
  (nat_lit 222, (Obj.mk (.type "code") (.none) (.fields #[(.str (Str.ofString "home") 453), (.str (Str.ofString "Program.home") 454), (.str (Str.ofString "/claim/cut.py") 455), (.int 124 0), (.int 2 0), (.int 0 0), (.int 0 0), (.int 3 0), (.ref 217), (.bool .true), (.int 181 0), (.ref 218), .none, (.ref 219), (.ref 220), (.ref 221), (.int 458 0), (.int 124 0), (.str (Str.ofString "/claim/cut.py") 459)]) #[])) ::
  (nat_lit 223, hd.o_223 P) ::
  (nat_lit 224, (Obj.mk (.type "tuple") (.none) (.seq #[] 0) #[])) ::
  (nat_lit 226, (Obj.mk (.type "tuple") (.none) (.seq #[(.str (Str.ofString "self") 464), (.str (Str.ofString "name") 465)] 0) #[])) ::
  (nat_lit 227, (Obj.mk (.type "tuple") (.none) (.seq #[] 0) #[])) ::
  (nat_lit 229, (Obj.mk (.type "code") (.none) (.fields #[(.str (Str.ofString "add_global") 461), (.str (Str.ofString "Program.add_global") 462), (.str (Str.ofString "/claim/cut.py") 463), (.int 127 0), (.int 2 0), (.int 0 0), (.int 0 0), (.int 3 0), (.ref 224), (.bool .true), (.int 181 0), (.ref 225), .none, (.ref 226), (.ref 227), (.ref 228), (.int 466 0), (.int 127 0), (.str (Str.ofString "/claim/cut.py") 467)]) #[])) ::
  (nat_lit 230, hd.o_230 P) ::
  (nat_lit 231, (Obj.mk (.type "tuple") (.none) (.seq #[] 0) #[])) ::
  (nat_lit 233, (Obj.mk (.type "tuple") (.none) (.seq #[(.str (Str.ofString "self") 472), (.str (Str.ofString "one") 473), (.str (Str.ofString "other") 474)] 0) #[])) ::
  (nat_lit 234, (Obj.mk (.type "tuple") (.none) (.seq #[] 0) #[])) ::
  (nat_lit 236, (Obj.mk (.type "code") (.none) (.fields #[(.str (Str.ofString "add_difference") 469), (.str (Str.ofString "Program.add_difference") 470), (.str (Str.ofString "/claim/cut.py") 471), (.int 130 0), (.int 3 0), (.int 0 0), (.int 0 0), (.int 3 0), (.ref 231), (.bool .true), (.int 181 0), (.ref 232), .none, (.ref 233), (.ref 234), (.ref 235), (.int 475 0), (.int 130 0), (.str (Str.ofString "/claim/cut.py") 476)]) #[])) ::
  (nat_lit 237, hd.o_237 P) ::
  (nat_lit 238, (Obj.mk (.type "tuple") (.none) (.seq #[] 0) #[])) ::
  (nat_lit 240, (Obj.mk (.type "tuple") (.none) (.seq #[(.str (Str.ofString "self") 481), (.str (Str.ofString "one") 482), (.str (Str.ofString "other") 483)] 0) #[])) ::
  (nat_lit 241, (Obj.mk (.type "tuple") (.none) (.seq #[] 0) #[])) ::
  (nat_lit 243, (Obj.mk (.type "code") (.none) (.fields #[(.str (Str.ofString "distance") 478), (.str (Str.ofString "Program.distance") 479), (.str (Str.ofString "/claim/cut.py") 480), (.int 133 0), (.int 3 0), (.int 0 0), (.int 0 0), (.int 3 0), (.ref 238), (.bool .true), (.int 181 0), (.ref 239), .none, (.ref 240), (.ref 241), (.ref 242), (.int 484 0), (.int 133 0), (.str (Str.ofString "/claim/cut.py") 485)]) #[])) ::
  (nat_lit 244, hd.o_244 P) ::
  (nat_lit 245, (Obj.mk (.type "tuple") (.none) (.seq #[] 0) #[])) ::
  (nat_lit 248, (Obj.mk (.type "code") (.none) (.fields #[(.str (Str.ofString "told") 487), (.str (Str.ofString "Program.told") 488), (.str (Str.ofString "/claim/cut.py") 489), (.int 136 0), (.int 1 0), (.int 0 0), (.int 0 0), (.int 3 0), (.ref 245), (.bool .true), (.int 181 0), (.ref 246), .none, .none, .none, (.ref 247), (.int 490 0), (.int 136 0), (.str (Str.ofString "/claim/cut.py") 491)]) #[])) ::
  (nat_lit 249, hd.o_249 P) ::
  (nat_lit 250, (Obj.mk (.type "tuple") (.none) (.seq #[(.str (Str.ofString "equates") 493), (.str (Str.ofString "globals_") 494), (.str (Str.ofString "names") 495), (.str (Str.ofString "sections") 496)] 0) #[])) ::
  (nat_lit 251, (Obj.mk (.type "dict") (.none) (.dict #[(DictEntry.mk (PyData.keyHash P (Str.ofString "__module__")) (.str (Str.ofString "__module__") 433) (.str (Str.ofString "octetmint.sections") 424)), (DictEntry.mk (PyData.keyHash P (Str.ofString "__firstlineno__")) (.str (Str.ofString "__firstlineno__") 437) (.int 113 436)), (DictEntry.mk (PyData.keyHash P (Str.ofString "__init__")) (.str (Str.ofString "__init__") 444) (.ref 209)), (DictEntry.mk (PyData.keyHash P (Str.ofString "section")) (.str (Str.ofString "section") 452) (.ref 216)), (DictEntry.mk (PyData.keyHash P (Str.ofString "home")) (.str (Str.ofString "home") 460) (.ref 223)), (DictEntry.mk (PyData.keyHash P (Str.ofString "add_global")) (.str (Str.ofString "add_global") 468) (.ref 230)), (DictEntry.mk (PyData.keyHash P (Str.ofString "add_difference")) (.str (Str.ofString "add_difference") 477) (.ref 237)), (DictEntry.mk (PyData.keyHash P (Str.ofString "distance")) (.str (Str.ofString "distance") 486) (.ref 244)), (DictEntry.mk (PyData.keyHash P (Str.ofString "told")) (.str (Str.ofString "told") 492) (.ref 249)), (DictEntry.mk (PyData.keyHash P (Str.ofString "__static_attributes__")) (.str (Str.ofString "__static_attributes__") 497) (.ref 250)), (DictEntry.mk (PyData.keyHash P (Str.ofString "__dict__")) (.str (Str.ofString "__dict__") 499) (.ref 253)), (DictEntry.mk (PyData.keyHash P (Str.ofString "__weakref__")) (.str (Str.ofString "__weakref__") 501) (.ref 254)), (DictEntry.mk (PyData.keyHash P (Str.ofString "__doc__")) (.str (Str.ofString "__doc__") 502) .none)] 4) #[])) ::
  (nat_lit 252, (Obj.mk (.type "type") (.none) (.cls (ClassData.mk (Str.ofString "Program") [(.type "object")] [(.ref 252), (.type "object")] 251 (Str.ofString "Program") .true [] [] .false (.none) .false)) #[(.none), (.none), (.some (.str (Str.ofString "Program") 426)), (.some (.str (Str.ofString "Program") 434)), (.some (.builtin "object.__new__")), (.some (.bool .true))])) ::
  (nat_lit 253, (Obj.mk (.type "getset_descriptor") (.none) (.fields #[(.str (Str.ofString "__dict__") 498), (.ref 252), (.builtin "function.__dict__"), (.builtin "function.__dict__#set")]) #[])) ::
  (nat_lit 254, (Obj.mk (.type "getset_descriptor") (.none) (.fields #[(.str (Str.ofString "__weakref__") 500), (.ref 252), (.builtin "ExceptionGroup.__weakref__"), .none]) #[])) ::
  (nat_lit 257, (Obj.mk (.type "tuple") (.none) (.seq #[] 0) #[])) ::
  (nat_lit 259, (Obj.mk (.type "tuple") (.none) (.seq #[] 0) #[])) ::
  (nat_lit 260, (Obj.mk (.type "tuple") (.none) (.seq #[] 0) #[])) ::
  (nat_lit 262, (Obj.mk (.type "code") (.none) (.fields #[(.str (Str.ofString "_law_base") 507), (.str (Str.ofString "_law_base") 508), (.str (Str.ofString "/claim/cut.py") 509), (.int 140 0), (.int 0 0), (.int 0 0), (.int 0 0), (.int 3 0), (.ref 257), (.bool .true), (.int 181 0), (.ref 258), .none, (.ref 259), (.ref 260), (.ref 261), (.int 510 0), (.int 140 0), (.str (Str.ofString "/claim/cut.py") 511)]) #[])) ::
  (nat_lit 263, hd.o_263 P) ::
  (nat_lit 264, (Obj.mk (.type "tuple") (.none) (.seq #[] 0) #[])) ::
  (nat_lit 266, (Obj.mk (.type "tuple") (.none) (.seq #[(.str (Str.ofString "script") 516), (.str (Str.ofString "store") 517), (.str (Str.ofString "cell") 518)] 0) #[])) ::
  (nat_lit 267, (Obj.mk (.type "tuple") (.none) (.seq #[] 0) #[])) ::
  (nat_lit 269, (Obj.mk (.type "code") (.none) (.fields #[(.str (Str.ofString "_law_pen") 513), (.str (Str.ofString "_law_pen") 514), (.str (Str.ofString "/claim/cut.py") 515), (.int 142 0), (.int 1 0), (.int 0 0), (.int 0 0), (.int 3 0), (.ref 264), (.bool .true), (.int 181 0), (.ref 265), .none, (.ref 266), (.ref 267), (.ref 268), (.int 519 0), (.int 142 0), (.str (Str.ofString "/claim/cut.py") 520)]) #[])) ::
  (nat_lit 270, hd.o_270 P) ::
  (nat_lit 271, (Obj.mk (.type "tuple") (.none) (.seq #[] 0) #[])) ::
  (nat_lit 273, (Obj.mk (.type "tuple") (.none) (.seq #[(.str (Str.ofString "pen") 525), (.str (Str.ofString "many") 526), (.str (Str.ofString "found") 527)] 0) #[])) ::
  (nat_lit 274, (Obj.mk (.type "tuple") (.none) (.seq #[] 0) #[])) ::
  (nat_lit 276, (Obj.mk (.type "code") (.none) (.fields #[(.str (Str.ofString "_law_take") 522), (.str (Str.ofString "_law_take") 523), (.str (Str.ofString "/claim/cut.py") 524), (.int 147 0), (.int 2 0), (.int 0 0), (.int 0 0), (.int 3 0), (.ref 271), (.bool .true), (.int 181 0), (.ref 272), .none, (.ref 273), (.ref 274), (.ref 275), (.int 528 0), (.int 147 0), (.str (Str.ofString "/claim/cut.py") 529)]) #[])) ::
  (nat_lit 277, hd.o_277 P) ::
  (nat_lit 278, (Obj.mk (.type "tuple") (.none) (.seq #[] 0) #[])) ::
  (nat_lit 281, (Obj.mk (.type "code") (.none) (.fields #[(.str (Str.ofString "_law_name") 531), (.str (Str.ofString "_law_name") 532), (.str (Str.ofString "/claim/cut.py") 533), (.int 155 0), (.int 2 0), (.int 0 0), (.int 0 0), (.int 3 0), (.ref 278), (.bool .true), (.int 181 0), (.ref 279), .none, .none, .none, (.ref 280), (.int 534 0), (.int 155 0), (.str (Str.ofString "/claim/cut.py") 535)]) #[])) ::
  (nat_lit 282, hd.o_282 P) ::
  (nat_lit 283, (Obj.mk (.type "tuple") (.none) (.seq #[] 0) #[])) ::
  (nat_lit 285, (Obj.mk (.type "tuple") (.none) (.seq #[(.str (Str.ofString "told") 540), (.str (Str.ofString "known") 541), (.str (Str.ofString "found") 542), (.str (Str.ofString "name") 543), (.str (Str.ofString "sign") 544), (.str (Str.ofString "one") 545), (.str (Str.ofString "count") 546)] 0) #[])) ::
  (nat_lit 286, (Obj.mk (.type "tuple") (.none) (.seq #[] 0) #[])) ::
  (nat_lit 288, (Obj.mk (.type "code") (.none) (.fields #[(.str (Str.ofString "_law_counts") 537), (.str (Str.ofString "_law_counts") 538), (.str (Str.ofString "/claim/cut.py") 539), (.int 158 0), (.int 2 0), (.int 0 0), (.int 0 0), (.int 3 0), (.ref 283), (.bool .true), (.int 181 0), (.ref 284), .none, (.ref 285), (.ref 286), (.ref 287), (.int 547 0), (.int 158 0), (.str (Str.ofString "/claim/cut.py") 548)]) #[])) ::
  (nat_lit 289, hd.o_289 P) ::
  (nat_lit 290, (Obj.mk (.type "tuple") (.none) (.seq #[] 0) #[])) ::
  (nat_lit 293, (Obj.mk (.type "code") (.none) (.fields #[(.str (Str.ofString "_law_due") 550), (.str (Str.ofString "_law_due") 551), (.str (Str.ofString "/claim/cut.py") 552), (.int 164 0), (.int 1 0), (.int 0 0), (.int 0 0), (.int 3 0), (.ref 290), (.bool .true), (.int 181 0), (.ref 291), .none, .none, .none, (.ref 292), (.int 553 0), (.int 164 0), (.str (Str.ofString "/claim/cut.py") 554)]) #[])) ::
  (nat_lit 294, hd.o_294 P) ::
  (nat_lit 295, (Obj.mk (.type "tuple") (.none) (.seq #[] 0) #[])) ::
  (nat_lit 297, (Obj.mk (.type "tuple") (.none) (.seq #[(.str (Str.ofString "scope") 559), (.str (Str.ofString "affine") 560)] 0) #[])) ::
  (nat_lit 298, (Obj.mk (.type "tuple") (.none) (.seq #[] 0) #[])) ::
  (nat_lit 300, (Obj.mk (.type "code") (.none) (.fields #[(.str (Str.ofString "_law_heard") 556), (.str (Str.ofString "_law_heard") 557), (.str (Str.ofString "/claim/cut.py") 558), (.int 170 0), (.int 2 0), (.int 0 0), (.int 0 0), (.int 3 0), (.ref 295), (.bool .true), (.int 181 0), (.ref 296), .none, (.ref 297), (.ref 298), (.ref 299), (.int 561 0), (.int 170 0), (.str (Str.ofString "/claim/cut.py") 562)]) #[])) ::
  (nat_lit 301, hd.o_301 P) ::
  (nat_lit 302, (Obj.mk (.type "tuple") (.none) (.seq #[] 0) #[])) ::
  (nat_lit 304, (Obj.mk (.type "tuple") (.none) (.seq #[(.str (Str.ofString "program") 567), (.str (Str.ofString "affine") 568)] 0) #[])) ::
  (nat_lit 305, (Obj.mk (.type "tuple") (.none) (.seq #[] 0) #[])) ::
  (nat_lit 307, (Obj.mk (.type "code") (.none) (.fields #[(.str (Str.ofString "_law_laid") 564), (.str (Str.ofString "_law_laid") 565), (.str (Str.ofString "/claim/cut.py") 566), (.int 175 0), (.int 2 0), (.int 0 0), (.int 0 0), (.int 3 0), (.ref 302), (.bool .true), (.int 181 0), (.ref 303), .none, (.ref 304), (.ref 305), (.ref 306), (.int 569 0), (.int 175 0), (.str (Str.ofString "/claim/cut.py") 570)]) #[])) ::
  (nat_lit 308, hd.o_308 P) ::
  (nat_lit 309, (Obj.mk (.type "tuple") (.none) (.seq #[] 0) #[])) ::
  (nat_lit 312, (Obj.mk (.type "code") (.none) (.fields #[(.str (Str.ofString "law") 572), (.str (Str.ofString "law") 573), (.str (Str.ofString "/claim/cut.py") 574), (.int 182 0), (.int 1 0), (.int 0 0), (.int 0 0), (.int 3 0), (.ref 309), (.bool .true), (.int 181 0), (.ref 310), .none, .none, .none, (.ref 311), (.int 575 0), (.int 182 0), (.str (Str.ofString "/claim/cut.py") 576)]) #[])) ::
  (nat_lit 313, hd.o_313 P) :: []
noncomputable def hd.view_39 : Program := by
  refine (?f : (b0 : Stmt) → topS 0 = b0 → (b2 : Stmt) → topS 2 = b2 → (b3 : Stmt) → topS 3 = b3 → (b4 : Stmt) → topS 4 = b4 → (b6 : Stmt) → topS 6 = b6 → (b7 : Stmt) → topS 7 = b7 → (b8 : Stmt) → topS 8 = b8 → (b9 : Stmt) → topS 9 = b9 → (b11 : Stmt) → topS 11 = b11 → (b13 : Stmt) → topS 13 = b13 → (b15 : Stmt) → topS 15 = b15 → (b16 : Stmt) → topS 16 = b16 → (b17 : Stmt) → topS 17 = b17 → (b18 : Stmt) → topS 18 = b18 → (b19 : Stmt) → topS 19 = b19 → (b20 : Stmt) → topS 20 = b20 → (b21 : Stmt) → topS 21 = b21 → (b22 : Stmt) → topS 22 = b22 → (b23 : Stmt) → topS 23 = b23 → Program) ?b0 ?h0 ?b2 ?h2 ?b3 ?h3 ?b4 ?h4 ?b6 ?h6 ?b7 ?h7 ?b8 ?h8 ?b9 ?h9 ?b11 ?h11 ?b13 ?h13 ?b15 ?h15 ?b16 ?h16 ?b17 ?h17 ?b18 ?h18 ?b19 ?h19 ?b20 ?h20 ?b21 ?h21 ?b22 ?h22 ?b23 ?h23
  case f => exact fun b0 _ b2 _ b3 _ b4 _ b6 _ b7 _ b8 _ b9 _ b11 _ b13 _ b15 _ b16 _ b17 _ b18 _ b19 _ b20 _ b21 _ b22 _ b23 _ => { PySem.Challenge.pw_qz0049_01 with main := { PySem.Challenge.pw_qz0049_01.main with body := [b0, b2, b3, b4, b6, b7, b8, b9, b11, b13, b15, b16, b17, b18, b19, b20, b21, b22, b23] } }
  case h0 => ((conv => lhs; whnf); try exact rfl)
  case h2 => ((conv => lhs; whnf); try exact rfl)
  case h3 => ((conv => lhs; whnf); try exact rfl)
  case h4 => ((conv => lhs; whnf); try exact rfl)
  case h6 => ((conv => lhs; whnf); try exact rfl)
  case h7 => ((conv => lhs; whnf); try exact rfl)
  case h8 => ((conv => lhs; whnf); try exact rfl)
  case h9 => ((conv => lhs; whnf); try exact rfl)
  case h11 => ((conv => lhs; whnf); try exact rfl)
  case h13 => ((conv => lhs; whnf); try exact rfl)
  case h15 => ((conv => lhs; whnf); try exact rfl)
  case h16 => ((conv => lhs; whnf); try exact rfl)
  case h17 => ((conv => lhs; whnf); try exact rfl)
  case h18 => ((conv => lhs; whnf); try exact rfl)
  case h19 => ((conv => lhs; whnf); try exact rfl)
  case h20 => ((conv => lhs; whnf); try exact rfl)
  case h21 => ((conv => lhs; whnf); try exact rfl)
  case h22 => ((conv => lhs; whnf); try exact rfl)
  case h23 => ((conv => lhs; whnf); try exact rfl)
noncomputable def hd.as : List Addr := [2, 3, 15, 17, 18, 20, 21, 22, 29, 30, 32, 33, 35, 36, 37, 39, 40, 42, 43, 44, 45, 46, 47, 50, 57, 58, 59, 62, 69, 70, 71, 81, 82, 84, 85, 87, 88, 89, 91, 92, 94, 95, 96, 98, 99, 101, 102, 103, 105, 106, 108, 109, 110, 112, 113, 115, 116, 117, 119, 120, 122, 123, 124, 126, 127, 129, 130, 131, 132, 133, 134, 135, 138, 141, 142, 150, 151, 153, 154, 156, 157, 158, 160, 161, 163, 164, 165, 167, 168, 170, 171, 172, 175, 176, 177, 180, 181, 182, 183, 184, 185, 186, 189, 191, 192, 194, 195, 203, 205, 206, 208, 209, 210, 212, 213, 215, 216, 217, 219, 220, 222, 223, 224, 226, 227, 229, 230, 231, 233, 234, 236, 237, 238, 240, 241, 243, 244, 245, 248, 249, 250, 251, 252, 253, 254, 257, 259, 260, 262, 263, 264, 266, 267, 269, 270, 271, 273, 274, 276, 277, 278, 281, 282, 283, 285, 286, 288, 289, 290, 293, 294, 295, 297, 298, 300, 301, 302, 304, 305, 307, 308, 309, 312, 313]
theorem hd.ase : ∀ P, hd.as = (hd.heap_39 P).map (·.1) := fun _ => by kernel_rfl
abbrev RW0 : OpenRow := PySem.Challenge.rw_qz0049_01.row
theorem hd.said : PySem.Challenge.rw_qz0049_01.wellSaid = true := by kernel_rfl
theorem hd.left : LeftO RW0.prog hd.view_39 [Str.ofString "MintError"] (fun s => xlAt hd.view_39 [] s && recOk (RowW.records RW0.toRowW) s) (Hook.obs (kHook hd.heap_39 hd.as hd.ase)) (Hook.val (kHook hd.heap_39 hd.as hd.ase)) 4658 := by
  intro w
  unfold openEnds fencedOpening topFrom
  rw [PySem.W.Fast.te14082659384304107361, PySem.W.Fast.te14364793385576792824, PySem.W.Fast.te4187177175401517315, PySem.W.Fast.te10274390034422433532, PySem.W.Fast.te1435165496053646825]
  kernel_rfl
end Mine
namespace Mine
open PySem PySem.W PySem.Calls PyProof.Rows
section
variable {prog : Program} {w : World} {A : Around} {E : Value → Shared → Prop} {s : Shared} {env : Env} {h₀ : Heap} {target : Expr} {body : List Stmt} {Q : Flow → Shared → Prop}
/-- the end of a turn: the iterator it and the list lo stand, J holds of the rest -/
def TurnE (h₀ : Heap) (L : Addr) (s₁ : Shared) (p lo : Addr × Obj) (J : (Str → Option Value) → List (Addr × Obj) → Prop) (Q : Flow → Shared → Prop) (f : Flow) (s₂ : Shared) : Prop :=
  match f with
  | .ret v => Q (.ret v) s₂
  | .brk => Q .next s₂
  | _ => ∃ h' tk m' news', s₂ = { s₁ with heap := h', toks := tk } ∧ Fr h₀ L h' m' ∧ News h₀ L h' (p :: news') ∧ (∀ q ∈ news', q.1 ≠ p.1) ∧ lo ∈ news' ∧ J m' news'
theorem TurnE.next {L : Addr} {s₁ : Shared} {p lo : Addr × Obj} {J : (Str → Option Value) → List (Addr × Obj) → Prop} {h' : Heap} {tk : Nat} {m' : Str → Option Value} (news' : List (Addr × Obj)) (F : Fr h₀ L h' m') (N : News h₀ L h' (p :: news')) (hne : ∀ q ∈ news', q.1 ≠ p.1) (hl : lo ∈ news') (hJ : J m' news') :
    TurnE h₀ L s₁ p lo J Q .next { s₁ with heap := h', toks := tk } := ⟨h', tk, m', news', rfl, F, N, hne, hl, hJ⟩

theorem for_restT {ax I : Addr} {ty : String} {lo : Obj} (J : List Value → List Value → (Str → Option Value) → List (Addr × Obj) → Prop) (vs : List Value)
    (turn : ∀ oi ds v ts m₁ news₁ h tk, oi.cls = .type ty → vs = ds ++ v :: ts → (ax, lo) ∈ news₁ → J ds (v :: ts) m₁ news₁ → Fr h₀ env.locals h m₁ → News h₀ env.locals h ((I, oi) :: news₁) →
      wpAny (model prog w) A (assign target env v) (fun _ s₂ => wpAny (model prog w) A (execs body env) (TurnE h₀ env.locals { s with heap := h, toks := tk } (I, oi) (ax, lo) (J (ds ++ [v]) ts) Q) E s₂) E { s with heap := h, toks := tk })
    (done : ∀ m₁ news₁ h tk, J vs [] m₁ news₁ → Fr h₀ env.locals h m₁ → News h₀ env.locals h news₁ → Q .next { s with heap := h, toks := tk }) :
    ∀ (ts ds : List Value) m₁ news₁, vs = ds ++ ts → (ax, lo) ∈ news₁ → J ds ts m₁ news₁ → ItemsRest prog w A E h₀ env target body Q s [(I, ty)] [(ax, lo)] (ts.map .val) m₁ news₁ := by
  intro ts
  induction ts with
  | nil =>
    intro ds m₁ news₁ e _ hJ
    have e' : vs = ds := by simpa using e
    subst e'
    exact ItemsRest.zero fun h tk F N => done m₁ news₁ h tk hJ F N
  | cons v ts ih =>
    intro ds m₁ news₁ e hm hJ
    refine ItemsRest.val fun h tk F => AllObj.cons fun oi hoi => AllObj.nil fun N => ?_
    refine wpAny_mono (turn oi ds v ts m₁ news₁ h tk hoi e hm hJ F N) (fun _ s₂ h₂ => wpAny_mono h₂ (fun f s₃ h₃ => ?_) fun _ _ x => x) fun _ _ x => x
    have fin : (∃ h' tk' m' news', s₃ = { ({ s with heap := h, toks := tk } : Shared) with heap := h', toks := tk' } ∧ Fr h₀ env.locals h' m' ∧ News h₀ env.locals h' ((I, oi) :: news') ∧ (∀ q ∈ news', q.1 ≠ I) ∧ (ax, lo) ∈ news' ∧ J (ds ++ [v]) ts m' news') →
        UnrEndW h₀ env.locals { s with heap := h, toks := tk } [(I, oi)] (fun m' n' => SubL [(ax, lo)] n' ∧ ItemsRest prog w A E h₀ env target body Q s [(I, ty)] [(ax, lo)] (ts.map .val) m' n') s₃ := by
      rintro ⟨h', tk', m', news', rfl, F', N', hne, hl, hJ'⟩
      exact ⟨h', tk', m', news', rfl, F', N', fun p hp q hq => by rw [List.mem_singleton.mp hq]; exact hne p hp, And.intro hl trivial, ih (ds ++ [v]) m' news' (by rw [e]; simp) hl hJ'⟩
    cases f with
    | ret v => exact h₃
    | brk => exact h₃
    | next => exact fin h₃
    | cont => exact fin h₃

/-- a for over a list of the ledger, by what holds of it -/
theorem for_listT {ax : Addr} {lo : Obj} {vs : List Value} {n : Nat} {m₀ : Str → Option Value} {news : List (Addr × Obj)} (J : List Value → List Value → (Str → Option Value) → List (Addr × Obj) → Prop)
    (hh : A.handled = none) (F : Fr h₀ env.locals s.heap m₀) (N : News h₀ env.locals s.heap news) (hm : (ax, lo) ∈ news) (hc : lo.cls = .type "list") (hd : lo.data = .seq vs.toArray n) (h0 : J [] vs m₀ news)
    (turn : ∀ I oi ds v ts m₁ news₁ h tk, (∀ p ∈ news, p.1 < I) → oi.cls = .type "list_iterator" → vs = ds ++ v :: ts → (ax, lo) ∈ news₁ → J ds (v :: ts) m₁ news₁ → Fr h₀ env.locals h m₁ → News h₀ env.locals h ((I, oi) :: news₁) →
      wpAny (model prog w) A (assign target env v) (fun _ s₂ => wpAny (model prog w) A (execs body env) (TurnE h₀ env.locals { s with heap := h, toks := tk } (I, oi) (ax, lo) (J (ds ++ [v]) ts) Q) E s₂) E { s with heap := h, toks := tk })
    (done : ∀ m₁ news₁ h tk, J vs [] m₁ news₁ → Fr h₀ env.locals h m₁ → News h₀ env.locals h news₁ → Q .next { s with heap := h, toks := tk }) :
    wpAny (model prog w) A (pyIter (.ref ax)) (fun it s₂ => TurnsAt prog w A h₀ env target body Q E it s₂) E s :=
  iter_listTurns hh F N hm hc hd fun I hI => for_restT J vs (fun oi ds v ts m₁ news₁ h tk a b c d e f => turn I oi ds v ts m₁ news₁ h tk hI a b c d e f) done vs [] m₀ news rfl hm h0
theorem for_tupT {ax : Addr} {lo : Obj} {vs : List Value} {n : Nat} {m₀ : Str → Option Value} {news : List (Addr × Obj)} (J : List Value → List Value → (Str → Option Value) → List (Addr × Obj) → Prop)
    (hh : A.handled = none) (F : Fr h₀ env.locals s.heap m₀) (N : News h₀ env.locals s.heap news) (hm : (ax, lo) ∈ news) (hc : lo.cls = .type "tuple") (hd : lo.data = .seq vs.toArray n) (h0 : J [] vs m₀ news)
    (turn : ∀ I oi ds v ts m₁ news₁ h tk, (∀ p ∈ news, p.1 < I) → oi.cls = .type "tuple_iterator" → vs = ds ++ v :: ts → (ax, lo) ∈ news₁ → J ds (v :: ts) m₁ news₁ → Fr h₀ env.locals h m₁ → News h₀ env.locals h ((I, oi) :: news₁) →
      wpAny (model prog w) A (assign target env v) (fun _ s₂ => wpAny (model prog w) A (execs body env) (TurnE h₀ env.locals { s with heap := h, toks := tk } (I, oi) (ax, lo) (J (ds ++ [v]) ts) Q) E s₂) E { s with heap := h, toks := tk })
    (done : ∀ m₁ news₁ h tk, J vs [] m₁ news₁ → Fr h₀ env.locals h m₁ → News h₀ env.locals h news₁ → Q .next { s with heap := h, toks := tk }) :
    wpAny (model prog w) A (pyIter (.ref ax)) (fun it s₂ => TurnsAt prog w A h₀ env target body Q E it s₂) E s :=
  iter_tupTurns hh F N hm hc hd fun I hI => for_restT J vs (fun oi ds v ts m₁ news₁ h tk a b c d e f => turn I oi ds v ts m₁ news₁ h tk hI a b c d e f) done vs [] m₀ news rfl hm h0
end
end Mine
namespace Mine
open PySem PySem.W PySem.Calls PyProof.Rows
/-- where the walk is to stop -/
structure Halt (p : Prop) : Prop where
  out : p
theorem rg_small {n : Nat} (h : n ≤ 8) : Builtin.Range.small 0 (n : Int) 1 = true := by
  have e : n = 0 ∨ n = 1 ∨ n = 2 ∨ n = 3 ∨ n = 4 ∨ n = 5 ∨ n = 6 ∨ n = 7 ∨ n = 8 := by omega
  rcases e with rfl | rfl | rfl | rfl | rfl | rfl | rfl | rfl | rfl <;> decide
theorem rg_size {n : Nat} (h : n ≤ 8) : Builtin.Range.rangeSize 0 (n : Int) 1 = ((n : Nat) : Int) := by
  have e : n = 0 ∨ n = 1 ∨ n = 2 ∨ n = 3 ∨ n = 4 ∨ n = 5 ∨ n = 6 ∨ n = 7 ∨ n = 8 := by omega
  rcases e with rfl | rfl | rfl | rfl | rfl | rfl | rfl | rfl | rfl <;> decide
theorem rg_line {n : Nat} (h : n ≤ 8) : n ≤ sizeLine := Nat.le_trans h (by decide)
section
variable {prog : Program} {w : World} {A : Around} {s : Shared} {h₀ : Heap} {L : Addr} {m : Str → Option Value} {env : Env}
/-- a comprehension without a test, by what holds after i turns -/
theorem comp_inv {elt : Expr} {x : Str} {scope : Scope} {cl : List (Str × Addr)} {S : List (Addr × Obj) → Prop} {P : Nat → Value → Prop} {Fin : List Value → List (Addr × Obj) → Prop} {n : Nat} {news : List (Addr × Obj)}
    (J : Nat → List Value → List (Addr × Obj) → Prop) (h0 : J 0 [] news)
    (turn : ∀ i ys news v I oI C oC D m₂ h tk (E' : Value → Shared → Prop), i < n → J i ys news → P i v → LCg.NsObj oC m₂ → m₂ x = some v → Fr h₀ L h m → News h₀ L h ((I, oI) :: (C, oC) :: (D, LCg.lst ys) :: news) → LCg.Off3 I C D news → ((@Ne Nat I C) ∧ (@Ne Nat I D) ∧ (@Ne Nat C D)) →
      wpAny (model prog w) A (eval elt (compEnvC scope cl C env)) (LCg.CompEnd h₀ L m { s with heap := h, toks := tk } I oI C oC D (LCg.lst ys) S (fun y news' => J (i + 1) (ys ++ [y]) news')) E' { s with heap := h, toks := tk })
    (done : ∀ ys news, J n ys news → Fin ys news) : LCg.CompRest prog w A h₀ L m env elt x scope cl s S P Fin n 0 [] news := by
  have go : ∀ k i ys news, i + k = n → J i ys news → LCg.CompRest prog w A h₀ L m env elt x scope cl s S P Fin k i ys news := by
    intro k
    induction k with
    | zero => intro i ys news e hJ; have : i = n := by omega
              subst this; exact LCg.CompRest.zero (done ys news hJ)
    | succ k ih =>
      intro i ys news e hJ
      refine LCg.CompRest.succ fun v I oI C oC D m₂ h tk E' a b c d f g1 g2 => ?_
      refine wpAny_mono (turn i ys news v I oI C oC D m₂ h tk E' (by omega) hJ a b c d f g1 g2) (fun y s' hs => ?_) fun _ _ x => x
      obtain ⟨h', tk', news', e1, F', N', o', hS, hJ'⟩ := hs
      exact ⟨h', tk', news', e1, F', N', o', hS, ih (i + 1) _ _ (by omega) hJ'⟩
  exact go n 0 [] news (by omega) h0
/-- a comprehension without a test that leaves the ledger as it is -/
theorem comp_map {elt : Expr} {x : Str} {scope : Scope} {cl : List (Str × Addr)} {S : List (Addr × Obj) → Prop} {P : Nat → Value → Prop} {Fin : List Value → List (Addr × Obj) → Prop} {n : Nat} {news : List (Addr × Obj)}
    (G : Nat → Value → Prop) (hS : S news)
    (turn : ∀ i ys v I oI C oC D m₂ h tk (E' : Value → Shared → Prop), i < n → P i v → LCg.NsObj oC m₂ → m₂ x = some v → Fr h₀ L h m → News h₀ L h ((I, oI) :: (C, oC) :: (D, LCg.lst ys) :: news) → LCg.Off3 I C D news → ((@Ne Nat I C) ∧ (@Ne Nat I D) ∧ (@Ne Nat C D)) →
      wpAny (model prog w) A (eval elt (compEnvC scope cl C env)) (fun y s' => Halt (G i y ∧ ∃ h' tk', s' = { s with heap := h', toks := tk' } ∧ Fr h₀ L h' m ∧ News h₀ L h' ((I, oI) :: (C, oC) :: (D, LCg.lst ys) :: news))) E' { s with heap := h, toks := tk })
    (done : ∀ ys, ys.length = n → (∀ i y, ys[i]? = some y → G i y) → Fin ys news) : LCg.CompRest prog w A h₀ L m env elt x scope cl s S P Fin n 0 [] news := by
  refine comp_inv (fun i ys news' => news' = news ∧ ys.length = i ∧ (∀ j y, ys[j]? = some y → G j y)) ⟨rfl, rfl, fun j y h => by simp at h⟩ ?_ ?_
  · intro i ys news' v I oI C oC D m₂ h tk E' hi hJ a b c d f g1 g2
    obtain ⟨rfl, hl, hG⟩ := hJ
    refine wpAny_mono (turn i ys v I oI C oC D m₂ h tk E' hi a b c d f g1 g2) (fun y s' hs => ?_) fun _ _ x => x
    obtain ⟨hy, h', tk', rfl, F', N'⟩ := hs.out
    refine ⟨h', tk', _, rfl, F', N', g1, hS, rfl, by simp [hl], fun j z hz => ?_⟩
    rcases Nat.lt_or_ge j ys.length with q | q
    · rw [List.getElem?_append_left q] at hz; exact hG j z hz
    · rw [List.getElem?_append_right q] at hz
      have e : j = i := by
        have := (List.getElem?_eq_some_iff.mp hz).1
        simp at this; omega
      subst e
      rw [hl, Nat.sub_self] at hz
      cases hz; exact hy
  · rintro ys news' ⟨rfl, hl, hG⟩
    exact done ys hl hG
theorem strs_of_map {f : Nat → Str} {n : Nat} {ys : List Value} (hl : ys.length = n) (h : ∀ (i : Nat) (y : Value), ys[i]? = some y → ∃ t, y = Value.str (f i) t) : StrsAre ys ((List.range n).map f) := by
  have go : ∀ (ys : List Value) (k : Nat), (∀ (i : Nat) (y : Value), ys[i]? = some y → ∃ t, y = Value.str (f (k + i)) t) → StrsAre ys ((List.range' k ys.length).map f) := by
    intro ys
    induction ys with
    | nil => intro k _; exact .nil
    | cons y ys ih =>
      intro k hk
      obtain ⟨t, rfl⟩ := hk 0 y rfl
      refine .cons _ t (ih (k + 1) fun i z hz => ?_)
      have := hk (i + 1) z (by simpa using hz)
      rwa [show k + 1 + i = k + (i + 1) by omega]
  have := go ys 0 (fun i y hy => by simpa using h i y hy)
  rw [List.range_eq_range', ← hl]
  exact this
/-- a comprehension with a test that leaves the ledger as it is, whose element is its own name -/
theorem comp_filter {ct : Expr} {x : Str} {px : Pos} {scope : Scope} {cl : List (Str × Addr)} {S : List (Addr × Obj) → Prop} {its : List Value} {Fin : List Value → List (Addr × Obj) → Prop} {news : List (Addr × Obj)}
    (p : Value → Bool) (hS : S news)
    (hd : (x == ("__debug__" : Str)) = false) (hkind : scope.kind = .function) (hx : scope.names.lookup x = some .local)
    (turn : ∀ v I oI C oC D ys m₂ h tk (E' : Value → Shared → Prop), v ∈ its → LCg.NsObj oC m₂ → m₂ x = some v → Fr h₀ L h m → News h₀ L h ((I, oI) :: (C, oC) :: (D, LCg.lst ys) :: news) → LCg.Off3 I C D news → ((@Ne Nat I C) ∧ (@Ne Nat I D) ∧ (@Ne Nat C D)) →
      wpAny (model prog w) A (isTrue ct (compEnvC scope cl C env) (eval ct (compEnvC scope cl C env))) (fun ok s' => Halt (ok = p v ∧ ∃ h' tk', s' = { s with heap := h', toks := tk' } ∧ Fr h₀ L h' m ∧ News h₀ L h' ((I, oI) :: (C, oC) :: (D, LCg.lst ys) :: news))) E' { s with heap := h, toks := tk })
    (done : Fin (its.filter p) news) : LCt.CompRestT prog w A h₀ L m env ct (.Name x px) x scope cl s S (fun i v => its[i]? = some v) Fin its.length 0 [] news := by
  have go : ∀ k i ys, i + k = its.length → ys = (its.take i).filter p → LCt.CompRestT prog w A h₀ L m env ct (.Name x px) x scope cl s S (fun i v => its[i]? = some v) Fin k i ys news := by
    intro k
    induction k with
    | zero => intro i ys e hy; have e2 : i = its.length := by omega
              subst hy; rw [e2, List.take_length]; exact LCt.CompRestT.zero done
    | succ k ih =>
      intro i ys e hy
      refine LCt.CompRestT.succ fun v I oI C oC D m₂ h tk E' a b c d f g1 g2 => ?_
      have hv : v ∈ its := List.mem_of_getElem? a
      have ht : its.take (i + 1) = its.take i ++ [v] := by rw [List.take_add_one, a]; rfl
      refine wpAny_mono (turn v I oI C oC D ys m₂ h tk E' hv b c d f g1 g2) (fun ok s' hs => ?_) fun _ _ x => x
      obtain ⟨rfl, h', tk', rfl, F', N'⟩ := hs.out
      split
      · rename_i hp
        refine wpAny_Name (wpAny_loadName_local (by show (relabel scope env).kind = _; exact hkind) (lookup_relabel_local hx) (b.ns (N' (C, oC) (.tail _ (.head _))).1) c ?_) hd
        refine ⟨h', tk', news, rfl, F', N', g1, hS, ih (i + 1) _ (by omega) ?_⟩
        rw [hy, ht, List.filter_append, List.filter_cons, hp]; rfl
      · rename_i hp
        refine ⟨h', tk', news, rfl, F', N', g1, hS, ih (i + 1) _ (by omega) ?_⟩
        rw [hy, ht, List.filter_append, List.filter_cons, if_neg hp]; simp
  exact go _ 0 [] (by omega) (by simp)
end
theorem comp_filterA {prog : Program} {w : World} {A : Around} {s : Shared} {h₀ : Heap} {L : Addr} {m : Str → Option Value} {env : Env} {ct : Expr} {x : Str} {px : Pos} {scope : Scope} {cl : List (Str × Addr)} {S : List (Addr × Obj) → Prop} {its : Array Value} {Fin : List Value → List (Addr × Obj) → Prop} {news : List (Addr × Obj)}
    (p : Value → Bool) (hS : S news)
    (hd : (x == ("__debug__" : Str)) = false) (hkind : scope.kind = .function) (hx : scope.names.lookup x = some .local)
    (turn : ∀ v I oI C oC D ys m₂ h tk (E' : Value → Shared → Prop), v ∈ its.toList → LCg.NsObj oC m₂ → m₂ x = some v → Fr h₀ L h m → News h₀ L h ((I, oI) :: (C, oC) :: (D, LCg.lst ys) :: news) → LCg.Off3 I C D news → ((@Ne Nat I C) ∧ (@Ne Nat I D) ∧ (@Ne Nat C D)) →
      wpAny (model prog w) A (isTrue ct (compEnvC scope cl C env) (eval ct (compEnvC scope cl C env))) (fun ok s' => Halt (ok = p v ∧ ∃ h' tk', s' = { s with heap := h', toks := tk' } ∧ Fr h₀ L h' m ∧ News h₀ L h' ((I, oI) :: (C, oC) :: (D, LCg.lst ys) :: news))) E' { s with heap := h, toks := tk })
    (done : Fin (its.toList.filter p) news) : LCt.CompRestT prog w A h₀ L m env ct (.Name x px) x scope cl s S (fun i v => its[i]? = some v) Fin its.size 0 [] news := by
  have e : (fun (i : Nat) (v : Value) => its[i]? = some v) = fun i v => its.toList[i]? = some v := by funext i v; rw [Array.getElem?_toList]
  rw [e, ← Array.length_toList]
  exact comp_filter p hS hd hkind hx turn done
theorem strs_append : ∀ {vs ws : List Value} {ss ts : List Str}, StrsAre vs ss → StrsAre ws ts → StrsAre (vs ++ ws) (ss ++ ts)
  | _, _, _, _, .nil, h => h
  | _, _, _, _, .cons y t r, h => .cons y t (strs_append r h)
section
variable {prog : Program} {w : World} {A : Around} {E : Value → Shared → Prop} {s : Shared} {h₀ : Heap} {L : Addr} {m : Str → Option Value} {news : List (Addr × Obj)}
theorem ne_nil {l b : Addr} {items : Array Value} {Q : Value → Shared → Prop} (hl : s.heap.IsList l items) (hb : s.heap.IsList b #[]) (hu : A.units < cLine) (h1 : items.size ≠ 0 → Q (.bool true) s) (h0 : items.size = 0 → Q (.bool false) s) :
    wpAny (model prog w) A (compareOp .NotEq (.ref l) (.ref b)) Q E s := by
  by_cases hz : items.size = 0
  · have r : SeqAt.RcNeAt A s (.ref l) (.ref b) false := by
      have := SeqAt.RcNeAt.lists (e := fun _ => true) hl hb (by simpa using hz) hu fun j h1 _ => absurd h1 (by omega)
      simpa [hz] using this
    exact r prog w E Q (h0 hz)
  · exact (SeqAt.RcNeAt.lists_lengths hl hb (by simpa using hz) hu : SeqAt.RcNeAt A s (.ref l) (.ref b) true) prog w E Q (h1 hz)
theorem news_below (N : News h₀ L s.heap news) : ∀ p ∈ news, p.1 < s.heap.objs.size := fun p hp => Heap.lt_size (N p hp).1
theorem add_strs {l b : Addr} {i1 i2 : Array Value} {n1 n2 : Nat} {ss ts : List Str} {Q : Value → Shared → Prop} (F : Fr h₀ L s.heap m) (N : News h₀ L s.heap news)
    (ml : (l, ({ cls := .type "list", data := .seq i1 n1 } : Obj)) ∈ news) (mb : (b, ({ cls := .type "list", data := .seq i2 n2 } : Obj)) ∈ news) (hi : StrsAre i1.toList ss) (hj : StrsAre i2.toList ts) (hsz : ss.length + ts.length ≤ sizeLine)
    (h : ∀ D zs h', Fr h₀ L h' m → News h₀ L h' ((D, { cls := .type "list", data := .seq zs 0 }) :: news) → (∀ p ∈ news, p.1 < D) → StrsAre zs.toList (ss ++ ts) → Q (.ref D) { s with heap := h' }) :
    wpAny (model prog w) A (binaryOp .Add (.ref l) (.ref b)) Q E s :=
  add_lists (vs := i1.toList) (ws := i2.toList) F N (News.isList N ml) (News.isList N mb) (fun h' F' N' => h _ (i1.toList ++ i2.toList).toArray h' F' N' (news_below N) (by simpa using strs_append hi hj)) (by rw [hi.length, hj.length]; exact hsz)
theorem mul_strs2 {l : Addr} {i1 : Array Value} {n1 : Nat} {u : Tok} {ss : List Str} {Q : Value → Shared → Prop} (F : Fr h₀ L s.heap m) (N : News h₀ L s.heap news)
    (ml : (l, ({ cls := .type "list", data := .seq i1 n1 } : Obj)) ∈ news) (hi : StrsAre i1.toList ss) (hsz : ss.length ≤ 100)
    (h : ∀ D zs h', Fr h₀ L h' m → News h₀ L h' ((D, { cls := .type "list", data := .seq zs 0 }) :: news) → (∀ p ∈ news, p.1 < D) → StrsAre zs.toList (ss ++ ss) → Q (.ref D) { s with heap := h' }) :
    wpAny (model prog w) A (binaryOp .Mult (.ref l) (.int 2 u)) Q E s :=
  mul_list F N (N.get ml) (by decide) (by decide) (by have := hi.length; simp at this; rw [this]; show ss.length * 2 ≤ _; omega) fun h' F' N' => by
    rw [listMul_foldl_if] at N'
    exact h _ _ h' F' N' (news_below N) (by simpa using strs_append hi (strs_append hi .nil))
theorem strs_mem {vs : List Value} {ss : List Str} (h : StrsAre vs ss) : ∀ {v : Value}, v ∈ vs → ∃ nm t, v = .str nm t ∧ nm ∈ ss := by
  induction h with
  | nil => intro v h; nomatch h
  | cons y t _ ih =>
    intro v hv
    rcases List.mem_cons.mp hv with rfl | hv
    · exact ⟨y, t, rfl, .head _⟩
    · obtain ⟨nm, t', e, hm⟩ := ih hv; exact ⟨nm, t', e, .tail _ hm⟩
def isS (p : Str → Bool) : Value → Bool
  | .str s _ => p s
  | _ => false
theorem strs_filter (p : Str → Bool) {vs : List Value} {ss : List Str} (h : StrsAre vs ss) : StrsAre (vs.filter (isS p)) (ss.filter p) := by
  induction h with
  | nil => exact .nil
  | cons y t _ ih =>
    rw [List.filter_cons, List.filter_cons]
    show StrsAre (if p y = true then _ else _) _
    split
    · exact .cons y t ih
    · exact ih
end
end Mine
namespace Mine
open PySem PySem.W PySem.Calls PyProof.Rows
/-- a dict of the ledger with str keys ks, whose values are as V says -/
structure DictV (prog : Program) (w : World) (d : Addr) (o : Obj) (ks : List Str) (V : Str → Value → Prop) : Prop where
  mod : (d == sysModules) = false
  ex : ∃ kvs, o.IsDictOf (PySem.strKind prog w) kvs ∧ kvs.map (·.1) = ks ∧ ∀ k v, valueAt kvs k = some v → V k v
def putKey (ks : List Str) (k : Str) : List Str := if k ∈ ks then ks else ks ++ [k]
theorem mem_putKey {ks : List Str} {k x : Str} : x ∈ putKey ks k ↔ x ∈ ks ∨ x = k := by
  unfold putKey; split
  · rename_i h; exact ⟨.inl, fun q => q.elim id fun e => e ▸ h⟩
  · simp
theorem valueAt_keys (kvs : List (Str × Value)) (k : Str) : (valueAt kvs k).isSome = true ↔ k ∈ kvs.map (·.1) := by
  rw [valueAt_isSome_eq_any, List.any_eq_true]
  constructor
  · rintro ⟨p, hp, e⟩; exact List.mem_map.mpr ⟨p, hp, by simpa using e⟩
  · intro h; obtain ⟨p, hp, e⟩ := List.mem_map.mp h; exact ⟨p, hp, by simpa using e⟩
theorem valueAt_none (kvs : List (Str × Value)) (k : Str) : valueAt kvs k = none ↔ k ∉ kvs.map (·.1) := by
  rw [← valueAt_keys]; cases valueAt kvs k <;> simp
theorem keys_stored (kvs : List (Str × Value)) (k : Str) (v : Value) : (stored kvs k v).map (·.1) = putKey (kvs.map (·.1)) k := by
  have e := valueAt_isSome_eq_any kvs k
  unfold stored putKey
  by_cases h : kvs.any (fun kv => kv.1 = k) = true
  · rw [if_pos h, if_pos ((valueAt_keys kvs k).mp (by rw [e]; exact h)), List.map_map]
    refine List.map_congr_left fun p _ => ?_
    show (if p.1 = k then (p.1, v) else p).1 = p.1
    split <;> rfl
  · rw [if_neg h, if_neg (fun q => h (by rw [← e]; exact (valueAt_keys kvs k).mpr q))]; simp
theorem valueAt_stored (kvs : List (Str × Value)) (k x : Str) (v : Value) : valueAt (stored kvs k v) x = if x = k then some v else valueAt kvs x := by
  have e := valueAt_isSome_eq_any kvs k
  unfold stored
  by_cases h : kvs.any (fun kv => kv.1 = k) = true
  · rw [if_pos h]
    clear e
    induction kvs with
    | nil => simp at h
    | cons p r ih =>
      by_cases hp : p.1 = k
      · by_cases hx : x = k
        · subst hx; simp [valueAt, hp]
        · have hne : ¬ p.1 = x := fun q => hx (q.symm.trans hp)
          have hne' : ¬ k = x := fun q => hx q.symm
          simp only [valueAt, List.map_cons, List.find?_cons, hp, if_pos, hne', if_neg hx, decide_false]
          by_cases hr : r.any (fun kv => kv.1 = k) = true
          · have := ih hr
            rw [if_neg hx] at this
            exact this
          · have hr' : ∀ q ∈ r, q.1 ≠ k := fun q hq e => hr (List.any_eq_true.mpr ⟨q, hq, by simpa using e⟩)
            have : r.map (fun kv => if kv.1 = k then (kv.1, v) else kv) = r := by
              conv => rhs; rw [← List.map_id r]
              exact List.map_congr_left fun q hq => by rw [if_neg (hr' q hq)]; rfl
            rw [this]
      · have hr : r.any (fun kv => kv.1 = k) = true := by simpa [hp] using h
        have := ih hr
        simp only [valueAt, List.map_cons, if_neg hp, List.find?_cons] at this ⊢
        by_cases hx : p.1 = x
        · have : ¬ x = k := fun q => hp (hx.trans q)
          simp [hx, this]
        · simp only [hx, decide_false]; exact this
  · rw [if_neg h]
    have hk : valueAt kvs k = none := by
      cases q : valueAt kvs k with
      | none => rfl
      | some _ => rw [q] at e; exact absurd e.symm h
    by_cases hx : x = k
    · subst hx
      have : kvs.find? (fun kv => decide (kv.1 = x)) = none := by simpa [valueAt] using hk
      simp [valueAt, List.find?_append, this]
    · have hx' : ¬ k = x := fun q => hx q.symm
      simp [valueAt, List.find?_append, hx, hx']
theorem keys_without (kvs : List (Str × Value)) (k : Str) : (without kvs k).map (·.1) = (kvs.map (·.1)).filter (· ≠ k) := by
  unfold without
  rw [List.filter_map]
  rfl
theorem valueAt_without (kvs : List (Str × Value)) (k x : Str) : valueAt (without kvs k) x = if x = k then none else valueAt kvs x := by
  by_cases hx : x = k
  · subst hx
    rw [if_pos rfl, valueAt_none, keys_without]
    simp
  · rw [if_neg hx]
    unfold without valueAt
    rw [List.find?_filter]
    congr 2
    funext p
    by_cases hp : p.1 = x <;> simp [hp, hx]
section
variable {prog : Program} {w : World} {A : Around} {E : Value → Shared → Prop} {s : Shared} {h₀ : Heap} {L d : Addr} {m : Str → Option Value} {news : List (Addr × Obj)} {g : Obj → List (Addr × Obj)} {o : Obj} {ks : List Str} {V : Str → Value → Prop} {k : Str} {t : Tok} {v dflt : Value}
theorem DictV.weak {V' : Str → Value → Prop} (D : DictV prog w d o ks V) (h : ∀ k v, k ∈ ks → V k v → V' k v) : DictV prog w d o ks V' :=
  ⟨D.mod, let ⟨kvs, a, b, c⟩ := D.ex; ⟨kvs, a, b, fun k v e => h k v (b ▸ (valueAt_keys kvs k).mp (by rw [e]; rfl)) (c k v e)⟩⟩
theorem DictV.nodup (D : DictV prog w d o ks V) : ks.Nodup := by
  obtain ⟨kvs, ⟨es, ep, _, _, _, _, hn⟩, e, _⟩ := D.ex
  exact e ▸ hn
theorem DictV.there (D : DictV prog w d o ks V) (hk : k ∈ ks) : ∃ kvs v, o.IsDictOf (PySem.strKind prog w) kvs ∧ valueAt kvs k = some v ∧ V k v := by
  obtain ⟨kvs, a, b, c⟩ := D.ex
  have : (valueAt kvs k).isSome = true := (valueAt_keys kvs k).mpr (b ▸ hk)
  obtain ⟨v, e⟩ := Option.isSome_iff_exists.mp this
  exact ⟨kvs, v, a, e, c k v e⟩
theorem dv_method {name : Str} {id : String} {pl : Sem Bool} {Q : Value × List Value → Shared → Prop} (slot : Slot "dict" name id) (ty : typeOf (.builtin id) = pure (.type "method_descriptor")) (N : News h₀ L s.heap news) (hp : (d, o) ∈ news) (D : DictV prog w d o ks V) (h : Q (.builtin id, [.ref d]) s) :
    wpAny (model prog w) A (getMethod (.ref d) name pl) Q E s := by
  obtain ⟨kvs, a, _, _⟩ := D.ex
  exact kob_method slot ty N hp a h
theorem dv_get {Q : Value → Shared → Prop} (N : News h₀ L s.heap news) (hp : (d, o) ∈ news) (D : DictV prog w d o ks V) (h1 : k ∈ ks → ∀ v, V k v → Q v { s with toks := s.toks + 1 }) (h0 : k ∉ ks → Q dflt { s with toks := s.toks + 1 }) :
    wpAny (model prog w) A (call (.builtin "dict.get") [.ref d, .str k t, dflt]) Q E s := by
  obtain ⟨kvs, a, b, c⟩ := D.ex
  refine kdg_get2 N hp a D.mod (strKind_is _ _ _ _) _ rfl ?_
  cases e : valueAt kvs k with
  | none => exact h0 (b ▸ (valueAt_none kvs k).mp e)
  | some v => exact h1 (b ▸ (valueAt_keys kvs k).mp (by rw [e]; rfl)) v (c k v e)
theorem dv_in {Q : Value → Shared → Prop} (N : News h₀ L s.heap news) (hp : (d, o) ∈ news) (D : DictV prog w d o ks V) (h : Q (.bool (decide (k ∈ ks))) { s with toks := s.toks + 1 }) :
    wpAny (model prog w) A (compareOp .In (.str k t) (.ref d)) Q E s := by
  obtain ⟨kvs, a, b, c⟩ := D.ex
  refine kda_in N hp a D.mod (strKind_is _ _ _ _) _ ?_ h
  rw [Bool.eq_iff_iff, valueAt_keys, b]; simp
theorem dv_notin {Q : Value → Shared → Prop} (N : News h₀ L s.heap news) (hp : (d, o) ∈ news) (D : DictV prog w d o ks V) (h : Q (.bool (decide (k ∉ ks))) { s with toks := s.toks + 1 }) :
    wpAny (model prog w) A (compareOp .NotIn (.str k t) (.ref d)) Q E s := by
  obtain ⟨kvs, a, b, c⟩ := D.ex
  refine kdg_notin N hp a D.mod (strKind_is _ _ _ _) (decide (k ∈ ks)) ?_ (by rw [show (!decide (k ∈ ks)) = decide (k ∉ ks) by simp]; exact h)
  rw [Bool.eq_iff_iff, valueAt_keys, b]; simp
theorem dv_item {value slice : PySem.Expr} {Q : Value → Shared → Prop} (N : News h₀ L s.heap news) (hp : (d, o) ∈ news) (D : DictV prog w d o ks V) (hk : k ∈ ks) (h : ∀ v, V k v → Q v { s with toks := s.toks + 1 })
    (hs : subscripted slice false (.ref d) (.str k t) = operate [.ref d, .str k t] (getItem (.ref d) (.str k t)) := by with_unfolding_all rfl) :
    wpAny (model prog w) A (subscriptTail value slice (.ref d) (.str k t)) Q E s := by
  obtain ⟨kvs, v, a, e, hv⟩ := D.there hk
  refine kba_turn (value' := PySem.Expr.Name (PySem.Str.ofString "_") ⟨0, 0, 0, 0⟩) (fun _ => rfl) ?_
  exact kda_item N hp a (strKind_is _ _ _ _) e (h v hv) hs
theorem dv_set {Q : Unit → Shared → Prop} (F : Fr h₀ L s.heap m) (N : News h₀ L s.heap news) (U : UpdF d o news g) (D : DictV prog w d o ks V) (hsz : ks.length ≤ sizeLine)
    (h : ∀ h' o', Fr h₀ L h' m → News h₀ L h' (g o') → DictV prog w d o' (putKey ks k) (fun x y => if x = k then y = v else V x y) → Q () { s with heap := h', toks := s.toks + 1 }) : wpAny (model prog w) A (setItem (.ref d) (.str k t) v) Q E s := by
  obtain ⟨kvs, a, b, c⟩ := D.ex
  refine kda_set F N U a (strKind_is _ _ _ _) (by have := congrArg List.length b; simp at this; omega) fun h' o' F' N' a' => h h' o' F' N' ⟨D.mod, _, a', by rw [keys_stored, b], fun x y e => ?_⟩
  rw [valueAt_stored] at e
  by_cases hx : x = k
  · rw [if_pos hx] at e ⊢; cases e; rfl
  · rw [if_neg hx] at e ⊢; exact c x y e
theorem dv_pop {Q : Value → Shared → Prop} (F : Fr h₀ L s.heap m) (N : News h₀ L s.heap news) (U : UpdF d o news g) (hp : (d, o) ∈ news) (D : DictV prog w d o ks V) (hsz : ks.length ≤ sizeLine)
    (h1 : k ∈ ks → ∀ v h' o', V k v → Fr h₀ L h' m → News h₀ L h' (g o') → DictV prog w d o' (ks.filter (· ≠ k)) (fun x y => x ≠ k ∧ V x y) → Q v { s with heap := h', toks := s.toks + 1 })
    (h0 : k ∉ ks → Q dflt { s with toks := s.toks + 1 }) :
    wpAny (model prog w) A (call (.builtin "dict.pop") [.ref d, .str k t, dflt]) Q E s := by
  obtain ⟨kvs, a, b, c⟩ := D.ex
  cases e : valueAt kvs k with
  | none =>
    have hD := kda_dict N hp a
    exact call_meetsIn PySem.F.slot_dict_pop hD.typeIs PySem.F.entry_dict_pop (PySem.F.args_dict_pop_3 _ _ _) (meets_dict_pop_default (PySem.strKind prog w) d (strKind_is prog w k t) D.mod rfl dflt) ⟨kvs, hD, e, h0 (b ▸ (valueAt_none kvs k).mp e)⟩
  | some v =>
    have hk : k ∈ ks := b ▸ (valueAt_keys kvs k).mp (by rw [e]; rfl)
    refine kob_pop (more := [dflt]) F N U a (strKind_is _ _ _ _) (.inr ⟨_, rfl⟩) rfl (PySem.F.args_dict_pop_3 _ _ _) e (by have := congrArg List.length b; simp at this; omega) fun h' o' F' N' a' => h1 hk v h' o' (c k v e) F' N' ⟨D.mod, _, a', by rw [keys_without, b], fun x y e' => ?_⟩
    rw [valueAt_without] at e'
    by_cases hx : x = k
    · rw [if_pos hx] at e'; cases e'
    · rw [if_neg hx] at e'; exact ⟨hx, c x y e'⟩
theorem dv_list {Q : Value → Shared → Prop} (hh : A.handled = none) (F : Fr h₀ L s.heap m) (N : News h₀ L s.heap news) (hp : (d, o) ∈ news) (D : DictV prog w d o ks V) (hn : ks.length ≤ 16777216)
    (h : ∀ B vs c h' tk, Fr h₀ L h' m → News h₀ L h' ((B, listOf (List.toArray vs) c) :: news) → (∀ q ∈ news, q.1 < B) → StrsAre vs ks → Q (.ref B) { s with heap := h', toks := tk }) :
    wpAny (model prog w) A (call (.type "list") [.ref d]) Q E s := by
  obtain ⟨kvs, a, b, c⟩ := D.ex
  have hl : kvs.length = ks.length := by simpa using congrArg List.length b
  obtain ⟨ep, hat⟩ := (kda_dict N hp a).dictAt
  refine kdl_N (kdl_dict (knd := PySem.strKind prog w) (kvs := kvs) (ep := ep) D.mod) hh F N hat (kdl_size (by omega)) fun B c h' tk vs F' N' l1 hl' hv => h B vs c h' tk F' N' l1 ?_
  have e : ks = (List.range vs.length).map fun i => (kvs.map (·.1)).getD i Str.empty := by
    apply List.ext_getElem
    · simp [hl', hl]
    · intro i h1 h2
      simp [← b]
      rw [List.getElem?_eq_getElem (by omega)]
      rfl
  rw [e]
  refine strs_of_map rfl fun i y hy => ?_
  obtain ⟨k, x, hx, hk⟩ := hv i y hy
  obtain ⟨t, rfl⟩ := Value.isStrOf_shape hk
  exact ⟨t, by simp [hx]⟩
end
end Mine
namespace Mine
open PySem PySem.W PySem.Calls PyProof.Rows
section
variable {prog : Program} {w : World} {A : Around} {E : Value → Shared → Prop} {s : Shared} {h₀ : Heap} {L d : Addr} {m : Str → Option Value} {news : List (Addr × Obj)} {o : Obj} {ks : List Str} {V : Str → Value → Prop}
theorem sort_strs {D : Addr} {vs : List Value} {ss : List Str} {rest : List (Addr × Obj)} {Q : Value → Shared → Prop} (F : Fr h₀ L s.heap m) (N : News h₀ L s.heap ((D, listOf vs.toArray 0) :: rest)) (hne : ∀ p ∈ rest, p.1 ≠ D) (hS : StrsAre vs ss) (h64 : vs.length < 64)
    (h : ∀ h' vs' ss' c, Fr h₀ L h' m → News h₀ L h' ((D, listOf (List.toArray vs') c) :: rest) → StrsAre vs' ss' → ss'.Perm ss → Q .none { s with heap := h' }) :
    wpAny (model prog w) A (call (.builtin "list.sort") [.ref D]) Q E s := by
  have z := N _ (.head _)
  have ho : s.heap.get? D = some (seqObj "list" vs.toArray 0) := z.1
  refine wpAny_call_entry PyProof.Rows.slot_list_sort ⟨_, z.1, rfl⟩ PyProof.Rows.entry_list_sort (list_sort_treeK strKind_oneLt (n := 0) (vs := vs) ho hS.keysOf (fun v₁ v₂ rest e => keyKind_strs (by rw [← e]; exact hS)) h64 fun st' hp hs => ⟨.none, rfl, ?_⟩) (PyProof.Rows.args_list_sort _)
  obtain ⟨ss', h1, h2, _⟩ := sorted_out_str hS hp hs
  obtain ⟨c, hc⟩ := sortedHeap_at (out := (arrOf st').map (·.2)) ho
  have old : ∀ b, b ≠ D → ∀ o, s.heap.get? b = some o → (sortedHeap s.heap D vs ((arrOf st').map (·.2))).get? b = some o := fun b hb o e => by
    rw [sortedHeap_old hb (Heap.lt_size e)]; exact e
  refine h _ _ ss' c ⟨F.ns.at' fun o e => old L (Ne.symm z.2.1) o e, fun b o e => old b (fun q => by rw [q, z.2.2] at e; cases e) o (F.keep b o e), F.above⟩ (fun p hp => ?_) h1 h2
  rcases List.mem_cons.mp hp with rfl | hp
  · exact ⟨hc, z.2⟩
  · have y := N p (.tail _ hp)
    exact ⟨old _ (hne p hp) _ y.1, y.2⟩
theorem dv_sorted {Q : Value → Shared → Prop} (hh : A.handled = none) (F : Fr h₀ L s.heap m) (N : News h₀ L s.heap news) (hp : (d, o) ∈ news) (D : DictV prog w d o ks V) (hn : ks.length < 64)
    (h : ∀ B vs c h' tk ss, Fr h₀ L h' m → News h₀ L h' ((B, listOf (List.toArray vs) c) :: news) → (∀ q ∈ news, q.1 < B) → StrsAre vs ss → ss.Perm ks → Q (.ref B) { s with heap := h', toks := tk }) :
    wpAny (model prog w) A (call (.builtin "sorted") [.ref d]) Q E s := by
  obtain ⟨kvs, a, b, c⟩ := D.ex
  have hl : kvs.length = ks.length := by simpa using congrArg List.length b
  obtain ⟨ep, hat⟩ := (kda_dict N hp a).dictAt
  refine kdu_sorted (kdl_dict (knd := PySem.strKind prog w) (kvs := kvs) (ep := ep) D.mod) hh F N hat (kdl_size (by omega)) fun B h' tk vs F' N' l1 hl' hv => ?_
  have hS : StrsAre vs ks := by
    have e : ks = (List.range vs.length).map fun i => (kvs.map (·.1)).getD i Str.empty := by
      apply List.ext_getElem
      · simp [hl', hl]
      · intro i h1 h2
        simp [← b]
        rw [List.getElem?_eq_getElem (by omega)]
        rfl
    rw [e]
    refine strs_of_map rfl fun i y hy => ?_
    obtain ⟨k, x, hx, hk⟩ := hv i y hy
    obtain ⟨t, rfl⟩ := Value.isStrOf_shape hk
    exact ⟨t, by simp [hx]⟩
  exact sort_strs F' N' (fun p hp => Nat.ne_of_lt (l1 p hp)) hS (by omega) fun h'' vs' ss' c F'' N'' hS' hP => h B vs' c h'' tk ss' F'' N'' l1 hS' hP
/-- the pairs of a dict, as tuples of the ledger -/
inductive TupsAre (V : Str → Value → Prop) (tups : List (Addr × Obj)) : List Value → List Str → Prop
  | nil : TupsAre V tups [] []
  | cons {a : Addr} {k : Str} {t : Tok} {v : Value} {vs : List Value} {ks : List Str} (hm : (a, ({ cls := .type "tuple", data := .seq #[.str k t, v] } : Obj)) ∈ tups) (hV : V k v) (r : TupsAre V tups vs ks) : TupsAre V tups (.ref a :: vs) (k :: ks)
theorem dv_items_view {Q : Value → Shared → Prop} (F : Fr h₀ L s.heap m) (N : News h₀ L s.heap news) (hp : (d, o) ∈ news) (D : DictV prog w d o ks V)
    (h : ∀ (B : Addr) h', Fr h₀ L h' m → News h₀ L h' ((B, { cls := .type "dict_items", data := .fields #[.ref d] }) :: news) → (∀ q ∈ news, q.1 < B) → Q (.ref B) { s with heap := h' }) :
    wpAny (model prog w) A (call (.builtin "dict.items") [.ref d]) Q E s := by
  obtain ⟨kvs, a, b, c⟩ := D.ex
  exact kdx_view F N hp a D.mod h
theorem dv_items_list {v : Addr} {Q : Value → Shared → Prop} (hh : A.handled = none) (F : Fr h₀ L s.heap m) (N : News h₀ L s.heap news) (hvw : (v, ({ cls := .type "dict_items", data := .fields #[.ref d] } : Obj)) ∈ news) (hp : (d, o) ∈ news) (D : DictV prog w d o ks V) (hn : ks.length ≤ 16777216)
    (h : ∀ B vs tups c h' tk, Fr h₀ L h' m → News h₀ L h' ((B, listOf (List.toArray vs) c) :: (tups ++ news)) → (∀ q ∈ news, q.1 < B) → (∀ q ∈ tups, @LT.lt Nat _ B q.1) → TupsAre V tups vs ks → Q (.ref B) { s with heap := h', toks := tk }) :
    wpAny (model prog w) A (call (.type "list") [.ref v]) Q E s := by
  obtain ⟨kvs, a, b, c⟩ := D.ex
  have hl : kvs.length = ks.length := by simpa using congrArg List.length b
  obtain ⟨ep, hat⟩ := KdkAt.of a
  have hnd : (kvs.map (·.1)).Nodup := b ▸ D.nodup
  refine kdx_call (knd := PySem.strKind prog w) (kvs := kvs) (ep := ep) hh ⟨_, (N _ hvw).1, rfl, rfl⟩ (hat.dictAt (N _ hp).1) (kdl_size (by omega)) fun h' tk acc c' as hk hS hla hG hacc => ?_
  have ea : acc = (as.map Value.ref).toArray := by rw [← hacc, Array.toArray_toList]
  subst ea
  let tups : List (Addr × Obj) := as.filterMap fun x => (h'.get? x).map fun ob => (x, ob)
  have hmem : ∀ x ob, x ∈ as → h'.get? x = some ob → (x, ob) ∈ tups := fun x ob hx e => List.mem_filterMap.mpr ⟨x, hx, by rw [e]; rfl⟩
  have hrev : ∀ q ∈ tups, q.1 ∈ as ∧ h'.get? q.1 = some q.2 := fun q hq => by
    obtain ⟨x, hx, e⟩ := List.mem_filterMap.mp hq
    cases e' : h'.get? x with
    | none => rw [e'] at e; cases e
    | some ob => rw [e'] at e; cases e; exact ⟨hx, e'⟩
  refine h s.heap.objs.size (as.map Value.ref) tups c' h' tk (F.keeps hk) (fun q hq => ?_) (fun q hq => Heap.lt_size (N q hq).1) (fun q hq => hG.above _ (hrev q hq).1) ?_
  · rcases List.mem_cons.mp hq with rfl | hq
    · exact ⟨hS, kdx_fresh F (Nat.le_refl _)⟩
    · rcases List.mem_append.mp hq with hq | hq
      · have := hrev q hq
        exact ⟨this.2, kdx_fresh F (Nat.le_of_lt (hG.above _ this.1))⟩
      · exact ⟨hk _ _ (N q hq).1, (N q hq).2⟩
  · have go : ∀ (n : Nat), ∀ (as' : List Addr) (kv' : List (Str × Value)) (j : Nat), as'.length = n → as.drop j = as' → kvs.drop j = kv' → TupsAre V tups (as'.map Value.ref) (kv'.map (·.1)) := by
      intro n
      induction n with
      | zero =>
        intro as' kv' j e1 e2 e3
        have : as' = [] := List.eq_nil_of_length_eq_zero e1
        subst this
        have h2 := congrArg List.length e2
        have h3 := congrArg List.length e3
        simp at h2 h3
        have : kv' = [] := List.eq_nil_of_length_eq_zero (by omega)
        subst this
        exact .nil
      | succ n ih =>
        intro as' kv' j e1 e2 e3
        obtain ⟨x, as', rfl⟩ : ∃ x r, as' = x :: r := by cases as' with | nil => simp at e1 | cons x r => exact ⟨x, r, rfl⟩
        have hj : j < as.length := by have := congrArg List.length e2; simp at this; omega
        have hj' : j < kvs.length := by omega
        rw [List.drop_eq_getElem_cons hj] at e2
        rw [List.drop_eq_getElem_cons hj'] at e3
        cases e2
        subst e3
        obtain ⟨key, k, y, f1, f2, f3⟩ := hG.pairs j as[j] (List.getElem?_eq_getElem hj)
        rw [List.getElem?_eq_getElem hj'] at f1
        have f1 := Option.some.inj f1
        obtain ⟨t, rfl⟩ := Value.isStrOf_shape f2
        rw [List.map_cons, List.map_cons, f1]
        refine .cons (hmem _ _ (List.getElem_mem hj) f3) (c k y (valueAt_of_get hnd (by rw [List.getElem?_eq_getElem hj', f1]))) (ih _ _ (j + 1) (by simp at e1 ⊢; omega) rfl rfl)
    have := go as.length as kvs 0 rfl rfl rfl
    rwa [b] at this
end
end Mine
namespace Mine
open PySem PySem.W PySem.Calls PyProof.Rows
theorem entry_dict_update_loop : entryFor table "dict.update.loop" = some Builtin.«dict.update.loop» := entryFor_of_tree (by kernel_rfl)
theorem plain_dict_update_loop : plainId "dict.update.loop" = true := by decide +kernel
theorem list_no_keys : typeLookup (.type "list") (Str.ofString "keys") = pure none := by rw [typeLookup_type, builtinLookup_eq_fast]; kernel_rfl
theorem keys_none {prog : Program} {w : World} {A : Around} {E : Value → Shared → Prop} {s : Shared} {a : Addr} {o : Obj} {xs : Array Value} {k : Nat} {Q : Option Value → Shared → Prop}
    (hx : s.heap.get? a = some o) (hc : o.cls = .type "list") (hdat : o.data = .seq xs k) (hd : o.dict = none) (hA : A.handled = none)
    (h : ∀ h' tk, (∀ b ob, s.heap.get? b = some ob → h'.get? b = some ob) → Q none { s with heap := h', toks := tk }) :
    wpAny (model prog w) A (getAttr? (.ref a) "keys") Q E s := by
  obtain ⟨c, dct, dat, sl⟩ := o
  simp only at hc hdat hd
  subst hc hdat hd
  obtain ⟨hp, g, d, tk, os⟩ := s
  have hT : ∀ tk', (⟨hp, g, d, tk', os⟩ : Shared).TypeIs (.ref a) "list" := fun _ => ⟨_, hx, rfl⟩
  have f1 := sub_AttributeError
  have f3 := F.slot_list_getattribute.lookup
  have f4 := F.slot_list_getattribute.bind (.ref a)
  have f5 := am_list_getattr_none
  unfold getAttr? getAttrBy? getAttrBy
  repeat (any_goals (first | assumption | exact hT _ | ((with_reducible show wpAny _ _ (call (Value.builtin "list.__getattribute__") _ _) _ _ _); refine call_meets F.slot_list_getattribute (hT _) am_entry_list_getattribute (F.args_list_getattribute_2 _ _) (meets_getattribute_miss_list a xs k sl (Str.ofString "keys") _ list_no_keys (by decide +kernel) (by decide)) ⟨hx, hA, fun h' tk' e hx' => ?_⟩) | wp_step))
  obtain ⟨t', u', he⟩ := hx'.there
  show wpAny _ _ (getattributeRaised _ _ _ _ _ _ _) _ _ _
  unfold getattributeRaised
  repeat (any_goals (first | assumption | wp_step))
  exact h _ _ hx'.keeps
section
variable {prog : Program} {w : World} {A : Around} {R : Result → Shared → Prop} {I S : Addr} {fp wr : List Addr} {n : Nat} {P : Nat → Value → Prop} {St : Nat → Heap → Prop} {kvs : List (Str × Value)}
theorem merged_take {kvs : List (Str × Value)} (hn : (kvs.map (·.1)).Nodup) (i : Nat) : merged [] (kvs.take i) = kvs.take i :=
  merged_nil_of_nodup _ (by rw [List.map_take]; exact hn.sublist (List.take_sublist _ _))
theorem codeAny_dict_update_loop (W : Walks prog w A.in1 I fp wr n P St) (hSf : S ∉ fp) (hn : (kvs.map (·.1)).Nodup) (hl : kvs.length = n) (hsz : n ≤ sizeLine) (h0 : Heap)
    (hval : ∀ i v, P i v → ∃ a k t x, v = .ref a ∧ h0.get? a = some { cls := .type "tuple", data := .seq #[.str k t, x] } ∧ a ∉ S :: wr ∧ kvs[i]? = some (k, x)) :
    ∀ (j i : Nat) (s : Shared) (ti : Tok), n - i = j → i ≤ n → St i s.heap → (∀ b o, b ∉ S :: wr → h0.get? b = some o → s.heap.get? b = some o) →
      s.heap.DictOf (strKind prog w) S (kvs.take i) →
      (∀ h' tk, h'.DictOf (strKind prog w) S kvs → (∀ b o, b ∉ S :: wr → s.heap.get? b = some o → h'.get? b = some o) → R (.ok (.ret .none)) { s with heap := h', toks := tk }) →
      codeAny (model prog w) A (.builtin "dict.update.loop" ⟨[.ref S, .ref I, .int i ti, .none], []⟩) R s := by
  have hwf : ∀ b, b ∉ S :: wr → b ∉ wr := fun b hb hw => hb (.tail _ hw)
  have hSw : S ∉ wr := fun h => hSf (W.sub _ h)
  intro j
  induction j with
  | zero =>
    intro i s ti hk hi hst hkp hS hR
    obtain rfl : i = n := by omega
    refine codeAny_builtin entry_dict_update_loop ?_
    rw [Around.under_plainId plain_dict_update_loop _]
    show wpAny _ A.in1 (pyNext (.ref I) >>= _) _ _ s
    refine wpAny_bind (W.done s _ _ hst fun h' tk hm => ?_)
    show wpAny _ A.in1 (Builtin.Dict.addKeywords S [] >>= fun _ => ret Value.none) _ _ _
    refine wpAny_bind (wpAny_pure (wpAny_pure (hR h' tk ?_ fun b o hb e => hm b o (hwf b hb) e)))
    rw [List.take_of_length_le (by omega)] at hS
    obtain ⟨o, es, ep, ho, r⟩ := hS
    exact ⟨o, es, ep, hm S o hSw ho, r⟩
  | succ j ih =>
    intro i s ti hk hi hst hkp hS hR
    have hlt : i < n := by omega
    refine codeAny_builtin entry_dict_update_loop ?_
    rw [Around.under_plainId plain_dict_update_loop _]
    show wpAny _ A.in1 (pyNext (.ref I) >>= _) _ _ s
    refine wpAny_bind (W.item i s _ _ hlt hst fun v h' tk hP hst' hm => ?_)
    obtain ⟨a, k, t, x, rfl, ha0, haf, hkv⟩ := hval i v hP
    have ha : h'.get? a = some { cls := .type "tuple", data := .seq #[.str k t, x] } := hm a _ (hwf a haf) (hkp a _ haf ha0)
    have hS' : h'.DictOf (strKind prog w) S (kvs.take i) := by
      obtain ⟨o, es, ep, ho, r⟩ := hS
      exact ⟨o, es, ep, hm S o hSw ho, r⟩
    have hT : Shared.TypeIs { s with heap := h', toks := tk } (.ref a) "tuple" := ⟨_, ha, rfl⟩
    dsimp only
    refine wpAny_bind (wpAny_holding (wpAny_bind (wpAny_tryCatch (?_))))
    unfold Builtin.Dict.pairItems
    refine wpAny_bind (wpAny_typeOf hT ?_)
    rw [if_pos (by decide)]
    refine wpAny_bind (wpAny_seqItems ha rfl (wpAny_pure ?_))
    show wpAny _ A.in1 (holding [Value.str k t, x] (dictSet S (.str k t) x)) _ _ _
    have hst : stored (kvs.take i) k x = kvs.take (i + 1) := by
      rw [← merged_take hn (i + 1), merged_take_succ [] kvs i (k, x) hkv, merged_take hn]
    refine wpAny_holding (wpAny_dictSet_pairs (strKind_is _ _ _ _) hS' (fun h2 hS2 hsb => ?_) (by rw [List.length_take]; omega))
    rw [hst] at hS2
    show wpAny _ A.in1 (again _) _ _ _
    refine wpAny_pure ⟨plainId_quiet plain_dict_update_loop _, ?_⟩
    have := ih (i + 1) { s with heap := h2, toks := tk + 1 } 0 (by omega) hlt (W.frame _ _ _ hst' fun b hb o e => by rw [hsb.2 b (fun h : b = S => hSf (by rw [← h]; exact hb))]; exact e)
      (fun b o hb e => by rw [hsb.2 b (fun h : b = S => hb (by rw [h]; exact .head _))]; exact hm b o (hwf b hb) (hkp b o hb e)) hS2 (fun h3 tk3 hS3 hm3 => hR h3 tk3 hS3 fun b o hb e => hm3 b o hb (by
        show h2.get? b = some o
        rw [hsb.2 b (fun h : b = S => hb (by rw [h]; exact .head _))]; exact hm b o (hwf b hb) e))
    exact this
end
section
variable {prog : Program} {w : World} {A : Around} {E : Value → Shared → Prop} {s : Shared} {kvs : List (Str × Value)}
theorem call_dict_pairs {l : Addr} {o : Obj} {vs : List Value} {c : Nat} {Q : Value → Shared → Prop} (hh : A.handled = none) (hx : s.heap.get? l = some o) (hc : o.cls = .type "list") (hdat : o.data = .seq vs.toArray c) (hd : o.dict = none)
    (hl : kvs.length = vs.length) (hsz : kvs.length ≤ sizeLine) (hn : (kvs.map (·.1)).Nodup)
    (hval : ∀ (i : Nat) v, vs[i]? = some v → ∃ a k t x, v = .ref a ∧ s.heap.get? a = some { cls := .type "tuple", data := .seq #[.str k t, x] } ∧ kvs[i]? = some (k, x))
    (h : ∀ h' tk, h'.DictOf (strKind prog w) s.heap.objs.size kvs → (∀ b ob, b < s.heap.objs.size → s.heap.get? b = some ob → h'.get? b = some ob) → Q (.ref s.heap.objs.size) { s with heap := h', toks := tk }) :
    wpAny (model prog w) A (call (.type "dict") [.ref l]) Q E s := by
  refine callType_codes (Q₁ := fun obj s₁ => obj = .ref s.heap.objs.size ∧ s₁ = { s with heap := s.heap.push { cls := .type "dict", data := .dict #[] } }) F.kt_called_dict (F.kt_typeCall_dict_1 _) F.entry_dict_init (kt_code_dict_new _ ⟨rfl, rfl⟩) ?_
  rintro obj s₁ ⟨rfl, rfl⟩
  have hnew : (s.heap.push { cls := .type "dict", data := .dict #[] }).DictOf (strKind prog w) s.heap.objs.size [] := Heap.DictOf.new s.heap
  have hx' : (s.heap.push { cls := .type "dict", data := .dict #[] }).get? l = some o := Heap.get?_push_of_some _ hx
  have hls : l < s.heap.objs.size := Heap.lt_size hx
  refine ⟨hnew.typeIs, F.args_dict_init_2 _ _, ?_⟩
  unfold Builtin.«dict.__init__»
  refine wpAny_bind ?_
  unfold Builtin.Dict.selfAndRest
  refine wpAny_bind (wpAny_notOrdered_dict hnew.typeIs ?_)
  show wpAny _ _ (pure (s.heap.objs.size, [Value.ref l])) _ _ _
  refine wpAny_pure ?_
  show wpAny _ _ (Builtin.Dict.updateFrom "dict.__init__" s.heap.objs.size (.ref l) [] .none) _ _ _
  unfold Builtin.Dict.updateFrom
  refine wpAny_bind (wpAny_typeOf ⟨_, hx', hc⟩ ?_)
  rw [if_pos (by decide)]
  refine wpAny_bind (keys_none hx' hc hdat hd (by simp [hh]) fun h1 tk1 hk1 => ?_)
  rw [if_pos (show (none : Option Value).isNone = true from rfl)]
  refine wpAny_bind (wpAny_rule ?_)
  have hx1 : h1.get? l = some o := hk1 _ _ hx'
  have hl1 : h1.IsList l vs.toArray := ⟨o, hx1, hc, c, hdat⟩
  refine wpAny_bind (wpAny_pyIter_list hl1 ?_)
  have hS1 : s.heap.objs.size < h1.objs.size := by
    obtain ⟨o', _, _, ho', _⟩ := hnew
    exact Heap.lt_size (hk1 _ _ ho')
  have hlI : l ≠ h1.objs.size := Nat.ne_of_lt (Nat.lt_trans hls hS1)
  have hSf : s.heap.objs.size ∉ [h1.objs.size, l] := by
    simp only [List.mem_cons, List.not_mem_nil, or_false, not_or]
    exact ⟨Nat.ne_of_lt hS1, Nat.ne_of_gt hls⟩
  have hk2 : ∀ b ob, b < s.heap.objs.size → s.heap.get? b = some ob → (h1.push { cls := .type "list_iterator", data := .fields #[.ref l, .int 0 0] }).get? b = some ob := fun b ob hb e =>
    Heap.get?_push_of_some _ (hk1 _ _ (Heap.get?_push_of_some _ e))
  have hnw : ∀ b, b < s.heap.objs.size → b ∉ [s.heap.objs.size, h1.objs.size] := fun b hb q => by
    simp only [List.mem_cons, List.not_mem_nil, or_false] at q
    rcases q with q | q
    · exact Nat.ne_of_lt hb q
    · exact Nat.ne_of_lt (Nat.lt_trans hb hS1) q
  have hh3 : A.in1.in1.handled = none := by simp [hh]
  have hsz' : vs.toArray.size = vs.length := List.size_toArray
  show wpAny _ _ (again _) _ _ _
  refine wpAny_pure ⟨plainId_quiet plain_dict_update_loop _, ?_⟩
  have key := codeAny_dict_update_loop (R := wants (fun r s₂ => r = Value.none ∧ Q (Value.ref s.heap.objs.size) s₂) E) (A := A.in1) (Walks.list (prog := prog) (w := w) hh3 h1.objs.size l hlI vs.toArray) hSf hn (by rw [hsz']; exact hl) (by rw [hsz', ← hl]; exact hsz) s.heap
    (fun i v hv => by
      obtain ⟨a, k, t, x, e, ha, hkv⟩ := hval i v (by rw [← Array.getElem?_toList] at hv; exact hv)
      exact ⟨a, k, t, x, e, ha, hnw a (Heap.lt_size ha), hkv⟩)
    (vs.toArray.size - 0) 0 { s with heap := h1.push { cls := .type "list_iterator", data := .fields #[.ref l, .int 0 0] }, toks := tk1 } 0 rfl (Nat.zero_le _)
    ⟨⟨_, Heap.get?_push_size _ rfl, rfl, rfl⟩, ⟨o, Heap.get?_push_of_some _ hx1, hc, c, hdat⟩⟩ (fun b ob hb e => hk2 b ob (Heap.lt_size e) e)
    (by
      obtain ⟨o', es, ep, ho', r⟩ := hnew
      exact ⟨o', es, ep, Heap.get?_push_of_some _ (hk1 _ _ ho'), r⟩)
    (fun h' tk hD hm => ⟨rfl, h h' tk hD fun b ob hb e => hm b ob (hnw b hb) (hk2 b ob hb e)⟩)
  exact key
end
end Mine
namespace Mine
open PySem PySem.W PySem.Calls PyProof.Rows Builtin Builtin.ObjectAttr
/-- the exception object as it is made -/
abbrev excO (C t : Addr) (dx : Option Addr) : Obj := { cls := .ref C, dict := dx, data := .fields #[.ref t, .none, .none, .none, .bool false, .none] }

section
variable {prog : Program} {w : World} {A : Around} {R : Result → Shared → Prop} {h : Heap} {g : Array GenState} {d : Drawn} {t : Nat} {os : OsState}
variable {nm q : Str} {C N : Addr} {bs bm : List Value} {hdct : Bool} {sn : List Str} {sub : List Value} {ab : Bool} {col : Option Bool} {dd : Option Addr} {k0 k1 k2 k3 k5 : Option Value}

theorem x_new {rest : List Value} (hC : h.get? C = some (excClassObj nm q C N bs bm hdct sn sub ab col dd k0 k1 k2 k3 k5 "Exception.__new__"))
    (hE : bm.contains (.type "Exception") = true) (hA : bm.contains (.type "AttributeError") = false) (hN : bm.contains (.type "NameError") = false) (hrest : rest.length ≤ sizeLine)
    (hq : R (.ok (.ret (.ref (h.objs.size + 1)))) ⟨(h.push { cls := .type "tuple", data := .seq rest.toArray }).push (excO C h.objs.size none), g, d, t, os⟩) :
    codeAny (model prog w) A (.call (.builtin "Exception.__new__") ⟨.ref C :: rest, []⟩) R ⟨h, g, d, t, os⟩ := by
  have FB := PySem.F.excBase_Exception
  have cE : (Value.ref C :: bm).contains (.type "Exception") = true := by rw [List.contains_cons, hE, Bool.or_true]
  have cA : (Value.ref C :: bm).contains (.type "AttributeError") = false := by rw [List.contains_cons, hA]; rfl
  have cN : (Value.ref C :: bm).contains (.type "NameError") = false := by rw [List.contains_cons, hN]; rfl
  have hstar := FB.noStar
  have hends := FB.ends
  refine codeAny_call_builtin_code (Code.quiet_builtin _ FB.quiet) ?_
  simp only [checkBuiltinCall, FB.newKind, FB.newSplit, FB.newRow]
  repeat (first | refine wpAny_loadPart_at hC ?_ | (refine wpAny_isSubtype_exc hC ?_; rw [cE]) | refine wpAny_staticBase_exc hC ?_ | refine wpAny_madeBy_exc hC ?_ | simp only [bne_self_eq_false, Bool.false_eq_true, if_false] | wp_step)
  refine codeAny_builtinAt FB.entry ?_
  unfold Builtin.«BaseException.__new__»
  refine PySem.wpAt_bind ?_
  show PySem.wpAt _ _ _ (stack >>= _) _ _ _
  refine PySem.wpAt_bind (PySem.wpAt_stack fun p below => PySem.wpAt_of_wpAny ?_)
  wp_walk
  refine PySem.wpAt_of_wpAny ?_
  rw [FB.owner]
  repeat (first | with_reducible refine wpAny_madeHere_exc FB.canon hC ?_ | with_reducible refine wpAny_loadPart_at hC ?_ | (with_reducible refine wpAny_isSubtype_exc hC ?_; first | rw [cE] | rw [cA] | rw [cN]) | wp_step)
  show R _ _
  rw [Heap.size_push]
  exact hq

/-- the call of an exception class whose __init__ is a def of the text's -/
theorem x_call {K : Frag} {rest : List Value} {fI : Addr} (X : K.In h) (hC : h.get? C = some (excClassObj nm q C N bs bm hdct sn sub ab col dd k0 k1 k2 k3 k5 "Exception.__new__"))
    (hE : bm.contains (.type "Exception") = true) (hA : bm.contains (.type "AttributeError") = false) (hN : bm.contains (.type "NameError") = false) (hrest : rest.length ≤ sizeLine)
    (hi : findIn K (.ref C) "__init__" = some (some (.ref fI))) (hf : typeIn K (.ref fI) = some (.type "function")) (hcall : specialIn K (.ref C) "__call__" = some (some (.builtin "type.__call__")))
    (hty : instIn K (.ref C) (.type "type") = some true)
    (hq : codeAny (model prog w) (A.under (.builtin "type.__call__" ⟨.ref C :: rest, []⟩)) (.call (.ref fI) ⟨.ref (h.objs.size + 1) :: rest, []⟩) (InitBack (h.objs.size + 1) R)
      ⟨(h.push { cls := .type "tuple", data := .seq rest.toArray }).push (excO C h.objs.size none), g, d, t, os⟩) :
    codeAny (model prog w) A (.call (.ref C) ⟨rest, []⟩) R ⟨h, g, d, t, os⟩ := by
  have call := looks_specialIn (M := model prog w) X hcall
  have typ := looks_instIn (M := model prog w) X hty
  refine codeAny_of_tree ?_
  show wpAny _ _ (callAny (.ref C) _) _ _ _
  refine nd_load hC ?_
  show wpAny _ _ (callAny.viaDunder (.ref C) _) _ _ _
  unfold callAny.viaDunder
  refine wpAny_bind (call.at ?_)
  dsimp only
  rw [tc_bind]
  refine wpAny_bind (wpAny_pure (wpAny_bind (wpAny_pure ?_)))
  refine wpAny_pure (a := Fin.again (.call (.builtin "type.__call__") ⟨.ref C :: rest, []⟩)) (And.intro rfl ?_)
  refine codeAny_call_builtin_at (Code.quiet_builtin _ (by decide +kernel)) entry_typeCall (check_slot tc_kind tc_split typ (tc_args _ _ _) ?_)
  unfold Builtin.«type.__call__»
  repeat (first | with_reducible refine wpAny_loadPart_at hC ?_ | with_reducible refine wpAny_madeBy_exc hC ?_ | with_reducible refine wpAny_call ?_ | wp_step)
  refine x_new hC hE hA hN hrest ?_
  have kp : ∀ b o, h.get? b = some o → ((h.push { cls := .type "tuple", data := .seq rest.toArray }).push (excO C h.objs.size none)).get? b = some o := fun b o e => Heap.get?_push_of_some _ (Heap.get?_push_of_some _ e)
  have hx : ((h.push { cls := .type "tuple", data := .seq rest.toArray }).push (excO C h.objs.size none)).get? (h.objs.size + 1) = some (excO C h.objs.size none) := by heap_get
  have hC₁ := kp _ _ hC
  have t1 : Looks (model prog w) ((h.push { cls := .type "tuple", data := .seq rest.toArray }).push (excO C h.objs.size none)) (typeOf (.ref (h.objs.size + 1))) (.ref C) := (Looks.ld hx).andThen .now
  have i1 : Looks (model prog w) ((h.push { cls := .type "tuple", data := .seq rest.toArray }).push (excO C h.objs.size none)) (typeLookup (.ref C) "__init__") (some (.ref fI)) := (looks_findIn X hi).keeps kp
  have b1 : Looks (model prog w) ((h.push { cls := .type "tuple", data := .seq rest.toArray }).push (excO C h.objs.size none)) (bindSpecial (.ref fI) (.ref (h.objs.size + 1))) (.ref fI, [.ref (h.objs.size + 1)]) := (bind_fn X _ hf).keeps kp
  have cC : (Value.ref C :: bm).contains (.ref C) = true := by simp
  show wpAny _ _ _ _ _ _
  unfold isInstance callSpecial? specialOf
  repeat (first | with_reducible refine wpAny_loadPart_at hx ?_ | (with_reducible refine wpAny_isSubtype_exc hC₁ ?_; rw [cC]) | with_reducible refine Looks.at (by assumption) ?_ | with_reducible refine wpAny_call ?_ | wp_step)
  refine codeAny_mono hq fun r s' z => ?_
  rcases r with e | (v | _ | _ | _) <;> first | exact z | exact z.elim | skip
  obtain ⟨rfl, z⟩ := z
  exact wpAny_pure (wpAny_pure z)
end
end Mine
namespace Mine
open PySem PySem.W PySem.Calls PyProof.Rows Builtin Builtin.ObjectAttr
section
variable {prog : Program} {w : World} {A : Around} {K : Frag} {C x : Addr} {s : Shared} {R : Result → Shared → Prop}
/-- a store into an object of a class whose chain is told -/
theorem x_osa_open {ox : Obj} {od : Option Obj} {name : Str} {tk : Tok} {v : Value} {cd : ClassData} (X : K.In s.heap) (I : InstAt s.heap x ox C od) (hc : clsIn K C = some cd) (hne : cd.mro.isEmpty = false)
    (hob : cd.mro.contains (.type "object") = true) (hr : refuseLoop (.ref x) "__setattr__" cd.mro = pure ()) (ht : findIn K (.ref C) name = some none)
    (h : wpAny (model prog w) A.in1 (storeInOwnDict (.ref x) (.ref C) (.str name tk) name v false)
      (fun fin s' => match fin with | .done f => R (.ok f) s' | .again c' => c'.quiet = true ∧ codeAny (model prog w) A c' R s') (fun e s' => R (.error e) s') s) :
    codeAny (model prog w) A (.call (.builtin "object.__setattr__") ⟨[.ref x, .str name tk, v], []⟩) R s := by
  have SF := PySem.F.store_object
  have sub : Looks (model prog w) s.heap (isInstance (.ref x) (.type "object")) true := I.type.andThen (looks_mroIn X (by unfold mroIn; rw [hc, Option.bind_some, if_neg (by rw [hne]; decide), hob]))
  refine codeAny_call_builtin SF.slot.plain SF.entry (@check_slot (model prog w) _ _ s "object.__setattr__" "object" "__setattr__" (.ref x) [.str name tk, v] [] _ SF.kind SF.split sub (SF.args (.ref x) (.str name tk) v) ?_)
  have hm : Looks (model prog w) s.heap (mroOf (.ref C)) cd.mro := (looks_clsIn X hc).andThen .now
  rw [osa_eq, refuse_eq]
  refine wpAny_bind (wpAny_bind (I.type.here (wpAny_bind (hm.here ?_))))
  rw [hr]
  exact wpAny_pure (wpAny_bind (I.type.here (wpAny_bind ((looks_findIn X ht).here (wpAny_bind (wpAny_pure h))))))
theorem x_store0 {ox : Obj} {name : Str} {tk : Tok} {v : Value} {cd : ClassData} {Q : Fin → Shared → Prop} {E : Value → Shared → Prop} (X : K.In s.heap) (hx : s.heap.get? x = some ox) (hcl : ox.cls = .ref C) (hdn : ox.dict = none) (hnc : notCls ox = true)
    (hc : clsIn K C = some cd) (hd : cd.hasDict = true)
    (h : ∀ h', h' = ((s.heap.push { cls := .type "dict", data := .dict #[] }).update x fun o => { o with dict := some s.heap.objs.size }) →
      Q (.done (.ret .none)) { s with heap := h'.update s.heap.objs.size (Obj.putName name (PyData.keyHash w.params name) (.str name s.toks) v), toks := s.toks + 1 }) :
    wpAny (model prog w) A (storeInOwnDict (.ref x) (.ref C) (.str name tk) name v false) Q E s := by
  obtain ⟨hh, g, d, t, os⟩ := s
  obtain ⟨oc, odi, oda, osl⟩ := ox
  dsimp only at hcl hdn hx h
  subst hcl hdn
  refine wpAny_bind (wpAny_pure (wpAny_bind (wpAny_bind (wpAny_loadPart hx (wpAny_bind ((looks_clsIn X hc).here ?_))))))
  rw [hd]
  have fin : ∀ Q' : Option Addr → Shared → Prop, (∀ h', h' = ((hh.push { cls := .type "dict", data := .dict #[] }).update x fun o => { o with dict := some hh.objs.size }) → Q' (some hh.objs.size) ⟨h', g, d, t, os⟩) →
      wpAny (model prog w) A (do let dd ← alloc { cls := .type "dict", data := .dict #[] }; PySem.update x fun o => { o with dict := some dd }; dictMade (.ref C) x dd) Q' E ⟨hh, g, d, t, os⟩ := fun Q' hq => by
    refine wpAny_bind (wpAny_alloc (wpAny_bind (wpAny_update' (Heap.get?_push_of_some _ hx) (wpAny_pure ?_))))
    exact hq _ rfl
  have hdata : ∀ c, oda ≠ .cls c := fun c e => by subst e; cases hnc
  have tail : ∀ h', h' = ((hh.push { cls := .type "dict", data := .dict #[] }).update x fun o => { o with dict := some hh.objs.size }) →
      wpAny (model prog w) A (storeInDict hh.objs.size (.str name tk) name v) Q E ⟨h', g, d, t, os⟩ := fun h' e => by
    have xs : x ≠ hh.objs.size := Nat.ne_of_lt (Heap.lt_size hx)
    have D : h'.get? hh.objs.size = some { cls := .type "dict", data := .dict #[] } := by
      subst e
      exact (Heap.get?_update_ne _ _ _ _ xs.symm).trans (Heap.get?_push_at rfl rfl)
    have D' : (h'.update hh.objs.size (Obj.putName name (PyData.keyHash w.params name) (.str name t) v)).get? hh.objs.size = some (dictOf [⟨PyData.keyHash w.params name, .str name t, v⟩] 1) := by
      have e0 : Obj.putName name (PyData.keyHash w.params name) (.str name t) v (dictOf [] 0) = dictOf [⟨PyData.keyHash w.params name, .str name t, v⟩] 1 := by rw [putName_dict]; rfl
      have D0 : h'.get? hh.objs.size = some (dictOf [] 0) := D
      rw [Heap.get?_update_self _ D0 (by rw [e0]; rfl), e0]
    unfold storeInDict newKeyGuard
    refine wpAny_bind (wpAny_pure (wpAny_bind ?_))
    unfold nsSet
    refine wpAny_bind (wpAny_bind (wpAny_askSetting (wpAny_pure (wpAny_bind (wpAny_mkText (wpAny_bind (wpAny_loadPart D ?_)))))))
    dsimp only
    have c : (!(#[] : Array DictEntry).any (·.key.isStr name) && (#[] : Array DictEntry).any (·.refKey)) = false := by simp
    rw [aRefKeyMayBeTheName_at, c]
    refine wpAny_updatePart D ?_
    refine wpAny_bind (wpAny_lookBehind D' (pastItsLine_dict (by rw [List.size_toArray, sizeLine_eq]; simp)) ?_)
    exact wpAny_pure (h h' e)
  rw [if_neg (by decide)]
  dsimp only
  rw [if_neg (by simp [typeHasDict])]
  cases oda <;> first
    | exact absurd rfl (hdata _)
    | (refine fin _ fun h' e => ?_; exact wpAny_bind (tail h' e))
    | (refine fin _ fun h' e => ?_; exact (tail h' e))
theorem x_store1 {ox : Obj} {dx : Addr} {es es' : List DictEntry} {n n' : Nat} {name : Str} {tk : Tok} {v : Value} {cd : ClassData} {Q : Fin → Shared → Prop} {E : Value → Shared → Prop} (X : K.In s.heap) (hx : s.heap.get? x = some ox) (hcl : ox.cls = .ref C) (hdn : ox.dict = some dx)
    (hc : clsIn K C = some cd) (hd : cd.hasDict = true) (D : s.heap.get? dx = some (dictOf es n)) (hk : es.any (·.refKey) = false) (hz : es'.length ≤ 1000)
    (e : (putL name (PyData.keyHash w.params name) (.str name s.toks) v es, putN name es n) = (es', n'))
    (h : Q (.done (.ret .none)) { s with heap := s.heap.update dx (Obj.putName name (PyData.keyHash w.params name) (.str name s.toks) v), toks := s.toks + 1 }) :
    wpAny (model prog w) A (storeInOwnDict (.ref x) (.ref C) (.str name tk) name v false) Q E s := by
  obtain ⟨hh, g, d, t, os⟩ := s
  obtain ⟨oc, odi, oda, osl⟩ := ox
  dsimp only at hcl hdn hx h D e
  subst hcl hdn
  obtain ⟨e1, e2⟩ := Prod.mk.inj e
  refine wpAny_bind (wpAny_pure (wpAny_bind (wpAny_bind (wpAny_loadPart hx (wpAny_bind ((looks_clsIn X hc).here ?_))))))
  rw [hd]
  refine wpAny_pure (a := some dx) (wpAny_bind (wpAny_pure (wpAny_bind ?_)))
  have e0 : Obj.putName name (PyData.keyHash w.params name) (.str name t) v (dictOf es n) = dictOf es' n' := by rw [putName_dict, e1, e2]
  have D' : (hh.update dx (Obj.putName name (PyData.keyHash w.params name) (.str name t) v)).get? dx = some (dictOf es' n') := by
    rw [Heap.get?_update_self _ D (by rw [e0]; rfl), e0]
  unfold nsSet
  refine wpAny_bind (wpAny_bind (wpAny_askSetting (wpAny_pure (wpAny_bind (wpAny_mkText (wpAny_bind (wpAny_loadPart D ?_)))))))
  dsimp only
  have c : (!es.toArray.any (·.key.isStr name) && es.toArray.any (·.refKey)) = false := by simp [hk]
  rw [aRefKeyMayBeTheName_at, c]
  refine wpAny_updatePart D ?_
  refine wpAny_bind (wpAny_lookBehind D' (pastItsLine_dict (by rw [List.size_toArray, sizeLine_eq]; omega)) ?_)
  exact wpAny_pure h
end

section
variable {prog : Program} {w : World} {A : Around} {K : Frag} {C e t : Addr} {s : Shared} {h₀ : Heap} {L : Addr} {m : Str → Option Value} {news : List (Addr × Obj)} {E : Value → Shared → Prop} {Q : Unit → Shared → Prop}
theorem x_setA {name : Str} {v : Value} {cd : ClassData} (F : Fr h₀ L s.heap m) (X₀ : K.In h₀) (N : News h₀ L s.heap ((e, excO C t none) :: news)) (hne : ∀ p ∈ news, p.1 ≠ e)
    (hs : findIn K (.ref C) "__setattr__" = some (some (.builtin "object.__setattr__"))) (hc : clsIn K C = some cd) (hie : cd.mro.isEmpty = false)
    (hob : cd.mro.contains (.type "object") = true) (hr : ∀ x, refuseLoop (.ref x) "__setattr__" cd.mro = pure ()) (ht : findIn K (.ref C) name = some none) (hd : cd.hasDict = true)
    (h : ∀ dx h' tk tk', Fr h₀ L h' m → News h₀ L h' ((e, excO C t (some dx)) :: (dx, dictOf [⟨PyData.keyHash w.params name, .str name tk, v⟩] 1) :: news) → (∀ p ∈ news, p.1 < dx) → e < dx → Q () { s with heap := h', toks := tk' }) :
    wpAny (model prog w) A (setAttr (.ref e) name v) Q E s := by
  have X := X₀.keeps F.keep
  have he := (N _ (.head _)).1
  have I : InstAt s.heap e (excO C t none) C none := ⟨he, rfl, rfl, trivial⟩
  refine set_plain X I hs (x_osa_open (s := { s with toks := s.toks + 1 }) X I hc hie hob (hr e) ht ?_)
  refine x_store0 (s := { s with toks := s.toks + 1 }) X he rfl rfl rfl hc hd fun h' eh => ?_
  have hlt : e < s.heap.objs.size := Heap.lt_size he
  have F1 := F.push { cls := .type "dict", data := .dict #[] }
  have N1 := N.push F { cls := .type "dict", data := .dict #[] }
  have U1 := news_upd (pre := [(s.heap.objs.size, { cls := .type "dict", data := .dict #[] })]) (f := fun o => { o with dict := some s.heap.objs.size }) (o' := excO C t (some s.heap.objs.size)) F1 N1 (fun p hp => by rw [List.mem_singleton.mp hp]; exact (Nat.ne_of_lt hlt).symm) hne rfl rfl
  have U2 := news_upd (pre := []) (f := Obj.putName name (PyData.keyHash w.params name) (.str name (s.toks + 1)) v) (o := dictOf [] 0) (o' := dictOf [⟨PyData.keyHash w.params name, .str name (s.toks + 1), v⟩] 1) U1.1 U1.2 (fun _ hp => nomatch hp) (fun p hp => by
      rcases List.mem_cons.mp hp with rfl | hp
      · exact Nat.ne_of_lt hlt
      · exact Nat.ne_of_lt (Heap.lt_size (N p (.tail _ hp)).1)) (by rw [putName_dict]; rfl) rfl
  subst eh
  have fin : News h₀ L (((s.heap.push { cls := .type "dict", data := .dict #[] }).update e fun o => { o with dict := some s.heap.objs.size }).update s.heap.objs.size (Obj.putName name (PyData.keyHash w.params name) (.str name (s.toks + 1)) v))
      ((e, excO C t (some s.heap.objs.size)) :: (s.heap.objs.size, dictOf [⟨PyData.keyHash w.params name, .str name (s.toks + 1), v⟩] 1) :: news) := fun p hp => U2.2 p (by
    rcases List.mem_cons.mp hp with rfl | hp
    · exact .tail _ (.head _)
    · rcases List.mem_cons.mp hp with rfl | hp
      · exact .head _
      · exact .tail _ (.tail _ hp))
  exact h s.heap.objs.size _ (s.toks + 1) _ U2.1 fin (fun p hp => Heap.lt_size (N p (.tail _ hp)).1) hlt
theorem x_setB {name : Str} {v : Value} {cd : ClassData} {dx : Addr} {es es' : List DictEntry} {n n' : Nat} (F : Fr h₀ L s.heap m) (X₀ : K.In h₀) (N : News h₀ L s.heap ((e, excO C t (some dx)) :: (dx, dictOf es n) :: news)) (hne : ∀ p ∈ news, p.1 ≠ dx) (hlt : e < dx)
    (hs : findIn K (.ref C) "__setattr__" = some (some (.builtin "object.__setattr__"))) (hc : clsIn K C = some cd) (hie : cd.mro.isEmpty = false)
    (hob : cd.mro.contains (.type "object") = true) (hr : ∀ x, refuseLoop (.ref x) "__setattr__" cd.mro = pure ()) (ht : findIn K (.ref C) name = some none) (hd : cd.hasDict = true)
    (hk : es.any (·.refKey) = false) (hz : es'.length ≤ 1000) (ep : (putL name (PyData.keyHash w.params name) (.str name (s.toks + 1)) v es, putN name es n) = (es', n'))
    (h : ∀ h' tk', Fr h₀ L h' m → News h₀ L h' ((e, excO C t (some dx)) :: (dx, dictOf es' n') :: news) → Q () { s with heap := h', toks := tk' }) :
    wpAny (model prog w) A (setAttr (.ref e) name v) Q E s := by
  have X := X₀.keeps F.keep
  have he := (N _ (.head _)).1
  have hdx := (N _ (.tail _ (.head _))).1
  have I : InstAt s.heap e (excO C t (some dx)) C (some (dictOf es n)) := ⟨he, rfl, rfl, hdx⟩
  refine set_plain X I hs (x_osa_open (s := { s with toks := s.toks + 1 }) X I hc hie hob (hr e) ht ?_)
  refine x_store1 (s := { s with toks := s.toks + 1 }) X he rfl rfl hc hd hdx hk hz ep ?_
  obtain ⟨e1, e2⟩ := Prod.mk.inj ep
  have U := news_upd (pre := [(e, excO C t (some dx))]) (f := Obj.putName name (PyData.keyHash w.params name) (.str name (s.toks + 1)) v) (o' := dictOf es' n') F N (fun p hp => by rw [List.mem_singleton.mp hp]; exact Nat.ne_of_lt hlt) hne (by rw [putName_dict, e1, e2]) rfl
  exact h _ _ U.1 U.2
end
end Mine
namespace Mine
open PySem PySem.W PySem.Calls PyProof.Rows Builtin Builtin.ObjectAttr
/-- an exception object: its dict, its traceback, its context -/
abbrev excT (C t dx : Addr) (cx tb : Value) : Obj := { cls := .ref C, dict := some dx, data := .fields #[.ref t, tb, cx, .none, .bool false, .none] }

/-- the exception e flies (or is held: fl) over the frames l -/
structure Flies (base : Heap) (l : List Env) (e C t dx : Addr) (cx fl : Value) (h : Heap) : Prop where
  stays : base.StaysIn h
  new : base.get? e = none
  frames : h.FunFrames base l
  there : ∃ T oT ts, h.get? e = some (excT C t dx cx (.ref T)) ∧ base.get? T = none ∧ T ≠ e ∧ h.get? T = some oT ∧ oT.data = .fields ts ∧ ts[3]? = some fl

section
variable {M : Model} {A : Around} {E : Value → Shared → Prop} {s : Shared} {base : Heap} {env : Env} {outer l : List Env} {L e C t dx : Addr} {cx tb fl : Value} {Q : Unit → Shared → Prop}

theorem fl_entry {head : Value} {hadNext : Bool} (hfr : A.frames = some (env :: outer)) (hl : s.heap.FunFrames base (env :: outer)) (hf : env.frame = some L)
    (he : s.heap.get? e = some (excT C t dx cx tb)) (hkb : base.StaysIn s.heap) (hen : base.get? e = none)
    (h : ∀ h', Flies base (env :: outer) e C t dx cx (rawInt L) h' → s.heap.UpToSlots h' → Q () { s with heap := h' }) :
    wpAny M A (do let a ← frameOf env; let pl ← entryPlaceOf L hadNext; let b ← EntryCells.newEntry head a .none (rawInt L) .none pl; setField (.ref e) 1 b) Q E s := by
  have notFr : e ∉ (env :: outer).filterMap (·.frame) := fun hm => by
    obtain ⟨_, o, ho, hnf⟩ := hl.mem hm
    rw [he] at ho
    cases ho
    exact hnf _ rfl
  refine wpAny_bind (wpAny_frameOf_fun hfr hl hf fun h₁ k₁ => wpAny_bind (wpAny_entryPlaceOf fun pl hpl => ?_))
  unfold EntryCells.newEntry newFields
  refine wpAny_bind (wpAny_newObj_type ?_ (hpl.sizeOk5 _ _ _ _ _))
  have he₁ : h₁.get? e = some (excT C t dx cx tb) := (k₁.2.1 e notFr).trans he
  have kb₁ : base.StaysIn h₁ := fun b o q => (k₁.2.1 b fun hm => by rw [(hl.mem hm).1] at q; cases q).trans (hkb b o q)
  generalize hoT : ({ cls := .type "traceback", dict := none, data := .fields ([head, .ref L, .none, rawInt L, .none] ++ (if pl.isEmpty then List.replicate 6 Value.none else pl)).toArray } : Obj) = oT
  have hoTf : oT.isFreed = false := by subst hoT; rfl
  have he₂ : (h₁.push oT).get? e = some (excT C t dx cx tb) := Heap.get?_push_of_some _ he₁
  refine wpAny_setField he₂ rfl (show 1 < 6 by decide) ?_
  have hTe : h₁.objs.size ≠ e := (Nat.ne_of_lt (Heap.lt_size he₁)).symm
  have he₃ : ((h₁.push oT).update e (Obj.mapFields (·.setIfInBounds 1 (.ref h₁.objs.size)))).get? e = some (excT C t dx cx (.ref h₁.objs.size)) := Heap.get?_update_self _ he₂ rfl
  have hT₃ : ((h₁.push oT).update e (Obj.mapFields (·.setIfInBounds 1 (.ref h₁.objs.size)))).get? h₁.objs.size = some oT :=
    (Heap.get?_update_other _ _ hTe.symm).trans (Heap.get?_push_size h₁ hoTf)
  have old : ∀ b o, b ≠ e → h₁.get? b = some o → ((h₁.push oT).update e (Obj.mapFields (·.setIfInBounds 1 (.ref h₁.objs.size)))).get? b = some o := fun b o hb q =>
    (Heap.get?_update_other _ _ hb.symm).trans (Heap.get?_push_of_some _ q)
  have notE : ∀ b o, s.heap.get? b = some o → (∀ vs, o.data ≠ .fields vs) → b ≠ e := fun b o hb hn q => by
    rw [q, he] at hb
    cases hb
    exact hn _ rfl
  refine h _ ⟨fun b o q => old b o (fun z => by rw [z, hen] at q; cases q) (kb₁ b o q), hen, hl.of_keeps fun b o hb hn => ?_, h₁.objs.size, oT, ([head, .ref L, .none, rawInt L, .none] ++ (if pl.isEmpty then List.replicate 6 Value.none else pl)).toArray, he₃, kb₁.fresh, hTe, hT₃, by subst hoT; rfl, by simp⟩ fun b o hb hn => ?_
  · obtain ⟨sl, q⟩ := k₁.2.2 b o hb
    exact ⟨_, old b _ (notE b o hb hn) q, rfl⟩
  · obtain ⟨sl, q⟩ := k₁.2.2 b o hb
    exact ⟨sl, old b _ (notE b o hb hn) q⟩

theorem fl_first (hfr : A.frames = some (env :: outer)) (hl : s.heap.FunFrames base (env :: outer)) (hf : env.frame = some L)
    (he : s.heap.get? e = some (excT C t dx cx .none)) (hkb : base.StaysIn s.heap) (hen : base.get? e = none)
    (h : ∀ h', Flies base (env :: outer) e C t dx cx (rawInt L) h' → s.heap.UpToSlots h' → Q () { s with heap := h' }) : wpAny M A (noteFrame (.ref e) env) Q E s := by
  unfold noteFrame
  simp only [hf]
  refine wpAny_bind (wpAny_field he rfl (x := .none) rfl ?_)
  rw [if_neg (by decide)]
  exact fl_entry hfr hl hf he hkb hen h

theorem fl_next (hfr : A.frames = some (env :: outer)) (hf : env.frame = some L) (hx : Flies base (env :: outer) e C t dx cx .none s.heap)
    (h : ∀ h', Flies base (env :: outer) e C t dx cx (rawInt L) h' → s.heap.UpToSlots h' → Q () { s with heap := h' }) : wpAny M A (noteFrame (.ref e) env) Q E s := by
  obtain ⟨hkb, hen, hl, T, oT, ts, he, hnT, hTe, hT, hdT, h3⟩ := hx
  unfold noteFrame
  simp only [hf]
  refine wpAny_bind (wpAny_field he rfl (x := .ref T) rfl ?_)
  rw [if_pos (show (Value.ref T != Value.none) = true from by simp)]
  refine wpAny_bind (wpAny_field hT hdT h3 ?_)
  rw [if_neg (show ¬ ((Value.none == rawInt L) = true) from by simp [rawInt])]
  refine wpAny_bind (wpAny_setField hT hdT (Array.getElem?_eq_some_iff.mp h3).1 ?_)
  have other : ∀ b, b ≠ T → (s.heap.update T (Obj.mapFields (·.setIfInBounds 3 Value.none))).get? b = s.heap.get? b := fun b hb => Heap.get?_update_other _ _ hb.symm
  have notT : ∀ b o, s.heap.get? b = some o → (∀ vs, o.data ≠ .fields vs) → b ≠ T := fun b o hb hn q => by
    rw [q, hT] at hb
    cases hb
    exact hn _ hdT
  refine fl_entry (s := { s with heap := s.heap.update T (Obj.mapFields (·.setIfInBounds 3 Value.none)) }) hfr (hl.of_keeps fun b o hb hn => ⟨o, (other b (notT b o hb hn)).trans hb, rfl⟩) hf ((other e hTe.symm).trans he)
    (fun b o q => (other b fun z => by rw [z, hnT] at q; cases q).trans (hkb b o q)) hen fun h' k1 k2 => h h' k1 fun b o hb hn => k2 b o ((other b (notT b o hb hn)).trans hb) hn

theorem fl_again (hf : env.frame = some L) (hx : Flies base l e C t dx cx (rawInt L) s.heap) (h : Q () s) : wpAny M A (noteFrame (.ref e) env) Q E s := by
  obtain ⟨hkb, hen, hl, T, oT, ts, he, hnT, hTe, hT, hdT, h3⟩ := hx
  unfold noteFrame
  simp only [hf]
  refine wpAny_bind (wpAny_field he rfl (x := .ref T) rfl ?_)
  rw [if_pos (show (Value.ref T != Value.none) = true from by simp)]
  refine wpAny_bind (wpAny_field hT hdT h3 ?_)
  rw [if_pos (show (rawInt L == rawInt L) = true from by simp)]
  exact wpAny_pure h

theorem fl_flight {fr : Option Addr} (hx : Flies base l e C t dx cx fl s.heap)
    (h : ∀ h', Flies base l e C t dx cx (fr.elim .none fun f => rawInt f) h' → s.heap.UpToSlots h' → Q () { s with heap := h' }) : wpAny M A (setFlight (.ref e) fr) Q E s := by
  obtain ⟨hkb, hen, hl, T, oT, ts, he, hnT, hTe, hT, hdT, h3⟩ := hx
  have sz : 3 < ts.size := (Array.getElem?_eq_some_iff.mp h3).1
  have other : ∀ b, b ≠ T → (s.heap.update T (Obj.mapFields (·.setIfInBounds 3 (fr.elim .none fun f => rawInt f)))).get? b = s.heap.get? b := fun b hb => Heap.get?_update_other _ _ hb.symm
  have notT : ∀ b o, s.heap.get? b = some o → (∀ vs, o.data ≠ .fields vs) → b ≠ T := fun b o hb hn q => by
    rw [q, hT] at hb
    cases hb
    exact hn _ hdT
  unfold setFlight
  refine wpAny_bind (wpAny_field he rfl (x := .ref T) rfl ?_)
  rw [if_pos (show (Value.ref T != Value.none) = true from by simp)]
  refine wpAny_setField hT hdT sz (h _ ⟨fun b o q => (other b fun z => by rw [z, hnT] at q; cases q).trans (hkb b o q), hen, hl.of_keeps fun b o hb hn => ⟨o, (other b (notT b o hb hn)).trans hb, rfl⟩,
    T, _, _, (other e hTe.symm).trans he, hnT, hTe, Heap.get?_update_self _ hT (Obj.isFreed_of_fields (Obj.data_mapFields hdT _)), Obj.data_mapFields hdT _, by simp [sz]⟩ fun b o hb hn => ⟨o.slots, (other b (notT b o hb hn)).trans hb⟩)

theorem Flies.pop (hx : Flies base (env :: outer) e C t dx cx fl s.heap) : Flies base outer e C t dx cx fl s.heap := by
  obtain ⟨hkb, hen, ⟨_, _, hl⟩, r⟩ := hx
  exact ⟨hkb, hen, hl, r⟩

theorem fl_leave_first (hfr : A.frames = some (env :: outer)) (hl : s.heap.FunFrames base (env :: outer)) (hf : env.frame = some L)
    (he : s.heap.get? e = some (excT C t dx cx .none)) (hkb : base.StaysIn s.heap) (hen : base.get? e = none)
    (h : ∀ h', Flies base outer e C t dx cx .none h' → s.heap.UpToSlots h' → Q () { s with heap := h' }) : wpAny M A (leaving env (.ref e)) Q E s := by
  unfold leaving
  refine wpAny_bind (fl_first hfr hl hf he hkb hen fun h₁ x₁ u₁ => ?_)
  exact fl_flight (s := { s with heap := h₁ }) (fr := none) x₁ fun h₂ x₂ u₂ => h h₂ (Flies.pop (s := { s with heap := h₂ }) x₂) (u₁.trans u₂)
theorem fl_leave_next (hfr : A.frames = some (env :: outer)) (hf : env.frame = some L) (hx : Flies base (env :: outer) e C t dx cx .none s.heap)
    (h : ∀ h', Flies base outer e C t dx cx .none h' → s.heap.UpToSlots h' → Q () { s with heap := h' }) : wpAny M A (leaving env (.ref e)) Q E s := by
  unfold leaving
  refine wpAny_bind (fl_next hfr hf hx fun h₁ x₁ u₁ => ?_)
  exact fl_flight (s := { s with heap := h₁ }) (fr := none) x₁ fun h₂ x₂ u₂ => h h₂ (Flies.pop (s := { s with heap := h₂ }) x₂) (u₁.trans u₂)
theorem fl_leave_held (hf : env.frame = some L) (hx : Flies base (env :: outer) e C t dx cx (rawInt L) s.heap)
    (h : ∀ h', Flies base outer e C t dx cx .none h' → s.heap.UpToSlots h' → Q () { s with heap := h' }) : wpAny M A (leaving env (.ref e)) Q E s := by
  unfold leaving
  refine wpAny_bind (fl_again hf hx ?_)
  exact fl_flight (fr := none) hx fun h₂ x₂ u₂ => h h₂ (Flies.pop (s := { s with heap := h₂ }) x₂) u₂
end
end Mine
namespace Mine
open PySem PySem.W PySem.Calls PyProof.Rows Builtin Builtin.ObjectAttr
local macro_rules | `(tactic| k_all) => `(tactic| assumption)
local macro_rules | `(tactic| walk_at "getMethod type:Exception") => `(tactic| (k_here; refine' method_type ?F ?X ?m (by decide +kernel) ?e ?h ?_; (case F => k_asm); (case X => k_asm); (case m => assumption); (case e => k_dflt k_is); (case h => k_handed)))
abbrev TopG (mean : ExcName → Option Value) (mg mb : Str → Option Value) (h : Heap) : Prop := Top hd.view_39 (looseW hd.view_39 [Str.ofString "MintError"]) mean mg mb h
theorem allLt_ne {d : Addr} {l : List (Addr × Obj)} (h : ∀ p ∈ l, p.1 < d) : ∀ p ∈ l, p.1 ≠ d := fun p hp => Nat.ne_of_lt (h p hp)
theorem ref_pass (x : Addr) (C M : Addr) : refuseLoop (.ref x) "__setattr__" [.ref C, .ref M, .type "Exception", .type "BaseException", .type "object"] = pure () := by
  rw [refuseLoop_ref, refuseLoop_ref]; exact PySem.F.store_Exception.passes _
abbrev wS : Str := Str.ofString "what"
abbrev aS : Str := Str.ofString "at"
abbrev whatD (w : World) (k1 k2 : Tok) (v : Value) : Obj := dictOf [⟨PyData.keyHash w.params wS, .str wS k1, v⟩, ⟨PyData.keyHash w.params aS, .str aS k2, .none⟩] 2

theorem meta_Exception : typeOf (.type "Exception") = pure (.type "type") := by show pure _ = _; kernel_rfl
section
variable {prog : Program} {w : World} {A : Around} {K : Frag} {C e t : Addr} {s : Shared} {h₀ : Heap} {L : Addr} {m : Str → Option Value} {news : List (Addr × Obj)} {E : Value → Shared → Prop}
theorem x_binit {v : Value} {Q : Value → Shared → Prop} (F : Fr h₀ L s.heap m) (X₀ : K.In h₀) (N : News h₀ L s.heap ((e, excO C t none) :: news)) (hne : ∀ p ∈ news, p.1 ≠ e)
    {nm q : Str} {NN : Addr} {bs bm : List Value} {hdct : Bool} {sn : List Str} {sub : List Value} {ab : Bool} {col : Option Bool} {dd : Option Addr} {k0 k1 k2 k3 k5 : Option Value}
    (hC : s.heap.get? C = some (excClassObj nm q C NN bs bm hdct sn sub ab col dd k0 k1 k2 k3 k5 "Exception.__new__")) (hE : bm.contains (.type "Exception") = true)
    (h : ∀ t2 h' tk', Fr h₀ L h' m → News h₀ L h' ((e, excO C t2 none) :: (t2, { cls := .type "tuple", data := .seq #[v] }) :: news) → (∀ p ∈ news, p.1 < t2) → e < t2 → Q .none { s with heap := h', toks := tk' }) :
    wpAny (model prog w) A (call (.builtin "Exception.__init__") [.ref e, v]) Q E s := by
  have FB := PySem.F.excBase_Exception
  have X := X₀.keeps F.keep
  have he := (N _ (.head _)).1
  obtain ⟨hp, g, d, tk, os⟩ := s
  have cE : (Value.ref C :: bm).contains (.type "Exception") = true := by rw [List.contains_cons, hE, Bool.or_true]
  refine wpAny_call (codeAny_call_builtin FB.init.plain FB.initEntry ?_)
  have hshort := FB.noStar
  simp only [checkBuiltinCall, FB.initKind, FB.initSplit, FB.initRow]
  have hlt : e < hp.objs.size := Heap.lt_size he
  have he₁ : (hp.push { cls := .type "tuple", data := .seq [v].toArray }).get? e = some (excO C t none) := Heap.get?_push_of_some _ he
  repeat (first | with_reducible refine wpAny_loadPart_at he ?_ | with_reducible refine wpAny_loadPart_at hC ?_ | (with_reducible refine wpAny_isSubtype_exc hC ?_; rw [cE]) | wp_step)
  have F1 := F.push { cls := .type "tuple", data := .seq [v].toArray }
  have N1 := N.push F { cls := .type "tuple", data := .seq [v].toArray }
  have U := news_upd (pre := [(hp.objs.size, { cls := .type "tuple", data := .seq [v].toArray })]) (f := Obj.mapFields (·.setIfInBounds 0 (.ref hp.objs.size))) (o' := excO C hp.objs.size none) F1 N1 (fun p hp' => by rw [List.mem_singleton.mp hp']; exact (Nat.ne_of_lt hlt).symm) hne rfl rfl
  refine h hp.objs.size _ tk U.1 (fun p hp' => U.2 p ?_) (fun p hp' => Heap.lt_size (N p (.tail _ hp')).1) hlt
  rcases List.mem_cons.mp hp' with rfl | hp'
  · exact .tail _ (.head _)
  · rcases List.mem_cons.mp hp' with rfl | hp'
    · exact .head _
    · exact .tail _ (.tail _ hp')
end
set_option maxHeartbeats 4000000 in
theorem x_init {w : World} {mean : ExcName → Option Value} {mg mb : Str → Option Value} {A A₀ : Around} {env : Env} {outer : List Env} {base h₀ : Heap} {L : Addr} {m : Str → Option Value} {s : Shared} {R : Result → Shared → Prop}
  {rest : List (Addr × Obj)} {e t C : Addr} {v : Value} (hC : C = 59 ∨ C = 71) 
  (B : Below A₀ base outer h₀) (F : Fr h₀ L s.heap m) (X : (hd.heap_39 w.params).In h₀) (N : News h₀ L s.heap ((e, excO C t none) :: rest)) (T : TopG mean mg mb h₀) 
  (hA : A.frames = some (env :: outer)) (hf : env.frame = some L) (hk : env.scope.kind = .function)
  (hne : ∀ p ∈ rest, p.1 ≠ e)
  (hdp : A.depth < recursionLimit) 
  (hret : ∀ t2 dx h' tk' k1 k2, Fr h₀ L h' m → News h₀ L h' ((e, excT C t2 dx .none .none) :: (dx, whatD w k1 k2 v) :: (t2, { cls := .type "tuple", data := .seq #[v] }) :: rest) → (∀ p ∈ rest, p.1 < t2) → e < t2 → t2 < dx → R (.ok (.ret .none)) { s with heap := h', toks := tk' }) :
  codeAny (model Challenge.rw_qz0049_01.row.prog w) A (.call (.ref 36) ⟨[.ref e, v], []⟩) R s := by
  revert X; k_fill; intro X
  have me := meta_Exception
  k_dflt (refine' code_def ?k1 ?k2 ?k3 ?k4 ?k5 ?kA ?kF ?kK ?k6 ?k7 ?k8 ?k9 ?kB ?_ ?c2 ?c3 ?c4 ?c5; (case kA => exact hA); (case kF => exact hf); (case kK => exact hk); (case k1 => k_asm); (case k2 => k_asm); (case k3 => k_asm); (case k4 => k_asm); (case k5 => k_asm); (case k6 => k_is); (case k7 => k_is); (case k8 => assumption); (case k9 => first | exact BindsTo.of_eq rfl | exact binds_K (by k_in) rfl (by k_is) rfl rfl rfl); (case c5 => decide); (case kB => exact locs rfl); (case c2 => exact rfl); (case c3 => exact rfl); (case c4 => exact rfl); k_whole; intro g' L' h' FG' F' N' B' X' T'; (try dsimp only); (try k_lift B'); (try k_fold))
  have hC59 := X' 59 (excClassObj _ _ _ _ _ _ _ _ _ _ _ _ _ _ _ _ _ _) (by k_is)
  have hC71 := X' 71 (excClassObj _ _ _ _ _ _ _ _ _ _ _ _ _ _ _ _ _ _) (by k_is)
  rcases hC with rfl | rfl
  · k_steps
    refine x_binit F' X' N' (by assumption) (F'.keep _ _ hC59) (by decide) ?_
    intro t2 h' tk' F' N' l1 l2
    k_steps
    refine' x_setA F' X' N' ?n1 ?hs ?hc ?hie ?hob ?hr ?ht ?hd ?_
    case n1 => (intro p hp; rcases List.mem_cons.mp hp with rfl | hp; exact (Nat.ne_of_lt l2).symm; exact hne p hp)
    case hs => k_dflt k_is
    case hc => k_dflt k_is
    case hie => decide
    case hob => decide
    case hr => intro x; exact ref_pass x _ _
    case ht => k_dflt k_is
    case hd => rfl
    intro dx h' tk1 tk' F' N' l3 l4
    dsimp only
    k_steps
    refine' x_setB F' X' N' ?n1 l4 ?hs ?hc ?hie ?hob ?hr ?ht ?hd ?hk ?hz ?ep ?_
    case n1 => exact allLt_ne l3
    case hs => k_dflt k_is
    case hc => k_dflt k_is
    case hie => decide
    case hob => decide
    case hr => intro x; exact ref_pass x _ _
    case ht => k_dflt k_is
    case hd => rfl
    case ep => k_dflt k_put
    case hk => rfl
    case hz => exact Nat.le_of_ble_eq_true rfl
    intro h' tk' F' N'
    dsimp only
    k_steps
    exact hret t2 dx h' _ _ _ (by assumption) (by assumption) l1 l2 (l3 _ (.head _))
  · k_steps
    refine x_binit F' X' N' (by assumption) (F'.keep _ _ hC71) (by decide) ?_
    intro t2 h' tk' F' N' l1 l2
    k_steps
    refine' x_setA F' X' N' ?n1 ?hs ?hc ?hie ?hob ?hr ?ht ?hd ?_
    case n1 => (intro p hp; rcases List.mem_cons.mp hp with rfl | hp; exact (Nat.ne_of_lt l2).symm; exact hne p hp)
    case hs => k_dflt k_is
    case hc => k_dflt k_is
    case hie => decide
    case hob => decide
    case hr => intro x; exact ref_pass x _ _
    case ht => k_dflt k_is
    case hd => rfl
    intro dx h' tk1 tk' F' N' l3 l4
    dsimp only
    k_steps
    refine' x_setB F' X' N' ?n1 l4 ?hs ?hc ?hie ?hob ?hr ?ht ?hd ?hk ?hz ?ep ?_
    case n1 => exact allLt_ne l3
    case hs => k_dflt k_is
    case hc => k_dflt k_is
    case hie => decide
    case hob => decide
    case hr => intro x; exact ref_pass x _ _
    case ht => k_dflt k_is
    case hd => rfl
    case ep => k_dflt k_put
    case hk => rfl
    case hz => exact Nat.le_of_ble_eq_true rfl
    intro h' tk' F' N'
    dsimp only
    k_steps
    exact hret t2 dx h' _ _ _ (by assumption) (by assumption) l1 l2 (l3 _ (.head _))

set_option maxHeartbeats 4000000 in
theorem x_make {w : World} {mean : ExcName → Option Value} {mg mb : Str → Option Value} {A A₀ : Around} {env : Env} {outer : List Env} {base h₀ : Heap} {L : Addr} {m : Str → Option Value} {s : Shared} {Q E : Value → Shared → Prop}
  {rest : List (Addr × Obj)} {C : Addr} {v : Value} (hC : C = 59 ∨ C = 71) 
  (B : Below A₀ base outer h₀) (F : Fr h₀ L s.heap m) (X : (hd.heap_39 w.params).In h₀) (N : News h₀ L s.heap rest) (T : TopG mean mg mb h₀) 
  (hA : A.frames = some (env :: outer)) (hf : env.frame = some L) (hk : env.scope.kind = .function)
  (hdp : A.depth + 1 < recursionLimit) 
  (hret : ∀ e t2 dx h' tk' k1 k2, Fr h₀ L h' m → News h₀ L h' ((e, excT C t2 dx .none .none) :: (dx, whatD w k1 k2 v) :: (t2, { cls := .type "tuple", data := .seq #[v] }) :: rest) → (∀ p ∈ rest, p.1 < e) → e < t2 → t2 < dx → Q (.ref e) { s with heap := h', toks := tk' }) :
  wpAny (model Challenge.rw_qz0049_01.row.prog w) A (call (.ref C) [v]) Q E s := by
  revert X; k_fill; intro X
  obtain ⟨hp, g, d, tk, os⟩ := s
  have hC59 := X 59 (excClassObj _ _ _ _ _ _ _ _ _ _ _ _ _ _ _ _ _ _) (by k_dflt k_is)
  have hC71 := X 71 (excClassObj _ _ _ _ _ _ _ _ _ _ _ _ _ _ _ _ _ _) (by k_dflt k_is)
  have F2 := (F.push { cls := .type "tuple", data := .seq [v].toArray }).push (excO C hp.objs.size none)
  have N2 := (N.push F { cls := .type "tuple", data := .seq [v].toArray }).push (F.push _) (excO C hp.objs.size none)
  rw [Heap.size_push] at N2
  have lt : ∀ p ∈ rest, p.1 < hp.objs.size := fun p hp' => Heap.lt_size (N p hp').1
  have hA' : (A.under (.builtin "type.__call__" ⟨[.ref C, v], []⟩)).frames = some (env :: outer) := by simpa [Around.under, Code.envs, Code.isFrame, pushEnvs] using hA
  have fin : codeAny (model Challenge.rw_qz0049_01.row.prog w) (A.under (.builtin "type.__call__" ⟨[.ref C, v], []⟩)) (.call (.ref 36) ⟨[.ref (hp.objs.size + 1), v], []⟩)
      (InitBack (hp.objs.size + 1) fun r s' => match r with | .ok (.ret v) => Q v s' | .ok _ => False | .error e => E e s') ⟨(hp.push { cls := .type "tuple", data := .seq [v].toArray }).push (excO C hp.objs.size none), g, d, tk, os⟩ := by
    refine x_init hC B F2 X N2 T hA' hf hk ?_ ?_ ?_
    · intro p hp'
      rcases List.mem_cons.mp hp' with rfl | hp'
      · exact Nat.ne_of_lt (Nat.lt_succ_self _)
      · exact Nat.ne_of_lt (Nat.lt_succ_of_lt (lt p hp'))
    · simp only [depth_under_make]; omega
    · intro t2 dx h' tk' k1 k2 F' N' l1 l2 l3
      exact ⟨rfl, hret _ t2 dx h' tk' k1 k2 F' (fun p hp' => N' p (by
        rcases List.mem_cons.mp hp' with rfl | hp'
        · exact .head _
        · rcases List.mem_cons.mp hp' with rfl | hp'
          · exact .tail _ (.head _)
          · rcases List.mem_cons.mp hp' with rfl | hp'
            · exact .tail _ (.tail _ (.head _))
            · exact .tail _ (.tail _ (.tail _ (.tail _ hp'))))) (fun p hp' => Nat.lt_succ_of_lt (lt p hp')) l2 l3⟩
  rcases hC with rfl | rfl
  · refine wpAny_call (x_call (fI := 36) (X.keeps F.keep) (F.keep _ _ hC59) (by decide) (by decide) (by decide) (by rw [sizeLine_eq]; exact Nat.le_of_ble_eq_true rfl) ?h1 ?h2 ?h3 ?h4 fin)
    all_goals k_dflt k_is
  · refine wpAny_call (x_call (fI := 36) (X.keeps F.keep) (F.keep _ _ hC71) (by decide) (by decide) (by decide) (by rw [sizeLine_eq]; exact Nat.le_of_ble_eq_true rfl) ?h1 ?h2 ?h3 ?h4 fin)
    all_goals k_dflt k_is
end Mine
namespace Mine
open PySem PySem.W PySem.Calls PyProof.Rows Builtin Builtin.ObjectAttr
/-- the class C is an exception class of the text's -/
def ExcCls (h : Heap) (C : Addr) : Prop := ∃ nm q N bs bm hdct sn sub ab col dd k0 k1 k2 k3 k5, h.get? C = some (excClassObj nm q C N bs bm hdct sn sub ab col dd k0 k1 k2 k3 k5 "Exception.__new__") ∧ bm.contains (.type "BaseException") = true
theorem ExcCls.keeps {h h' : Heap} {C : Addr} (x : ExcCls h C) (k : ∀ b o, h.get? b = some o → h'.get? b = some o) : ExcCls h' C := by
  obtain ⟨nm, q, N, bs, bm, hdct, sn, sub, ab, col, dd, k0, k1, k2, k3, k5, a, b⟩ := x
  exact ⟨nm, q, N, bs, bm, hdct, sn, sub, ab, col, dd, k0, k1, k2, k3, k5, k _ _ a, b⟩
section
variable {M : Model} {A : Around} {E : Value → Shared → Prop} {s : Shared} {env : Env}

/-- raise of an exception freshly made -/
theorem x_raise {ex : Expr} {pos : Pos} {Q : Flow → Shared → Prop}
    (h : wpAny M A (eval ex env) (fun v s₁ => ∃ C e t dx cx, v = .ref e ∧ ExcCls s₁.heap C ∧ s₁.heap.get? e = some (excT C t dx cx .none) ∧ wpAny M A (raiseNew (.ref e)) Q E s₁) E s) :
    wpAny M A (exec (.Raise (some ex) none pos) env) Q E s := by
  rw [arm_exec_Raise]
  refine wpAny_bind (wpAny_standAt ?_)
  unfold raiseStmt
  simp only [evalOpt, Option.map]
  refine wpAny_bind (wpAny_bind (wpAny_mono h (fun v s₁ h₁ => wpAny_bind (wpAny_standAt (wpAny_pure ?_))) fun _ _ x => x))
  obtain ⟨C, e, t, dx, cx, rfl, ⟨nm, q, N, bs, bm, hdct, sn, sub, ab, col, dd, k0, k1, k2, k3, k5, hC, hbase⟩, he, hE⟩ := h₁
  have hcB : (Value.ref C :: bm).contains (.type "BaseException") = true := by rw [List.contains_cons, hbase, Bool.or_true]
  obtain ⟨hp, g, d, tk, os⟩ := s₁
  repeat (first | with_reducible refine wpAny_loadPart_at he ?_ | with_reducible refine wpAny_loadPart_at hC ?_ | (with_reducible refine wpAny_isSubtype_exc hC ?_; rw [hcB]) | wp_step)
  exact hE

set_option maxHeartbeats 2000000 in
/-- the handled exception raised again -/
theorem x_reraise {ex : Expr} {pos : Pos} {Q : Flow → Shared → Prop} {e : Addr} (hh : A.handled = some (.ref e))
    (h : wpAny M A (eval ex env) (fun v s₁ => ∃ base l C t dx cx fl, v = .ref e ∧ ExcCls s₁.heap C ∧ Flies base l e C t dx cx fl s₁.heap ∧
      ∀ h', Flies base l e C t dx cx .none h' → s₁.heap.UpToSlots h' → E (.ref e) { s₁ with heap := h' }) E s) :
    wpAny M A (exec (.Raise (some ex) none pos) env) Q E s := by
  rw [arm_exec_Raise]
  refine wpAny_bind (wpAny_standAt ?_)
  unfold raiseStmt
  simp only [evalOpt, Option.map]
  refine wpAny_bind (wpAny_bind (wpAny_mono h (fun v s₁ h₁ => wpAny_bind (wpAny_standAt (wpAny_pure ?_))) fun _ _ x => x))
  obtain ⟨base, l, C, t, dx, cx, fl, rfl, ⟨nm, q, N, bs, bm, hdct, sn, sub, ab, col, dd, k0, k1, k2, k3, k5, hC, hbase⟩, hfl, hE⟩ := h₁
  have hcB : (Value.ref C :: bm).contains (.type "BaseException") = true := by rw [List.contains_cons, hbase, Bool.or_true]
  obtain ⟨T, oT, ts, he, _⟩ := hfl.there
  obtain ⟨hp, g, d, tk, os⟩ := s₁
  repeat (first | with_reducible refine wpAny_loadPart_at he ?_ | with_reducible refine wpAny_loadPart_at hC ?_ | (with_reducible refine wpAny_isSubtype_exc hC ?_; rw [hcB]) | with_reducible refine fl_flight hfl ?_ | wp_step)
  intro h' x u
  unfold raiseNew
  refine wpAny_bind (wpAny_handled ?_)
  rw [hh]
  dsimp only
  rw [if_neg (by simp)]
  exact wpAny_throw (hE h' x u)

/-- an exception raised while another is handled -/
theorem x_raiseNew {prog : Program} {w : World} {e e₀ C t dx C₀ t₀ dx₀ : Addr} {tb₀ : Value} {Q : Flow → Shared → Prop} (hh : A.handled = some (.ref e₀)) (hne : e₀ ≠ e) (he : s.heap.get? e = some (excT C t dx .none .none)) (he₀ : s.heap.get? e₀ = some (excT C₀ t₀ dx₀ .none tb₀))
    (h : E (.ref e) { s with heap := s.heap.update e (Obj.mapFields (·.setIfInBounds 2 (.ref e₀))) }) : wpAny (model prog w) A (raiseNew (.ref e) : Sem Flow) Q E s := by
  unfold raiseNew
  refine wpAny_bind (wpAny_handled ?_)
  rw [hh]
  dsimp only
  rw [if_pos (by simp [hne])]
  refine wpAny_bind (wpAny_holding (wpAny_runValue (codeAny_builtin (entryFor_of_fast (by kernel_rfl) : entryFor table "proto.unchain" = some Builtin.«proto.unchain») ?_)))
  unfold Builtin.«proto.unchain»
  dsimp only
  refine wpAny_bind (wpAny_field he₀ rfl (x := .none) rfl ?_)
  rw [if_pos (by rfl)]
  refine wpAny_bind (wpAny_pure (wpAny_pure ?_))
  show wpAny (model prog w) A (updateField e 2 (.ref e₀) >>= fun _ => throw (.ref e)) Q E s
  unfold updateField
  refine wpAny_bind (wpAny_bind (wpAny_load he ?_))
  dsimp only
  rw [if_pos (by simp)]
  exact wpAny_update' he (wpAny_throw h)
end
end Mine
namespace Mine
open PySem PySem.W PySem.Calls PyProof.Rows Builtin Builtin.ObjectAttr
section
variable {prog : Program} {w : World} {A : Around} {E : Value → Shared → Prop} {s : Shared} {K : Frag} {x C : Addr} {ox : Obj} {od : Option Obj} {name : Str} {expr : Bool} {Q : Value → Shared → Prop}
set_option maxHeartbeats 1000000 in
theorem x_getattr {v : Value} (X : K.In s.heap) (I : InstAt s.heap x ox C od) (hga : findIn K (.ref C) "__getattribute__" = some (some (.builtin "BaseException.__getattribute__"))) (hgt : findIn K (.ref C) "__getattr__" = some none) (hsub : subIn K (.ref C) (.type "BaseException") = some true)
    (hf : findObj K C od name = some (.value v)) (hh : handedIn v = true) (h : Q v { s with toks := s.toks + 1 }) : wpAny (model prog w) A (getAttr (.ref x) name expr) Q E s := by
  obtain ⟨hh', g, d, t, os⟩ := s
  have FB := PySem.F.attr_Exception
  have L0 := I.type (M := model prog w)
  have L1 := looks_findIn (M := model prog w) X hga
  have L2 := looks_find (M := model prog w) X I hf
  have L3 := looks_findIn (M := model prog w) X hgt
  have L4 : Looks (model prog w) hh' (isInstance (.ref x) (.type "BaseException")) true := L0.andThen (looks_subIn X hsub)
  have f3 := FB.ga.bind (.ref x)
  have hx0 : (expr && onTheHeap (Value.builtin "BaseException.__getattribute__")) = false := by cases expr <;> rfl
  have hx2 : (Value.builtin "BaseException.__getattribute__" == Value.builtin "object.__getattribute__") = false := by decide +kernel
  have hx1 : (onTheHeap (Value.ref C) && Value.builtin "BaseException.__getattribute__" == Value.builtin "object.__getattribute__") = false := by rw [hx2]; rfl
  have hk : builtinKind "BaseException.__getattribute__" = some .slot := by decide +kernel
  have hsplit : splitId "BaseException.__getattribute__" = some ("BaseException", "__getattribute__") := by decide +kernel
  have body : codeAny (model prog w) A (.call (.builtin "BaseException.__getattribute__") ⟨[.ref x, .str name t], []⟩) (fun r s' => match r with | .ok (.ret v) => wpAny (model prog w) A (handedOut v) Q E s' | .ok _ => False | .error e => False) ⟨hh', g, d, t + 1, os⟩ := by
    refine codeAny_call_builtin FB.ga.plain F.entry_bexc_ga (@check_slot (model prog w) _ _ ⟨hh', g, d, t + 1, os⟩ "BaseException.__getattribute__" "BaseException" "__getattribute__" (.ref x) [.str name t] [] _ hk hsplit L4 (F.args_bexc_ga (.ref x) (.str name t)) ?_)
    refine wpAny_bind (wpAny_pure (wpAny_bind (wpAny_pure (wpAny_bind (L0.at (wpAny_bind (L2.at ?_)))))))
    refine wpAny_pure ?_
    show wpAny _ _ (handedOut v) _ _ _
    rw [handedOut_of hh]; exact wpAny_pure h
  unfold getAttr getAttrBy
  refine wpAny_bind (wpAny_mkText (wpAny_holding (wpAny_bind (L0.at (wpAny_bind (L1.at ?_))))))
  dsimp only
  rw [hx1]
  simp only [Bool.false_eq_true, if_false]
  unfold getAttrByItsOwn callGetattribute
  rw [hx0]
  simp only [Bool.false_eq_true, if_false]
  show wpAny _ _ (typeLookup (.ref C) "__getattr__" >>= _) _ _ _
  refine wpAny_bind (L3.at (wpAny_bind (wpAny_attempt (wpAny_holding ?_))))
  unfold boundAndCalled
  rw [f3]
  refine wpAny_bind (wpAny_pure (wpAny_call (codeAny_mono body fun r s' z => ?_)))
  rcases r with e | (v | _ | _ | _) <;> first | exact z | exact z.elim
end
end Mine
namespace Mine
open PySem PySem.W PySem.Calls PyProof.Rows Builtin Builtin.ObjectAttr
/-- an exception of the text's flies over the frames l; the ledger stands -/
def RaisedX (base : Heap) (l : List Env) (e C t dx : Addr) (cx : Value) (news : List (Addr × Obj)) (h : Heap) : Prop :=
  ∃ B, base.StaysIn B ∧ (∀ q ∈ news, B.get? q.1 = some q.2 ∧ base.get? q.1 = none) ∧ Flies B l e C t dx cx .none h
/-- as RaisedX, but held by the frame L -/
def HeldX (base : Heap) (l : List Env) (e C t dx : Addr) (cx fl : Value) (news : List (Addr × Obj)) (h : Heap) : Prop :=
  ∃ B, base.StaysIn B ∧ (∀ q ∈ news, B.get? q.1 = some q.2 ∧ base.get? q.1 = none) ∧ Flies B l e C t dx cx fl h
theorem RaisedX.mono {base h : Heap} {l : List Env} {e C t dx : Addr} {cx : Value} {news news' : List (Addr × Obj)} (x : RaisedX base l e C t dx cx news h) (hs : ∀ q ∈ news', q ∈ news) : RaisedX base l e C t dx cx news' h :=
  let ⟨B, a, b, c⟩ := x; ⟨B, a, fun q hq => b q (hs q hq), c⟩

section
variable {A : Around} {h base g : Heap} {env : Env} {outer : List Env} {L e : Addr} {m : Str → Option Value} {news : List (Addr × Obj)}
/-- the ground below a frame: all that stands but what is hidden and the frames -/
theorem x_ground (Kb : Below A base outer g) (F : Fr g L h m) (hf : env.frame = some L) (hk : env.scope.kind = .function) (as : List Addr) (hb : ∀ a ∈ as, g.get? a = none) (N : News g L h news) (hnews : ∀ q ∈ news, q.1 ∉ as) :
    ∃ B : Heap, base.StaysIn B ∧ (∀ q ∈ news, B.get? q.1 = some q.2 ∧ base.get? q.1 = none) ∧ B.StaysIn h ∧ (∀ a ∈ as, B.get? a = none) ∧ h.FunFrames B (env :: outer) := by
  have K' := pushX Kb F hf hk
  let fr := (env :: outer).filterMap (·.frame)
  have baseNone : ∀ a, g.get? a = none → base.get? a = none := fun a q => fresh_of_stays Kb.stays q
  have frNone : ∀ a ∈ fr, base.get? a = none := fun a ha => (K'.frames.mem ha).1
  refine ⟨hideAll h (as ++ fr), fun b o q => hideAll_get _ (K'.stays b o q) fun hm => ?_, fun q hq => ⟨hideAll_get _ (N q hq).1 fun hm => ?_, baseNone _ (N q hq).2.2⟩, fun b o q => of_hideAll _ q, fun a ha => hideAll_none _ (List.mem_append_left _ ha),
    funFrames_hide K'.frames fun env' he a ha => List.mem_append_right _ (List.mem_filterMap.mpr ⟨env', he, ha⟩)⟩
  · rcases List.mem_append.mp hm with hm | hm
    · rw [baseNone b (hb b hm)] at q; cases q
    · rw [frNone b hm] at q; cases q
  · rcases List.mem_append.mp hm with hm | hm
    · exact hnews q hq hm
    · obtain ⟨env', he, hf'⟩ := List.mem_filterMap.mp hm
      rcases List.mem_cons.mp he with rfl | he
      · rw [hf] at hf'; exact (N q hq).2.1 (Option.some.inj hf').symm
      · obtain ⟨o, ho, _⟩ := (Kb.frames.mem (List.mem_filterMap.mpr ⟨env', he, hf'⟩)).2
        rw [(N q hq).2.2] at ho; cases ho
end

section
variable {M : Model} {A : Around} {E : Value → Shared → Prop} {s' : Shared} {base g g₂ : Heap} {env : Env} {outer : List Env} {L e C t dx : Addr} {cx : Value} {m : Str → Option Value} {Q : Unit → Shared → Prop} {news : List (Addr × Obj)}
/-- an exception made in the frame leaves it -/
theorem x_leaveK (Kb : Below A base outer g) (F : Fr g L s'.heap m) (hf : env.frame = some L) (hk : env.scope.kind = .function) (N : News g L s'.heap ((e, excT C t dx cx .none) :: news)) (hne : ∀ p ∈ news, p.1 ≠ e)
    (hQ : ∀ h', RaisedX base outer e C t dx cx news h' → g.UpToSlots h' → Q () { s' with heap := h' }) :
    wpAny M (A.deeper env) (leaving env (.ref e)) Q E s' := by
  have he := N _ (.head _)
  obtain ⟨B, b1, b2, b3, b4, b5⟩ := x_ground Kb F hf hk [e] (fun a ha => by rw [List.mem_singleton.mp ha]; exact he.2.2) (fun p hp => N p (.tail _ hp)) fun q hq hm => hne q hq (List.mem_singleton.mp hm)
  refine fl_leave_first (Around.frames_deeper Kb.stack) b5 hf he.1 b3 (b4 e (.head _)) fun h' x u => ?_
  exact hQ h' ⟨B, b1, b2, x⟩ ((Heap.UpToSlots.of_keeps F.keep).trans u)
/-- an exception raised below the frame leaves it -/
theorem x_leaveOn (Kb : Below A base outer g) (F : Fr g L g₂ m) (hf : env.frame = some L) (R : RaisedX base (env :: outer) e C t dx cx news s'.heap) (hsm : g₂.UpToSlots s'.heap)
    (hQ : ∀ h', RaisedX base outer e C t dx cx news h' → g.UpToSlots h' → Q () { s' with heap := h' }) :
    wpAny M (A.deeper env) (leaving env (.ref e)) Q E s' := by
  obtain ⟨B, b1, b2, x⟩ := R
  exact fl_leave_next (Around.frames_deeper Kb.stack) hf x fun h' x' u => hQ h' ⟨B, b1, b2, x'⟩ ((Heap.UpToSlots.of_keeps F.keep).trans (hsm.trans u))
end

theorem x_matches {M : Model} {A : Around} {E : Value → Shared → Prop} {s : Shared} {K : Frag} {e C D : Addr} {oe : Obj} {b : Bool} {cd : ClassData} {Q : Bool → Shared → Prop} (X : K.In s.heap) (he : s.heap.get? e = some oe) (hc : oe.cls = .ref C)
    (hD : clsIn K D = some cd) (ht : instIn K (.ref D) (.type "tuple") = some false) (hb : subIn K (.ref D) (.type "BaseException") = some true) (hs : subIn K (.ref C) (.ref D) = some b) (h : Q b s) : wpAny M A (excMatches (.ref e) (.ref D)) Q E s := by
  have L1 := looks_instIn (M := M) X ht
  have L2 := looks_subIn (M := M) X hb
  have L3 := looks_subIn (M := M) X hs
  have L4 := looks_clsIn (M := M) X hD
  have L5 : Looks M s.heap (typeOf (.ref e)) (.ref C) := hc ▸ (Looks.ld he).andThen .now
  obtain ⟨o, ho, hod⟩ : ∃ o, s.heap.get? D = some o ∧ o.data = .cls cd := by
    unfold clsIn at hD
    split at hD
    · rename_i q; cases hD; exact ⟨_, X _ _ q, rfl⟩
    · cases hD
  have L6 : Looks M s.heap (isExcClass (.ref D)) true := by
    unfold isExcClass isType
    refine Looks.andThen (a := true) (Looks.andThen (Looks.ld ho) ?_) L2
    rw [hod]; exact .now
  obtain ⟨hp, g, d, tk, os⟩ := s
  unfold excMatches
  refine wpAny_bind (L1.at ?_)
  simp only [Bool.false_eq_true, if_false]
  refine wpAny_bind (wpAny_pure (wpAny_bind ?_))
  simp only [List.forIn_cons, List.forIn_nil]
  refine wpAny_bind (wpAny_bind (L6.at ?_))
  simp only [Bool.not_true, Bool.false_eq_true, if_false]
  refine wpAny_pure (wpAny_pure (wpAny_bind (L5.at (wpAny_bind (wpAny_bind (wpAny_bind (L3.at ?_)))))))
  cases b with
  | true => simp only [if_true]; exact wpAny_pure (wpAny_pure (wpAny_pure h))
  | false => simp only [Bool.false_eq_true, if_false]; exact wpAny_pure (wpAny_pure (wpAny_pure h))

section
variable {prog : Program} {w : World} {A : Around} {E : Value → Shared → Prop} {s : Shared} {env : Env} {e D : Addr} {x : Expr} {pos : Pos} {rest : List ExceptHandler} {Q : Flow → Shared → Prop}
/-- a clause whose class the exception is not of -/
theorem x_skip {name : Option Str} {body : List Stmt} (hev : ∀ Q' E', Q' (.ref D) s → wpAny (model prog w) (A.mark (some (.ref e))) (eval x env) Q' E' s)
    (hm : ∀ Q' E', Q' false s → wpAny (model prog w) (A.mark (some (.ref e))) (excMatches (.ref e) (.ref D)) Q' E' s)
    (h : wpAny (model prog w) A (handleBy (.ref e) env rest) Q E s) : wpAny (model prog w) A (handleBy (.ref e) env (.ExceptHandler (some x) name body pos :: rest)) Q E s :=
  wpAny_handleBy_cons (codeAny_handlers_test (hev _ _ (hm _ _ h))) (by intro q; cases q)
/-- the clause that takes it, without a name -/
theorem x_take {b₀ : Stmt} {body : List Stmt} (hev : ∀ Q' E', Q' (.ref D) s → wpAny (model prog w) (A.mark (some (.ref e))) (eval x env) Q' E' s)
    (hm : ∀ Q' E', Q' true s → wpAny (model prog w) (A.mark (some (.ref e))) (excMatches (.ref e) (.ref D)) Q' E' s)
    (h : ∀ E', wpAny (model prog w) (A.mark (some (.ref e))) (setFlight (.ref e) none) (fun _ s₁ => wpAny (model prog w) (A.mark (some (.ref e))) (execs (b₀ :: body) env) Q E' s₁) E' s) :
    wpAny (model prog w) A (handleBy (.ref e) env (.ExceptHandler (some x) none (b₀ :: body) pos :: rest)) Q E s :=
  wpAny_handleBy_cons (codeAny_handlers_test (hev _ _ (hm _ _ (codeAny_handlers_suite (wpAny_mono (h _) (fun _ _ z => z) fun _ _ z => z))))) (by intro q; cases q)
/-- the clause that takes it, with a name -/
theorem x_takeAs {n : Str} {b₀ : Stmt} {body : List Stmt} (hev : ∀ Q' E', Q' (.ref D) s → wpAny (model prog w) (A.mark (some (.ref e))) (eval x env) Q' E' s)
    (hm : ∀ Q' E', Q' true s → wpAny (model prog w) (A.mark (some (.ref e))) (excMatches (.ref e) (.ref D)) Q' E' s)
    (h : wpAny (model prog w) (A.mark (some (.ref e))) (setFlight (.ref e) none) (fun _ s₁ => wpAny (model prog w) (A.mark (some (.ref e))) (storeName env n (.ref e)) (fun _ s₂ =>
        wpAny (model prog w) (A.mark (some (.ref e))) (execs (b₀ :: body) env) (fun _ _ => False)
          (AsSuiteRaised (model prog w) (A.mark (some (.ref e))) env n pos (notedBy (model prog w) (A.mark (some (.ref e))) env (cameBackBy (model prog w) A env E))) s₂)
        (notedBy (model prog w) (A.mark (some (.ref e))) env (cameBackBy (model prog w) A env E)) s₁) (notedBy (model prog w) (A.mark (some (.ref e))) env (cameBackBy (model prog w) A env E)) s) :
    wpAny (model prog w) A (handleBy (.ref e) env (.ExceptHandler (some x) (some n) (b₀ :: body) pos :: rest)) Q E s :=
  wpAny_handleBy_cons (codeAny_handlers_test (hev _ _ (hm _ _ (codeAny_handlers_suite_as (wpAny_mono h (fun _ _ z => wpAny_mono z (fun _ _ z => wpAny_mono z (fun _ _ z => z.elim) fun _ _ z => z) fun _ _ z => z) fun _ _ z => z))))) (by intro q; cases q)
end
end Mine
namespace Mine
open PySem PySem.W PySem.Calls PyProof.Rows Builtin Builtin.ObjectAttr
section
variable {M : Model} {A : Around} {E : Value → Shared → Prop} {s : Shared} {B h h' : Heap} {env : Env} {outer : List Env} {L e C t dx : Addr} {cx fl : Value} {m : Str → Option Value}
theorem Flies.store (x : Flies B (env :: outer) e C t dx cx fl h) (hf : env.frame = some L) (hs : Heap.SameBut L h h') (hn : h'.Ns L m) (hout : ∀ env' ∈ outer, env'.frame ≠ some L) : Flies B (env :: outer) e C t dx cx fl h' := by
  obtain ⟨hkb, hen, ⟨hk, ⟨L', o, hL, hbL, ho, hnf⟩, hl⟩, T, oT, ts, he, hnT, hTe, hT, hdT, h3⟩ := x
  rw [hf] at hL
  cases hL
  have eL : e ≠ L := fun q => by rw [q, ho] at he; cases he; exact hnf _ rfl
  have tL : T ≠ L := fun q => by rw [q, ho] at hT; cases hT; exact hnf _ hdT
  obtain ⟨o', es, ep, ho', hd', _⟩ := hn
  refine ⟨fun b ob q => (hs.2 b fun z => by rw [z, hbL] at q; cases q).trans (hkb b ob q), hen, ⟨hk, ⟨L, o', hf, hbL, ho', fun vs q => by rw [hd'] at q; cases q⟩, ?_⟩, T, oT, ts, (hs.2 e eL).trans he, hnT, hTe, (hs.2 T tL).trans hT, hdT, h3⟩
  have go : ∀ l : List Env, (∀ env' ∈ l, env'.frame ≠ some L) → h.FunFrames B l → h'.FunFrames B l := by
    intro l
    induction l with
    | nil => intro _ _; trivial
    | cons a r ih =>
      rintro hne ⟨k1, ⟨L₁, o₁, a1, a2, a3, a4⟩, k2⟩
      exact ⟨k1, ⟨L₁, o₁, a1, a2, (hs.2 L₁ fun z => hne a (.head _) (z ▸ a1)).trans a3, a4⟩, ih (fun env' he => hne env' (.tail _ he)) k2⟩
  exact go outer hout hl

theorem x_asSuite {A' : Around} {n : Str} {pos : Pos} (hf : env.frame = some L) (hloc : env.locals = L) (hl : env.kindOf n = some .local) (hp : (env.scope.kind == .class || (env.scope.kind == .module && env.locals != env.globals)) = false)
    (hns : s.heap.Ns L m) (hout : ∀ env' ∈ outer, env'.frame ≠ some L)
    (note : ∀ Q' E', (∀ h', Flies B (env :: outer) e C t dx cx (rawInt L) h' → s.heap.UpToSlots h' → Q' () { s with heap := h' }) → wpAny M A' (noteFrame (.ref e) env) Q' E' s)
    (hE : ∀ h' tk', Flies B (env :: outer) e C t dx cx (rawInt L) h' → E (.ref e) { s with heap := h', toks := tk' }) :
    AsSuiteRaised M A' env n pos (notedBy M A' env (cameBackBy M A env E)) (.ref e) s := by
  refine note _ _ fun h₁ x₁ u₁ => ?_
  refine wpAny_nameGoes (s := { s with heap := h₁ }) hl (hloc ▸ u₁.ns hns) hp fun h₂ m₂ n₂ k₂ => ?_
  rw [hloc] at n₂ k₂
  have x₂ := x₁.store hf k₂ n₂ hout
  obtain ⟨T, oT, ts, he, hnT, hTe, hT, hdT, h3⟩ := x₂.there
  have neN : ¬ ((Value.ref T == Value.none) = true) := by simp
  unfold PySem.passOn
  refine wpAny_bind (wpAny_field he rfl (x := .ref T) rfl ?_)
  rw [if_neg neN]
  refine wpAny_bind ?_
  rw [hf]
  refine fl_flight (s := { s with heap := h₂, toks := s.toks + 1 }) (fr := some L) x₂ fun h₃ x₃ u₃ => wpAny_throw ?_
  refine fl_again (s := { s with heap := h₃, toks := s.toks + 1 }) hf x₃ ?_
  obtain ⟨T, oT, ts, he, hnT, hTe, hT, hdT, h3⟩ := x₃.there
  have neN : ¬ ((Value.ref T == Value.none) = true) := by simp
  refine wpAny_bind (wpAny_field he rfl (x := .ref T) rfl ?_)
  rw [if_neg neN, hf]
  exact fl_flight (s := { s with heap := h₃, toks := s.toks + 1 }) (fr := some L) x₃ fun h₄ x₄ u₄ => hE h₄ _ x₄
end

/-- the heap below an address -/
def cut (h : Heap) (n : Nat) : Heap := { h with objs := h.objs.extract 0 n }
theorem cut_arr {α : Type} (xs : Array α) (n b : Nat) (hb : b < n) : (xs.extract 0 n)[b]? = xs[b]? := by
  by_cases q : b < xs.size
  · rw [Array.getElem?_extract]; simp [hb, q]; omega
  · rw [Array.getElem?_eq_none (by simp; omega), Array.getElem?_eq_none (by omega)]
theorem cut_get {h : Heap} {n : Nat} {b : Addr} (hb : b < n) : (cut h n).get? b = h.get? b := by
  unfold cut Heap.get?
  dsimp only
  rw [cut_arr h.objs n b hb]
theorem cut_size (h : Heap) (n : Nat) : (cut h n).objs.size ≤ n := by unfold cut; simp; omega
theorem of_cut {h : Heap} {n : Nat} {b : Addr} {o : Obj} (q : (cut h n).get? b = some o) : b < n ∧ h.get? b = some o := by
  have hb : b < n := Nat.lt_of_lt_of_le (Heap.lt_size q) (cut_size h n)
  exact ⟨hb, (cut_get hb) ▸ q⟩

/-- a frame's ground after an exception went by: the frames' slots have turned -/
theorem x_rebase {A : Around} {base g h h' : Heap} {outer : List Env} {L : Addr} {m : Str → Option Value} {news : List (Addr × Obj)} (Kb : Below A base outer g) (F : Fr g L h m) (u : g.UpToSlots h') (uh : h.UpToSlots h') (hb : base.StaysIn h')
    (N : ∀ q ∈ news, h'.get? q.1 = some q.2 ∧ q.1 ≠ L ∧ g.get? q.1 = none) :
    ∃ g', Below A base outer g' ∧ Fr g' L h' m ∧ News g' L h' news ∧ g'.StaysIn h' := by
  have gL : ∀ b o, g.get? b = some o → b < L := fun b o q => Nat.lt_of_lt_of_le (Heap.lt_size q) F.above
  have off : ∀ b o, g.get? b = some o → b ∉ news.map (·.1) := fun b o q hm => by
    obtain ⟨p, hp, rfl⟩ := List.mem_map.mp hm
    rw [(N p hp).2.2] at q; cases q
  have st : ∀ b o, (hideAll (cut h' L) (news.map (·.1))).get? b = some o → h'.get? b = some o := fun b o q => (of_cut (of_hideAll _ q)).2
  refine ⟨hideAll (cut h' L) (news.map (·.1)), ⟨Kb.stack, fun b o q => ?_, ?_⟩, ⟨uh.ns F.ns, st, ?_⟩, fun p hp => ⟨(N p hp).1, (N p hp).2.1, hideAll_none _ (List.mem_map_of_mem hp)⟩, fun b o q => st b o q⟩
  · have q' := Kb.stays b o q
    exact hideAll_get _ ((cut_get (gL b o q')).trans (hb b o q)) (off b o q')
  · have go : ∀ l : List Env, g.FunFrames base l → (hideAll (cut h' L) (news.map (·.1))).FunFrames base l := by
      intro l
      induction l with
      | nil => intro _; trivial
      | cons a r ih =>
        rintro ⟨k1, ⟨L₁, o₁, a1, a2, a3, a4⟩, k2⟩
        obtain ⟨sl, q⟩ := u L₁ o₁ a3 a4
        exact ⟨k1, ⟨L₁, _, a1, a2, hideAll_get _ ((cut_get (gL L₁ o₁ a3)).trans q) (off L₁ o₁ a3), a4⟩, ih k2⟩
    exact go outer Kb.frames
  · rw [hideAll_size]; exact cut_size h' L
end Mine
namespace Mine
open PySem PySem.W PyProof.Rows
local macro_rules | `(tactic| walk_at "pad L1 0") => `(tactic| skip)
local macro_rules | `(tactic| k_all) => `(tactic| assumption)
theorem mulOk_sm {a b : Int} (h0 : 0 ≤ b) (h1 : b < 2 ^ 60) : IntMulOk a b := IntMulOk.of_right (PySem.intBits_le_64 (by omega) (by omega))
local macro_rules | `(tactic| walk_at "binaryOp Mult int int") => `(tactic| (refine mul_int ?_ (mulOk_sm (by simp; omega) (by simp; omega))))
abbrev penObj (x y z : Int) (tx ty tz : Tok) (n : Nat) : Obj := W.listOf #[.int x tx, .int y ty, .int z tz] n
set_option maxHeartbeats 4000000 in
theorem take_ok {w : World} {mean : ExcName → Option Value} {mg mb : Str → Option Value} {dp un : Nat} {gd : Option (List Code)} {cn : Str} {cs : Scope} {a : Addr} {ccd : Value} {cl : List (Str × Addr)} {outer : List Env} {A₀ : Around} {base h₀ : Heap} {L : Addr} {m : Str → Option Value} {s : Shared} {Q E : Value → Shared → Prop}
  {rest : List (Addr × Obj)} {pa : Addr} {n : Nat} {x y z k : Int} {tx ty tz tk : Tok}
  (B : Below A₀ base outer h₀) (F : Fr h₀ L s.heap m) (X : (hd.heap_39 w.params).In h₀) (N : News h₀ L s.heap ((pa, W.listOf #[.int x tx, .int y ty, .int z tz] n) :: rest)) (T : TopG mean mg mb h₀) (hk : cs.kind = .function)
  (hne : ∀ p ∈ rest, p.1 ≠ pa) (hx : 0 ≤ x) (hy : 0 ≤ y) (hz : 0 ≤ z) (hz1 : z < 1000) (hk0 : 0 < k) (hk1 : k < 100)
  (hdp : dp + 5 < recursionLimit) (hun : un + 20 < cLine)
  (hret : ∀ v tv h' tk' n' x' y' z' tx' ty' tz', Fr h₀ L h' m → News h₀ L h' ((pa, W.listOf #[.int x' tx', .int y' ty', .int z' tz'] n') :: rest) → 0 ≤ v → v < k → 0 ≤ x' → 0 ≤ y' → 0 ≤ z' → z' ≤ z + 1 → Q (.int v tv) { s with heap := h', toks := tk' }) :
  wpAny (model Challenge.rw_qz0049_01.row.prog w) (ktrTop dp un gd cn cs L a ccd cl outer) (call (.ref 277) [.ref pa, .int k tk]) Q E s := by
  revert X; k_fill; intro X
  refine wpAny_call ?_
  k_dflt cell_enter
  k_steps
  · refine hret _ _ _ _ _ _ _ _ _ _ _ (by assumption) (by assumption) (Int.fmod_nonneg_of_pos _ hk0) (Int.fmod_lt_of_pos _ hk0) (Int.fdiv_nonneg hx (by omega)) hy hz (by omega)
  · refine hret _ _ _ _ _ _ _ _ _ _ _ (by assumption) (by assumption) (Int.fmod_nonneg_of_pos _ hk0) (Int.fmod_lt_of_pos _ hk0) hx (Int.fmod_nonneg_of_pos _ (by omega)) (Int.add_nonneg hz (by omega)) (Int.le_refl _)
/-- the pen: a list of three numbers, none below nought; b bounds the third -/
def PenB (b : Int) (o : Obj) : Prop := ∃ x y z tx ty tz n, o = W.listOf #[.int x tx, .int y ty, .int z tz] n ∧ 0 ≤ x ∧ 0 ≤ y ∧ 0 ≤ z ∧ z ≤ b
theorem PenB.mono {b c : Int} {o : Obj} (h : PenB b o) (hc : b ≤ c) : PenB c o := by
  obtain ⟨x, y, z, tx, ty, tz, n, e, hx, hy, hz, hb⟩ := h
  exact ⟨x, y, z, tx, ty, tz, n, e, hx, hy, hz, Int.le_trans hb hc⟩
theorem take_pen {w : World} {mean : ExcName → Option Value} {mg mb : Str → Option Value} {dp un : Nat} {gd : Option (List Code)} {cn : Str} {cs : Scope} {a : Addr} {ccd : Value} {cl : List (Str × Addr)} {outer : List Env} {A₀ : Around} {base h₀ : Heap} {L : Addr} {m : Str → Option Value} {s : Shared} {Q E : Value → Shared → Prop}
  {rest : List (Addr × Obj)} {pa : Addr} {o : Obj} {b k : Int} {tk : Tok}
  (B : Below A₀ base outer h₀) (F : Fr h₀ L s.heap m) (X : (hd.heap_39 w.params).In h₀) (N : News h₀ L s.heap ((pa, o) :: rest)) (T : TopG mean mg mb h₀) (hk : cs.kind = .function)
  (hP : PenB b o) (hne : ∀ p ∈ rest, p.1 ≠ pa) (hb : b < 1000) (hk0 : 0 < k) (hk1 : k < 100)
  (hdp : dp + 5 < recursionLimit) (hun : un + 20 < cLine)
  (hret : ∀ v tv h' tk' o', Fr h₀ L h' m → News h₀ L h' ((pa, o') :: rest) → PenB (b + 1) o' → 0 ≤ v → v < k → Q (.int v tv) { s with heap := h', toks := tk' }) :
  wpAny (model Challenge.rw_qz0049_01.row.prog w) (ktrTop dp un gd cn cs L a ccd cl outer) (call (.ref 277) [.ref pa, .int k tk]) Q E s := by
  obtain ⟨x, y, z, tx, ty, tz, n, rfl, hx, hy, hz, hzb⟩ := hP
  exact take_ok B F X N T hk hne hx hy hz (by omega) hk0 hk1 hdp hun fun v tv h' tk' n' x' y' z' tx' ty' tz' F' N' h0 h1 hx' hy' hz' hz1 =>
    hret v tv h' tk' _ F' N' ⟨x', y', z', tx', ty', tz', n', rfl, hx', hy', hz', by omega⟩ h0 h1
theorem news_drop {h₀ h : Heap} {L : Addr} {p : Addr × Obj} {l : List (Addr × Obj)} (N : News h₀ L h (p :: l)) : News h₀ L h l := fun q hq => N q (.tail _ hq)
theorem news_swap {h₀ h : Heap} {L : Addr} {p q : Addr × Obj} {l : List (Addr × Obj)} (N : News h₀ L h (p :: q :: l)) : News h₀ L h (q :: p :: l) := fun r hr => N r (by
  rcases List.mem_cons.mp hr with rfl | hr
  · exact .tail _ (.head _)
  · rcases List.mem_cons.mp hr with rfl | hr
    · exact .head _
    · exact .tail _ (.tail _ hr))
theorem news_skip {h₀ h : Heap} {L : Addr} {p q : Addr × Obj} {l : List (Addr × Obj)} (N : News h₀ L h (p :: q :: l)) : News h₀ L h (p :: l) := fun r hr => N r (by
  rcases List.mem_cons.mp hr with rfl | hr
  · exact .head _
  · exact .tail _ (.tail _ hr))
end Mine
namespace Mine
open PySem PySem.W PySem.Calls PyProof.Rows
def nameE (i : Nat) : Str := Str.ofString "e" ++ Str.ofString (toString (i : Int))
local macro_rules | `(tactic| k_all) => `(tactic| assumption)
local macro_rules | `(tactic| walk_at $k:str) => if ["CompSrc", "binaryOp Mult ref int", "binaryOp Add ref ref"].contains k.getString then `(tactic| (refine Halt.out ?_)) else Lean.Macro.throwUnsupported
local macro_rules | `(tactic| walk_at "eval ListComp") => `(tactic| (k_here; lcg_look; k_dflt (refine LCg.ListComp_U (F₀ := by k_asm) (by rfl) (by decide) (by rfl) (by decide) (by rfl) ?_); k_dflt lcg_toSrc))
local macro_rules | `(tactic| walk_at "subscriptTail") => `(tactic| (k_here; (with_reducible show wpAny _ _ (subscriptTail _ _ (Value.ref _) (Value.int _ _)) _ _ _); (refine Halt.out ?_)))
local macro_rules | `(tactic| walk_at "call ref") => `(tactic| (k_here; (with_reducible show wpAny _ _ (call (Value.ref 277) _) _ _ _); (refine Halt.out ?_)))
def namesOf (many : Nat) : List Str := [Str.ofString "", Str.ofString "p", Str.ofString "q", Str.ofString "r", Str.ofString "s"] ++ ((List.range many).map nameE ++ (List.range many).map nameE)
set_option maxHeartbeats 4000000 in
theorem name_ok {w : World} {mean : ExcName → Option Value} {mg mb : Str → Option Value} {dp un : Nat} {gd : Option (List Code)} {cn : Str} {cs : Scope} {a : Addr} {ccd : Value} {cl : List (Str × Addr)} {outer : List Env} {A₀ : Around} {base h₀ : Heap} {L : Addr} {m : Str → Option Value} {s : Shared} {Q E : Value → Shared → Prop}
  {rest : List (Addr × Obj)} {pa : Addr} {o : Obj} {b : Int} {many : Nat} {tk : Tok}
  (B : Below A₀ base outer h₀) (F : Fr h₀ L s.heap m) (X : (hd.heap_39 w.params).In h₀) (N : News h₀ L s.heap ((pa, o) :: rest)) (T : TopG mean mg mb h₀) (hk : cs.kind = .function)
  (hP : PenB b o) (hne : ∀ p ∈ rest, p.1 ≠ pa) (hb : b < 1000) (hm : many ≤ 8)
  (hdp : dp + 50 < recursionLimit) (hun : un + 200 < cLine)
  (hret : ∀ nm tv h' tk' o', Fr h₀ L h' m → News h₀ L h' ((pa, o') :: rest) → PenB (b + 1) o' → nm ∈ namesOf many → Q (.str nm tv) { s with heap := h', toks := tk' }) :
  wpAny (model Challenge.rw_qz0049_01.row.prog w) (ktrTop dp un gd cn cs L a ccd cl outer) (call (.ref 282) [.ref pa, .int many tk]) Q E s := by
  revert X; k_fill; intro X
  refine wpAny_call ?_
  k_dflt cell_enter
  k_steps
  refine Halt.mk (LCg.CompSrc.range (by rfl) (by assumption) (by assumption) (by assumption) (rg_small hm) (rg_size hm) (rg_line hm) fun g' => ?_)
  refine comp_map (fun i y => ∃ t, y = .str (nameE i) t) trivial ?_ ?_
  · intro i ys v I oI C oC D m₂ h tk E' hi hv hC hx' F' N' o' ne'
    obtain ⟨t9, rfl⟩ := hv
    k_steps
    refine Halt.mk ⟨⟨_, by rw [Int.zero_add]; rfl⟩, _, _, rfl, by assumption, by assumption⟩
  · intro ys hl hG
    have hst := strs_of_map hl hG
    clear hG
    k_steps
    have hlen : ((List.range many).map nameE).length = many := by simp
    refine Halt.mk (mul_strs2 (by assumption) (by assumption) (.head _) (by simpa using hst) (by omega) fun D2 zs h2 F2 N2 hlt2 hz2 => ?_)
    k_steps
    refine Halt.mk (add_strs (ss := [Str.ofString "", Str.ofString "p", Str.ofString "q", Str.ofString "r", Str.ofString "s"]) F2 N2 (by k_mem) (.head _) (by repeat constructor) hz2 (by simp; exact Nat.le_trans (by omega : _ ≤ 30) (by decide)) fun D3 zs3 h3 F3 N3 hlt3 hz3 => ?_)
    k_steps
    have hs3 : zs3.size = 5 + (many + many) := by have := hz3.length; simp at this; omega
    refine len_list (News.isList (by k_asm) (.head _)) (by omega) ?_
    k_steps
    refine Halt.mk (take_pen (rest := (D3, { cls := .type "list", data := .seq zs3 0 }) :: rest) (by k_asm) (by k_asm) (by k_asm) (news_swap (news_skip (news_skip (news_skip (by k_asm))))) (by k_asm) rfl hP ?_ hb (by omega) (by omega) (by show dp + 1 + 5 < _; omega) (by show un + 3 + 20 < _; omega) ?_)
    · refine List.forall_mem_cons.mpr ⟨Nat.ne_of_gt (hlt3 (pa, o) (by k_mem)), hne⟩
    intro v tv h5 tk5 o' F5 N5 hP5 hv0 hv1
    k_steps
    refine Halt.mk (KTb.item_list (vs := zs3.toList) (News.isList N5 (.tail _ (.head _))) hz3 hv0 ?_ (by omega) (fun t' hlt => ?_) ?_)
    · simp; omega
    · k_steps
      refine hret _ _ _ _ _ (by assumption) (news_skip (by assumption)) hP5 ?_
      rw [List.getD_eq_getElem?_getD, List.getElem?_eq_getElem hlt]
      exact List.getElem_mem hlt
    · with_unfolding_all rfl
end Mine
namespace Mine
open PySem PySem.W PySem.Calls PyProof.Rows
local macro_rules | `(tactic| walk_at "pad LQ 0") => `(tactic| skip)
local macro_rules | `(tactic| k_all) => `(tactic| assumption)
local macro_rules | `(tactic| walk_at $k:str) => if ["exec For Name Name cons nil", "exec For Name Subscript cons nil", "subscriptTail Name Slice ref ref", "subscriptTail Subscript Slice ref ref", "subscriptTail", "pyIter ref"].contains k.getString then `(tactic| (refine Halt.out ?_)) else Lean.Macro.throwUnsupported
local macro_rules | `(tactic| walk_at "eval Name") => `(tactic| (k_here; k_dflt (refine' ld ?k1 ?k2 ?_; (case k1 => k_asm); (case k2 => first | exact rfl | assumption); k_whole)))
def penBase : Int := 10 ^ 30 + 57
theorem ints_split {ds ts : List Value} {v : Value} : ∀ {ns : List Int}, IntsAre (ds ++ v :: ts) ns → ∃ n t, v = .int n t := by
  induction ds with
  | nil => intro ns h; cases h; exact ⟨_, _, rfl⟩
  | cons d ds ih => intro ns h; cases h; exact ih (by assumption)
theorem pen_step {S c : Int} {v : Value} {ds : List Value} (h : S < penBase ^ ds.length) : S * penBase + c.fmod penBase < penBase ^ (ds ++ [v]).length := by
  rw [List.length_append, List.length_singleton, Int.pow_succ]
  have h1 : c.fmod penBase < penBase := Int.fmod_lt_of_pos _ (by decide)
  have h2 : (S + 1) * penBase ≤ penBase ^ ds.length * penBase := Int.mul_le_mul_of_nonneg_right h (by decide)
  have h3 : (S + 1) * penBase = S * penBase + penBase := by rw [Int.add_mul, Int.one_mul]
  omega
theorem pen_pow : ∀ k : Nat, penBase ^ k ≤ 2 ^ (101 * k)
  | 0 => by decide
  | k + 1 => by
    rw [Int.pow_succ, Nat.mul_add, Int.pow_add]
    have h1 := pen_pow k
    have h2 : penBase ≤ 2 ^ (101 * 1) := by decide
    have h3 : (0 : Int) ≤ penBase ^ k := Int.pow_nonneg (by decide)
    calc penBase ^ k * penBase ≤ penBase ^ k * 2 ^ (101 * 1) := Int.mul_le_mul_of_nonneg_left h2 h3
      _ ≤ 2 ^ (101 * k) * 2 ^ (101 * 1) := Int.mul_le_mul_of_nonneg_right h1 (by decide)
theorem pen_mul {S : Int} {k : Nat} (h0 : 0 ≤ S) (h1 : S < penBase ^ k) (hk : k ≤ 63) : IntMulOk S penBase := by
  refine IntMulOk.of_bits (Nat.le_trans (intBits_le (k := 101 * k) ?_) ?_) (Nat.le_trans (intBits_le (k := 101) (by decide)) (by decide))
  · have h2 := Int.lt_of_lt_of_le h1 (pen_pow k)
    have h3 : ((S.natAbs : Nat) : Int) < ((2 ^ (101 * k) : Nat) : Int) := by
      rw [Int.natAbs_of_nonneg h0]; simpa using h2
    exact Int.ofNat_lt.mp h3
  · have : (2 : Nat) ^ 20 = 1048576 := by decide
    omega
set_option maxHeartbeats 4000000 in
theorem base_ok {w : World} {mean : ExcName → Option Value} {mg mb : Str → Option Value} {dp un : Nat} {gd : Option (List Code)} {cn : Str} {cs : Scope} {a : Addr} {ccd : Value} {cl : List (Str × Addr)} {outer : List Env} {A₀ : Around} {base h₀ : Heap} {L : Addr} {m : Str → Option Value} {s : Shared} {Q E : Value → Shared → Prop}
  {rest : List (Addr × Obj)}
  (B : Below A₀ base outer h₀) (F : Fr h₀ L s.heap m) (X : (hd.heap_39 w.params).In h₀) (N : News h₀ L s.heap rest) (T : TopG mean mg mb h₀) (hk : cs.kind = .function)
  (hdp : dp + 5 < recursionLimit) (hun : un + 20 < cLine)
  (hret : ∀ t h' tk', Fr h₀ L h' m → News h₀ L h' rest → Q (.int penBase t) { s with heap := h', toks := tk' }) :
  wpAny (model Challenge.rw_qz0049_01.row.prog w) (ktrTop dp un gd cn cs L a ccd cl outer) (call (.ref 263) []) Q E s := by
  revert X; k_fill; intro X
  refine wpAny_call ?_
  k_dflt cell_enter
  k_steps
  exact hret _ _ _ (by assumption) (by assumption)
set_option maxHeartbeats 4000000 in
theorem pen_ok {w : World} {mean : ExcName → Option Value} {mg mb : Str → Option Value} {dp un : Nat} {gd : Option (List Code)} {cn : Str} {cs : Scope} {a : Addr} {ccd : Value} {cl : List (Str × Addr)} {outer : List Env} {A₀ : Around} {base h₀ : Heap} {L : Addr} {m : Str → Option Value} {s : Shared} {Q E : Value → Shared → Prop}
  {rest : List (Addr × Obj)} {sp : Addr} {vs : List Value} {ns : List Int}
  (B : Below A₀ base outer h₀) (F : Fr h₀ L s.heap m) (X : (hd.heap_39 w.params).In h₀) (N : News h₀ L s.heap rest) (T : TopG mean mg mb h₀) (hk : cs.kind = .function)
  (hl : h₀.IsList sp vs.toArray) (hi : IntsAre vs ns) (hn : ns.length ≤ 63) 
  (hdp : dp + 15 < recursionLimit) (hun : un + 50 < cLine)
  (hret : ∀ D h' tk' o', Fr h₀ L h' m → News h₀ L h' ((D, o') :: rest) → (∀ p ∈ rest, p.1 < D) → PenB 0 o' → Q (.ref D) { s with heap := h', toks := tk' }) :
  wpAny (model Challenge.rw_qz0049_01.row.prog w) (ktrTop dp un gd cn cs L a ccd cl outer) (call (.ref 270) [.ref sp]) Q E s := by
  revert X; k_fill; intro X
  refine wpAny_call ?_
  k_dflt cell_enter
  k_steps
  refine Halt.mk (For_turns (by k_asm) ?_)
  k_steps
  have hl2 : _ := (by k_asm : Fr h₀ L _ m).lst hl
  have hvn := hi.length
  refine Halt.mk (slice_list (lo := none) (hi := some 40) (by k_asm) (by k_asm) (Fr.lst (by k_asm) hl2) .none (by constructor) (fun h1 F1 N1 => ?_) (by with_unfolding_all rfl) (by intro _; with_unfolding_all rfl) (by simp only [List.size_toArray, hvn]; exact Nat.le_trans hn (by decide)))
  have hi1 := hi.pick none (some 40) none
  have hn1 := Nat.le_trans (length_pickNums_le hi none (some 40) none) hn
  generalize pickNums ns none (some 40) none = ns1 at hi1 hn1
  generalize slicePick vs.toArray none (some 40) none = vs1 at hi1 N1
  k_steps
  refine Halt.mk (kba_turn (value' := .Name (Str.ofString "x") ⟨0, 0, 0, 0⟩) (fun _ => by rfl) ?_)
  refine (krv_lit (its := vs1) (zs := vs1.toList.reverse) (by k_asm) (by k_asm) (News.isList N1 (.head _)) (by constructor) rfl (fun D2 h2 F2 N2 hlt2 => ?_) (by with_unfolding_all rfl) (by intro _; with_unfolding_all rfl) (by have := hi1.length; simp only [Array.length_toList] at this; rw [this]; exact Nat.le_trans hn1 (by decide)))
  have hi2 := hi1.reverse
  have hn2 : ns1.reverse.length ≤ 63 := by simpa using hn1
  generalize ns1.reverse = ns2 at hi2 hn2
  generalize vs1.toList.reverse = vs2 at hi2 N2
  have hb2 : D2 ∉ rest.map (·.1) ∧ ∀ p ∈ rest, p.1 < D2 := ⟨fun hm => by
    obtain ⟨p, hp, e⟩ := List.mem_map.mp hm
    exact Nat.lt_irrefl _ (e ▸ hlt2 p (.tail _ hp)), fun p hp => hlt2 p (.tail _ hp)⟩
  k_steps
  refine Halt.mk (for_listT (fun ds ts m₁ news₁ => news₁ = (D2, W.listOf vs2.toArray 0) :: rest ∧ (∃ S t, 0 ≤ S ∧ S < penBase ^ ds.length ∧ m₁ (Str.ofString "store") = some (.int S t)) ∧ m₁ (Str.ofString "script") = some (.ref sp)) (by rfl) (by k_asm) (news_skip N2) (.head _) rfl rfl ?_ ?_ ?_)
  · refine ⟨rfl, ⟨0, _, by decide, by decide, rfl⟩, rfl⟩
  · intro I oi ds v ts m₁ news₁ h tk hlt hoi e hm hJ F1 N1
    obtain ⟨rfl, ⟨S, t, hS0, hS1, hms⟩, hmsc⟩ := hJ
    obtain ⟨c, tc, rfl⟩ := ints_split (e ▸ hi2)
    k_steps
    refine base_ok (by k_asm) (by k_asm) (by k_asm) (by k_asm) (by k_asm) rfl (by show dp + 1 + 5 < _; omega) (by show un + 3 + 20 < _; omega) fun t2 h2 tk2 F2 N2 => ?_
    refine mul_int ?_ ?_
    rotate_left
    · exact pen_mul hS0 hS1 (by have := hi2.length; rw [e] at this; simp at this; omega)
    k_steps
    refine base_ok (by k_asm) (by k_asm) (by k_asm) (by k_asm) (by k_asm) rfl (by show dp + 1 + 5 < _; omega) (by show un + 3 + 20 < _; omega) fun t2 h2 tk2 F2 N2 => ?_
    k_steps
    rename Fr _ _ _ _ => Fz
    rename News _ _ _ _ => Nz
    refine TurnE.next ((D2, W.listOf vs2.toArray 0) :: rest) Fz Nz (List.forall_mem_cons.mpr ⟨Nat.ne_of_lt (hlt _ (.head _)), fun q hq => Nat.ne_of_lt (hlt q (.tail _ hq))⟩) (.head _) ⟨rfl, ⟨_, _, ?_, ?_, rfl⟩, hmsc⟩
    · exact Int.add_nonneg (Int.mul_nonneg hS0 (by decide)) (Int.fmod_nonneg_of_pos _ (by decide))
    · exact pen_step hS1
  · intro m₁ news₁ h tk hJ F1 N1
    obtain ⟨rfl, ⟨S, t, hS0, hS1, hms⟩, hmsc⟩ := hJ
    k_steps
    refine hret _ _ _ _ (by assumption) (news_skip (by assumption)) ?_ ?_
    · rename (@LT.lt Nat _ _ _) ∧ AllLt _ _ => hz
      exact ktn_ltOf hz.2
    · exact ⟨_, _, _, _, _, _, _, rfl, hS0, Int.add_nonneg (by decide) (Int.fmod_nonneg_of_pos _ (by decide)), Int.le_refl _, Int.le_refl _⟩
end Mine
namespace Mine
open PySem PySem.W PySem.Calls PyProof.Rows
local macro_rules | `(tactic| k_all) => `(tactic| assumption)
local macro_rules | `(tactic| cell_enter) => `(tactic| first
  | (refine' code_def ?k1 ?k2 ?k3 ?k4 ?k5 ?kA ?kF ?kK ?k6 ?k7 ?k8 ?k9 ?kB ?_ ?c2 ?c3 ?c4 ?c5; (case kA => exact rfl); (case kF => exact rfl); (case kK => first | exact rfl | assumption); (case k1 => k_asm); (case k2 => k_asm); (case k3 => k_asm); (case k4 => k_asm); (case k5 => k_asm); (case k6 => k_is); (case k7 => k_is); (case k8 => ktr_room); (case k9 => first | exact BindsTo.of_eq rfl | exact binds_K (by k_in) rfl (by k_is) rfl rfl rfl | fail "enter: no rule for these arguments"); (case c5 => decide); (case kB => exact locs rfl); (case c2 => exact rfl); (case c3 => exact rfl); (case c4 => exact rfl); k_whole; intro g' L' h' FG' F' N' B' X' T'; (try dsimp only); (try k_lift B'); (try k_fold))
  | (refine' code_defC ?k1 ?k2 ?k3 ?k4 ?k5 ?kA ?kF ?kK ?k6 ?k7 ?k8 ?k9 ?kB ?kD ?_ ?c2 ?c3 ?c4; (case kA => exact rfl); (case kF => exact rfl); (case kK => first | exact rfl | assumption); (case k1 => k_asm); (case k2 => k_asm); (case k3 => k_asm); (case k4 => k_asm); (case k5 => k_asm); (case k6 => k_is); (case k7 => k_is); (case k8 => ktr_room); (case k9 => first | exact BindsTo.of_eq rfl | exact binds_K (by k_in) rfl (by k_is) rfl rfl rfl | fail "enter: no rule for these arguments"); (case kB => exact rfl); (case kD => decide +kernel); (case c2 => exact rfl); (case c3 => exact rfl); (case c4 => exact rfl); k_whole; intro g' L' h' tk' cells' FG' F' N' Y' B' X' T' l1; (try k_lt l1); k_cells Y'; (try simp only [List.cons_append, List.nil_append] at N'); (try dsimp only); (try k_lift B'); (try k_fold)))
section
/-- what an Affine keeps of its plus: nothing when the minus is the same -/
def nrm (p q : Str) : Str := if p = q then Str.ofString "" else p
/-- the fields of an Affine -/
def AffD (o : Obj) (z : Int) (p q : Str) : Prop := ∃ h1 h2 h3 t1 t2 t3 tz tp tq,
  o = dictOf [⟨h1, .str (Str.ofString "worth") t1, .int z tz⟩, ⟨h2, .str (Str.ofString "plus") t2, .str p tp⟩, ⟨h3, .str (Str.ofString "minus") t3, .str q tq⟩] 3
set_option maxHeartbeats 4000000 in
theorem aff_new {w : World} {mean : ExcName → Option Value} {mg mb : Str → Option Value} {dp un : Nat} {gd : Option (List Code)} {cn : Str} {cs : Scope} {a : Addr} {ccd : Value} {cl : List (Str × Addr)} {outer : List Env} {A₀ : Around} {base h₀ : Heap} {L : Addr} {m : Str → Option Value} {s : Shared} {Q E : Value → Shared → Prop}
  {rest : List (Addr × Obj)} {z : Int} {p q : Str} {tz tp tq : Tok}
  (B : Below A₀ base outer h₀) (F : Fr h₀ L s.heap m) (X : (hd.heap_39 w.params).In h₀) (N : News h₀ L s.heap rest) (T : TopG mean mg mb h₀) (hk : cs.kind = .function)
  (hdp : dp + 15 < recursionLimit) (hun : un + 50 < cLine)
  (hret : ∀ x d o h' tk', Fr h₀ L h' m → News h₀ L h' ((x, instObj 133 d) :: (d, o) :: rest) → AffD o z (nrm p q) (nrm q p) → (∀ r ∈ rest, r.1 < d) → @LT.lt Nat _ d x → Q (.ref x) { s with heap := h', toks := tk' }) :
  wpAny (model Challenge.rw_qz0049_01.row.prog w) (ktrTop dp un gd cn cs L a ccd cl outer) (call (.ref 133) [.int z tz, .str p tp, .str q tq]) Q E s := by
  revert X; k_fill; intro X
  k_dflt (refine' call_cls ?k1 ?k2 ?k3 ?k4 ?k5 ?k6 ?_; (case k1 => k_asm); (case k2 => k_asm); (case k3 => k_asm); (case k4 => k_is); (case k5 => k_is); (case k6 => k_is); k_whole; intro x' d' h' F' N' l1 l2; (try k_lt l1); (try k_lt2 l2); (try k_sweep))
  k_dflt cell_enter
  k_steps
  · rename (p != q) = true => hpq
    have e : nrm p q = p ∧ nrm q p = q := by
      have : p ≠ q := by simpa using hpq
      exact ⟨if_neg this, if_neg (Ne.symm this)⟩
    refine hret _ _ _ _ _ (by assumption) (by assumption) ⟨_, _, _, _, _, _, _, _, _, by rw [e.1, e.2]⟩ ?_ ?_
    · exact l1
    · exact l2
  · rename (p != q) = false => hpq
    have e : nrm p q = Str.ofString "" ∧ nrm q p = Str.ofString "" := by
      have : p = q := by simpa using hpq
      exact ⟨if_pos this, if_pos this.symm⟩
    refine hret _ _ _ _ _ (by assumption) (by assumption) ⟨_, _, _, _, _, _, _, _, _, by rw [e.1, e.2]⟩ ?_ ?_
    · exact l1
    · exact l2
set_option maxHeartbeats 4000000 in
theorem told_ok {w : World} {mean : ExcName → Option Value} {mg mb : Str → Option Value} {dp un : Nat} {gd : Option (List Code)} {cn : Str} {cs : Scope} {a : Addr} {ccd : Value} {cl : List (Str × Addr)} {outer : List Env} {A₀ : Around} {base h₀ : Heap} {L : Addr} {m : Str → Option Value} {s : Shared} {Q E : Value → Shared → Prop}
  {rest : List (Addr × Obj)} {x d : Addr} {o : Obj} {z : Int} {p q : Str}
  (B : Below A₀ base outer h₀) (F : Fr h₀ L s.heap m) (X : (hd.heap_39 w.params).In h₀) (N : News h₀ L s.heap rest) (T : TopG mean mg mb h₀) (hk : cs.kind = .function)
  (hx : (x, instObj 133 d) ∈ rest) (hdo : (d, o) ∈ rest) (hO : AffD o z p q)
  (hdp : dp + 15 < recursionLimit) (hun : un + 50 < cLine)
  (hret : ∀ D o' h' tk' tz tp tq, Fr h₀ L h' m → News h₀ L h' ((D, o') :: rest) → o'.cls = .type "tuple" → o' = { cls := .type "tuple", data := .seq #[.int z tz, .str p tp, .str q tq] 0 } → (∀ r ∈ rest, r.1 < D) → Q (.ref D) { s with heap := h', toks := tk' }) :
  wpAny (model Challenge.rw_qz0049_01.row.prog w) (ktrTop dp un gd cn cs L a ccd cl outer) (call (.ref 95) [.ref x]) Q E s := by
  obtain ⟨h1, h2, h3, t1, t2, t3, tz, tp, tq, rfl⟩ := hO
  revert X; k_fill; intro X
  refine wpAny_call ?_
  k_dflt cell_enter
  k_steps
  exact hret _ _ _ _ _ _ _ (by assumption) (by assumption) rfl rfl (by assumption)
end
section
/-- a dict of counts -/
abbrev CntV (f : Str → Int) : Str → Value → Prop := fun k v => ∃ t, v = .int (f k) t
abbrev PG : Program := Challenge.rw_qz0049_01.row.prog
def univ : List Str := [Str.ofString "", Str.ofString "p", Str.ofString "q", Str.ofString "r", Str.ofString "s"] ++ (List.range 8).map nameE
/-- a dict of counts, of names of univ -/
structure CntD (w : World) (d : Addr) (o : Obj) (f : Str → Int) : Prop where
  ex : ∃ ks, DictV PG w d o ks (CntV f) ∧ (∀ k, k ∉ ks → f k = 0) ∧ (∀ k ∈ ks, k ∈ univ) ∧ Str.ofString "" ∈ ks
def NmV (kks : List Str) (Kn : Str → Str → Int) (n x : Str) : Int := if n = Str.ofString "" then 0 else if n ∈ kks then Kn n x else if x = n then 1 else 0
def cntOf (kks : List Str) (Kn : Str → Str → Int) (z : Int) (p q x : Str) : Int := (if x = Str.ofString "" then z else 0) + NmV kks Kn p x - NmV kks Kn q x
theorem news_pull {h₀ h : Heap} {L : Addr} (pre : List (Addr × Obj)) {x : Addr × Obj} {post : List (Addr × Obj)} (N : News h₀ L h (pre ++ x :: post)) :
    ∃ R, News h₀ L h (x :: R) ∧ (∀ y ∈ pre, y ∈ R) ∧ (∀ y ∈ post, y ∈ R) ∧ ∀ y ∈ R, y ∈ pre ∨ y ∈ post :=
  ⟨pre ++ post, fun p hp => N p (by
    rcases List.mem_cons.mp hp with rfl | hp
    · exact List.mem_append_right _ (.head _)
    · rcases List.mem_append.mp hp with hp | hp
      · exact List.mem_append_left _ hp
      · exact List.mem_append_right _ (.tail _ hp)), fun y hy => List.mem_append_left _ hy, fun y hy => List.mem_append_right _ hy, fun y hy => List.mem_append.mp hy⟩
theorem news_sub {h₀ h : Heap} {L : Addr} {l l' : List (Addr × Obj)} (N : News h₀ L h l) (hs : ∀ p ∈ l', p ∈ l) : News h₀ L h l' := fun p hp => N p (hs p hp)
theorem nodup_len {l u : List Str} (hn : l.Nodup) (hs : ∀ x ∈ l, x ∈ u) : l.length ≤ u.length := by
  induction l generalizing u with
  | nil => simp
  | cons x l ih =>
    have hx : x ∈ u := hs x (.head _)
    obtain ⟨a, b, rfl⟩ := List.append_of_mem hx
    have hn' := List.nodup_cons.mp hn
    have := ih (u := a ++ b) hn'.2 fun y hy => by
      have h1 := hs y (.tail _ hy)
      rcases List.mem_append.mp h1 with h | h
      · exact List.mem_append_left _ h
      · rcases List.mem_cons.mp h with rfl | h
        · exact absurd hy hn'.1
        · exact List.mem_append_right _ h
    simp at this ⊢; omega
theorem univ_len : univ.length = 13 := by simp [univ]
theorem univ_line {l : List Str} (hn : l.Nodup) (hs : ∀ x ∈ l, x ∈ univ) : l.length ≤ sizeLine := Nat.le_trans (nodup_len hn hs) (by rw [univ_len]; decide)
section
variable {w : World} {A : Around} {E : Value → Shared → Prop} {s : Shared} {h₀ : Heap} {L d : Addr} {m : Str → Option Value} {news : List (Addr × Obj)} {g : Obj → List (Addr × Obj)} {o : Obj} {f : Str → Int} {k : Str} {t : Tok}
theorem cnt_get {td : Tok} {Q : Value → Shared → Prop} (N : News h₀ L s.heap news) (hp : (d, o) ∈ news) (D : CntD w d o f) (h : ∀ t', Q (.int (f k) t') { s with toks := s.toks + 1 }) :
    wpAny (model PG w) A (call (.builtin "dict.get") [.ref d, .str k t, .int 0 td]) Q E s := by
  obtain ⟨ks, D, h0, _⟩ := D.ex
  refine dv_get N hp D (fun _ v ⟨t', e⟩ => e ▸ h t') fun hk => ?_
  have := h0 k hk
  rw [← this]; exact h td
theorem cnt_set {n : Int} {tn : Tok} {Q : Unit → Shared → Prop} (F : Fr h₀ L s.heap m) (N : News h₀ L s.heap news) (U : UpdF d o news g) (D : CntD w d o f) (hk : k ∈ univ)
    (h : ∀ h' o', Fr h₀ L h' m → News h₀ L h' (g o') → CntD w d o' (fun x => if x = k then n else f x) → Q () { s with heap := h', toks := s.toks + 1 }) : wpAny (model PG w) A (setItem (.ref d) (.str k t) (.int n tn)) Q E s := by
  obtain ⟨ks, D, h0, hu, he⟩ := D.ex
  refine dv_set F N U D (univ_line D.nodup hu) fun h' o' F' N' D' => h h' o' F' N' ⟨_, D'.weak fun x y _ hy => ?_, fun x hx => ?_, fun x hx => ?_, mem_putKey.mpr (.inl he)⟩
  · by_cases e : x = k
    · rw [if_pos e] at hy; exact ⟨tn, by rw [hy]; simp [e]⟩
    · rw [if_neg e] at hy; obtain ⟨t', ht⟩ := hy; exact ⟨t', by rw [ht]; simp [e]⟩
  · have : ¬ (x ∈ ks ∨ x = k) := fun q => hx (mem_putKey.mpr q)
    rw [if_neg (fun q => this (.inr q))]; exact h0 x fun q => this (.inl q)
  · rcases mem_putKey.mp hx with q | rfl
    · exact hu x q
    · exact hk
theorem dv_one {kk : Str} {v : Value} {V : Str → Value → Prop} {prog : Program} (lo : (d == sysModules) = false) (hd : o.IsDictOf (PySem.strKind prog w) [(kk, v)]) (hv : V kk v) : DictV prog w d o [kk] V :=
  ⟨lo, _, hd, rfl, fun k x e => by
    by_cases h : kk = k
    · subst h
      have : some v = some x := by simpa [valueAt] using e
      cases this; exact hv
    · simp [valueAt, h] at e⟩
theorem cnt_start {z : Int} {tz : Tok} (lo : (d == sysModules) = false) (hd : o.IsDictOf (PySem.strKind PG w) [(Str.ofString "", .int z tz)]) : CntD w d o (fun x => if x = Str.ofString "" then z else 0) :=
  ⟨_, dv_one lo hd ⟨tz, by simp⟩, fun k hk => by
    have : k ≠ Str.ofString "" := by simpa using hk
    simp [this], fun k hk => by
    have : k = Str.ofString "" := by simpa using hk
    subst this; exact .head _, .head _⟩
theorem CntD.weak {f' : Str → Int} (D : CntD w d o f) (h : ∀ x, f x = f' x) : CntD w d o f' := by
  have : f = f' := funext h
  exact this ▸ D
end
end
local macro_rules | `(tactic| walk_at "eval Dict") => `(tactic| (k_here; k_dflt (refine' kdn_eval (knd := PySem.strKind _ _) ?F ?N ?b ?a ?l ?e ?n ?_; (case F => k_asm); (case N => first | k_asm | exact News.nil); (case b => exact Top.nolimit (by k_asm)); (case a => rfl); (case l => rfl); (case e => exact List.cons_ne_nil _ _); (case n => exact Nat.le_of_ble_eq_true rfl)); intro d' h' o' F' N' l1 lo' hd'; (try k_lt l1)))
section
local macro_rules | `(tactic| walk_at "pad LF 0") => `(tactic| skip)
local macro_rules | `(tactic| walk_at "pad LF 1") => `(tactic| skip)
local macro_rules | `(tactic| walk_at $k:str) => if ["pyIter ref", "call builtin:dict.get", "call builtin:dict.items", "getMethod ref", "setItem ref str", "call type:list", "exec For Tuple Tuple cons nil", "exec For Tuple IfExp cons nil"].contains k.getString then `(tactic| (refine Halt.out ?_)) else Lean.Macro.throwUnsupported
local macro_rules | `(tactic| walk_at "eval Name") => `(tactic| (k_here; k_dflt (refine' ld ?k1 ?k2 ?_; (case k1 => k_asm); (case k2 => first | exact rfl | assumption); k_whole)))
theorem TupsAre.mono {V : Str → Value → Prop} {l l' : List (Addr × Obj)} {vs : List Value} {ks : List Str} (h : TupsAre V l vs ks) (hs : ∀ r ∈ l, r ∈ l') : TupsAre V l' vs ks := by
  induction h with
  | nil => exact .nil
  | cons hm hV _ ih => exact .cons (hs _ hm) hV ih
set_option maxHeartbeats 4000000 in
theorem counts_ok {w : World} {mean : ExcName → Option Value} {mg mb : Str → Option Value} {dp un : Nat} {gd : Option (List Code)} {cn : Str} {cs : Scope} {a : Addr} {ccd : Value} {cl : List (Str × Addr)} {outer : List Env} {A₀ : Around} {base h₀ : Heap} {L : Addr} {m : Str → Option Value} {s : Shared} {Q E : Value → Shared → Prop}
  {rest : List (Addr × Obj)} {t kd : Addr} {ko : Obj} {kks : List Str} {Kn : Str → Str → Int} {z : Int} {p q : Str} {tz tp tq : Tok}
  (B : Below A₀ base outer h₀) (F : Fr h₀ L s.heap m) (X : (hd.heap_39 w.params).In h₀) (N : News h₀ L s.heap ((t, { cls := .type "tuple", data := .seq #[.int z tz, .str p tp, .str q tq] 0 }) :: rest)) (T : TopG mean mg mb h₀) (hk : cs.kind = .function)
  (hkd : (kd, ko) ∈ rest) (hK : DictV PG w kd ko kks (fun k v => ∃ d o, v = .ref d ∧ (d, o) ∈ rest ∧ CntD w d o (Kn k)))
  (hp : p ∈ univ) (hq : q ∈ univ)
  (hdp : dp + 15 < recursionLimit) (hun : un + 50 < cLine)
  (hret : ∀ D o h' tk', Fr h₀ L h' m → News h₀ L h' ((D, o) :: (t, { cls := .type "tuple", data := .seq #[.int z tz, .str p tp, .str q tq] 0 }) :: rest) → (∀ r ∈ rest, r.1 < D) → @LT.lt Nat _ t D → CntD w D o (cntOf kks Kn z p q) → Q (.ref D) { s with heap := h', toks := tk' }) :
  wpAny (model Challenge.rw_qz0049_01.row.prog w) (ktrTop dp un gd cn cs L a ccd cl outer) (call (.ref 289) [.ref t, .ref kd]) Q E s := by
  revert X; k_fill; intro X
  refine wpAny_call ?_
  k_dflt cell_enter
  rename_i g₁ L₁ _ FG _ _ Bc Xc Tc
  k_steps
  rename_i dF _ _ lo _ l1 _ o hdo _ _ F1 N1
  refine Halt.mk (For_turns (by k_asm) ?_)
  k_steps
  rename_i ta _ la tb _ lb tt _ F2 N2 l2
  obtain ⟨R, NR, hpre, hpost, hR⟩ := news_pull [_, _, _] N2
  have hneR : ∀ r ∈ R, r.1 ≠ dF := fun r hr => by
    rcases hR r hr with h | h
    · simp only [List.mem_cons, List.not_mem_nil, or_false] at h
      rcases h with rfl | rfl | rfl
      · exact Nat.ne_of_gt l2.2.2.1
      · exact Nat.ne_of_gt lb.2.1
      · exact Nat.ne_of_gt la.1
    · rcases List.mem_cons.mp h with rfl | h
      · exact Nat.ne_of_lt l1.1
      · exact Nat.ne_of_lt (ktn_ltOf l1.2 r h)
  have D0 : CntD w dF o (fun x => if x = Str.ofString "" then z else 0) := cnt_start lo hdo
  have mtt := hpre _ (.head _)
  have mtb := hpre _ (.tail _ (.head _))
  have mta := hpre _ (.tail _ (.tail _ (.head _)))
  refine Halt.mk (for_tupT (fun ds ts m₁ news₁ => ∃ o f, news₁ = (dF, o) :: R ∧ CntD w dF o f ∧ (∀ x, f x = (if x = Str.ofString "" then z else 0) + (if 0 < ds.length then NmV kks Kn p x else 0) - (if 1 < ds.length then NmV kks Kn q x else 0)) ∧ m₁ (Str.ofString "found") = some (.ref dF) ∧ m₁ (Str.ofString "known") = some (.ref kd)) (vs := [.ref ta, .ref tb]) rfl F2 NR (.tail _ mtt) rfl rfl ?_ ?_ ?_)
  · exact ⟨o, _, rfl, D0, fun x => by simp, rfl, rfl⟩
  · intro I oi ds v ts m₁ news₁ h tk hlt hoi e hm hJ F1 N1
    obtain ⟨o, f, rfl, hD, hf, hm1, hm2⟩ := hJ
    have hv : ∃ xa n sg tn tg, v = .ref xa ∧ (xa, ({ cls := .type "tuple", data := .seq #[.str n tn, .int sg tg] 0 } : Obj)) ∈ R ∧ n ∈ univ ∧ (sg = 1 ∨ sg = -1) ∧
        ∀ x, f x + sg * NmV kks Kn n x = (if x = Str.ofString "" then z else 0) + (if 0 < (ds ++ [v]).length then NmV kks Kn p x else 0) - (if 1 < (ds ++ [v]).length then NmV kks Kn q x else 0) := by
      rcases ds with _ | ⟨d0, _ | ⟨d1, ds⟩⟩
      · simp only [List.nil_append, List.cons.injEq] at e
        exact ⟨ta, p, 1, _, _, e.1.symm, mta, hp, .inl rfl, fun x => by rw [hf x]; simp⟩
      · simp only [List.cons_append, List.nil_append, List.cons.injEq] at e
        exact ⟨tb, q, -1, _, _, e.2.1.symm, mtb, hq, .inr rfl, fun x => by rw [hf x]; simp; omega⟩
      · simp at e
    obtain ⟨xa, n, sg, tn, tg, rfl, mxa, hn, hsg, hf'⟩ := hv
    refine unpackN_ F1 N1 (News.isTup N1 (.tail _ (.tail _ mxa))) rfl rfl rfl fun h2 F2 N2 => ?_
    k_steps
    refine Halt.mk (For_turns (by k_asm) (wpAny_mono (Q := fun xv s₁ => Halt (∃ Bv vs gks g c W h tk mm, xv = .ref Bv ∧ s₁ = { s with heap := h, toks := tk } ∧ Fr g₁ L₁ h mm ∧ News g₁ L₁ h ((dF, o) :: W) ∧ (Bv, listOf (List.toArray vs) c) ∈ W ∧ TupsAre (CntV g) W vs gks ∧ (I, oi) ∈ W ∧ (∀ r ∈ R, r ∈ W) ∧ (∀ r ∈ W, r.1 ≠ dF) ∧ gks.Nodup ∧ (∀ k ∈ gks, k ∈ univ) ∧
      (∀ x, NmV kks Kn n x = if x ∈ gks then g x else 0) ∧ mm (Str.ofString "found") = some (.ref dF) ∧ mm (Str.ofString "known") = some (.ref kd) ∧ ∃ tg, mm (Str.ofString "sign") = some (.int sg tg))) ?_ (fun xv s₁ hm => ?_) fun _ _ x => x))
    · k_steps
      · rename (n != Str.ofString "") = true => hn1
        have hn1 : n ≠ Str.ofString "" := by simpa using hn1
        refine Halt.mk (dv_method PySem.F.slot_dict_get PySem.F.type_dict_get (by k_asm) (.tail _ (.tail _ (hpost _ (.tail _ hkd)))) hK ?_)
        k_steps
        rename_i d1 _ _ _ _ lo1 _ l3 h3 o1 F3 N3 hd1 _
        have D1 : DictV PG w d1 o1 [n] (CntV (fun x => if x = n then 1 else 0)) := dv_one lo1 hd1 ⟨_, by show _ = Value.int (if n = n then 1 else 0) _; rw [if_pos rfl]⟩
        refine Halt.mk (wpAny_mono (Q := fun v s₁ => ∃ dd od gks g tk, v = .ref dd ∧ s₁ = { s with heap := h3, toks := tk } ∧ (dd, od) ∈ (d1, o1) :: (I, oi) :: (dF, o) :: R ∧ DictV PG w dd od gks (CntV g) ∧ (∀ k ∈ gks, k ∈ univ) ∧ (∀ x, NmV kks Kn n x = if x ∈ gks then g x else 0))
          (dv_get N3 (.tail _ (.tail _ (.tail _ (hpost _ (.tail _ hkd))))) hK (fun hk v hv => ?_) (fun hk => ?_)) (fun v s₁ hm => ?_) fun _ _ x => x)
        · obtain ⟨dd, od, rfl, hm, ⟨gks, hD, h0, hu, _⟩⟩ := hv
          refine ⟨dd, od, gks, Kn n, _, rfl, rfl, .tail _ (.tail _ (.tail _ (hpost _ (.tail _ hm)))), hD, hu, fun x => ?_⟩
          unfold NmV
          rw [if_neg hn1, if_pos hk]
          by_cases hx : x ∈ gks
          · rw [if_pos hx]
          · rw [if_neg hx, h0 x hx]
        · refine ⟨d1, o1, [n], _, _, rfl, rfl, .head _, D1, fun k hk => ?_, fun x => ?_⟩
          · simp only [List.mem_cons, List.not_mem_nil, or_false] at hk
            exact hk ▸ hn
          · unfold NmV
            rw [if_neg hn1, if_neg hk]
            by_cases hx : x = n <;> simp [hx]
        · obtain ⟨dd, od, gks, g, tk, rfl, rfl, hdd, hDD, hgu, hg⟩ := hm
          refine dv_method PySem.F.slot_dict_items PySem.F.type_dict_items N3 hdd hDD ?_
          k_steps
          refine Halt.mk (dv_items_view F3 N3 hdd hDD fun vw h4 F4 N4 l4 => ?_)
          k_steps
          refine Halt.mk (dv_items_list rfl F4 N4 (.head _) (.tail _ hdd) hDD (Nat.le_trans (nodup_len hDD.nodup hgu) (by rw [univ_len]; decide)) fun Bv vs tups c h5 tk5 F5 N5 l5 l6 hT => ?_)
          k_steps
          refine Halt.mk ⟨Bv, vs, gks, g, c, (Bv, PySem.W.listOf vs.toArray c) :: (tups ++ (I, oi) :: R), _, _, _, rfl, rfl, F5, news_sub N5 fun r hr => ?_, .head _, hT.mono fun r hr => .tail _ (List.mem_append_left _ hr), .tail _ (List.mem_append_right _ (.head _)), fun r hr => .tail _ (List.mem_append_right _ (.tail _ hr)), fun r hr => ?_, hDD.nodup, hgu, hg, hm1, hm2, ⟨_, rfl⟩⟩
          · rcases List.mem_cons.mp hr with rfl | hr
            · exact .tail _ (List.mem_append_right _ (.tail _ (.tail _ (.tail _ (.head _)))))
            · rcases List.mem_cons.mp hr with rfl | hr
              · exact .head _
              · rcases List.mem_append.mp hr with hr | hr
                · exact .tail _ (List.mem_append_left _ hr)
                · rcases List.mem_cons.mp hr with rfl | hr
                  · exact .tail _ (List.mem_append_right _ (.tail _ (.tail _ (.head _))))
                  · exact .tail _ (List.mem_append_right _ (.tail _ (.tail _ (.tail _ (.tail _ hr)))))
          · have hB : @LT.lt Nat _ dF Bv := l5 (dF, o) (.tail _ (.tail _ (.tail _ (.head _))))
            rcases List.mem_cons.mp hr with rfl | hr
            · exact Nat.ne_of_gt hB
            · rcases List.mem_append.mp hr with hr | hr
              · exact Nat.ne_of_gt (Nat.lt_trans hB (l6 r hr))
              · rcases List.mem_cons.mp hr with rfl | hr
                · exact Nat.ne_of_gt (hlt _ (.head _))
                · exact hneR r hr
      · rename (n != Str.ofString "") = false => hn1
        have hn1 : n = Str.ofString "" := by simpa using hn1
        rename Fr _ _ _ _ => F3
        rename News _ _ _ _ => N3
        rename (@LT.lt Nat _ _ _) ∧ _ => l3
        obtain ⟨W, NW, hW1, hW2, hW3⟩ := news_pull [_, _] N3
        refine Halt.mk ⟨_, [], [], fun _ => 0, 0, W, _, _, _, rfl, rfl, F3, NW, hW1 _ (.head _), .nil, hW1 _ (.tail _ (.head _)), hW2, fun r hr => ?_, .nil, (fun k hk => nomatch hk), fun x => (by rw [hn1]; simp [NmV]), hm1, hm2, ⟨_, rfl⟩⟩
        rcases hW3 r hr with h | h
        · simp only [List.mem_cons, List.not_mem_nil, or_false] at h
          rcases h with rfl | rfl
          · exact Nat.ne_of_gt l3.2.1
          · exact Nat.ne_of_gt (hlt _ (.head _))
        · exact hneR r h
    · obtain ⟨Bv, vs, gks, g, c, W, h3, tk3, mm, rfl, rfl, F3, NW, hB, hT, hI, hRW, hneW, hnd, hgu, hg, hmf, hmk, tg', hms⟩ := hm.out
      refine for_listT (fun ds2 ts2 m₂ news₂ => ∃ o' f' gd gt, news₂ = (dF, o') :: W ∧ CntD w dF o' f' ∧ gks = gd ++ gt ∧ TupsAre (CntV g) W ts2 gt ∧ (∀ x, f' x = f x + sg * (if x ∈ gd then g x else 0)) ∧ m₂ (Str.ofString "found") = some (.ref dF) ∧ m₂ (Str.ofString "known") = some (.ref kd) ∧ ∃ tg, m₂ (Str.ofString "sign") = some (.int sg tg)) rfl F3 NW (.tail _ hB) rfl rfl ?_ ?_ ?_
      · exact ⟨o, f, [], gks, rfl, hD, rfl, hT, fun x => by simp, hmf, hmk, tg', hms⟩
      · intro I2 oi2 ds2 v ts2 m₂ news₂ h4 tk4 hlt2 hoi2 e2 hm2 hJ F4 N4
        obtain ⟨o', f', gd, gt, rfl, hD', hgg, hT', hf2, hmf, hmk, tg2, hms⟩ := hJ
        cases hT' with
        | cons hmem hV hr =>
          rename_i xa2 k2 t2 v2 gt
          obtain ⟨t3, rfl⟩ := hV
          obtain ⟨ks', DD, _⟩ := hD'.ex
          refine unpackN_ F4 N4 (News.isTup N4 (.tail _ (.tail _ hmem))) rfl rfl rfl fun h5 F5 N5 => ?_
          k_steps
          refine Halt.mk (dv_method PySem.F.slot_dict_get PySem.F.type_dict_get (by k_asm) (.tail _ (.head _)) DD ?_)
          k_steps
          refine Halt.mk (cnt_get (by k_asm) (.tail _ (.head _)) hD' fun t' => ?_)
          k_steps
          have hk2 : k2 ∉ gd := fun q => by
            rw [hgg] at hnd
            exact (List.nodup_append.mp hnd).2.2 k2 q k2 (.head _) rfl
          refine Halt.mk (cnt_set (by k_asm) (by k_asm) (UpdF.tail (Nat.ne_of_gt (hlt2 _ (.head _))) (UpdF.head hneW)) hD' (hgu k2 (by rw [hgg]; simp)) fun h6 o6 F6 N6 hC => ?_)
          k_steps
          rename Fr _ _ _ _ => Fz
          rename News _ _ _ _ => Nz
          refine TurnE.next ((dF, o6) :: W) Fz Nz (List.forall_mem_cons.mpr ⟨Nat.ne_of_lt (show @LT.lt Nat _ dF I2 from hlt2 _ (.head _)), fun q hq => Nat.ne_of_lt (hlt2 q (.tail _ hq))⟩) (.tail _ hB) ⟨o6, _, gd ++ [k2], gt, rfl, hC, by rw [hgg]; simp, hr, fun x => ?_, hmf, hmk, _, hms⟩
          by_cases hx : x = k2
          · subst hx
            rw [if_pos rfl, if_pos (by simp), hf2, if_neg hk2]; omega
          · rw [if_neg hx, hf2]
            by_cases hxd : x ∈ gd
            · rw [if_pos hxd, if_pos (List.mem_append_left _ hxd)]
            · rw [if_neg hxd, if_neg (by simp [hxd, hx])]
      · intro m₂ news₂ h4 tk4 hJ F4 N4
        obtain ⟨o', f', gd, gt, rfl, hD', hgg, hT', hf2, hmf, hmk, tg2, hms⟩ := hJ
        cases hT'
        rw [List.append_nil] at hgg
        subst hgg
        k_steps
        show TurnE _ _ { s with heap := h, toks := _ } _ _ _ _ _ { s with heap := h4, toks := tk4 }
        refine TurnE.next ((dF, o') :: R) F4 (news_sub N4 fun r hr => ?_) (fun q hq => Nat.ne_of_lt ?_) (.tail _ mtt) ⟨o', f', rfl, hD', fun x => ?_, hmf, hmk⟩
        · rcases List.mem_cons.mp hr with rfl | hr
          · exact .tail _ hI
          · rcases List.mem_cons.mp hr with rfl | hr
            · exact .head _
            · exact .tail _ (hRW r hr)
        · rcases List.mem_cons.mp hq with rfl | hq
          · show @LT.lt Nat _ dF I
            exact hlt _ (.head _)
          · exact hlt q (.tail _ hq)
        · rw [hf2, ← hg, hf']
  · intro m₁ news₁ h tk hJ F1 N1
    obtain ⟨o, f, rfl, hD, hf, hm1, hm2⟩ := hJ
    k_steps
    have e2 : ∀ x, f x = cntOf kks Kn z p q x := fun x => by rw [hf x]; rfl
    refine hret dF o _ _ (by assumption) (news_sub (by assumption) ?_) (fun r hr => ktn_ltOf l1.2 r hr) l1.1 (hD.weak e2)
    exact fun r hr => (List.mem_cons.mp hr).elim (fun e => e ▸ .head _) fun h => .tail _ (hpost r h)
end
local macro_rules | `(tactic| walk_at "eval ListComp") => `(tactic| (k_here; first
  | (lct_look; k_dflt (refine LCt.ListComp_T (F₀ := by k_asm) (by with_unfolding_all rfl) (by decide) (by rfl) (by decide) (by rfl) ?_))
  | (k_dflt (refine LCg.ListComp_U (F₀ := by k_asm) (by with_unfolding_all rfl) (by decide) (by rfl) (by decide) (by rfl) ?_))))
local macro_rules | `(tactic| walk_at "exec Assign cons ListComp") => `(tactic| (k_here; lct_look; k_dflt (refine LCt.Assign_ListComp_T (F₀ := by k_asm) (by rfl) (by with_unfolding_all rfl) (by with_unfolding_all rfl) (by decide) (by rfl) (by decide) (by rfl) (by rfl) (by rfl) ?_)))
local macro_rules | `(tactic| walk_at "CompSrcT") => `(tactic| (refine Halt.out ?_))
local macro_rules | `(tactic| walk_at "CompSrc") => `(tactic| (refine Halt.out ?_))
section
local macro_rules | `(tactic| walk_at $k:str) => if ["call builtin:sorted", "call builtin:len", "binaryOp Add ref ref", "compareOp NotEq ref ref"].contains k.getString then `(tactic| (refine Halt.out ?_)) else Lean.Macro.throwUnsupported
local macro_rules | `(tactic| walk_at "subscriptTail") => `(tactic| (k_here; (with_reducible show wpAny _ _ (subscriptTail _ _ (Value.ref _) (Value.str _ _)) _ _ _); refine Halt.out ?_))
abbrev emp : Str := Str.ofString ""
/-- what a vector of counts comes to: a number plus a name less a name, or nothing -/
def SumOf (f : Str → Int) : Option (Int × Str × Str) → Prop
  | none => (∃ x y, x ≠ y ∧ x ≠ emp ∧ y ≠ emp ∧ f x > 0 ∧ f y > 0) ∨ (∃ x y, x ≠ y ∧ x ≠ emp ∧ y ≠ emp ∧ f x < 0 ∧ f y < 0) ∨ ∃ x, x ≠ emp ∧ f x ≠ 0 ∧ f x ≠ 1 ∧ f x ≠ -1
  | some (z, p, q) => z = f emp ∧ (p ≠ emp → f p = 1) ∧ (∀ x, x ≠ emp → f x > 0 → x = p) ∧ (q ≠ emp → f q = -1) ∧ (∀ x, x ≠ emp → f x < 0 → x = q)
abbrev toldObj (z : Int) (p q : Str) (tz tp tq : Tok) : Obj := { cls := .type "tuple", data := .seq #[.int z tz, .str p tp, .str q tq] 0 }
theorem two_of {l : List Str} (hn : l.Nodup) (h : 1 < l.length) : ∃ x y, x ≠ y ∧ x ∈ l ∧ y ∈ l := by
  match l, hn, h with
  | [], _, h => simp at h
  | [_], _, h => simp at h
  | x :: y :: r, hn, _ => exact ⟨x, y, fun e => (List.nodup_cons.mp hn).1 (e ▸ .head _), .head _, .tail _ (.head _)⟩
theorem news_head_rest {h₀ h : Heap} {L : Addr} {x : Addr × Obj} {pre rest : List (Addr × Obj)} (N : News h₀ L h (x :: (pre ++ rest))) : News h₀ L h (x :: rest) := fun p hp => N p (by
  rcases List.mem_cons.mp hp with rfl | hp
  · exact .head _
  · exact .tail _ (List.mem_append_right _ hp))
theorem sum_of_lists {f : Str → Int} {added taken : List Str} (hA : added.length ≤ 1) (hAm : ∀ x, x ∈ added ↔ x ≠ emp ∧ f x > 0) (hB : taken.length ≤ 1) (hBm : ∀ x, x ∈ taken ↔ x ≠ emp ∧ f x < 0)
    (ho : ∀ x, x ∈ added ∨ x ∈ taken → f x = 1 ∨ f x = -1) : SumOf f (some (f emp, (added ++ [emp]).getD (Int.toNat 0) Str.empty, (taken ++ [emp]).getD (Int.toNat 0) Str.empty)) := by
  have hA' : (∃ p, added = [p]) ∨ added = [] := by
    match added, hA with
    | [], _ => exact .inr rfl
    | [p], _ => exact .inl ⟨p, rfl⟩
    | _ :: _ :: _, h => simp at h
  have hB' : (∃ p, taken = [p]) ∨ taken = [] := by
    match taken, hB with
    | [], _ => exact .inr rfl
    | [p], _ => exact .inl ⟨p, rfl⟩
    | _ :: _ :: _, h => simp at h
  refine ⟨rfl, ?_, ?_, ?_, ?_⟩
  · rcases hA' with ⟨p, rfl⟩ | rfl
    · intro _
      have h1 := ho p (.inl (.head _))
      have h2 := (hAm p).mp (.head _)
      show f p = 1
      omega
    · exact fun h => absurd rfl h
  · intro x hx hf
    have := (hAm x).mpr ⟨hx, hf⟩
    rcases hA' with ⟨p, rfl⟩ | rfl
    · simpa using this
    · nomatch this
  · rcases hB' with ⟨p, rfl⟩ | rfl
    · intro _
      have h1 := ho p (.inr (.head _))
      have h2 := (hBm p).mp (.head _)
      show f p = -1
      omega
    · exact fun h => absurd rfl h
  · intro x hx hf
    have := (hBm x).mpr ⟨hx, hf⟩
    rcases hB' with ⟨p, rfl⟩ | rfl
    · simpa using this
    · nomatch this
set_option maxHeartbeats 4000000 in
theorem due_ok {w : World} {mean : ExcName → Option Value} {mg mb : Str → Option Value} {dp un : Nat} {gd : Option (List Code)} {cn : Str} {cs : Scope} {a : Addr} {ccd : Value} {cl : List (Str × Addr)} {outer : List Env} {A₀ : Around} {base h₀ : Heap} {L : Addr} {m : Str → Option Value} {s : Shared} {Q E : Value → Shared → Prop}
  {rest : List (Addr × Obj)} {d : Addr} {o : Obj} {f : Str → Int}
  (B : Below A₀ base outer h₀) (F : Fr h₀ L s.heap m) (X : (hd.heap_39 w.params).In h₀) (N : News h₀ L s.heap rest) (T : TopG mean mg mb h₀) (hk : cs.kind = .function)
  (hdm : (d, o) ∈ rest) (hD : CntD w d o f)
  (hdp : dp + 15 < recursionLimit) (hun : un + 50 < cLine)
  (hnone : ∀ h' tk', Fr h₀ L h' m → News h₀ L h' rest → SumOf f none → Q .none { s with heap := h', toks := tk' })
  (hsome : ∀ D z p q tz tp tq h' tk', Fr h₀ L h' m → News h₀ L h' ((D, toldObj z p q tz tp tq) :: rest) → (∀ r ∈ rest, r.1 < D) → SumOf f (some (z, p, q)) → Q (.ref D) { s with heap := h', toks := tk' }) :
  wpAny (model Challenge.rw_qz0049_01.row.prog w) (ktrTop dp un gd cn cs L a ccd cl outer) (call (.ref 294) [.ref d]) Q E s := by
  revert X; k_fill; intro X
  refine wpAny_call ?_
  obtain ⟨ks, DD, h0, hu, he⟩ := hD.ex
  have hlen : ks.length ≤ 13 := univ_len ▸ nodup_len DD.nodup hu
  k_dflt cell_enter
  rename_i g₁ L₁ _ _ FG _ Bc Xc Tc lL oc hoc _
  k_steps
  refine Halt.mk (dv_sorted rfl (by k_asm) (by k_asm) (.tail _ hdm) DD (by omega) fun B1 vs1 c1 h1 tk1 ss1 F1 N1 l1 hS1 hP1 => ?_)
  k_steps
  refine Halt.mk (LCt.CompSrcT.ledger rfl F1 N1 (.head _) (by have := hS1.length; have := hP1.length_eq; simp; exact Nat.le_trans (by omega : _ ≤ 13) (by decide)) fun g1 => ?_)
  refine comp_filterA (isS fun nm => decide (nm ≠ Str.ofString "" ∧ f nm > 0)) (.inr ⟨_, .head _, rfl, _, rfl⟩) rfl rfl rfl ?_ ?_
  · intro v I oI C oC D ys m₂ h tk E' hv hC hm2 F2 N2 off ne
    obtain ⟨nm, t, rfl, hnm⟩ := strs_mem hS1 hv
    k_steps
    · rename (nm != Str.ofString "") = true => hn1
      have hn1 : nm ≠ Str.ofString "" := by simpa using hn1
      refine Halt.mk (dv_item (by k_asm) (.tail _ (.tail _ (.tail _ (.tail _ (.tail _ hdm))))) DD (hP1.mem_iff.mp hnm) (fun v hv => ?_) (by with_unfolding_all rfl))
      obtain ⟨tv, rfl⟩ := hv
      k_steps
      all_goals exact Halt.mk ⟨by simp [isS, hn1]; omega, _, _, rfl, by k_asm, by k_asm⟩
    · rename (nm != Str.ofString "") = false => hn1
      have hn1 : nm = Str.ofString "" := by simpa using hn1
      exact Halt.mk ⟨by simp [isS, hn1], _, _, rfl, by k_asm, by k_asm⟩
  have hA := strs_filter (fun nm => decide (nm ≠ Str.ofString "" ∧ f nm > 0)) hS1
  k_steps
  refine Halt.mk (dv_sorted rfl (by k_asm) (by k_asm) (.tail _ (.tail _ (.tail _ hdm))) DD (by omega) fun B2 vs2 c2 h2 tk2 ss2 F2 N2 l2 hS2 hP2 => ?_)
  k_steps
  refine Halt.mk (LCt.CompSrcT.ledger rfl F2 N2 (.head _) (by have := hS2.length; have := hP2.length_eq; simp; exact Nat.le_trans (by omega : _ ≤ 13) (by decide)) fun g1 => ?_)
  refine comp_filterA (isS fun nm => decide (nm ≠ Str.ofString "" ∧ f nm < 0)) (.inr ⟨_, .head _, rfl, _, rfl⟩) rfl rfl rfl ?_ ?_
  · intro v I oI C oC D ys m₂ h tk E' hv hC hm2 F2 N2 off ne
    obtain ⟨nm, t, rfl, hnm⟩ := strs_mem hS2 hv
    k_steps
    · rename (nm != Str.ofString "") = true => hn1
      have hn1 : nm ≠ Str.ofString "" := by simpa using hn1
      refine Halt.mk (dv_item (by k_asm) (.tail _ (.tail _ (.tail _ (.tail _ (.tail _ (.tail _ (.tail _ hdm))))))) DD (hP2.mem_iff.mp hnm) (fun v hv => ?_) (by with_unfolding_all rfl))
      obtain ⟨tv, rfl⟩ := hv
      k_steps
      all_goals exact Halt.mk ⟨by simp [isS, hn1]; omega, _, _, rfl, by k_asm, by k_asm⟩
    · rename (nm != Str.ofString "") = false => hn1
      have hn1 : nm = Str.ofString "" := by simpa using hn1
      exact Halt.mk ⟨by simp [isS, hn1], _, _, rfl, by k_asm, by k_asm⟩
  have hB := strs_filter (fun nm => decide (nm ≠ Str.ofString "" ∧ f nm < 0)) hS2
  have hAn : (ss1.filter fun nm => decide (nm ≠ Str.ofString "" ∧ f nm > 0)).Nodup := (hP1.nodup_iff.mpr DD.nodup).filter _
  have hBn : (ss2.filter fun nm => decide (nm ≠ Str.ofString "" ∧ f nm < 0)).Nodup := (hP2.nodup_iff.mpr DD.nodup).filter _
  have hAm : ∀ x, x ∈ (ss1.filter fun nm => decide (nm ≠ Str.ofString "" ∧ f nm > 0)) ↔ x ≠ Str.ofString "" ∧ f x > 0 := fun x => by
    rw [List.mem_filter, hP1.mem_iff]
    simp only [decide_eq_true_eq]
    exact ⟨fun h => h.2, fun h => ⟨by
      by_cases hx : x ∈ ks
      · exact hx
      · have := h0 x hx; omega, h⟩⟩
  have hBm : ∀ x, x ∈ (ss2.filter fun nm => decide (nm ≠ Str.ofString "" ∧ f nm < 0)) ↔ x ≠ Str.ofString "" ∧ f x < 0 := fun x => by
    rw [List.mem_filter, hP2.mem_iff]
    simp only [decide_eq_true_eq]
    exact ⟨fun h => h.2, fun h => ⟨by
      by_cases hx : x ∈ ks
      · exact hx
      · have := h0 x hx; omega, h⟩⟩
  have hAl : (ss1.filter fun nm => decide (nm ≠ Str.ofString "" ∧ f nm > 0)).length ≤ 13 := Nat.le_trans (List.length_filter_le _ _) (by have := hP1.length_eq; omega)
  have hBl : (ss2.filter fun nm => decide (nm ≠ Str.ofString "" ∧ f nm < 0)).length ≤ 13 := Nat.le_trans (List.length_filter_le _ _) (by have := hP2.length_eq; omega)
  generalize (ss1.filter fun nm => decide (nm ≠ Str.ofString "" ∧ f nm > 0)) = added at hA hAn hAm hAl
  generalize (ss2.filter fun nm => decide (nm ≠ Str.ofString "" ∧ f nm < 0)) = taken at hB hBn hBm hBl
  generalize vs2.toArray.toList.filter (isS fun nm => decide (nm ≠ Str.ofString "" ∧ f nm < 0)) = vB at hB
  k_steps
  refine Halt.mk (len_list (News.isList (by k_asm) (by k_mem)) (by have := hA.length; simp only [List.size_toArray] at this ⊢; omega) ?_)
  have hAs := hA.length
  have hBs := hB.length
  k_steps
  · rename (1 : Int) < _ => hl
    simp only [List.size_toArray] at hl
    refine hnone _ _ (by k_asm) (news_sub (by k_asm) fun r hr => .tail _ (.tail _ (.tail _ (.tail _ (.tail _ hr))))) (.inl ?_)
    obtain ⟨x, y, hxy, hx, hy⟩ := two_of hAn (by omega)
    exact ⟨x, y, hxy, ((hAm x).mp hx).1, ((hAm y).mp hy).1, ((hAm x).mp hx).2, ((hAm y).mp hy).2⟩
  rename ¬ (1 : Int) < _ => hl1
  refine Halt.mk (len_list (News.isList (by k_asm) (by k_mem)) (by simp only [List.size_toArray]; omega) ?_)
  k_steps
  · rename (1 : Int) < _ => hl
    simp only [List.size_toArray] at hl
    refine hnone _ _ (by k_asm) (news_sub (by k_asm) fun r hr => .tail _ (.tail _ (.tail _ (.tail _ (.tail _ hr))))) (.inr (.inl ?_))
    obtain ⟨x, y, hxy, hx, hy⟩ := two_of hBn (by omega)
    exact ⟨x, y, hxy, ((hBm x).mp hx).1, ((hBm y).mp hy).1, ((hBm x).mp hx).2, ((hBm y).mp hy).2⟩
  rename ¬ (1 : Int) < _ => hl2
  simp only [List.size_toArray] at hl1 hl2
  refine Halt.mk (add_strs (by k_asm) (by k_asm) (by k_mem) (by k_mem) hA hB (Nat.le_trans (by omega : _ ≤ 26) (by decide)) fun B3 vs3 h3 F3 N3 l3 hS3 => ?_)
  k_steps
  refine Halt.mk (LCt.CompSrcT.ledger rfl F3 N3 (.head _) (by have := hS3.length; simp at this; exact Nat.le_trans (by omega : _ ≤ 26) (by decide)) fun g1 => ?_)
  refine comp_filterA (isS fun nm => decide (f nm ≠ 1 ∧ f nm ≠ -1)) (.inr ⟨_, .head _, rfl, _, rfl⟩) rfl rfl rfl ?_ ?_
  · intro v I oI C oC D ys m₂ h tk E' hv hC hm2 F2 N2 off ne
    obtain ⟨nm, t, rfl, hnm⟩ := strs_mem hS3 hv
    have hnk : nm ∈ ks := by
      by_cases hx : nm ∈ ks
      · exact hx
      · have := h0 nm hx
        rcases List.mem_append.mp hnm with q | q
        · have := ((hAm nm).mp q).2; omega
        · have := ((hBm nm).mp q).2; omega
    k_steps
    refine Halt.mk (dv_item (by k_asm) (.tail _ (.tail _ (.tail _ (.tail _ (.tail _ (.tail _ (.tail _ (.tail _ (.tail _ hdm))))))))) DD hnk (fun v hv => ?_) (by with_unfolding_all rfl))
    obtain ⟨tv, rfl⟩ := hv
    k_steps
    refine Halt.mk ⟨?_, _, _, rfl, by k_asm, by k_asm⟩
    rw [Bool.eq_iff_iff]
    simp only [bne_iff_ne, decide_eq_true_eq, isS]
    split <;> omega
  have hS4 := strs_filter (fun nm => decide (f nm ≠ 1 ∧ f nm ≠ -1)) hS3
  k_steps
  have hS4l := hS4.length
  refine Halt.mk (ne_nil (News.isList (by k_asm) (by k_mem)) (News.isList (by k_asm) (.head _)) (by show un + 3 < _; omega) (fun hz => ?_) (fun hz => ?_))
  · k_steps
    refine hnone _ _ (by k_asm) (news_sub (by k_asm) fun r hr => .tail _ (.tail _ (.tail _ (.tail _ (.tail _ (.tail _ (.tail _ (.tail _ hr)))))))) (.inr (.inr ?_))
    rw [List.size_toArray, hS4l] at hz
    obtain ⟨x, hx⟩ := List.exists_mem_of_length_pos (Nat.pos_of_ne_zero hz)
    obtain ⟨hx1, hx2⟩ := List.mem_filter.mp hx
    have hx3 : f x ≠ 1 ∧ f x ≠ -1 := by simpa using hx2
    rcases List.mem_append.mp hx1 with q | q
    · have := (hAm x).mp q; exact ⟨x, this.1, by omega, hx3.1, hx3.2⟩
    · have := (hBm x).mp q; exact ⟨x, this.1, by omega, hx3.1, hx3.2⟩
  · rw [List.size_toArray, hS4l] at hz
    have hones : ∀ x, x ∈ added ∨ x ∈ taken → f x = 1 ∨ f x = -1 := fun x hx => by
      by_cases h1 : f x = 1
      · exact .inl h1
      · by_cases h2 : f x = -1
        · exact .inr h2
        · have : x ∈ (added ++ taken).filter fun nm => decide (f nm ≠ 1 ∧ f nm ≠ -1) := List.mem_filter.mpr ⟨List.mem_append.mpr hx, by simp [h1, h2]⟩
          rw [List.eq_nil_of_length_eq_zero hz] at this
          nomatch this
    k_steps
    refine Halt.mk (dv_item (by k_asm) (.tail _ (.tail _ (.tail _ (.tail _ (.tail _ (.tail _ (.tail _ (.tail _ hdm)))))))) DD he (fun v hv => ?_) (by with_unfolding_all rfl))
    obtain ⟨tv, rfl⟩ := hv
    k_steps
    refine Halt.mk (add_strs (by k_asm) (by k_asm) (by k_mem) (.head _) hA (.cons emp _ .nil) (Nat.le_trans (by simp; omega : _ ≤ 26) (by decide)) fun B4 vs4 h4 F4 N4 l4 hS5 => ?_)
    k_steps
    refine Halt.mk (add_strs (by k_asm) (by k_asm) (by k_mem) (.head _) hB (.cons emp _ .nil) (Nat.le_trans (by simp; omega : _ ≤ 26) (by decide)) fun B5 vs5 h5 F5 N5 l5 hS6 => ?_)
    k_steps
    rename (@LT.lt Nat _ _ _) ∧ _ => lz
    rename News _ _ _ _ => Nz
    rename Fr _ _ _ _ => Fz
    exact hsome _ _ _ _ _ _ _ _ _ Fz (news_head_rest (pre := [_, _, _, _, _, _, _, _, _, _, _, _]) Nz) (fun r hr => ktn_ltOf lz.2.2.2.2.2.2.2.2.2.2.2.2 r hr) (sum_of_lists (by omega) hAm (by omega) hBm hones)
end
section
local macro_rules | `(tactic| walk_at "pad LH 0") => `(tactic| skip)
local macro_rules | `(tactic| walk_at $k:str) => if ["exec For Name Name cons nil", "pyIter ref", "call builtin:len", "compareOp NotEq ref ref", "compareOp In str ref", "call ref", "exec Raise some none"].contains k.getString then `(tactic| (refine Halt.out ?_)) else Lean.Macro.throwUnsupported
local macro_rules | `(tactic| walk_at "eval Name") => `(tactic| (k_here; k_dflt (refine' ld ?k1 ?k2 ?_; (case k1 => k_asm); (case k2 => first | exact rfl | assumption); k_whole)))
theorem raised_head {base h : Heap} {l : List Env} {e C t dx : Addr} {cx : Value} {x : Addr × Obj} {pre rest : List (Addr × Obj)} (R : RaisedX base l e C t dx cx (x :: (pre ++ rest)) h) : RaisedX base l e C t dx cx (x :: rest) h := R.mono fun q hq => by
  rcases List.mem_cons.mp hq with rfl | hq
  · exact .head _
  · exact .tail _ (List.mem_append_right _ hq)
theorem news_head2_rest {h₀ h : Heap} {L : Addr} {x y : Addr × Obj} {pre rest : List (Addr × Obj)} (N : News h₀ L h (x :: y :: (pre ++ rest))) : News h₀ L h (x :: y :: rest) := fun p hp => N p (by
  rcases List.mem_cons.mp hp with rfl | hp
  · exact .head _
  · rcases List.mem_cons.mp hp with rfl | hp
    · exact .tail _ (.head _)
    · exact .tail _ (.tail _ (List.mem_append_right _ hp)))
theorem getD_some {l : List Str} (h : l.length ≠ 0) : (l ++ [emp]).getD 0 Str.empty = l.getD 0 Str.empty := by
  cases l with
  | nil => exact absurd rfl h
  | cons => rfl
theorem getD_none {l : List Str} (h : l.length = 0) : (l ++ [emp]).getD 0 Str.empty = emp := by
  cases l with
  | nil => rfl
  | cons => simp at h
def ringS : Str := Str.ofString "symbols that stand for themselves"
set_option maxHeartbeats 4000000 in
theorem affine_ok {w : World} {mean : ExcName → Option Value} {mg mb : Str → Option Value} {dp un : Nat} {gd : Option (List Code)} {cn : Str} {cs : Scope} {a : Addr} {ccd : Value} {cl : List (Str × Addr)} {outer : List Env} {A₀ : Around} {base h₀ : Heap} {L : Addr} {m : Str → Option Value} {s : Shared} {Q E : Value → Shared → Prop}
  {rest : List (Addr × Obj)} {l1 l2 : Addr} {v1 v2 : Array Value} {n1 n2 : Nat} {ps ns : List Str} {z : Int} {tz : Tok}
  (B : Below A₀ base outer h₀) (F : Fr h₀ L s.heap m) (X : (hd.heap_39 w.params).In h₀) (N : News h₀ L s.heap rest) (T : TopG mean mg mb h₀) (hk : cs.kind = .function)
  (m1 : (l1, W.listOf v1 n1) ∈ rest) (m2 : (l2, W.listOf v2 n2) ∈ rest) (S1 : StrsAre v1.toList ps) (S2 : StrsAre v2.toList ns) (hp : ∀ x ∈ ps, x ≠ emp) (hn : ∀ x ∈ ns, x ≠ emp) (hdis : ∀ x ∈ ns, x ∉ ps) (hl1 : ps.length ≤ 13) (hl2 : ns.length ≤ 13)
  (hdp : dp + 20 < recursionLimit) (hun : un + 70 < cLine)
  (hret : ps.length ≤ 1 → ns.length ≤ 1 → ∀ x d o h' tk', Fr h₀ L h' m → News h₀ L h' ((x, instObj 133 d) :: (d, o) :: rest) → AffD o z (nrm ((ps ++ [emp]).getD 0 Str.empty) ((ns ++ [emp]).getD 0 Str.empty)) (nrm ((ns ++ [emp]).getD 0 Str.empty) ((ps ++ [emp]).getD 0 Str.empty)) → (∀ r ∈ rest, r.1 < d) → @LT.lt Nat _ d x → Q (.ref x) { s with heap := h', toks := tk' })
  (hraise : 1 < ps.length ∨ 1 < ns.length → ∀ e t dx h' tk' g₂ k1 k2 msg tm, Fr h₀ L g₂ m → g₂.UpToSlots h' → RaisedX base (envX cn cs L a ccd cl :: outer) e 59 t dx .none ((dx, whatD w k1 k2 (.str msg tm)) :: rest) h' → msg ≠ ringS → E (.ref e) { s with heap := h', toks := tk' }) :
  wpAny (model Challenge.rw_qz0049_01.row.prog w) (ktrTop dp un gd cn cs L a ccd cl outer) (call (.ref 142) [.int z tz, .ref l1, .ref l2]) Q E s := by
  have hs1 : v1.size = ps.length := by have := S1.length; simpa using this
  have hs2 : v2.size = ns.length := by have := S2.length; simpa using this
  have hmsg : Str.ofString "not a number plus one symbol less another" ≠ ringS := by decide
  revert X; k_fill; intro X
  refine wpAny_call ?_
  k_dflt cell_enter
  rename_i g₁ L₁ _ FG _ _ Bc Xc Tc
  have hC59 : ExcCls g₁ 59 := ⟨_, _, _, _, _, _, _, _, _, _, _, _, _, _, _, _, Xc 59 (excClassObj _ _ _ _ _ _ _ _ _ _ _ _ _ _ _ _ _ _) (by k_dflt k_is), by decide⟩
  k_steps
  refine Halt.mk (LCt.CompSrcT.ledger rfl (by k_asm) (by k_asm) m1 (by rw [hs1]; exact Nat.le_trans hl1 (by decide)) fun g1 => ?_)
  refine comp_filterA (isS fun nm => decide (nm ≠ emp)) (.inr ⟨_, m1, rfl, _, rfl⟩) rfl rfl rfl ?_ ?_
  · intro v I oI C oC D ys m₂ h tk E' hv hC hm2 F2 N2 off ne
    obtain ⟨nm, t, rfl, hnm⟩ := strs_mem S1 hv
    k_steps
    exact Halt.mk ⟨by rw [Bool.eq_iff_iff]; simp [isS], _, _, rfl, by k_asm, by k_asm⟩
  have hA := strs_filter (fun nm => decide (nm ≠ emp)) S1
  have e1 : ps.filter (fun nm => decide (nm ≠ emp)) = ps := List.filter_eq_self.mpr (fun x hx => by simpa using hp x hx)
  rw [e1] at hA
  generalize v1.toList.filter (isS fun nm => decide (nm ≠ emp)) = vA at hA
  k_steps
  rename_i dA _ _ oA dT _ lT _ F1 N1
  have hlA := hA.length
  refine Halt.mk (For_turns (by k_asm) ?_)
  k_steps
  refine Halt.mk (for_listT (vs := v2.toList) (fun ds ts m₁ news₁ => ∃ vT nT nd nt, news₁ = (dT, W.listOf (List.toArray vT) nT) :: (dA, LCg.lst vA) :: rest ∧ ns = nd ++ nt ∧ StrsAre ts nt ∧ StrsAre vT nd ∧
    m₁ (Str.ofString "added") = some (.ref dA) ∧ m₁ (Str.ofString "taken") = some (.ref dT) ∧ m₁ (Str.ofString "worth") = some (.int z tz)) rfl F1 N1 (.tail _ (.tail _ m2)) rfl rfl ?_ ?_ ?_)
  · exact ⟨[], 0, [], ns, rfl, rfl, S2, .nil, rfl, rfl, rfl⟩
  · intro I oi ds v ts m₁ news₁ h tk hlt hoi e hm hJ F1 N1
    obtain ⟨vT, nT, nd, nt, rfl, hns, hT1, hT2, hma, hmt, hmw⟩ := hJ
    cases hT1 with
    | cons nm t hT1 =>
      rename_i nt
      have hnm : nm ∈ ns := by rw [hns]; simp
      have hne := hn nm hnm
      have hnf : ps.any (· == nm) = false := by
        rw [List.any_eq_false]
        intro x hx hxe
        have : x = nm := by simpa using hxe
        exact hdis nm hnm (this ▸ hx)
      k_steps
      · refine Halt.mk (in_list_strs (vs := vA) (News.isList (by k_asm) (by k_mem)) hA ?_)
        rw [hnf]
        k_steps
        refine append_K (by k_asm) (by k_asm) (Upd.tail (Nat.ne_of_gt (hlt _ (.head _))) (Upd.head (List.forall_mem_cons.mpr ⟨Nat.ne_of_lt lT.1, fun r hr => Nat.ne_of_lt (ktn_ltOf lT.2 r hr)⟩))) (fun h5 F5 N5 => ?_) (by have := hT2.length; rw [hns] at hl2; simp at hl2 ⊢; exact Nat.le_trans (by omega : _ ≤ 13) (by decide))
        rw [List.push_toArray] at N5
        k_steps
        rename Fr _ _ _ _ => Fz
        rename News _ _ _ _ => Nz
        refine TurnE.next ((dT, W.listOf (vT ++ [Value.str nm t]).toArray (nT + 1)) :: (dA, LCg.lst vA) :: rest) Fz Nz (fun q hq => Nat.ne_of_lt ?_) (.tail _ (.tail _ m2)) ⟨vT ++ [Value.str nm t], nT + 1, nd ++ [nm], nt, rfl, by rw [hns]; simp, hT1, strs_append hT2 (.cons _ _ .nil), hma, hmt, hmw⟩
        rcases List.mem_cons.mp hq with rfl | hq
        · show @LT.lt Nat _ dT I
          exact hlt _ (.head _)
        · exact hlt q (.tail _ hq)
      · rename (nm != Str.ofString "") = false => hq
        exact absurd (by simpa using hq) hne
  · intro m₁ news₁ h tk hJ F1 N1
    obtain ⟨vT, nT, nd, nt, rfl, hns, hT1, hT2, hma, hmt, hmw⟩ := hJ
    cases hT1
    rw [List.append_nil] at hns
    subst hns
    have hlT := hT2.length
    k_steps
    refine Halt.mk (len_list (News.isList (by k_asm) (by k_mem)) (by simp only [List.size_toArray]; omega) ?_)
    simp only [List.size_toArray, hlA]
    k_steps
    · rename (1 : Int) < _ => hl
      refine Halt.mk (x_raise ?_)
      k_steps
      refine Halt.mk (x_make (.inl rfl) Bc (by k_asm) Xc (by k_asm) Tc (Around.frames_deeper Bc.stack) rfl rfl (by show dp + 1 + 1 < _; omega) fun e t2 dx h' tk' k1 k2 F' N' l1 l2 l3 => ?_)
      refine ⟨59, e, t2, dx, .none, rfl, hC59.keeps F'.keep, (N' _ (.head _)).1, wpAny_raiseNew_none rfl ?_⟩
      show wpAny _ _ (leaving _ _) _ _ _
      refine x_leaveK Bc F' rfl rfl N' (fun p hp => ?_) fun h'' R u => hraise (.inl (by omega)) e t2 dx h'' _ g₁ k1 k2 _ _ FG u (raised_head (pre := [_, _, _]) R) hmsg
      rcases List.mem_cons.mp hp with rfl | hp
      · exact Nat.ne_of_gt (Nat.lt_trans l2 l3)
      · rcases List.mem_cons.mp hp with rfl | hp
        · exact Nat.ne_of_gt l2
        · exact Nat.ne_of_lt (l1 p hp)
    rename ¬ (1 : Int) < _ => hlp
    refine Halt.mk (len_list (News.isList (by k_asm) (by k_mem)) (by simp only [List.size_toArray]; omega) ?_)
    simp only [List.size_toArray, hlT]
    k_steps
    · rename (1 : Int) < _ => hl
      refine Halt.mk (x_raise ?_)
      k_steps
      refine Halt.mk (x_make (.inl rfl) Bc (by k_asm) Xc (by k_asm) Tc (Around.frames_deeper Bc.stack) rfl rfl (by show dp + 1 + 1 < _; omega) fun e t2 dx h' tk' k1 k2 F' N' l1 l2 l3 => ?_)
      refine ⟨59, e, t2, dx, .none, rfl, hC59.keeps F'.keep, (N' _ (.head _)).1, wpAny_raiseNew_none rfl ?_⟩
      show wpAny _ _ (leaving _ _) _ _ _
      refine x_leaveK Bc F' rfl rfl N' (fun p hp => ?_) fun h'' R u => hraise (.inr (by omega)) e t2 dx h'' _ g₁ k1 k2 _ _ FG u (raised_head (pre := [_, _, _]) R) hmsg
      rcases List.mem_cons.mp hp with rfl | hp
      · exact Nat.ne_of_gt (Nat.lt_trans l2 l3)
      · rcases List.mem_cons.mp hp with rfl | hp
        · exact Nat.ne_of_gt l2
        · exact Nat.ne_of_lt (l1 p hp)
    rename ¬ (1 : Int) < _ => hln
    refine Halt.mk (ne_nil (News.isList (by k_asm) (by k_mem)) (News.isList (by k_asm) (.head _)) (by show un + 3 < _; omega) (fun hz => ?_) (fun hz => ?_))
    all_goals simp only [List.size_toArray, hlA] at hz
    · k_steps
      rename Fr _ _ _ _ => F3
      rename News _ _ _ _ => N3
      refine Halt.mk (ne_nil (News.isList N3 (by k_mem)) (News.isList N3 (.head _)) (by show un + 3 < _; omega) (fun hz2 => ?_) (fun hz2 => ?_))
      all_goals simp only [List.size_toArray, hlT] at hz2
      · k_steps
        refine Halt.mk (aff_new Bc (by k_asm) Xc (by k_asm) Tc rfl (by show dp + 1 + 15 < _; omega) (by show un + 3 + 50 < _; omega) fun x d o h4 tk4 F4 N4 hO l4 l5 => ?_)
        k_steps
        rename Fr _ _ _ _ => Fz
        rename News _ _ _ _ => Nz
        exact hret (by omega) (by omega) _ _ _ _ _ Fz (news_head2_rest (pre := [_, _, _, _]) Nz) (by rw [getD_some hz, getD_some hz2]; exact hO) (fun r hr => l4 r (.tail _ (.tail _ (.tail _ (.tail _ hr))))) l5
      · k_steps
        refine Halt.mk (aff_new Bc (by k_asm) Xc (by k_asm) Tc rfl (by show dp + 1 + 15 < _; omega) (by show un + 3 + 50 < _; omega) fun x d o h4 tk4 F4 N4 hO l4 l5 => ?_)
        k_steps
        rename Fr _ _ _ _ => Fz
        rename News _ _ _ _ => Nz
        exact hret (by omega) (by omega) _ _ _ _ _ Fz (news_head2_rest (pre := [_, _, _, _]) Nz) (by rw [getD_some hz, getD_none hz2]; exact hO) (fun r hr => l4 r (.tail _ (.tail _ (.tail _ (.tail _ hr))))) l5
    · k_steps
      rename Fr _ _ _ _ => F3
      rename News _ _ _ _ => N3
      refine Halt.mk (ne_nil (News.isList N3 (by k_mem)) (News.isList N3 (.head _)) (by show un + 3 < _; omega) (fun hz2 => ?_) (fun hz2 => ?_))
      all_goals simp only [List.size_toArray, hlT] at hz2
      · k_steps
        refine Halt.mk (aff_new Bc (by k_asm) Xc (by k_asm) Tc rfl (by show dp + 1 + 15 < _; omega) (by show un + 3 + 50 < _; omega) fun x d o h4 tk4 F4 N4 hO l4 l5 => ?_)
        k_steps
        rename Fr _ _ _ _ => Fz
        rename News _ _ _ _ => Nz
        exact hret (by omega) (by omega) _ _ _ _ _ Fz (news_head2_rest (pre := [_, _, _, _]) Nz) (by rw [getD_none hz, getD_some hz2]; exact hO) (fun r hr => l4 r (.tail _ (.tail _ (.tail _ (.tail _ hr))))) l5
      · k_steps
        refine Halt.mk (aff_new Bc (by k_asm) Xc (by k_asm) Tc rfl (by show dp + 1 + 15 < _; omega) (by show un + 3 + 50 < _; omega) fun x d o h4 tk4 F4 N4 hO l4 l5 => ?_)
        k_steps
        rename Fr _ _ _ _ => Fz
        rename News _ _ _ _ => Nz
        exact hret (by omega) (by omega) _ _ _ _ _ Fz (news_head2_rest (pre := [_, _, _, _]) Nz) (by rw [getD_none hz, getD_none hz2]; exact hO) (fun r hr => l4 r (.tail _ (.tail _ (.tail _ (.tail _ hr))))) l5
end
local macro_rules | `(tactic| k_mem) => `(tactic| (change _ ∈ (_ : List (Addr × Obj)); ktr_member))
local macro_rules | `(tactic| walk_at "eval Name") => `(tactic| (k_here; k_dflt (first
  | ((with_reducible show wpAny _ _ (eval _ (envOf _ _ _ _ _)) _ _ _); refine' ld ?k1 ?k2 ?_; (case k1 => k_asm); (case k2 => first | exact rfl | assumption); k_whole)
  | (refine' nameX_L ?F ?v ?_ ?a ?b; (case F => k_asm); (case a => rfl); (case b => rfl); (case v => first | exact rfl | assumption); k_whole))))
section
section
variable {prog : Program} {w : World} {A : Around} {E : Value → Shared → Prop} {s : Shared} {h₀ : Heap} {L : Addr} {m : Str → Option Value} {env : Env}
/-- the source of a comprehension, by its walk -/
def SrcW (prog : Program) (w : World) (A : Around) (h₀ : Heap) (L : Addr) (m : Str → Option Value) (env : Env) (ct elt : Expr) (x : Str) (scope : Scope) (cl : List (Str × Addr)) (Fin : Shared → List Value → List (Addr × Obj) → Prop) (s₁ : Shared) (it : Value) (s₂ : Shared) : Prop :=
  ∃ I fp n P St S news, it = .ref I ∧ Walks prog w A I fp [I] n P St ∧ n ≤ sizeLine ∧ (∀ i h, St i h → ∃ o, h.get? I = some o) ∧
    (∀ i h h' o nw, St i h → h.get? I = some o → h'.get? I = some o → (∀ b o, h₀.get? b = some o → h'.get? b = some o) → News h₀ L h' nw → S nw → St i h') ∧
    St 0 s₂.heap ∧ (∀ b ∈ fp, b < s₂.heap.objs.size) ∧ Fr h₀ L s₂.heap m ∧ News h₀ L s₂.heap news ∧ L ≠ I ∧ h₀.get? I = none ∧ (∀ p ∈ news, p.1 ≠ I) ∧ S news ∧
    (∃ h, s₂ = { s₁ with heap := h }) ∧ LCt.CompRestT prog w A h₀ L m env ct elt x scope cl s₂ S P (Fin s₂) n 0 [] news
theorem ListComp_W {ct elt iter : Expr} {x : Str} {px : Pos} {scope : Scope} {cl : List (Str × Addr)} {pos : Pos} {Q : Value → Shared → Prop} (F₀ : Fr h₀ L s.heap m)
    (hclos : closureFor scope env = pure cl) (hcell : ∀ y ∈ scope.names, y.2 ≠ .cell) (hkind : scope.kind = .function)
    (hnames : ∀ y ∈ scope.names, y.2 = .local → scope.names.lookup y.1 = some .local) (hx : scope.names.lookup x = some .local)
    (h : wpAny (model prog w) A (eval iter env) (fun xv s₁ => wpAny (model prog w) A (pyIter xv) (SrcW prog w A h₀ L m env ct elt x scope cl (fun s₂ => LCg.FinE h₀ L m s₂ Q) s₁) E s₁) E s)
    (hs : ∀ x, foldedSetIterable iter env x = pure x := by intro _; rfl) :
    wpAny (model prog w) A (eval (.ListComp elt [⟨.Name x px, iter, [ct], 0⟩] scope pos) env) Q E s := by
  rw [eval_ListComp]
  refine wpAny_comprehension_free (use := none) rfl hs hclos hkind hnames (wpAny_mono h (fun xv s₁ h₁ => wpAny_mono h₁ (fun it s₂ h₂ => ?_) fun _ _ e => e) fun _ _ e => e)
  obtain ⟨I, fp, n, P, St, S, news, rfl, W, hsz, hIo, hSt, hst, hfp, F, N, hIL, hI₀, off, hS, _, R⟩ := h₂
  refine LCt.block_T W hsz hIo hSt hcell hkind hx hst hfp F N hIL hI₀ off hS R ?_
  intro D C h tk m' ys news' F' N' o1 hn hC₀ hD₀ hCL hDL hCD offC fin
  refine ⟨m', hn, fun h'' hs'' => fin D h'' tk (F'.change hs'' hCL hC₀) (fun p hp => ?_) o1⟩
  refine ⟨hs''.extBut _ _ ?_ (N' p hp).1, (N' p hp).2⟩
  rcases List.mem_cons.mp hp with rfl | hp
  · exact Ne.symm hCD
  · exact offC p hp
theorem Assign_ListComp_W {ct elt iter : Expr} {x y : Str} {px py : Pos} {scope : Scope} {cl : List (Str × Addr)} {pos spos : Pos} {Q : Flow → Shared → Prop} (F₀ : Fr h₀ L s.heap m) (hLe : env.locals = L)
    (hsw : swapsWith (.ListComp elt [⟨.Name x px, iter, [ct], 0⟩] scope pos) (some (.Name y py)) spos.line env = pure true)
    (hclos : closureFor scope env = pure cl) (hcell : ∀ z ∈ scope.names, z.2 ≠ .cell) (hkind : scope.kind = .function)
    (hnames : ∀ z ∈ scope.names, z.2 = .local → scope.names.lookup z.1 = some .local) (hx : scope.names.lookup x = some .local)
    (hy : env.kindOf y = some .local) (hp : (env.scope.kind == .class || (env.scope.kind == .module && env.locals != env.globals)) = false)
    (h : wpAny (model prog w) A (eval iter env) (fun xv s₁ => wpAny (model prog w) A (pyIter xv) (SrcW prog w A h₀ L m env ct elt x scope cl (fun s₂ => LCg.FinA h₀ L m s₂ y Q) s₁) E s₁) E s)
    (hs : ∀ x, foldedSetIterable iter env x = pure x := by intro _; rfl) :
    wpAny (model prog w) A (exec (.Assign [.Name y py] (.ListComp elt [⟨.Name x px, iter, [ct], 0⟩] scope pos) spos) env) Q E s := by
  subst hLe
  rw [exec_Assign_Name_used _ _ _ _ hsw]
  refine wpAny_bind (wpAny_standAt (wpAny_bind ?_))
  show wpAny _ A (do let _ ← comprehension (.ListComp elt [⟨.Name x px, iter, [ct], 0⟩] scope pos) scope env _ (newList []) false (eval iter env) (some (assign (.Name y py) env))) _ _ s
  refine wpAny_bind (wpAny_mono (wpAny_comprehension_free (use := some (assign (.Name y py) env)) (Q := fun _ s' => Q .next s') rfl hs hclos hkind hnames
    (wpAny_mono h (fun xv s₁ h₁ => wpAny_mono h₁ (fun it s₂ h₂ => ?_) fun _ _ e => e) fun _ _ e => e)) (fun _ s' hq => wpAny_pure (wpAny_pure hq)) fun _ _ e => e)
  obtain ⟨I, fp, n, P, St, S, news, rfl, W, hsz, hIo, hSt, hst, hfp, F, N, hIL, hI₀, off, hS, _, R⟩ := h₂
  refine LCt.block_T W hsz hIo hSt hcell hkind hx hst hfp F N hIL hI₀ off hS R ?_
  intro D C h tk m' ys news' F' N' o1 hn hC₀ hD₀ hCL hDL hCD offC fin
  show wpAny _ A (assign (.Name y py) env (.ref D)) _ _ _
  refine wpAny_assign_Name (wpAny_storeName_local hy F'.ns (fun h₂ hn₂ hs₂ => ?_) hp)
  have hL₀ : h₀.get? env.locals = none := Heap.get?_none_of_le F'.above
  have F₂ : Fr h₀ env.locals h₂ (fun z => if z = y then some (.ref D) else m z) := ⟨hn₂, fun b o e => hs₂.extBut b o (fun q => by rw [q, hL₀] at e; cases e) (F'.keep b o e), F'.above⟩
  refine ⟨m', hn.sameBut hs₂ hCL, fun h'' hs'' => fin D h'' _ (F₂.change hs'' hCL hC₀) (fun p hp => ?_) o1⟩
  have z : h₂.get? p.1 = some p.2 := hs₂.extBut _ _ (N' p hp).2.1 (N' p hp).1
  refine ⟨hs''.extBut _ _ ?_ z, (N' p hp).2⟩
  rcases List.mem_cons.mp hp with rfl | hp
  · exact Ne.symm hCD
  · exact offC p hp

theorem srcW_tup {ct elt : Expr} {x : Str} {scope : Scope} {cl : List (Str × Addr)} {Fin : Shared → List Value → List (Addr × Obj) → Prop} {ax : Addr} {o : Obj} {its : Array Value} {k : Nat} {news : List (Addr × Obj)}
    (hh : A.handled = none) (F : Fr h₀ L s.heap m) (N : News h₀ L s.heap news) (hm : (ax, o) ∈ news) (hc : o.cls = .type "tuple") (hd : o.data = .seq its k) (hsz : its.size ≤ sizeLine)
    (R : ∀ g, LCt.CompRestT prog w A h₀ L m env ct elt x scope cl { s with heap := g } (fun nw => (ax, o) ∈ nw) (fun i v => its[i]? = some v) (Fin { s with heap := g }) its.size 0 [] news) :
    wpAny (model prog w) A (pyIter (.ref ax)) (SrcW prog w A h₀ L m env ct elt x scope cl Fin s) E s := by
  have hlt : ax < s.heap.objs.size := Heap.lt_size (N _ hm).1
  have up : ∀ (ob : Obj) b o, s.heap.get? b = some o → (s.heap.push ob).get? b = some o := fun _ b o e => Heap.get?_push_of_some _ e
  have ht : ∀ {h : Heap}, h.get? ax = some o → h.IsTuple ax its := fun e => ⟨o, e, hc, k, hd⟩
  refine wpAny_pyIter_tuple (ht (N _ hm).1) ⟨s.heap.objs.size, [s.heap.objs.size, ax], its.size, _, _, fun nw => (ax, o) ∈ nw, news, rfl, Walks.tuple hh _ ax (Nat.ne_of_lt hlt) its, hsz, fun i h st => ?_, fun i h h' o' nw st e e' kk N' S' => ?_, ?_, fun b hb => ?_,
    F.keeps (up _), N.grown (up _), Nat.ne_of_lt F.ns.lt, next_is_new F, fun p hp => Nat.ne_of_lt (Heap.lt_size (N p hp).1), hm, ⟨_, rfl⟩, R _⟩
  · obtain ⟨o', e, _⟩ := st.1; exact ⟨o', e⟩
  · refine ⟨?_, ht (N' _ S').1⟩
    obtain ⟨o'', q, r⟩ := st.1
    rw [e] at q; cases q
    exact ⟨_, e', r⟩
  · exact ⟨⟨_, Heap.get?_push_size _ rfl, rfl, rfl⟩, ht (up _ _ _ (N _ hm).1)⟩
  · show b < (s.heap.push _).objs.size
    rw [Heap.size_push]
    rcases List.mem_cons.mp hb with rfl | hb
    · exact Nat.lt_succ_self _
    · rw [List.mem_singleton.mp hb]; exact Nat.lt_succ_of_lt hlt
theorem srcW_dict {ct elt : Expr} {x : Str} {scope : Scope} {cl : List (Str × Addr)} {Fin : Shared → List Value → List (Addr × Obj) → Prop} {d : Addr} {o : Obj} {ks : List Str} {V : Str → Value → Prop} {news : List (Addr × Obj)}
    (hh : A.handled = none) (F : Fr h₀ L s.heap m) (N : News h₀ L s.heap news) (hm : (d, o) ∈ news) (D : DictV prog w d o ks V) (hsz : ks.length ≤ sizeLine)
    (R : ∀ g, LCt.CompRestT prog w A h₀ L m env ct elt x scope cl { s with heap := g } (fun nw => (d, o) ∈ nw) (fun i v => ∃ k t, ks[i]? = some k ∧ v = .str k t) (Fin { s with heap := g }) ks.length 0 [] news) :
    wpAny (model prog w) A (pyIter (.ref d)) (SrcW prog w A h₀ L m env ct elt x scope cl Fin s) E s := by
  obtain ⟨kvs, a, b, _⟩ := D.ex
  subst b
  obtain ⟨ep, hat⟩ := KdkAt.of a
  have hlt : d < s.heap.objs.size := Heap.lt_size (N _ hm).1
  have up : ∀ (ob : Obj) b o, s.heap.get? b = some o → (s.heap.push ob).get? b = some o := fun _ b o e => Heap.get?_push_of_some _ e
  have W := Walks.dictKeys (knd := PySem.strKind prog w) (A := A) hh s.heap.objs.size d (Nat.ne_of_lt hlt) kvs ep
  have W' : Walks prog w A s.heap.objs.size [s.heap.objs.size, d] [s.heap.objs.size] (kvs.map (·.1)).length (fun i v => ∃ k t, (kvs.map (·.1))[i]? = some k ∧ v = .str k t) (fun i h => h.IsKeyIter s.heap.objs.size d i kvs.length ep ∧ h.DictAt (PySem.strKind prog w) d kvs ep) := by
    rw [List.length_map]
    exact { sub := W.sub, frame := W.frame, done := W.done, self := W.self,
            item := fun i s Q E hi st hQ => W.item i s Q E hi st fun v h' tk hP => hQ v h' tk (by
              obtain ⟨k, x, hx, hk⟩ := hP
              obtain ⟨t, rfl⟩ := Value.isStrOf_shape hk
              exact ⟨k, t, by simp [hx], rfl⟩) }
  refine wpAny_pyIter_dict D.mod (hat.dictAt (N _ hm).1) ⟨s.heap.objs.size, [s.heap.objs.size, d], _, _, _, fun nw => (d, o) ∈ nw, news, rfl, W', hsz, fun i h st => ?_, fun i h h' o' nw st e e' kk N' S' => ?_, ?_, fun b hb => ?_,
    F.keeps (up _), N.grown (up _), Nat.ne_of_lt F.ns.lt, next_is_new F, fun p hp => Nat.ne_of_lt (Heap.lt_size (N p hp).1), hm, ⟨_, rfl⟩, R _⟩
  · obtain ⟨o', e, _⟩ := st.1; exact ⟨o', e⟩
  · refine ⟨?_, hat.dictAt (N' _ S').1⟩
    obtain ⟨o'', q, r⟩ := st.1
    rw [e] at q; cases q
    exact ⟨_, e', r⟩
  · exact ⟨⟨_, Heap.get?_push_size _ rfl, rfl, rfl⟩, hat.dictAt (up _ _ _ (N _ hm).1)⟩
  · show b < (s.heap.push _).objs.size
    rw [Heap.size_push]
    rcases List.mem_cons.mp hb with rfl | hb
    · exact Nat.lt_succ_self _
    · rw [List.mem_singleton.mp hb]; exact Nat.lt_succ_of_lt hlt
/-- a filter of names -/
theorem comp_strs {ct : Expr} {x : Str} {px : Pos} {scope : Scope} {cl : List (Str × Addr)} {S : List (Addr × Obj) → Prop} {P : Nat → Value → Prop} {ks : List Str} {n : Nat} {Fin : List Value → List (Addr × Obj) → Prop} {news : List (Addr × Obj)}
    (p : Str → Bool) (hS : S news) (hn : n = ks.length) (hP : ∀ i v, P i v → ∃ k t, ks[i]? = some k ∧ v = .str k t)
    (hd : (x == ("__debug__" : Str)) = false) (hkind : scope.kind = .function) (hx : scope.names.lookup x = some .local)
    (turn : ∀ k t I oI C oC D ys m₂ h tk (E' : Value → Shared → Prop), k ∈ ks → LCg.NsObj oC m₂ → m₂ x = some (.str k t) → Fr h₀ L h m → News h₀ L h ((I, oI) :: (C, oC) :: (D, LCg.lst ys) :: news) → LCg.Off3 I C D news → ((@Ne Nat I C) ∧ (@Ne Nat I D) ∧ (@Ne Nat C D)) →
      wpAny (model prog w) A (isTrue ct (compEnvC scope cl C env) (eval ct (compEnvC scope cl C env))) (fun ok s' => Halt (ok = p k ∧ ∃ h' tk', s' = { s with heap := h', toks := tk' } ∧ Fr h₀ L h' m ∧ News h₀ L h' ((I, oI) :: (C, oC) :: (D, LCg.lst ys) :: news))) E' { s with heap := h, toks := tk })
    (done : ∀ ys, StrsAre ys (ks.filter p) → Fin ys news) : LCt.CompRestT prog w A h₀ L m env ct (.Name x px) x scope cl s S P Fin n 0 [] news := by
  subst hn
  have go : ∀ k i ys, i + k = ks.length → StrsAre ys ((ks.take i).filter p) → LCt.CompRestT prog w A h₀ L m env ct (.Name x px) x scope cl s S P Fin k i ys news := by
    intro k
    induction k with
    | zero => intro i ys e hy; have e2 : i = ks.length := by omega
              rw [e2, List.take_length] at hy; exact LCt.CompRestT.zero (done ys hy)
    | succ k ih =>
      intro i ys e hy
      refine LCt.CompRestT.succ fun v I oI C oC D m₂ h tk E' a b c d f g1 g2 => ?_
      obtain ⟨key, t, hk, rfl⟩ := hP i v a
      have hv : key ∈ ks := List.mem_of_getElem? hk
      have ht : ks.take (i + 1) = ks.take i ++ [key] := by rw [List.take_add_one, hk]; rfl
      refine wpAny_mono (turn key t I oI C oC D ys m₂ h tk E' hv b c d f g1 g2) (fun ok s' hs => ?_) fun _ _ x => x
      obtain ⟨rfl, h', tk', rfl, F', N'⟩ := hs.out
      split
      · rename_i hp
        refine wpAny_Name (wpAny_loadName_local (by show (relabel scope env).kind = _; exact hkind) (lookup_relabel_local hx) (b.ns (N' (C, oC) (.tail _ (.head _))).1) c ?_) hd
        refine ⟨h', tk', news, rfl, F', N', g1, hS, ih (i + 1) _ (by omega) ?_⟩
        rw [ht, List.filter_append, List.filter_cons, hp]
        exact strs_append hy (.cons _ _ .nil)
      · rename_i hp
        refine ⟨h', tk', news, rfl, F', N', g1, hS, ih (i + 1) _ (by omega) ?_⟩
        rw [ht, List.filter_append, List.filter_cons, if_neg hp]; simpa using hy
  exact go _ 0 [] (by omega) .nil
end
end
section
/-- the equates that an equate leans on -/
def lean (eks : List Str) (ep eq : Str → Str) (x : Str) : List Str := [ep x, eq x].filter fun y => decide (y ∈ eks)
theorem lean_sub {eks : List Str} {ep eq : Str → Str} {x y : Str} (h : y ∈ lean eks ep eq x) : y ∈ eks := by simpa using (List.mem_filter.mp h).2
theorem lean_len (eks : List Str) (ep eq : Str → Str) (x : Str) : (lean eks ep eq x).length ≤ 2 := List.length_filter_le _ _
theorem lean_nodup {eks : List Str} {ep eq : Str → Str} {x : Str} (hpq : ep x = eq x → ep x = Str.ofString "") (he : Str.ofString "" ∉ eks) : (lean eks ep eq x).Nodup := by
  unfold lean
  by_cases h : ep x = eq x
  · have h1 := hpq h
    rw [← h, h1]
    rw [List.filter_cons, if_neg (by simpa using he), List.filter_cons, if_neg (by simpa using he)]
    exact .nil
  · exact List.Pairwise.filter _ (show List.Nodup [ep x, eq x] by simp [h])
theorem dv_len {w : World} {A : Around} {E : Value → Shared → Prop} {s : Shared} {h₀ : Heap} {L d : Addr} {news : List (Addr × Obj)} {o : Obj} {ks : List Str} {V : Str → Value → Prop} {Q : Value → Shared → Prop} (N : News h₀ L s.heap news) (hp : (d, o) ∈ news) (D : DictV PG w d o ks V) (hn : ks.length ≤ 16777216)
    (h : Q (.int ks.length (s.toks + 1)) { s with toks := s.toks + 1 + 1 }) : wpAny (model PG w) A (call (.builtin "len") [.ref d]) Q E s := by
  obtain ⟨kvs, a, b, _⟩ := D.ex
  have hl : kvs.length = ks.length := by simpa using congrArg List.length b
  refine kda_len N hp a D.mod (by omega) ?_
  rw [hl]; exact h
def tot (ls : List Str) (ln : Str → List Str) (x : Str) : Nat := (ls.map fun n => (ln n).count x).sum
structure Inv1 (eks : List Str) (ln : Str → List Str) (ns ls td : List Str) (f : Str → Int) : Prop where
  nd : ls.Nodup
  sub : ∀ x ∈ ls, x ∈ eks
  tsub : ∀ x ∈ td, x ∈ eks
  base : ∀ n ∈ ns, n ∈ eks → n ∈ ls ∨ n ∈ td
  clo : ∀ x ∈ ls, ∀ y ∈ ln x, y ∈ ls ∨ y ∈ td
  cnt : ∀ x, f x = (tot ls ln x : Nat)
  mini : ∀ P : Str → Prop, (∀ n ∈ ns, n ∈ eks → P n) → (∀ x ∈ eks, P x → ∀ y ∈ ln x, P y) → ∀ x, x ∈ ls ∨ x ∈ td → P x
theorem Inv1.start {eks ns : List Str} {ln : Str → List Str} : Inv1 eks ln ns [] (ns.filter fun n => decide (n ∈ eks)) (fun _ => 0) where
  nd := .nil
  sub := fun _ h => nomatch h
  tsub := fun x h => by simpa using (List.mem_filter.mp h).2
  base := fun n h1 h2 => .inr (List.mem_filter.mpr ⟨h1, by simpa using h2⟩)
  clo := fun _ h => nomatch h
  cnt := fun _ => rfl
  mini := fun P h1 _ x hx => by
    rcases hx with hx | hx
    · nomatch hx
    · have := List.mem_filter.mp hx; exact h1 x this.1 (by simpa using this.2)
theorem Inv1.old {eks ns ls td : List Str} {ln : Str → List Str} {f : Str → Int} {nm : Str} (h : Inv1 eks ln ns ls (td ++ [nm]) f) (hm : nm ∈ ls) : Inv1 eks ln ns ls td f where
  nd := h.nd
  sub := h.sub
  tsub := fun x hx => h.tsub x (List.mem_append_left _ hx)
  base := fun n h1 h2 => (h.base n h1 h2).elim .inl fun q => (List.mem_append.mp q).elim .inr fun q => .inl (by rw [List.mem_singleton.mp q]; exact hm)
  clo := fun x hx y hy => (h.clo x hx y hy).elim .inl fun q => (List.mem_append.mp q).elim .inr fun q => .inl (by rw [List.mem_singleton.mp q]; exact hm)
  cnt := h.cnt
  mini := fun P h1 h2 x hx => h.mini P h1 h2 x (hx.elim .inl fun q => .inr (List.mem_append_left _ q))
theorem Inv1.new {eks ns ls td : List Str} {ln : Str → List Str} {f f' : Str → Int} {nm : Str} (h : Inv1 eks ln ns ls (td ++ [nm]) f) (hm : nm ∉ ls) (hln : ∀ y ∈ ln nm, y ∈ eks) (hf : ∀ x, f' x = f x + ((ln nm).count x : Nat)) :
    Inv1 eks ln ns (ls ++ [nm]) (td ++ ln nm) f' where
  nd := List.nodup_append.mpr ⟨h.nd, by simp, fun x hx y hy => by rw [List.mem_singleton.mp hy]; exact fun e => hm (e ▸ hx)⟩
  sub := fun x hx => (List.mem_append.mp hx).elim (h.sub x) fun q => by rw [List.mem_singleton.mp q]; exact h.tsub nm (List.mem_append_right _ (.head _))
  tsub := fun x hx => (List.mem_append.mp hx).elim (fun q => h.tsub x (List.mem_append_left _ q)) (hln x)
  base := fun n h1 h2 => (h.base n h1 h2).elim (fun q => .inl (List.mem_append_left _ q)) fun q => (List.mem_append.mp q).elim (fun q => .inr (List.mem_append_left _ q)) fun q => .inl (List.mem_append_right _ q)
  clo := fun x hx y hy => by
    rcases List.mem_append.mp hx with hx | hx
    · exact (h.clo x hx y hy).elim (fun q => .inl (List.mem_append_left _ q)) fun q => (List.mem_append.mp q).elim (fun q => .inr (List.mem_append_left _ q)) fun q => .inl (List.mem_append_right _ q)
    · rw [List.mem_singleton.mp hx] at hy; exact .inr (List.mem_append_right _ hy)
  cnt := fun x => by rw [hf, h.cnt]; unfold tot; rw [List.map_append, List.sum_append]; simp
  mini := fun P h1 h2 x hx => by
    have hnm : P nm := h.mini P h1 h2 nm (.inr (List.mem_append_right _ (.head _)))
    have hne : nm ∈ eks := h.tsub nm (List.mem_append_right _ (.head _))
    rcases hx with hx | hx
    · rcases List.mem_append.mp hx with hx | hx
      · exact h.mini P h1 h2 x (.inl hx)
      · rw [List.mem_singleton.mp hx]; exact hnm
    · rcases List.mem_append.mp hx with hx | hx
      · exact h.mini P h1 h2 x (.inr (List.mem_append_left _ hx))
      · exact h2 nm hne hnm x hx
theorem tot_pos {ls : List Str} {ln : Str → List Str} {x : Str} : tot ls ln x ≠ 0 ↔ ∃ n ∈ ls, x ∈ ln n := by
  unfold tot
  induction ls with
  | nil => simp
  | cons n ls ih =>
    rw [List.map_cons, List.sum_cons]
    constructor
    · intro h
      by_cases hx : x ∈ ln n
      · exact ⟨n, .head _, hx⟩
      · rw [List.count_eq_zero.mpr hx, Nat.zero_add] at h
        obtain ⟨k, h1, h2⟩ := ih.mp h
        exact ⟨k, .tail _ h1, h2⟩
    · rintro ⟨k, h1, h2⟩
      rcases List.mem_cons.mp h1 with rfl | h1
      · have := List.count_pos_iff.mpr h2; omega
      · have := ih.mpr ⟨k, h1, h2⟩; omega
theorem count_one {l : List Str} {x : Str} (hn : l.Nodup) (hx : x ∈ l) : l.count x = 1 := by
  induction l with
  | nil => nomatch hx
  | cons a l ih =>
    have hn' := List.nodup_cons.mp hn
    rcases List.mem_cons.mp hx with rfl | hx
    · rw [List.count_cons_self, List.count_eq_zero.mpr hn'.1]
    · have hne : a ≠ x := fun e => hn'.1 (by rw [e]; exact hx)
      rw [List.count_cons_of_ne hne, ih hn'.2 hx]
/-- what waits: those that are not found yet -/
def left (ls fd : List Str) : List Str := ls.filter fun n => decide (n ∉ fd)
structure Inv2 (ls : List Str) (ln : Str → List Str) (rd fd : List Str) (f : Str → Int) : Prop where
  fnd : fd.Nodup
  rnd : rd.Nodup
  off : ∀ x ∈ rd, x ∉ fd
  fsub : ∀ x ∈ fd, x ∈ ls
  rsub : ∀ x ∈ rd, x ∈ ls
  cnt : ∀ x ∈ ls, f x = (tot (left ls fd) ln x : Nat)
  zero : ∀ x ∈ ls, (x ∈ rd ∨ x ∈ fd) ↔ f x = 0
  topo : ∀ pre x post, fd = pre ++ x :: post → ∀ y ∈ ls, x ∈ ln y → y ∈ pre
theorem Inv2.start {ls : List Str} {ln : Str → List Str} {f : Str → Int} (hn : ls.Nodup) (hc : ∀ x ∈ ls, f x = (tot ls ln x : Nat)) : Inv2 ls ln (ls.filter fun x => decide (f x = 0)) [] f where
  fnd := .nil
  rnd := hn.filter _
  off := fun _ _ h => nomatch h
  fsub := fun _ h => nomatch h
  rsub := fun x h => (List.mem_filter.mp h).1
  cnt := fun x hx => by
    have : left ls [] = ls := List.filter_eq_self.mpr (by simp)
    rw [this]; exact hc x hx
  zero := fun x hx => ⟨fun h => h.elim (fun q => by simpa using (List.mem_filter.mp q).2) (fun q => nomatch q), fun h => .inl (List.mem_filter.mpr ⟨hx, by simpa using h⟩)⟩
  topo := fun pre x post e => by simp at e
theorem tot_left {ls fd : List Str} {ln : Str → List Str} {nm : Str} (hn : ls.Nodup) (h1 : nm ∈ ls) (h2 : nm ∉ fd) (x : Str) : tot (left ls fd) ln x = tot (left ls (fd ++ [nm])) ln x + (ln nm).count x := by
  induction ls with
  | nil => nomatch h1
  | cons a ls ih =>
    have hn' := List.nodup_cons.mp hn
    rcases List.mem_cons.mp h1 with rfl | h1
    · have e : left ls (fd ++ [nm]) = left ls fd := List.filter_congr fun y hy => by
        have : y ≠ nm := fun q => hn'.1 (q ▸ hy)
        simp [this]
      have e1 : left (nm :: ls) fd = nm :: left ls fd := by unfold left; rw [List.filter_cons, if_pos (by simpa using h2)]
      have e2 : left (nm :: ls) (fd ++ [nm]) = left ls (fd ++ [nm]) := by unfold left; rw [List.filter_cons, if_neg (by simp)]
      rw [e1, e2, e]; unfold tot; rw [List.map_cons, List.sum_cons]; omega
    · have hne : a ≠ nm := fun q => hn'.1 (q ▸ h1)
      have ih := ih hn'.2 h1
      by_cases ha : a ∈ fd
      · have e1 : left (a :: ls) fd = left ls fd := by unfold left; rw [List.filter_cons, if_neg (by simpa using ha)]
        have e2 : left (a :: ls) (fd ++ [nm]) = left ls (fd ++ [nm]) := by unfold left; rw [List.filter_cons, if_neg (by simp [ha])]
        rw [e1, e2, ih]
      · have e1 : left (a :: ls) fd = a :: left ls fd := by unfold left; rw [List.filter_cons, if_pos (by simpa using ha)]
        have e2 : left (a :: ls) (fd ++ [nm]) = a :: left ls (fd ++ [nm]) := by unfold left; rw [List.filter_cons, if_pos (by simp [ha, hne])]
        rw [e1, e2]; unfold tot at ih ⊢; rw [List.map_cons, List.sum_cons, List.map_cons, List.sum_cons, ih]; omega
theorem Inv2.step {ls : List Str} {ln : Str → List Str} {rd fd : List Str} {f f' : Str → Int} {nm : Str} (h : Inv2 ls ln (rd ++ [nm]) fd f) (hn : ls.Nodup) (hl : ∀ x ∈ ls, (ln x).Nodup) (hcl : ∀ x ∈ ls, ∀ y ∈ ln x, y ∈ ls)
    (hf : ∀ x, f' x = f x - ((ln nm).count x : Nat)) : Inv2 ls ln (rd ++ (ln nm).filter fun x => decide (f x = 1)) (fd ++ [nm]) f' := by
  have hnm : nm ∈ ls := h.rsub nm (List.mem_append_right _ (.head _))
  have hnf : nm ∉ fd := h.off nm (List.mem_append_right _ (.head _))
  have hrn := List.nodup_append.mp h.rnd
  have hz : f nm = 0 := (h.zero nm hnm).mp (.inl (List.mem_append_right _ (.head _)))
  have hcnt : ∀ x ∈ ls, f' x = (tot (left ls (fd ++ [nm])) ln x : Nat) := fun x hx => by
    rw [hf, h.cnt x hx, tot_left hn hnm hnf x]; omega
  have one : ∀ x, (ln nm).count x = if x ∈ ln nm then 1 else 0 := fun x => by
    split
    · rename_i q; exact count_one (hl nm hnm) q
    · rename_i q; exact List.count_eq_zero.mpr q
  have rd0 : ∀ x ∈ rd, f x = 0 := fun x hx => (h.zero x (h.rsub x (List.mem_append_left _ hx))).mp (.inl (List.mem_append_left _ hx))
  have fd0 : ∀ x ∈ fd, f x = 0 := fun x hx => (h.zero x (h.fsub x hx)).mp (.inr hx)
  refine ⟨?_, ?_, ?_, ?_, ?_, hcnt, ?_, ?_⟩
  · exact List.nodup_append.mpr ⟨h.fnd, by simp, fun x hx y hy => by rw [List.mem_singleton.mp hy]; exact fun e => hnf (e ▸ hx)⟩
  · refine List.nodup_append.mpr ⟨hrn.1, (hl nm hnm).filter _, fun x hx y hy e => ?_⟩
    have h1 : f y = 1 := by simpa using (List.mem_filter.mp hy).2
    have h2 := rd0 x hx
    rw [e] at h2; omega
  · intro x hx hxf
    rcases List.mem_append.mp hx with q | q
    · rcases List.mem_append.mp hxf with r | r
      · exact h.off x (List.mem_append_left _ q) r
      · exact hrn.2.2 x q nm (.head _) (List.mem_singleton.mp r)
    · have h1 : f x = 1 := by simpa using (List.mem_filter.mp q).2
      rcases List.mem_append.mp hxf with r | r
      · have := fd0 x r; omega
      · rw [List.mem_singleton.mp r] at h1; omega
  · intro x hx
    rcases List.mem_append.mp hx with q | q
    · exact h.fsub x q
    · rw [List.mem_singleton.mp q]; exact hnm
  · intro x hx
    rcases List.mem_append.mp hx with q | q
    · exact h.rsub x (List.mem_append_left _ q)
    · exact hcl nm hnm x (List.mem_filter.mp q).1
  · intro x hx
    have hfx := hf x
    rw [one] at hfx
    have hge : 0 ≤ f' x := by rw [hcnt x hx]; omega
    constructor
    · rintro (q | q)
      · rcases List.mem_append.mp q with q | q
        · have := rd0 x q
          split at hfx <;> omega
        · have h1 : f x = 1 := by simpa using (List.mem_filter.mp q).2
          rw [if_pos (List.mem_filter.mp q).1] at hfx; omega
      · rcases List.mem_append.mp q with q | q
        · have := fd0 x q
          split at hfx <;> omega
        · rw [List.mem_singleton.mp q] at hfx hge ⊢
          split at hfx <;> omega
    · intro h0
      by_cases hx0 : f x = 0
      · rcases (h.zero x hx).mpr hx0 with q | q
        · rcases List.mem_append.mp q with q | q
          · exact .inl (List.mem_append_left _ q)
          · exact .inr (List.mem_append_right _ q)
        · exact .inr (List.mem_append_left _ q)
      · by_cases hxl : x ∈ ln nm
        · rw [if_pos hxl] at hfx
          exact .inl (List.mem_append_right _ (List.mem_filter.mpr ⟨hxl, by simp; omega⟩))
        · rw [if_neg hxl] at hfx; omega
  · intro pre x post e y hy hxy
    rcases List.eq_nil_or_concat post with rfl | ⟨post', z, rfl⟩
    · have e' := List.append_inj' e rfl
      have hx : nm = x := by simpa using e'.2
      rw [← e'.1]
      subst hx
      have h1 := h.cnt nm hnm
      rw [hz] at h1
      have h2 : tot (left ls fd) ln nm = 0 := by omega
      by_cases hyf : y ∈ fd
      · exact hyf
      · exact absurd h2 (tot_pos.mpr ⟨y, List.mem_filter.mpr ⟨hy, by simpa using hyf⟩, hxy⟩)
    · have e2 : fd ++ [nm] = (pre ++ x :: post') ++ [z] := by rw [e]; simp
      have e' := List.append_inj' e2 rfl
      exact h.topo pre x post' e'.1 y hy hxy
/-- what order_of gives -/
structure OrderOk (eks : List Str) (ln : Str → List Str) (ns fd : List Str) : Prop where
  nd : fd.Nodup
  sub : ∀ x ∈ fd, x ∈ eks
  base : ∀ n ∈ ns, n ∈ eks → n ∈ fd
  clo : ∀ x ∈ fd, ∀ y ∈ ln x, y ∈ fd
  mini : ∀ P : Str → Prop, (∀ n ∈ ns, n ∈ eks → P n) → (∀ x ∈ eks, P x → ∀ y ∈ ln x, P y) → ∀ x ∈ fd, P x
  topo : ∀ pre x post, fd = pre ++ x :: post → ∀ y ∈ fd, x ∈ ln y → y ∈ pre
/-- why order_of refuses: names that wait for one another -/
def RingOk (eks : List Str) (ln : Str → List Str) (ns : List Str) : Prop :=
  ∃ T : Str → Prop, (∃ x, T x) ∧ (∀ x, T x → x ∈ eks ∧ ∃ y, T y ∧ x ∈ ln y) ∧ ∀ P : Str → Prop, (∀ n ∈ ns, n ∈ eks → P n) → (∀ x ∈ eks, P x → ∀ y ∈ ln x, P y) → ∀ x, T x → P x
theorem order_of_inv {eks ns ls fd : List Str} {ln : Str → List Str} {f g : Str → Int} (h1 : Inv1 eks ln ns ls [] f) (h2 : Inv2 ls ln [] fd g) (hl : ¬ fd.length < ls.length) : OrderOk eks ln ns fd := by
  have all : ∀ x ∈ ls, x ∈ fd := fun x hx => by
    by_cases q : x ∈ fd
    · exact q
    · exfalso
      have : (x :: fd).length ≤ ls.length := by
        have hn : (x :: fd).Nodup := List.nodup_cons.mpr ⟨q, h2.fnd⟩
        exact nodup_len hn fun y hy => (List.mem_cons.mp hy).elim (fun e => e ▸ hx) (h2.fsub y)
      simp at this; omega
  refine ⟨h2.fnd, fun x hx => h1.sub x (h2.fsub x hx), fun n hn he => ?_, fun x hx y hy => ?_, fun P p1 p2 x hx => h1.mini P p1 p2 x (.inl (h2.fsub x hx)), fun pre x post e y hy hxy => h2.topo pre x post e y (h2.fsub y hy) hxy⟩
  · exact (h1.base n hn he).elim (all n) fun q => nomatch q
  · exact (h1.clo x (h2.fsub x hx) y hy).elim (all y) fun q => nomatch q
theorem ring_of_inv {eks ns ls fd : List Str} {ln : Str → List Str} {f g : Str → Int} (h1 : Inv1 eks ln ns ls [] f) (h2 : Inv2 ls ln [] fd g) (hl : fd.length < ls.length) : RingOk eks ln ns := by
  refine ⟨fun x => x ∈ ls ∧ x ∉ fd, ?_, ?_, fun P p1 p2 x hx => h1.mini P p1 p2 x (.inl hx.1)⟩
  · by_cases q : ∃ x, x ∈ ls ∧ x ∉ fd
    · exact q
    · have : ls.length ≤ fd.length := nodup_len h1.nd fun x hx => by
        by_cases r : x ∈ fd
        · exact r
        · exact absurd ⟨x, hx, r⟩ q
      omega
  · rintro x ⟨hx, hxf⟩
    refine ⟨h1.sub x hx, ?_⟩
    have h3 : g x ≠ 0 := fun q => ((h2.zero x hx).mpr q).elim (fun r => nomatch r) hxf
    have h4 := h2.cnt x hx
    obtain ⟨y, hy, hxy⟩ := tot_pos.mp (show tot (left ls fd) ln x ≠ 0 by omega)
    obtain ⟨hy1, hy2⟩ := List.mem_filter.mp hy
    exact ⟨y, ⟨hy1, by simpa using hy2⟩, hxy⟩
section
variable {w : World} {A : Around} {E : Value → Shared → Prop} {s : Shared} {h₀ : Heap} {L d : Addr} {m : Str → Option Value} {news : List (Addr × Obj)} {g : Obj → List (Addr × Obj)} {o : Obj} {ks : List Str} {f : Str → Int} {k : Str} {t : Tok}
theorem dvc_get {td : Tok} {Q : Value → Shared → Prop} (N : News h₀ L s.heap news) (hp : (d, o) ∈ news) (D : DictV PG w d o ks (CntV f)) (h0 : ∀ k, k ∉ ks → f k = 0) (h : ∀ t', Q (.int (f k) t') { s with toks := s.toks + 1 }) :
    wpAny (model PG w) A (call (.builtin "dict.get") [.ref d, .str k t, .int 0 td]) Q E s := by
  refine dv_get N hp D (fun _ v ⟨t', e⟩ => e ▸ h t') fun hk => ?_
  have := h0 k hk
  rw [← this]; exact h td
theorem dvc_set {n : Int} {tn : Tok} {Q : Unit → Shared → Prop} (F : Fr h₀ L s.heap m) (N : News h₀ L s.heap news) (U : UpdF d o news g) (D : DictV PG w d o ks (CntV f)) (h0 : ∀ k, k ∉ ks → f k = 0) (hsz : ks.length ≤ sizeLine)
    (h : ∀ h' o', Fr h₀ L h' m → News h₀ L h' (g o') → DictV PG w d o' (putKey ks k) (CntV fun x => if x = k then n else f x) → (∀ x, x ∉ putKey ks k → (if x = k then n else f x) = 0) → Q () { s with heap := h', toks := s.toks + 1 }) :
    wpAny (model PG w) A (setItem (.ref d) (.str k t) (.int n tn)) Q E s := by
  refine dv_set F N U D hsz fun h' o' F' N' D' => h h' o' F' N' (D'.weak fun x y _ hy => ?_) fun x hx => ?_
  · by_cases e : x = k
    · rw [if_pos e] at hy; exact ⟨tn, by rw [hy]; simp [e]⟩
    · rw [if_neg e] at hy; obtain ⟨t', ht⟩ := hy; exact ⟨t', by rw [ht]; simp [e]⟩
  · have : ¬ (x ∈ ks ∨ x = k) := fun q => hx (mem_putKey.mpr q)
    rw [if_neg (fun q => this (.inr q))]; exact h0 x fun q => this (.inl q)
end
theorem strs_last {vs : List Value} {td : List Str} (h : StrsAre vs td) (hn : td ≠ []) : ∃ p nm t td', vs = p ++ [.str nm t] ∧ td = td' ++ [nm] ∧ StrsAre p td' := by
  induction h with
  | nil => exact absurd rfl hn
  | cons y t r ih =>
    rename_i vs ys
    cases ys with
    | nil => cases r; exact ⟨[], y, t, [], rfl, rfl, .nil⟩
    | cons z zs =>
      obtain ⟨p, nm, t', td', e1, e2, hp⟩ := ih (by simp)
      exact ⟨_ :: p, nm, t', y :: td', by rw [e1]; rfl, by rw [e2]; rfl, .cons y t hp⟩
end
section
/-- settled went through -/
def Okay (eks : List Str) (ln : Str → List Str) (p q : Str) : Prop := (p ∉ eks ∧ q ∉ eks) ∨ ∃ fd, OrderOk eks ln [p, q] fd
/-- what settled's answer is worth, whatever the equates are worth -/
def Worth (eks : List Str) (ew : Str → Int) (ep eq : Str → Str) (aw : Int) (pn qn : Str) (r : Option (Int × Str × Str)) : Prop :=
  ∀ (V : Str → Str → Int) (P : Str → Prop), (∀ n ∈ [pn, qn], n ∈ eks → P n) → (∀ x ∈ eks, P x → ∀ y ∈ lean eks ep eq x, P y) → (∀ x ∈ eks, P x → ∀ y, V x y = cntOf eks V (ew x) (ep x) (eq x) y) → SumOf (cntOf eks V aw pn qn) r
theorem sum_plain {f : Str → Int} {aw : Int} {pn qn : Str} (h : pn = qn → pn = emp) (key : ∀ y, f y = (if y = emp then aw else 0) + (if pn ≠ emp ∧ y = pn then 1 else 0) - (if qn ≠ emp ∧ y = qn then 1 else 0)) : SumOf f (some (aw, pn, qn)) := by
  refine ⟨?_, fun h1 => ?_, fun x hx h1 => ?_, fun h1 => ?_, fun x hx h1 => ?_⟩
  · rw [key]
    rw [if_pos rfl, if_neg fun q => q.1 q.2.symm, if_neg fun q => q.1 q.2.symm]; omega
  · rw [key]
    have hne : pn ≠ qn := fun q => h1 (h q)
    simp [h1, hne]
  · rw [key] at h1
    by_cases h4 : x = pn
    · exact h4
    · rw [if_neg hx, if_neg (fun q => h4 q.2)] at h1
      split at h1 <;> omega
  · rw [key]
    have hne : qn ≠ pn := fun q => h1 (q.trans (h q.symm))
    simp [h1, hne]
  · rw [key] at h1
    by_cases h4 : x = qn
    · exact h4
    · rw [if_neg hx, if_neg (fun q : qn ≠ emp ∧ x = qn => h4 q.2)] at h1
      split at h1 <;> omega
theorem worth_plain {eks : List Str} {ew : Str → Int} {ep eq : Str → Str} {aw : Int} {pn qn : Str} (hp : pn ∉ eks) (hq : qn ∉ eks) (h : pn = qn → pn = emp) : Worth eks ew ep eq aw pn qn (some (aw, pn, qn)) := by
  intro V P _ _ _
  refine sum_plain h fun y => ?_
  have e : ∀ n, n ∉ eks → NmV eks V n y = if n ≠ emp ∧ y = n then 1 else 0 := fun n hn => by
    unfold NmV
    by_cases h1 : n = emp
    · rw [if_pos h1, if_neg (fun q => q.1 h1)]
    · rw [if_neg h1, if_neg hn]
      by_cases h2 : y = n
      · rw [if_pos h2, if_pos ⟨h1, h2⟩]
      · rw [if_neg h2, if_neg fun q => h2 q.2]
  unfold cntOf
  rw [e pn hp, e qn hq]
section
variable {w : World} {A : Around} {E : Value → Shared → Prop} {s : Shared} {h₀ : Heap} {L d : Addr} {m : Str → Option Value} {news : List (Addr × Obj)} {g : Obj → List (Addr × Obj)} {o : Obj} {ks : List Str} {f : Str → Int} {k : Str} {t : Tok}
theorem dvc_pop {td : Tok} {Q : Value → Shared → Prop} (F : Fr h₀ L s.heap m) (N : News h₀ L s.heap news) (U : UpdF d o news g) (hp : (d, o) ∈ news) (D : DictV PG w d o ks (CntV f)) (h0 : ∀ k, k ∉ ks → f k = 0) (hsz : ks.length ≤ sizeLine)
    (h : ∀ t' h' o' ws', Fr h₀ L h' m → News h₀ L h' (g o') → DictV PG w d o' ws' (CntV fun x => if x = k then 0 else f x) → (∀ x, x ∉ ws' → (if x = k then 0 else f x) = 0) → (∀ x ∈ ws', x ∈ ks) → Q (.int (f k) t') { s with heap := h', toks := s.toks + 1 }) :
    wpAny (model PG w) A (call (.builtin "dict.pop") [.ref d, .str k t, .int 0 td]) Q E s := by
  refine dv_pop F N U hp D hsz (fun hk v h' o' hv F' N' D' => ?_) fun hk => ?_
  · obtain ⟨t', rfl⟩ := hv
    refine h t' h' o' _ F' N' (D'.weak fun x v _ hv => ?_) (fun x hx => ?_) fun x hx => (List.mem_filter.mp hx).1
    · obtain ⟨hne, t2, e⟩ := hv
      exact ⟨t2, by rw [e]; simp [hne]⟩
    · by_cases e : x = k
      · rw [if_pos e]
      · rw [if_neg e]; exact h0 x fun q => hx (List.mem_filter.mpr ⟨q, by simpa using e⟩)
  · have e := h0 k hk
    obtain ⟨pre, post, e1, e2, _, _⟩ := U.split
    have hg : g o = news := by rw [e2, e1]
    have := h td s.heap o ks F (hg ▸ N) (D.weak fun x v hx hv => ?_) (fun x hx => ?_) fun _ hx => hx
    · rw [e] at this; exact this
    · obtain ⟨t2, e3⟩ := hv
      have hne : x ≠ k := fun q => hk (q ▸ hx)
      exact ⟨t2, by rw [e3]; simp [hne]⟩
    · split
      · rfl
      · exact h0 x hx
end
theorem sum_nrm {f : Str → Int} {z : Int} {p q : Str} (h : SumOf f (some (z, p, q))) : SumOf f (some (z, nrm p q, nrm q p)) := by
  by_cases e : p = q
  · have hp : p = emp := by
      by_cases h1 : p = emp
      · exact h1
      · have h2 := h.2.1 h1
        have h3 := h.2.2.2.1 (e ▸ h1)
        rw [e] at h2; omega
    have hq : q = emp := e ▸ hp
    subst hq
    subst hp
    exact h
  · have e1 : nrm p q = p := if_neg e
    have e2 : nrm q p = q := if_neg (Ne.symm e)
    rw [e1, e2]; exact h
theorem univ_nodup : univ.Nodup := by decide +kernel
/-- the vector of some counts, the equates put in -/
def sumU (eks : List Str) (V : Str → Str → Int) (c : Str → Int) (y : Str) : Int := (univ.map fun n => c n * NmV eks V n y).sum
theorem sumU_upd {eks : List Str} {V : Str → Str → Int} {c c' : Str → Int} {k : Str} {d : Int} (hk : k ∈ univ) (h : ∀ x, c' x = if x = k then c k + d else c x) (y : Str) : sumU eks V c' y = sumU eks V c y + d * NmV eks V k y := by
  have go : ∀ l : List Str, l.Nodup → (l.map fun n => c' n * NmV eks V n y).sum = (l.map fun n => c n * NmV eks V n y).sum + if k ∈ l then d * NmV eks V k y else 0 := by
    intro l
    induction l with
    | nil => intro _; simp
    | cons a l ih =>
      intro hn
      have hn' := List.nodup_cons.mp hn
      rw [List.map_cons, List.sum_cons, List.map_cons, List.sum_cons, ih hn'.2, h a]
      by_cases ha : a = k
      · subst ha
        rw [if_pos rfl, if_neg hn'.1, if_pos (.head _), Int.add_mul]; omega
      · rw [if_neg ha]
        by_cases hl : k ∈ l
        · rw [if_pos hl, if_pos (.tail _ hl)]; omega
        · rw [if_neg hl, if_neg (by simp [Ne.symm ha, hl])]; omega
  unfold sumU
  rw [go univ univ_nodup, if_pos hk]
theorem sumU_zero (eks : List Str) (V : Str → Str → Int) (y : Str) : sumU eks V (fun _ => 0) y = 0 := by
  unfold sumU
  induction univ with
  | nil => rfl
  | cons a l ih => rw [List.map_cons, List.sum_cons, ih]; simp
/-- what holds in settled's loop -/
structure InvS (eks : List Str) (ew : Str → Int) (ep eq : Str → Str) (aw : Int) (pn qn : Str) (fd fdone : List Str) (c : Str → Int) (wv : Int) : Prop where
  tot : ∀ (V : Str → Str → Int) (P : Str → Prop), (∀ n ∈ [pn, qn], n ∈ eks → P n) → (∀ x ∈ eks, P x → ∀ y ∈ lean eks ep eq x, P y) → (∀ x ∈ eks, P x → ∀ y, V x y = cntOf eks V (ew x) (ep x) (eq x) y) →
    ∀ y, (if y = emp then wv else 0) + sumU eks V c y = cntOf eks V aw pn qn y
  zero : ∀ x ∈ fdone, c x = 0
  ins : ∀ n ∈ eks, c n ≠ 0 → n ∈ fd
theorem InvS.start {eks : List Str} {ew : Str → Int} {ep eq : Str → Str} {aw : Int} {pn qn : Str} {fd : List Str} {c : Str → Int} (hO : OrderOk eks (lean eks ep eq) [pn, qn] fd) (hp : pn ∈ univ) (hq : qn ∈ univ)
    (hc : ∀ x, c x = if x = qn then (if qn = pn then 1 else 0) - 1 else if x = pn then 1 else 0) : InvS eks ew ep eq aw pn qn fd [] c aw where
  tot := fun V P _ _ _ y => by
    have h1 := sumU_upd (eks := eks) (V := V) (c := fun _ => 0) (c' := fun x => if x = pn then 1 else 0) (k := pn) (d := 1) hp (fun x => by by_cases h : x = pn <;> simp [h]) y
    have h2 := sumU_upd (eks := eks) (V := V) (c := fun x => if x = pn then 1 else 0) (c' := c) (k := qn) (d := -1) hq (fun x => by rw [hc]; rfl) y
    rw [h2, h1, sumU_zero]
    unfold cntOf
    by_cases q : y = emp
    · rw [if_pos q]; omega
    · rw [if_neg q]; omega
  zero := fun _ h => nomatch h
  ins := fun n hn hcn => by
    rw [hc] at hcn
    by_cases h1 : n = qn
    · exact hO.base n (by simp [h1]) hn
    · by_cases h2 : n = pn
      · exact hO.base n (by simp [h2]) hn
      · rw [if_neg h1, if_neg h2] at hcn; exact absurd rfl hcn
theorem InvS.step {eks : List Str} {ew : Str → Int} {ep eq : Str → Str} {aw : Int} {pn qn : Str} {fd fdone ftodo : List Str} {c c1 c2 c3 : Str → Int} {wv : Int} {nm : Str} (h : InvS eks ew ep eq aw pn qn fd fdone c wv) (hO : OrderOk eks (lean eks ep eq) [pn, qn] fd) (hemp : emp ∉ eks)
    (hfd : fd = fdone ++ nm :: ftodo) (hu : ∀ k ∈ eks, k ∈ univ ∧ ep k ∈ univ ∧ eq k ∈ univ)
    (h1 : ∀ x, c1 x = if x = nm then 0 else c x) (h2 : ∀ x, c2 x = if x = ep nm then c1 (ep nm) + c nm else c1 x) (h3 : ∀ x, c3 x = if x = eq nm then c2 (eq nm) - c nm else c2 x) :
    InvS eks ew ep eq aw pn qn fd (fdone ++ [nm]) c3 (wv + c nm * ew nm) := by
  have hnf : nm ∈ fd := by rw [hfd]; simp
  have hne : nm ∈ eks := hO.sub nm hnf
  have hnd : nm ∉ fdone := fun q => by
    have := hO.nd
    rw [hfd] at this
    exact (List.nodup_append.mp this).2.2 nm q nm (.head _) rfl
  have inl : ∀ y, y = ep nm ∨ y = eq nm → y ∈ eks → y ∈ lean eks ep eq nm := fun y hy hye => List.mem_filter.mpr ⟨by rcases hy with rfl | rfl <;> simp, by simpa using hye⟩
  have late : ∀ x ∈ fdone ++ [nm], x ∉ lean eks ep eq nm := fun x hx hl => by
    rcases List.mem_append.mp hx with hx | hx
    · obtain ⟨a, b, rfl⟩ := List.append_of_mem hx
      have := hO.topo a x (b ++ nm :: ftodo) (by rw [hfd]; simp) nm hnf hl
      exact hnd (List.mem_append_left _ this)
    · rw [List.mem_singleton.mp hx] at hl
      exact hnd (hO.topo fdone nm ftodo hfd nm hnf hl)
  have hxe : ∀ x ∈ fdone ++ [nm], x ∈ eks := fun x hx => hO.sub x (by
    rw [hfd]
    rcases List.mem_append.mp hx with hx | hx
    · exact List.mem_append_left _ hx
    · rw [List.mem_singleton.mp hx]; simp)
  refine ⟨fun V P p1 p2 p3 y => ?_, fun x hx => ?_, fun n hn hc => ?_⟩
  · have e1 := sumU_upd (eks := eks) (V := V) (c := c) (c' := c1) (k := nm) (d := -c nm) (hu nm hne).1 (fun x => by rw [h1]; by_cases q : x = nm <;> simp [q]; omega) y
    have e2 := sumU_upd (eks := eks) (V := V) (c := c1) (c' := c2) (k := ep nm) (d := c nm) (hu nm hne).2.1 h2 y
    have e3 := sumU_upd (eks := eks) (V := V) (c := c2) (c' := c3) (k := eq nm) (d := -c nm) (hu nm hne).2.2 (fun x => by rw [h3]; rfl) y
    have e0 := h.tot V P p1 p2 p3 y
    have hP : P nm := hO.mini P p1 p2 nm hnf
    have ev : NmV eks V nm y = cntOf eks V (ew nm) (ep nm) (eq nm) y := by
      rw [← p3 nm hne hP y]
      unfold NmV
      by_cases q : nm = Str.ofString ""
      · exact absurd hne (q ▸ hemp)
      · rw [if_neg q, if_pos hne]
    rw [e3, e2, e1, ← e0, ev]
    unfold cntOf
    by_cases q : y = emp
    · rw [if_pos q, if_pos q, if_pos q, Int.neg_mul, Int.neg_mul, Int.mul_sub, Int.mul_add]; omega
    · rw [if_neg q, if_neg q, if_neg q, Int.neg_mul, Int.neg_mul, Int.mul_sub, Int.mul_add]; omega
  · have hl := late x hx
    have he := hxe x hx
    rw [h3, if_neg (fun q => hl (inl x (.inr q) he)), h2, if_neg (fun q => hl (inl x (.inl q) he)), h1]
    rcases List.mem_append.mp hx with hx | hx
    · split
      · rfl
      · exact h.zero x hx
    · rw [if_pos (List.mem_singleton.mp hx)]
  · by_cases q1 : n = eq nm
    · exact hO.clo nm hnf n (inl n (.inr q1) hn)
    · by_cases q2 : n = ep nm
      · exact hO.clo nm hnf n (inl n (.inl q2) hn)
      · rw [h3, if_neg q1, h2, if_neg q2, h1] at hc
        by_cases q3 : n = nm
        · rw [q3]; exact hnf
        · rw [if_neg q3] at hc; exact h.ins n hn hc
theorem InvS.done {eks : List Str} {ew : Str → Int} {ep eq : Str → Str} {aw : Int} {pn qn : Str} {fd : List Str} {c : Str → Int} {wv : Int} (h : InvS eks ew ep eq aw pn qn fd fd c wv) (hc0 : ∀ k, k ∉ univ → c k = 0) {r : Option (Int × Str × Str)}
    (hr : SumOf (fun y => if y = emp then wv else c y) r) : Worth eks ew ep eq aw pn qn r := by
  intro V P p1 p2 p3
  have hz : ∀ n ∈ eks, c n = 0 := fun n hn => by
    by_cases q : c n = 0
    · exact q
    · exact h.zero n (h.ins n hn q)
  have e : ∀ y, sumU eks V c y = if y = emp then 0 else c y := fun y => by
    have term : ∀ n, c n * NmV eks V n y = if n ≠ emp ∧ n = y then c y else 0 := fun n => by
      unfold NmV
      by_cases h1 : n = emp
      · rw [if_pos h1, if_neg (fun q => q.1 h1)]; simp
      · rw [if_neg h1]
        by_cases h2 : n ∈ eks
        · rw [hz n h2, Int.zero_mul]
          by_cases q : n ≠ emp ∧ n = y
          · rw [if_pos q, ← q.2, hz n h2]
          · rw [if_neg q]
        · rw [if_neg h2]
          by_cases h3 : n = y
          · rw [if_pos h3.symm, if_pos ⟨h1, h3⟩, h3]; simp
          · rw [if_neg (fun q => h3 q.symm), if_neg (fun q => h3 q.2)]; simp
    have go : ∀ l : List Str, l.Nodup → (l.map fun n => c n * NmV eks V n y).sum = if y ≠ emp ∧ y ∈ l then c y else 0 := by
      intro l
      induction l with
      | nil => intro _; simp
      | cons a l ih =>
        intro hn
        have hn' := List.nodup_cons.mp hn
        rw [List.map_cons, List.sum_cons, ih hn'.2, term a]
        by_cases ha : a = y
        · subst ha
          have e0 : (if a ≠ emp ∧ a ∈ l then c a else 0) = 0 := if_neg fun q => hn'.1 q.2
          rw [e0]
          by_cases h1 : a = emp
          · rw [if_neg (fun q => q.1 h1), if_neg (fun q => q.1 h1)]; rfl
          · rw [if_pos ⟨h1, rfl⟩, if_pos ⟨h1, List.mem_cons_self⟩]; omega
        · rw [if_neg (fun q => ha q.2)]
          by_cases h1 : y ≠ emp ∧ y ∈ l
          · rw [if_pos h1, if_pos ⟨h1.1, .tail _ h1.2⟩]; omega
          · rw [if_neg h1, if_neg (fun q => h1 ⟨q.1, (List.mem_cons.mp q.2).resolve_left (Ne.symm ha)⟩)]; rfl
    unfold sumU
    rw [go univ univ_nodup]
    by_cases h1 : y = emp
    · rw [if_neg (fun q => q.1 h1), if_pos h1]
    · rw [if_neg h1]
      by_cases h2 : y ∈ univ
      · rw [if_pos ⟨h1, h2⟩]
      · rw [if_neg (fun q => h2 q.2), hc0 y h2]
  have : cntOf eks V aw pn qn = fun y => if y = emp then wv else c y := funext fun y => by
    rw [← h.tot V P p1 p2 p3 y, e y]
    split <;> omega
  rw [this]; exact hr
end
section
local macro_rules | `(tactic| walk_at "pad LI 0") => `(tactic| skip)
local macro_rules | `(tactic| walk_at $k:str) => if ["exec For Name Subscript cons nil", "exec For Name Name cons nil", "pyIter ref", "call builtin:len", "compareOp NotEq ref ref", "compareOp In str ref", "compareOp NotIn str ref", "call ref", "exec While Compare cons nil", "exec Raise some none", "eval ListComp", "call builtin:list.append", "call builtin:list.pop", "call builtin:list.extend", "call builtin:dict.get", "setItem ref str"].contains k.getString then `(tactic| (refine Halt.out ?_)) else Lean.Macro.throwUnsupported
/-- the equates of a scope -/
abbrev EqV (R : List (Addr × Obj)) (ew : Str → Int) (ep eq : Str → Str) : Str → Value → Prop := fun k v => ∃ x d o, v = .ref x ∧ (x, instObj 133 d) ∈ R ∧ (d, o) ∈ R ∧ AffD o (ew k) (ep k) (eq k)
/-- the lists of what an equate leans on -/
abbrev LnV (R : List (Addr × Obj)) (ln : Str → List Str) : Str → Value → Prop := fun k v => ∃ a vs n, v = .ref a ∧ (a, W.listOf (List.toArray vs) n) ∈ R ∧ StrsAre vs (ln k)
/-- what holds in the first loop -/
def Loop1 (w : World) (ed : Addr) (eks : List Str) (ep eq : Str → Str) (ns : List Str) (rest : List (Addr × Obj)) (dT dL dW L₁ : Addr) (oc1 oc2 : Obj) (n : Nat) (m₁ : Str → Option Value) (news₁ : List (Addr × Obj)) : Prop :=
  ∃ ls td f ws vT nT oL oW R, news₁ = (dT, W.listOf (List.toArray vT) nT) :: (dL, oL) :: (dW, oW) :: R ∧ Inv1 eks (lean eks ep eq) ns ls td f ∧ StrsAre vT td ∧ DictV PG w dL oL ls (LnV R (lean eks ep eq)) ∧ DictV PG w dW oW ws (CntV f) ∧ (∀ k, k ∉ ws → f k = 0) ∧ (∀ k ∈ ws, k ∈ eks) ∧
    (∀ p ∈ rest, p ∈ R) ∧ (L₁ + 1 + 1, oc1) ∈ R ∧ (L₁ + 1, oc2) ∈ R ∧ (∀ p ∈ R, p.1 ≠ dT ∧ p.1 ≠ dL ∧ p.1 ≠ dW) ∧ n = 3 * (eks.length - ls.length) + td.length ∧ n ≤ 100 ∧ m₁ (Str.ofString "leans") = some (.ref dL) ∧ m₁ (Str.ofString "todo") = some (.ref dT)
theorem off1_mem {D : Addr} : ∀ {l : List (Addr × Obj)}, LCg.Off1 D l → ∀ p ∈ l, p.1 ≠ D
  | [], _, _, h => nomatch h
  | _ :: _, x, p, h => by
    rcases List.mem_cons.mp h with rfl | h
    · exact x.1
    · exact off1_mem x.2 p h
local macro_rules | `(tactic| walk_at "subscriptTail") => `(tactic| (k_here; (with_reducible show wpAny _ _ (subscriptTail _ _ (Value.ref _) (Value.str _ _)) _ _ _); refine Halt.out ?_))
/-- what holds in the second loop -/
def Loop2 (w : World) (eks ls : List Str) (ln : Str → List Str) (dR dF dW dL : Addr) (R2 : List (Addr × Obj)) (n : Nat) (m₁ : Str → Option Value) (news₁ : List (Addr × Obj)) : Prop :=
  ∃ rd fd g ws vR nR vF nF oW, news₁ = (dR, PySem.W.listOf (List.toArray vR) nR) :: (dF, PySem.W.listOf (List.toArray vF) nF) :: (dW, oW) :: R2 ∧ Inv2 ls ln rd fd g ∧ StrsAre vR rd ∧ StrsAre vF fd ∧ DictV PG w dW oW ws (CntV g) ∧ (∀ k, k ∉ ws → g k = 0) ∧ (∀ k ∈ ws, k ∈ eks) ∧
    n = ls.length - fd.length ∧ m₁ (Str.ofString "ready") = some (.ref dR) ∧ m₁ (Str.ofString "found") = some (.ref dF) ∧ m₁ (Str.ofString "leans") = some (.ref dL)
theorem raised_sub {base h : Heap} {l : List Env} {e C t dx : Addr} {cx : Value} {x : Addr × Obj} {big rest : List (Addr × Obj)} (R : RaisedX base l e C t dx cx (x :: big) h) (hs : ∀ q ∈ rest, q ∈ big) : RaisedX base l e C t dx cx (x :: rest) h := R.mono fun q hq => by
  rcases List.mem_cons.mp hq with rfl | hq
  · exact .head _
  · exact .tail _ (hs q hq)
set_option maxHeartbeats 4000000 in
theorem order_ok {w : World} {mean : ExcName → Option Value} {mg mb : Str → Option Value} {dp un : Nat} {gd : Option (List Code)} {cn : Str} {cs : Scope} {a : Addr} {ccd : Value} {cl : List (Str × Addr)} {outer : List Env} {A₀ : Around} {base h₀ : Heap} {L : Addr} {m : Str → Option Value} {s : Shared} {Q E : Value → Shared → Prop}
  {rest : List (Addr × Obj)} {sc scd ed l1 : Addr} {hh : Int} {te : Tok} {eo : Obj} {eks : List Str} {ew : Str → Int} {ep eq : Str → Str} {v1 : Array Value} {n1 : Nat} {ns : List Str}
  (B : Below A₀ base outer h₀) (F : Fr h₀ L s.heap m) (X : (hd.heap_39 w.params).In h₀) (N : News h₀ L s.heap rest) (T : TopG mean mg mb h₀) (hk : cs.kind = .function)
  (hsc : (sc, instObj 184 scd) ∈ rest) (hscd : (scd, dictOf [⟨hh, .str (Str.ofString "equates") te, .ref ed⟩] 1) ∈ rest) (hed : (ed, eo) ∈ rest) (hE : DictV PG w ed eo eks (EqV rest ew ep eq)) (hemp : emp ∉ eks) (hpq : ∀ k ∈ eks, ep k = eq k → ep k = emp) (hel : eks.length ≤ 8)
  (hl1 : (l1, W.listOf v1 n1) ∈ rest) (S1 : StrsAre v1.toList ns) (hns : ns.length ≤ 13)
  (hdp : dp + 25 < recursionLimit) (hun : un + 90 < cLine)
  (hret : ∀ D vF nF fd h' tk', Fr h₀ L h' m → News h₀ L h' ((D, W.listOf (List.toArray vF) nF) :: rest) → StrsAre vF fd → OrderOk eks (lean eks ep eq) ns fd → (∀ p ∈ rest, p.1 < D) → Q (.ref D) { s with heap := h', toks := tk' })
  (hraise : RingOk eks (lean eks ep eq) ns → ∀ e t dx h' tk' g₂ k1 k2 tm, Fr h₀ L g₂ m → g₂.UpToSlots h' → RaisedX base (envX cn cs L a ccd cl :: outer) e 59 t dx .none ((dx, whatD w k1 k2 (.str ringS tm)) :: rest) h' → E (.ref e) { s with heap := h', toks := tk' }) :
  wpAny (model Challenge.rw_qz0049_01.row.prog w) (ktrTop dp un gd cn cs L a ccd cl outer) (call (.ref 176) [.ref sc, .ref l1]) Q E s := by
  have hs1 : v1.size = ns.length := by have := S1.length; simpa using this
  revert X; k_fill; intro X
  refine wpAny_call ?_
  k_dflt cell_enter
  rename_i g₁ L₁ _ _ FG _ Bc Xc Tc lL oc1 oc2 hoc1 hoc2 Nc
  have hC59 : ExcCls g₁ 59 := ⟨_, _, _, _, _, _, _, _, _, _, _, _, _, _, _, _, Xc 59 (excClassObj _ _ _ _ _ _ _ _ _ _ _ _ _ _ _ _ _ _) (by k_dflt k_is), by decide⟩
  have hr2 : ∀ p ∈ rest, p.1 ≠ L₁ + 1 + 1 := fun p hp => Nat.ne_of_lt (Nat.lt_succ_of_lt (Nat.lt_succ_of_lt (lL p hp)))
  have hr1 : ∀ p ∈ rest, p.1 ≠ L₁ + 1 := fun p hp => Nat.ne_of_lt (Nat.lt_succ_of_lt (lL p hp))
  k_steps
  rename_i dL _ oL loL hsL _ _ _ lL1 dW _ oW F1 N1 loW hsW _ _ _ lW1
  refine Halt.mk (LCt.ListComp_T (F₀ := by k_asm) (by with_unfolding_all rfl) (by decide) (by rfl) (by decide) (by rfl) ?_)
  k_steps
  refine Halt.mk (LCt.CompSrcT.ledger rfl F1 N1 (.tail _ (.tail _ (.tail _ (.tail _ hl1)))) (by rw [hs1]; exact Nat.le_trans hns (by decide)) fun g1 => ?_)
  refine comp_filterA (isS fun nm => decide (nm ∈ eks)) (.inr ⟨_, .tail _ (.tail _ (.tail _ (.tail _ hl1))), rfl, _, rfl⟩) rfl rfl rfl ?_ ?_
  · intro v I oI C oC D ys m₂ h tk E' hv hC hm2 F2 N2 off ne
    obtain ⟨nm, t, rfl, hnm⟩ := strs_mem S1 hv
    k_steps
    refine Halt.mk (dv_in (by k_asm) (.tail _ (.tail _ (.tail _ (.tail _ (.tail _ (.tail _ (.tail _ hed))))))) hE ?_)
    k_steps
    exact Halt.mk ⟨rfl, _, _, rfl, by k_asm, by k_asm⟩
  have hA := strs_filter (fun nm => decide (nm ∈ eks)) S1
  generalize v1.toList.filter (isS fun nm => decide (nm ∈ eks)) = vT at hA
  k_steps
  rename_i dT _ _ oT tup _ ltup _ _ _ oc1' hoc1' _ F2 N2
  have hoc2' : oc2.data = .cell (some (.ref sc)) := hoc2
  have DW0 : DictV PG w dW oW [] (CntV fun _ => 0) := ⟨loW, [], hsW, rfl, fun k v e => by cases e⟩
  refine Halt.mk (While_inv2 (h₀ := g₁) (L := L₁) (n₀ := 3 * eks.length + (ns.filter fun nm => decide (nm ∈ eks)).length) (news := (dT, PySem.W.listOf vT.toArray vT.length) :: (dL, oL) :: (dW, oW) :: ((tup, { cls := .type "tuple", data := .seq #[.ref dL, .ref dW, .ref dT] 0 }) :: (L₁ + 1 + 1, oc1') :: (L₁ + 1, oc2) :: rest)) (Loop1 w ed eks ep eq ns rest dT dL dW L₁ oc1' oc2) F2 (news_sub N2 fun p hp => ?_) ?_ ?_)
  · simp only [List.mem_cons] at hp ⊢
    rcases hp with hp | hp | hp | hp | hp | hp | hp
    · exact .inr (.inl hp)
    · exact .inr (.inr (.inr (.inl hp)))
    · exact .inr (.inr (.inl hp))
    · exact .inl hp
    · exact .inr (.inr (.inr (.inr (.inl hp))))
    · exact .inr (.inr (.inr (.inr (.inr (.inl hp)))))
    · exact .inr (.inr (.inr (.inr (.inr (.inr hp)))))
  · refine ⟨[], _, _, [], vT, _, oL, oW, _, rfl, Inv1.start, hA, ⟨loL, [], hsL, rfl, fun k v e => by cases e⟩, DW0, fun _ _ => rfl, (fun k hk => nomatch hk), fun p hp => .tail _ (.tail _ (.tail _ hp)), .tail _ (.head _), .tail _ (.tail _ (.head _)), fun p hp => ?_, by simp, by have := List.length_filter_le (fun nm => decide (nm ∈ eks)) ns; omega, rfl, rfl⟩
    rcases List.mem_cons.mp hp with rfl | hp
    · exact ⟨Nat.ne_of_gt ltup.1, Nat.ne_of_gt ltup.2.2.1, Nat.ne_of_gt ltup.2.1⟩
    · rcases List.mem_cons.mp hp with rfl | hp
      · exact ⟨oT.2.2.1, Nat.ne_of_lt lL1.1, Nat.ne_of_lt lW1.2.1⟩
      · rcases List.mem_cons.mp hp with rfl | hp
        · exact ⟨oT.2.2.2.1, Nat.ne_of_lt lL1.2.1, Nat.ne_of_lt lW1.2.2.1⟩
        · exact ⟨off1_mem oT.2.2.2.2 p hp, Nat.ne_of_lt (ktn_ltOf lL1.2.2 p hp), Nat.ne_of_lt (ktn_ltOf lW1.2.2.2 p hp)⟩
  · intro n m₁ news₁ h tk F1 N1 hJ
    obtain ⟨ls, td, f, ws, vT, nT, oL, oW, R, rfl, hI, hT, hDL, hDW, hw0, hwe, hWr, hWc1, hWc2, hWn, hn, hn1, hml, hmt⟩ := hJ
    have hTl := hT.length
    have htd : td.length ≤ 100 := by omega
    have hscR := hWr _ hsc
    have hscdR := hWr _ hscd
    have allT : ∀ p ∈ (dL, oL) :: (dW, oW) :: R, p.1 ≠ dT := List.forall_mem_cons.mpr ⟨oT.2.1, List.forall_mem_cons.mpr ⟨oT.1, fun p hp => (hWn p hp).1⟩⟩
    k_steps
    refine Halt.mk (ne_nil (News.isList (by k_asm) (by k_mem)) (News.isList (by k_asm) (.head _)) (by show un + 3 < _; omega) (fun hz => ?_) (fun hz => ?_))
    · rw [List.size_toArray, hTl] at hz
      obtain ⟨vT, nm, tn, td, rfl, rfl, hT⟩ := strs_last hT (fun e => hz (by rw [e]; rfl))
      k_steps
      rename (@LT.lt Nat _ _ _) ∧ _ => lN
      refine Halt.mk (kl_pop (p := vT) (y := .str nm tn) (by k_asm) (by k_asm) (kpa_last _ _) (Upd.tail (Nat.ne_of_gt lN.1) (Upd.head allT)) (Nat.le_trans (by simpa [hTl] using htd : _ ≤ 100) (by decide)) fun h3 F3 N3 => ?_)
      k_steps
      refine Halt.mk (dv_notin (by k_asm) (.tail _ (.tail _ (.head _))) hDL ?_)
      k_steps
      · rename ¬ nm ∈ ls => hnl
        have hne : nm ∈ eks := hI.tsub nm (List.mem_append_right _ (.head _))
        refine Halt.mk (dv_item (by k_asm) (.tail _ (.tail _ (.tail _ (.tail _ (hWr _ hed))))) hE hne (fun v hv => ?_) (by with_unfolding_all rfl))
        obtain ⟨px, pd, po, rfl, hpx, hpd, hpo⟩ := hv
        obtain ⟨q1, q2, q3, t1, t2, t3, tz, tp, tq, rfl⟩ := hpo
        have hpxR := hWr _ hpx
        have hpdR := hWr _ hpd
        k_steps
        refine Halt.mk (ListComp_W (F₀ := by k_asm) (by with_unfolding_all rfl) (by decide) (by rfl) (by decide) (by rfl) ?_)
        k_steps
        refine Halt.mk (srcW_tup rfl (by k_asm) (by k_asm) (.head _) rfl rfl (by show 2 ≤ sizeLine; decide) fun g2 => comp_strs (ks := [ep nm, eq nm]) (fun y => decide (y ∈ eks)) (.head _) rfl (fun i v hi => ?_) rfl rfl rfl ?_ ?_)
        · match i, hi with
          | 0, hi => cases hi; exact ⟨_, _, rfl, rfl⟩
          | 1, hi => cases hi; exact ⟨_, _, rfl, rfl⟩
          | i + 2, hi => simp at hi
        · intro k t I oI C oC D ys m₂ h tk E' hk hC hm2 F2 N2 off ne
          k_steps
          refine Halt.mk (dv_in (by k_asm) (.tail _ (.tail _ (.tail _ (.tail _ (.tail _ (.tail _ (.tail _ (.tail _ (hWr _ hed))))))))) hE ?_)
          k_steps
          exact Halt.mk ⟨rfl, _, _, rfl, by k_asm, by k_asm⟩
        · intro ys hys
          k_steps
          rename_i dN _ _ F4 N4 oN
          have hls : putKey ls nm = ls ++ [nm] := if_neg hnl
          have hneN : dN ≠ dT ∧ dN ≠ dL ∧ dN ≠ dW ∧ ∀ p ∈ R, p.1 ≠ dN := ⟨Ne.symm oN.2.2.1, Ne.symm oN.2.2.2.1, Ne.symm oN.2.2.2.2.1, off1_mem oN.2.2.2.2.2⟩
          refine Halt.mk (dv_set F4 (news := (dL, oL) :: (dN, LCg.lst ys) :: (dT, PySem.W.listOf vT.toArray (nT + 1)) :: (dW, oW) :: R) (news_sub N4 fun p hp => ?_) (UpdF.head (List.forall_mem_cons.mpr ⟨hneN.2.1, List.forall_mem_cons.mpr ⟨Ne.symm oT.2.1, List.forall_mem_cons.mpr ⟨Nat.ne_of_gt lW1.1, fun p hp => (hWn p hp).2.1⟩⟩⟩)) hDL (Nat.le_trans (nodup_len hI.nd hI.sub) (Nat.le_trans hel (by decide))) fun h5 oL5 F5 N5 hDL5 => ?_)
          · simp only [List.mem_cons] at hp ⊢
            rcases hp with hp | hp | hp | hp | hp
            · exact .inr (.inr (.inr (.inr (.inl hp))))
            · exact .inl hp
            · exact .inr (.inr (.inr (.inl hp)))
            · exact .inr (.inr (.inr (.inr (.inr (.inl hp)))))
            · exact .inr (.inr (.inr (.inr (.inr (.inr hp)))))
          rw [hls] at hDL5
          k_steps
          refine Halt.mk (dv_item (by k_asm) (.head _) hDL5 (List.mem_append_right _ (.head _)) (fun v hv => ?_) (by with_unfolding_all rfl))
          rw [if_pos rfl] at hv
          subst hv
          k_steps
          refine Halt.mk (extend_in (own := [(dL, oL5), (dN, LCg.lst ys)]) (ys := vT) (its2 := ys.toArray) (n := nT + 1) F5 N5 (List.forall_mem_cons.mpr ⟨oT.2.1, List.forall_mem_cons.mpr ⟨hneN.1, fun _ h => nomatch h⟩⟩) (List.forall_mem_cons.mpr ⟨oT.1, fun p hp => (hWn p hp).1⟩) (N5 _ (.tail _ (.head _))).1 (fun h6 n6 F6 N6 => ?_) ?_)
          rotate_left
          · have h1 := hys.length
            have h2 := lean_len eks ep eq nm
            have h3 : (List.filter (fun y => decide (y ∈ eks)) [ep nm, eq nm]).length ≤ 2 := h2
            have h4 := hT.length
            simp at h4 htd hTl
            rw [List.size_toArray]
            exact Nat.le_trans (by omega : _ ≤ 110) (by decide)
          k_steps
          refine Halt.mk (For_turns (by k_asm) ?_)
          k_steps
          refine Halt.mk (dv_item (by k_asm) (.head _) hDL5 (List.mem_append_right _ (.head _)) (fun v hv => ?_) (by with_unfolding_all rfl))
          rw [if_pos rfl] at hv
          subst hv
          k_steps
          refine Halt.mk (for_listT (vs := ys) (news := (dW, oW) :: (dL, oL5) :: (dN, LCg.lst ys) :: (dT, { cls := .type "list", data := .seq (vT ++ ys.toArray.toList).toArray n6 }) :: R)
            (fun ds ts m₂ news₂ => ∃ oW' f' ws' yd yt, news₂ = (dW, oW') :: (dL, oL5) :: (dN, LCg.lst ys) :: (dT, { cls := .type "list", data := .seq (vT ++ ys.toArray.toList).toArray n6 }) :: R ∧ DictV PG w dW oW' ws' (CntV f') ∧ (∀ k, k ∉ ws' → f' k = 0) ∧ (∀ k ∈ ws', k ∈ eks) ∧ lean eks ep eq nm = yd ++ yt ∧ StrsAre ts yt ∧
              (∀ x, f' x = f x + (yd.count x : Nat)) ∧ m₂ (Str.ofString "leans") = some (.ref dL) ∧ m₂ (Str.ofString "todo") = some (.ref dT)) rfl F6 (news_sub N6 fun p hp => ?_) (.tail _ (.tail _ (.head _))) rfl rfl ?_ ?_ ?_)
          · simp only [List.mem_cons, List.mem_append, List.cons_append, List.nil_append] at hp ⊢
            rcases hp with hp | hp | hp | hp | hp
            · exact .inr (.inr (.inr (.inl hp)))
            · exact .inl hp
            · exact .inr (.inl hp)
            · exact .inr (.inr (.inl hp))
            · exact .inr (.inr (.inr (.inr hp)))
          · exact ⟨oW, f, ws, [], _, rfl, hDW, hw0, hwe, rfl, hys, fun x => by simp, hml, hmt⟩
          · intro I oi ds v ts m₂ news₂ h7 tk7 hlt hoi e hm hJ F7 N7
            obtain ⟨oW', f', ws', yd, yt, rfl, hDW', hw0', hwe', hye, hyt, hf', hml', hmt'⟩ := hJ
            cases hyt with
            | cons one t1 hyt =>
              rename_i yt
              have hone : one ∈ eks := lean_sub (x := nm) (by rw [hye]; simp)
              k_steps
              refine dv_method PySem.F.slot_dict_get PySem.F.type_dict_get (by k_asm) (.tail _ (.head _)) hDW' ?_
              k_steps
              refine Halt.mk (dvc_get (by k_asm) (.tail _ (.head _)) hDW' hw0' fun t' => ?_)
              k_steps
              refine Halt.mk (dvc_set (by k_asm) (by k_asm) (UpdF.tail (Nat.ne_of_gt (show @LT.lt Nat _ dW I from hlt _ (.head _))) (UpdF.head (List.forall_mem_cons.mpr ⟨Nat.ne_of_lt lW1.1, List.forall_mem_cons.mpr ⟨hneN.2.2.1, List.forall_mem_cons.mpr ⟨Ne.symm oT.1, fun p hp => (hWn p hp).2.2⟩⟩⟩))) hDW' hw0' (Nat.le_trans (nodup_len hDW'.nodup hwe') (Nat.le_trans hel (by decide))) fun h8 o8 F8 N8 hD8 hz8 => ?_)
              k_steps
              rename Fr _ _ _ _ => Fz
              rename News _ _ _ _ => Nz
              refine TurnE.next ((dW, o8) :: (dL, oL5) :: (dN, LCg.lst ys) :: (dT, { cls := .type "list", data := .seq (vT ++ ys.toArray.toList).toArray n6 }) :: R) Fz Nz (List.forall_mem_cons.mpr ⟨Nat.ne_of_lt (show @LT.lt Nat _ dW I from hlt _ (.head _)), fun q hq => Nat.ne_of_lt (hlt q (.tail _ hq))⟩) (.tail _ (.tail _ (.head _)))
                ⟨o8, _, _, yd ++ [one], yt, rfl, hD8, hz8, fun k hk => (mem_putKey.mp hk).elim (hwe' k) fun e => e ▸ hone, by rw [hye]; simp, hyt, fun x => ?_, hml', hmt'⟩
              by_cases hx : x = one
              · subst hx; rw [if_pos rfl, hf', List.count_append]; simp; omega
              · rw [if_neg hx, hf', List.count_append, List.count_eq_zero.mpr (show x ∉ [one] by simpa using hx)]; simp
          · intro m₂ news₂ h7 tk7 hJ F7 N7
            obtain ⟨oW', f', ws', yd, yt, rfl, hDW', hw0', hwe', hye, hyt, hf', hml', hmt'⟩ := hJ
            cases hyt
            rw [List.append_nil] at hye
            subst hye
            have hI' := hI.new hnl (fun y hy => lean_sub hy) hf'
            have hle := nodup_len hI'.nd hI'.sub
            have hll := lean_len eks ep eq nm
            k_steps
            refine ⟨h7, tk7, m₂, (dT, PySem.W.listOf (List.toArray (vT ++ ys)) n6) :: (dL, oL5) :: (dW, oW') :: (dN, LCg.lst ys) :: R, _, rfl, F7, news_sub N7 fun p hp => ?_, ?_, ls ++ [nm], _, f', ws', vT ++ ys, n6, oL5, oW', (dN, LCg.lst ys) :: R, rfl, hI', strs_append (by assumption) hys, hDL5.weak fun x y _ hy => ?_, hDW', hw0', hwe', fun p hp => .tail _ (hWr p hp), .tail _ hWc1, .tail _ hWc2,
              List.forall_mem_cons.mpr ⟨⟨hneN.1, hneN.2.1, hneN.2.2.1⟩, hWn⟩, rfl, ?_, hml', hmt'⟩
            · simp only [List.mem_cons] at hp ⊢
              rcases hp with hp | hp | hp | hp | hp
              · exact .inr (.inr (.inr (.inl hp)))
              · exact .inr (.inl hp)
              · exact .inl hp
              · exact .inr (.inr (.inl hp))
              · exact .inr (.inr (.inr (.inr hp)))
            · rw [hn]; simp at hle ⊢; omega
            · by_cases hx : x = nm
              · rw [if_pos hx] at hy
                exact ⟨dN, ys, _, hy, .head _, by rw [hx]; exact hys⟩
              · rw [if_neg hx] at hy
                obtain ⟨a, vs, n', e1, e2, e3⟩ := hy
                exact ⟨a, vs, n', e1, .tail _ e2, e3⟩
            · have : n ≤ 100 := hn1
              simp at hn hle ⊢; omega
      · rename ¬¬ nm ∈ ls => hnl
        have hnl : nm ∈ ls := by simpa using hnl
        rename Fr _ _ _ _ => Fz
        rename News _ _ _ _ => Nz
        refine ⟨_, _, _, (dT, PySem.W.listOf (List.toArray vT) (nT + 1)) :: (dL, oL) :: (dW, oW) :: R, _, rfl, Fz, news_drop Nz, ?_, ls, td, f, ws, vT, nT + 1, oL, oW, R, rfl, hI.old hnl, by assumption, hDL, hDW, hw0, hwe, hWr, hWc1, hWc2, hWn, rfl, ?_, hml, hmt⟩
        · rw [hn]; simp
        · simp at hn; omega
    · rw [List.size_toArray, hTl] at hz
      have htd0 : td = [] := List.eq_nil_of_length_eq_zero hz
      subst htd0
      have hln : ∀ x ∈ ls, (lean eks ep eq x).Nodup := fun x hx => lean_nodup (hpq x (hI.sub x hx)) hemp
      have hcl : ∀ x ∈ ls, ∀ y ∈ lean eks ep eq x, y ∈ ls := fun x hx y hy => (hI.clo x hx y hy).elim id fun q => nomatch q
      have hlsl : ls.length ≤ 8 := Nat.le_trans (nodup_len hI.nd hI.sub) hel
      k_steps
      refine Halt.mk (ListComp_W (F₀ := by k_asm) (by with_unfolding_all rfl) (by decide) (by rfl) (by decide) (by rfl) ?_)
      k_steps
      refine Halt.mk (srcW_dict rfl (by k_asm) (by k_asm) (.tail _ (.tail _ (.head _))) hDL (Nat.le_trans hlsl (by decide)) fun g2 => comp_strs (ks := ls) (fun x => decide (f x = 0)) (.tail _ (.tail _ (.head _))) rfl (fun i v hi => hi) rfl rfl rfl ?_ ?_)
      · intro k t I oI C oC D ys m₂ h tk E' hk hC hm2 F2 N2 off ne
        k_steps
        refine dv_method PySem.F.slot_dict_get PySem.F.type_dict_get (by k_asm) (.tail _ (.tail _ (.tail _ (.tail _ (.tail _ (.tail _ (.head _))))))) hDW ?_
        k_steps
        refine Halt.mk (dvc_get (by k_asm) (.tail _ (.tail _ (.tail _ (.tail _ (.tail _ (.tail _ (.head _))))))) hDW hw0 fun t' => ?_)
        k_steps
        refine Halt.mk ⟨?_, _, _, rfl, by k_asm, by k_asm⟩
        rw [Bool.eq_iff_iff]; simp
      · intro ys hys
        k_steps
        rename_i dR _ _ oR dF _ lF _ _ _ _ _ _ F5 N5
        have hFR : dR ≠ dF := Nat.ne_of_lt lF.1
        have hFW : dW ≠ dF := Nat.ne_of_lt lF.2.2.2.2.1
        have hFL : dL ≠ dF := Nat.ne_of_lt lF.2.2.2.1
        have hRW : dW ≠ dR := oR.2.2.2.1
        have hRL : dL ≠ dR := oR.2.2.1
        have hLW : dL ≠ dW := Nat.ne_of_lt lW1.1
        have hR2 : ∀ p ∈ (dL, oL) :: R, p.1 ≠ dR ∧ p.1 ≠ dF ∧ p.1 ≠ dW := List.forall_mem_cons.mpr ⟨⟨hRL, hFL, hLW⟩, fun p hp => ⟨off1_mem oR.2.2.2.2 p hp, Nat.ne_of_lt (ktn_ltOf lF.2.2.2.2.2 p hp), (hWn p hp).2.2⟩⟩
        refine Halt.mk (While_inv2 (h₀ := g₁) (L := L₁) (n₀ := ls.length) (news := (dR, LCg.lst ys) :: (dF, PySem.W.listOf #[] 0) :: (dW, oW) :: (dL, oL) :: R) (Loop2 w eks ls (lean eks ep eq) dR dF dW dL ((dL, oL) :: R)) F5 (news_sub N5 fun p hp => ?_) ?_ ?_)
        · simp only [List.mem_cons] at hp ⊢
          rcases hp with hp | hp | hp | hp | hp
          · exact .inr (.inr (.inl hp))
          · exact .inr (.inl hp)
          · exact .inr (.inr (.inr (.inr (.inr (.inr (.inl hp))))))
          · exact .inr (.inr (.inr (.inr (.inr (.inl hp)))))
          · exact .inr (.inr (.inr (.inr (.inr (.inr (.inr hp))))))
        · exact ⟨_, [], f, ws, ys, _, [], 0, oW, rfl, Inv2.start hI.nd fun x _ => hI.cnt x, hys, .nil, hDW, hw0, hwe, rfl, rfl, rfl, hml⟩
        · intro n2 m₂ news₂ h7 tk7 F7 N7 hJ2
          obtain ⟨rd, fd, g, ws, vR, nR, vF, nF, oW, rfl, hI2, hvR, hvF, hDW, hw0, hwe, hn2, hmr, hmf, hml2⟩ := hJ2
          have hRl := hvR.length
          have hFl := hvF.length
          have hrl : rd.length ≤ 8 := Nat.le_trans (nodup_len hI2.rnd hI2.rsub) hlsl
          have hfl : fd.length ≤ ls.length := nodup_len hI2.fnd hI2.fsub
          k_steps
          refine Halt.mk (ne_nil (News.isList (by k_asm) (by k_mem)) (News.isList (by k_asm) (.head _)) (by show un + 3 < _; omega) (fun hz2 => ?_) (fun hz2 => ?_))
          · rw [List.size_toArray, hRl] at hz2
            obtain ⟨vR, nm, tn, rd, rfl, rfl, hvR'⟩ := strs_last hvR (fun e => hz2 (by rw [e]; rfl))
            have hnm : nm ∈ ls := hI2.rsub nm (List.mem_append_right _ (.head _))
            k_steps
            rename (@LT.lt Nat _ _ _) ∧ _ => lN
            refine Halt.mk (kl_pop (p := vR) (y := .str nm tn) (by k_asm) (by k_asm) (kpa_last _ _) (Upd.tail (Nat.ne_of_gt lN.1) (Upd.head (List.forall_mem_cons.mpr ⟨Ne.symm hFR, List.forall_mem_cons.mpr ⟨hRW, fun p hp => (hR2 p hp).1⟩⟩))) (Nat.le_trans (by simpa [hRl] using hrl : _ ≤ 8) (by decide)) fun h8 F8 N8 => ?_)
            k_steps
            refine Halt.mk (append_K (by k_asm) (by k_asm) (Upd.tail (Nat.ne_of_gt lN.2.1) (Upd.tail hFR (Upd.head (List.forall_mem_cons.mpr ⟨hFW, fun p hp => (hR2 p hp).2.1⟩)))) (fun h9 F9 N9 => ?_) (by rw [List.size_toArray, hFl]; exact Nat.le_trans (by omega : _ ≤ 8) (by decide)))
            rw [List.push_toArray] at N9
            k_steps
            refine Halt.mk (For_turns (by k_asm) ?_)
            k_steps
            refine Halt.mk (dv_item (by k_asm) (.tail _ (.tail _ (.tail _ (.tail _ (.head _))))) hDL hnm (fun v hv => ?_) (by with_unfolding_all rfl))
            obtain ⟨al, vl, nl, rfl, hal, hvl⟩ := hv
            k_steps
            have hg1 : ∀ y ∈ lean eks ep eq nm, 1 ≤ g y := fun y hy => by
              have h1 := hI2.cnt y (hcl nm hnm y hy)
              have h2 : tot (left ls fd) (lean eks ep eq) y ≠ 0 := tot_pos.mpr ⟨nm, List.mem_filter.mpr ⟨hnm, by simpa using hI2.off nm (List.mem_append_right _ (.head _))⟩, hy⟩
              omega
            have hlnn := hln nm hnm
            refine Halt.mk (for_listT (vs := vl) (news := (dR, PySem.W.listOf vR.toArray (nR + 1)) :: (dF, PySem.W.listOf (vF ++ [Value.str nm tn]).toArray (nF + 1)) :: (dW, oW) :: (dL, oL) :: R)
              (fun ds ts m₃ news₃ => ∃ oW' g' ws' vR' nR' yd yt, news₃ = (dR, PySem.W.listOf (List.toArray vR') nR') :: (dF, PySem.W.listOf (vF ++ [Value.str nm tn]).toArray (nF + 1)) :: (dW, oW') :: (dL, oL) :: R ∧ StrsAre vR' (rd ++ yd.filter fun x => decide (g x = 1)) ∧ DictV PG w dW oW' ws' (CntV g') ∧ (∀ k, k ∉ ws' → g' k = 0) ∧ (∀ k ∈ ws', k ∈ eks) ∧ lean eks ep eq nm = yd ++ yt ∧ StrsAre ts yt ∧
                (∀ x, g' x = g x - (yd.count x : Nat)) ∧ m₃ (Str.ofString "ready") = some (.ref dR) ∧ m₃ (Str.ofString "found") = some (.ref dF) ∧ m₃ (Str.ofString "leans") = some (.ref dL)) rfl F9 (news_drop N9) (.tail _ (.tail _ (.tail _ (.tail _ hal)))) rfl rfl ?_ ?_ ?_)
            · exact ⟨oW, g, ws, vR, _, [], _, rfl, by simpa using hvR', hDW, hw0, hwe, rfl, hvl, fun x => by simp, hmr, hmf, hml2⟩
            · intro I oi ds v ts m₃ news₃ h10 tk10 hlt hoi e hm hJ F10 N10
              obtain ⟨oW', g', ws', vR', nR', yd, yt, rfl, hvR2, hDW', hw0', hwe', hye, hyt, hg', hmr', hmf', hml'⟩ := hJ
              cases hyt with
              | cons one t1 hyt =>
                rename_i yt
                have hon : one ∈ lean eks ep eq nm := by rw [hye]; simp
                have hone : one ∈ eks := lean_sub hon
                have hoy : one ∉ yd := fun q => by
                  rw [hye] at hlnn
                  exact (List.nodup_append.mp hlnn).2.2 one q one (.head _) rfl
                have hgo : g' one = g one := by rw [hg', List.count_eq_zero.mpr hoy]; simp
                have howk : one ∈ ws' := by
                  by_cases q : one ∈ ws'
                  · exact q
                  · have h1 := hw0' one q; have h2 := hg1 one hon; omega
                have hIW : I ≠ dW := Nat.ne_of_gt (show @LT.lt Nat _ dW I from hlt (dW, _) (.tail _ (.tail _ (.head _))))
                have hIR : I ≠ dR := Nat.ne_of_gt (show @LT.lt Nat _ dR I from hlt (dR, _) (.head _))
                have hIF : I ≠ dF := Nat.ne_of_gt (show @LT.lt Nat _ dF I from hlt (dF, _) (.tail _ (.head _)))
                k_steps
                refine Halt.mk (dv_item (by k_asm) (.tail _ (.tail _ (.tail _ (.head _)))) hDW' howk (fun v hv => ?_) (by with_unfolding_all rfl))
                obtain ⟨tv, rfl⟩ := hv
                k_steps
                refine Halt.mk (dvc_set (by k_asm) (by k_asm) (UpdF.tail hIW (UpdF.tail (Ne.symm hRW) (UpdF.tail (Ne.symm hFW) (UpdF.head fun p hp => (hR2 p hp).2.2)))) hDW' hw0' (Nat.le_trans (nodup_len hDW'.nodup hwe') (Nat.le_trans hel (by decide))) fun h11 o11 F11 N11 hD11 hz11 => ?_)
                k_steps
                refine Halt.mk (dv_item (by k_asm) (.tail _ (.tail _ (.tail _ (.head _)))) hD11 (mem_putKey.mpr (.inr rfl)) (fun v hv => ?_) (by with_unfolding_all rfl))
                have hv2 : ∃ t, v = .int (g' one - 1) t := by obtain ⟨t, e⟩ := hv; exact ⟨t, by rw [e]; simp⟩
                obtain ⟨tv2, rfl⟩ := hv2
                clear hv
                have hgn : ∀ x, (if x = one then g' one - 1 else g' x) = g x - ((yd ++ [one]).count x : Nat) := fun x => by
                  by_cases hx : x = one
                  · subst hx; rw [if_pos rfl, hg', List.count_append]; simp; omega
                  · rw [if_neg hx, hg', List.count_append, List.count_eq_zero.mpr (show x ∉ [one] by simpa using hx)]; simp
                have hwen : ∀ k ∈ putKey ws' one, k ∈ eks := fun k hk => (mem_putKey.mp hk).elim (hwe' k) fun e => e ▸ hone
                have hydl : yd.length ≤ 2 := by
                  have h1 := lean_len eks ep eq nm
                  rw [hye] at h1; simp at h1; omega
                have hvl2 := hvR2.length
                have hfl2 := List.length_filter_le (fun x => decide (g x = 1)) yd
                k_steps
                · rename g' one - 1 = 0 => h1
                  refine Halt.mk (append_K (by k_asm) (by k_asm) (Upd.tail hIR (Upd.head (List.forall_mem_cons.mpr ⟨Ne.symm hFR, List.forall_mem_cons.mpr ⟨hRW, fun p hp => (hR2 p hp).1⟩⟩))) (fun h12 F12 N12 => ?_) (by rw [List.size_toArray, hvl2]; simp at hrl ⊢; exact Nat.le_trans (by omega : _ ≤ 12) (by decide)))
                  rw [List.push_toArray] at N12
                  k_steps
                  rename Fr _ _ _ _ => Fz
                  rename News _ _ _ _ => Nz
                  refine TurnE.next _ Fz Nz (fun q hq => Nat.ne_of_lt ?_) (.tail _ (.tail _ (.tail _ (.tail _ hal)))) ⟨o11, _, _, vR' ++ [Value.str one t1], nR' + 1, yd ++ [one], yt, rfl, ?_, hD11, hz11, hwen, by rw [hye]; simp, hyt, hgn, hmr', hmf', hml'⟩
                  · rcases List.mem_cons.mp hq with rfl | hq
                    · show @LT.lt Nat _ dR I
                      exact hlt _ (.head _)
                    · rcases List.mem_cons.mp hq with rfl | hq
                      · show @LT.lt Nat _ dF I
                        exact hlt _ (.tail _ (.head _))
                      · rcases List.mem_cons.mp hq with rfl | hq
                        · show @LT.lt Nat _ dW I
                          exact hlt (dW, _) (.tail _ (.tail _ (.head _)))
                        · exact hlt q (.tail _ (.tail _ (.tail _ hq)))
                  · rw [List.filter_append, ← List.append_assoc, List.filter_cons, if_pos (by simp; omega)]
                    exact strs_append hvR2 (.cons _ _ .nil)
                · rename g' one - 1 ≠ 0 => h1
                  rename Fr _ _ _ _ => Fz
                  rename News _ _ _ _ => Nz
                  refine TurnE.next _ Fz Nz (fun q hq => Nat.ne_of_lt ?_) (.tail _ (.tail _ (.tail _ (.tail _ hal)))) ⟨o11, _, _, vR', nR', yd ++ [one], yt, rfl, ?_, hD11, hz11, hwen, by rw [hye]; simp, hyt, hgn, hmr', hmf', hml'⟩
                  · rcases List.mem_cons.mp hq with rfl | hq
                    · show @LT.lt Nat _ dR I
                      exact hlt _ (.head _)
                    · rcases List.mem_cons.mp hq with rfl | hq
                      · show @LT.lt Nat _ dF I
                        exact hlt _ (.tail _ (.head _))
                      · rcases List.mem_cons.mp hq with rfl | hq
                        · show @LT.lt Nat _ dW I
                          exact hlt (dW, _) (.tail _ (.tail _ (.head _)))
                        · exact hlt q (.tail _ (.tail _ (.tail _ hq)))
                  · rw [List.filter_append, List.filter_cons, if_neg (by simp; omega)]
                    simpa using hvR2
            · intro m₃ news₃ h10 tk10 hJ F10 N10
              obtain ⟨oW', g', ws', vR', nR', yd, yt, rfl, hvR2, hDW', hw0', hwe', hye, hyt, hg', hmr', hmf', hml'⟩ := hJ
              cases hyt
              rw [List.append_nil] at hye
              subst hye
              k_steps
              have hI2' := hI2.step hI.nd hln hcl hg'
              have hfl' := nodup_len hI2'.fnd hI2'.fsub
              refine ⟨h10, tk10, m₃, _, _, rfl, F10, N10, ?_, rd ++ (lean eks ep eq nm).filter (fun x => decide (g x = 1)), fd ++ [nm], g', ws', vR', nR', vF ++ [Value.str nm tn], nF + 1, oW', rfl, hI2', hvR2, strs_append hvF (.cons _ _ .nil), hDW', hw0', hwe', rfl, hmr', hmf', hml'⟩
              rw [hn2]; simp at hfl' ⊢; omega
          · rw [List.size_toArray, hRl] at hz2
            have hrd0 : rd = [] := List.eq_nil_of_length_eq_zero hz2
            subst hrd0
            k_steps
            refine Halt.mk (len_list (News.isList (by k_asm) (by k_mem)) (by rw [List.size_toArray]; omega) ?_)
            simp only [List.size_toArray, hFl]
            k_steps
            refine Halt.mk (dv_len (by k_asm) (.tail _ (.tail _ (.tail _ (.tail _ (.head _))))) hDL (by omega) ?_)
            k_steps
            · rename ((fd.length : Nat) : Int) < _ => hlt
              refine Halt.mk (x_raise ?_)
              k_steps
              refine Halt.mk (x_make (.inl rfl) Bc (by k_asm) Xc (by k_asm) Tc (Around.frames_deeper Bc.stack) rfl rfl (by show dp + 1 + 1 < _; omega) fun e t2 dx h' tk' k1 k2 F' N' l1 l2 l3 => ?_)
              refine ⟨59, e, t2, dx, .none, rfl, hC59.keeps F'.keep, (N' _ (.head _)).1, wpAny_raiseNew_none rfl ?_⟩
              show wpAny _ _ (leaving _ _) _ _ _
              refine x_leaveK Bc F' rfl rfl N' (fun p hp => ?_) fun h'' RX u => hraise (ring_of_inv hI hI2 (by omega)) e t2 dx h'' _ g₁ k1 k2 _ FG u (raised_sub RX fun q hq => .tail _ (.tail _ (.tail _ (.tail _ (.tail _ (.tail _ (hWr q hq)))))))
              rcases List.mem_cons.mp hp with rfl | hp
              · exact Nat.ne_of_gt (Nat.lt_trans l2 l3)
              · rcases List.mem_cons.mp hp with rfl | hp
                · exact Nat.ne_of_gt l2
                · exact Nat.ne_of_lt (l1 p hp)
            · rename ¬ ((fd.length : Nat) : Int) < _ => hlt
              rename Fr _ _ _ _ => Fz
              rename News _ _ _ _ => Nz
              exact hret dF vF nF fd _ _ Fz (news_sub Nz fun p hp => (List.mem_cons.mp hp).elim (fun e => by rw [e]; exact .tail _ (.tail _ (.head _))) fun q => .tail _ (.tail _ (.tail _ (.tail _ (.tail _ (hWr p q)))))) hvF (order_of_inv hI hI2 (by omega)) fun p hp => ktn_ltOf lF.2.2.2.2.2 p (hWr p hp)
end
section
local macro_rules | `(tactic| walk_at "pad LL 0") => `(tactic| skip)
local macro_rules | `(tactic| walk_at "pad LL 1") => `(tactic| skip)
local macro_rules | `(tactic| walk_at $k:str) => if ["exec For Name Call cons nil", "pyIter ref", "compareOp NotEq ref ref", "compareOp In str ref", "compareOp NotIn str ref", "call ref", "exec Raise some none", "eval ListComp", "exec Assign cons ListComp", "call builtin:dict.get", "call builtin:dict.pop", "setItem ref str", "exec If", "binaryOp Mult int int"].contains k.getString then `(tactic| (refine Halt.out ?_)) else Lean.Macro.throwUnsupported
local macro_rules | `(tactic| walk_at "subscriptTail") => `(tactic| (k_here; (with_reducible show wpAny _ _ (subscriptTail _ _ (Value.ref _) (Value.str _ _)) _ _ _); refine Halt.out ?_))
/-- what holds in settled's loop -/
def LoopS (w : World) (eks : List Str) (ew : Str → Int) (ep eq : Str → Str) (aw : Int) (pn qn : Str) (fd : List Str) (dC sc : Addr) (Z : List (Addr × Obj)) (_ds ts : List Value) (m₁ : Str → Option Value) (news₁ : List (Addr × Obj)) : Prop :=
  ∃ oC c ws fdone ftodo wv tw, news₁ = (dC, oC) :: Z ∧ DictV PG w dC oC ws (CntV c) ∧ (∀ k, k ∉ ws → c k = 0) ∧ (∀ k ∈ ws, k ∈ univ) ∧ fd = fdone ++ ftodo ∧ StrsAre ts ftodo ∧ InvS eks ew ep eq aw pn qn fd fdone c wv ∧
    m₁ (Str.ofString "worth") = some (.int wv tw) ∧ m₁ (Str.ofString "self") = some (.ref sc)
set_option maxHeartbeats 4000000 in
theorem settled_ok {w : World} {mean : ExcName → Option Value} {mg mb : Str → Option Value} {dp un : Nat} {gd : Option (List Code)} {cn : Str} {cs : Scope} {a : Addr} {ccd : Value} {cl : List (Str × Addr)} {outer : List Env} {A₀ : Around} {base h₀ : Heap} {L : Addr} {m : Str → Option Value} {s : Shared} {Q E : Value → Shared → Prop}
  {rest : List (Addr × Obj)} {sc scd ed ax ad : Addr} {hh : Int} {te : Tok} {eo ao : Obj} {eks : List Str} {ew : Str → Int} {ep eq : Str → Str} {aw : Int} {pn qn : Str}
  (B : Below A₀ base outer h₀) (F : Fr h₀ L s.heap m) (X : (hd.heap_39 w.params).In h₀) (N : News h₀ L s.heap rest) (T : TopG mean mg mb h₀) (hk : cs.kind = .function)
  (hsc : (sc, instObj 184 scd) ∈ rest) (hscd : (scd, dictOf [⟨hh, .str (Str.ofString "equates") te, .ref ed⟩] 1) ∈ rest) (hed : (ed, eo) ∈ rest) (hE : DictV PG w ed eo eks (EqV rest ew ep eq)) (hemp : emp ∉ eks) (hpq : ∀ k ∈ eks, ep k = eq k → ep k = emp) (hel : eks.length ≤ 8)
  (hax : (ax, instObj 133 ad) ∈ rest) (had : (ad, ao) ∈ rest) (hao : AffD ao aw pn qn) (hpqn : pn = qn → pn = emp) (hpu : pn ∈ univ) (hqu : qn ∈ univ) (heu : ∀ k ∈ eks, k ∈ univ ∧ ep k ∈ univ ∧ eq k ∈ univ) (hewb : ∀ k ∈ eks, -100 ≤ ew k ∧ ew k ≤ 100)
  (hdp : dp + 50 < recursionLimit) (hun : un + 190 < cLine)
  (hret : Okay eks (lean eks ep eq) pn qn → ∀ x d o z p q h' tk' led, Fr h₀ L h' m → News h₀ L h' led → (∀ r ∈ rest, r ∈ led) → (x, instObj 133 d) ∈ led → (d, o) ∈ led → AffD o z p q → Worth eks ew ep eq aw pn qn (some (z, p, q)) → Q (.ref x) { s with heap := h', toks := tk' })
  (hraise : ∀ e t dx h' tk' g₂ k1 k2 msg tm, (msg = ringS ∧ RingOk eks (lean eks ep eq) [pn, qn]) ∨ (msg ≠ ringS ∧ Okay eks (lean eks ep eq) pn qn ∧ Worth eks ew ep eq aw pn qn none) → Fr h₀ L g₂ m → g₂.UpToSlots h' → RaisedX base (envX cn cs L a ccd cl :: outer) e 59 t dx .none ((dx, whatD w k1 k2 (.str msg tm)) :: rest) h' → E (.ref e) { s with heap := h', toks := tk' }) :
  wpAny (model Challenge.rw_qz0049_01.row.prog w) (ktrTop dp un gd cn cs L a ccd cl outer) (call (.ref 181) [.ref sc, .ref ax]) Q E s := by
  obtain ⟨q1, q2, q3, t1, t2, t3, tz, tp, tq, rfl⟩ := hao
  revert X; k_fill; intro X
  refine wpAny_call ?_
  k_dflt cell_enter
  rename_i g₁ L₁ _ _ FG _ Bc Xc Tc lL oc1 hoc1 Nc
  have hC59 : ExcCls g₁ 59 := ⟨_, _, _, _, _, _, _, _, _, _, _, _, _, _, _, _, Xc 59 (excClassObj _ _ _ _ _ _ _ _ _ _ _ _ _ _ _ _ _ _) (by k_dflt k_is), by decide⟩
  have hr1 : ∀ p ∈ rest, p.1 ≠ L₁ + 1 := fun p hp => Nat.ne_of_lt (Nat.lt_succ_of_lt (lL p hp))
  k_steps
  refine Halt.mk (wpAny_If (wpAny_mono (Q := fun b s₁ => Halt (b = decide (pn ∉ eks ∧ qn ∉ eks) ∧ ∃ h tk mm, s₁ = { s with heap := h, toks := tk } ∧ Fr g₁ L₁ h mm ∧ News g₁ L₁ h ((L₁ + 1, oc1) :: rest) ∧ mm (Str.ofString "self") = some (.ref sc) ∧ mm (Str.ofString "affine") = some (.ref ax))) ?_ (fun b s₁ hm => ?_) fun _ _ x => x))
  · k_steps
    refine Halt.mk (dv_notin (by k_asm) (.tail _ hed) hE ?_)
    k_steps
    · rename ¬ pn ∈ eks => h1
      refine Halt.mk (dv_notin (by k_asm) (.tail _ hed) hE ?_)
      k_steps
      · rename ¬ qn ∈ eks => h2
        exact Halt.mk ⟨by simp [h1, h2], _, _, _, rfl, by k_asm, by k_asm, rfl, rfl⟩
      · rename ¬¬ qn ∈ eks => h2
        have h2 : qn ∈ eks := by simpa using h2
        exact Halt.mk ⟨by simp [h1, h2], _, _, _, rfl, by k_asm, by k_asm, rfl, rfl⟩
    · rename ¬¬ pn ∈ eks => h1
      refine Halt.mk ⟨?_, _, _, _, rfl, by k_asm, by k_asm, rfl, rfl⟩
      have h1 : pn ∈ eks := by simpa using h1
      simp [h1]
  · obtain ⟨rfl, h1, tk1, mm, rfl, F1, N1, hms, hma⟩ := hm.out
    by_cases hno : pn ∉ eks ∧ qn ∉ eks
    · rw [if_pos (by simpa using hno)]
      k_steps
      exact hret (.inl hno) ax ad _ aw pn qn _ _ rest (by assumption) (news_drop (by assumption)) (fun _ h => h) hax had ⟨_, _, _, _, _, _, _, _, _, rfl⟩ (worth_plain hno.1 hno.2 hpqn)
    · rw [if_neg (by simpa using hno)]
      k_steps
      rename_i dC _ _ lo _ lC _ oC hdC _ tup _ ltup _ _ _ oc1' F2 N2 hoc1'
      have DC0 : DictV PG w dC oC [pn] (CntV fun x => if x = pn then 1 else 0) := dv_one lo hdC ⟨_, by show _ = Value.int (if pn = pn then 1 else 0) _; rw [if_pos rfl]⟩
      have hz0 : ∀ k, k ∉ [pn] → (if k = pn then (1 : Int) else 0) = 0 := fun k hk => if_neg (by simpa using hk)
      have hCr : ∀ p ∈ rest, p.1 ≠ dC := fun p hp => Nat.ne_of_lt (ktn_ltOf lC.2 p hp)
      refine Halt.mk (dvc_get (by k_asm) (.tail _ (.head _)) DC0 hz0 fun t' => ?_)
      k_steps
      refine Halt.mk (dvc_set (by k_asm) (by k_asm) (UpdF.tail (Nat.ne_of_gt ltup.1) (UpdF.head (List.forall_mem_cons.mpr ⟨Nat.ne_of_lt lC.1, hCr⟩))) DC0 hz0 (by show 1 ≤ sizeLine; decide) fun h3 oC3 F3 N3 hC3 hz3 => ?_)
      k_steps
      refine Halt.mk (For_turns (by k_asm) ?_)
      k_steps
      rename_i lN _ FN NN lNl
      have hEm : ∀ {big : List (Addr × Obj)}, (∀ p ∈ rest, p ∈ big) → DictV PG w ed eo eks (EqV big ew ep eq) := fun hb => hE.weak fun k v _ ⟨x, d, o, e1, e2, e3, e4⟩ => ⟨x, d, o, e1, hb _ e2, hb _ e3, e4⟩
      refine Halt.mk (order_ok Bc FN Xc NN Tc rfl (.tail _ (.tail _ (.tail _ (.tail _ hsc)))) (.tail _ (.tail _ (.tail _ (.tail _ hscd)))) (.tail _ (.tail _ (.tail _ (.tail _ hed)))) (hEm fun p hp => .tail _ (.tail _ (.tail _ (.tail _ hp)))) hemp hpq hel (.head _) (ns := [pn, qn]) (.cons _ _ (.cons _ _ .nil)) (by show 2 ≤ 13; decide)
        (by show dp + 1 + 25 < _; omega) (by show un + 3 + 90 < _; omega) (fun D vF nF fd h4 tk4 F4 N4 hvF hO hDl => ?_) (fun hR e t dx h4 tk4 g₂ k1 k2 tm Fg u RX => ?_))
      rotate_left
      · show wpAny _ _ (leaving _ _) _ _ _
        exact x_leaveOn Bc Fg rfl RX u fun h5 R5 u5 => hraise e t dx h5 _ g₁ k1 k2 ringS tm (.inl ⟨rfl, hR⟩) FG u5 (raised_sub R5 fun q hq => .tail _ (.tail _ (.tail _ (.tail _ hq))))
      have hDC : dC ≠ D := Nat.ne_of_lt (hDl (dC, _) (.tail _ (.tail _ (.head _))))
      have hCZ : ∀ p ∈ (D, PySem.W.listOf vF.toArray nF) :: (L₁ + 1, oc1') :: rest, p.1 ≠ dC := List.forall_mem_cons.mpr ⟨Ne.symm hDC, List.forall_mem_cons.mpr ⟨Nat.ne_of_lt lC.1, hCr⟩⟩
      have hc0 := InvS.start (eks := eks) (ew := ew) (ep := ep) (eq := eq) (aw := aw) (c := fun x => if x = qn then (if qn = pn then 1 else 0) - 1 else if x = pn then 1 else 0) hO hpu hqu fun x => rfl
      k_steps
      refine Halt.mk (for_listT (news := (dC, oC3) :: (D, PySem.W.listOf vF.toArray nF) :: (L₁ + 1, oc1') :: rest) (LoopS w eks ew ep eq aw pn qn fd dC sc ((D, PySem.W.listOf vF.toArray nF) :: (L₁ + 1, oc1') :: rest)) rfl F4 (news_sub N4 fun p hp => ?_) (.tail _ (.head _)) rfl rfl ?_ ?_ ?_)
      · simp only [List.mem_cons] at hp ⊢
        rcases hp with hp | hp | hp | hp
        · exact .inr (.inr (.inr (.inl hp)))
        · exact .inl hp
        · exact .inr (.inr (.inr (.inr (.inl hp))))
        · exact .inr (.inr (.inr (.inr (.inr hp))))
      · exact ⟨oC3, _, _, [], fd, aw, tz, rfl, hC3, hz3, fun k hk => (mem_putKey.mp hk).elim (fun q => by rw [List.mem_singleton.mp q]; exact hpu) fun q => q ▸ hqu, rfl, hvF, hc0, rfl, hms⟩
      · intro I oi ds v ts m₁ news₁ h tk hlt hoi e hm hJ F5 N5
        obtain ⟨oC, c, ws, fdone, ftodo, wv, tw, rfl, hC, hz, hwu, hfd, hts, hI, hmw, hmse⟩ := hJ
        cases hts with
        | cons nm t1 hts =>
          rename_i ftodo
          have hnf : nm ∈ fd := by rw [hfd]; simp
          have hne : nm ∈ eks := hO.sub nm hnf
          k_steps
          refine dv_method PySem.F.slot_dict_pop PySem.F.type_dict_pop (by k_asm) (.tail _ (.head _)) hC ?_
          k_steps
          have hIC : I ≠ dC := Nat.ne_of_gt (show @LT.lt Nat _ dC I from hlt (dC, _) (.head _))
          refine Halt.mk (dvc_pop (by k_asm) (by k_asm) (UpdF.tail hIC (UpdF.head hCZ)) (.tail _ (.head _)) hC hz (univ_line hC.nodup hwu) fun t2 h6 o6 ws6 F6 N6 hC6 hz6 hw6 => ?_)
          have hscR := hsc
          have hscdR := hscd
          k_steps
          refine Halt.mk (dv_item (by k_asm) (.tail _ (.tail _ (.tail _ (.tail _ hed)))) hE hne (fun v hv => ?_) (by with_unfolding_all rfl))
          obtain ⟨px, pd, po, rfl, hpx, hpd, hpo⟩ := hv
          obtain ⟨r1, r2, r3, u1, u2, u3, uz, up, uq, rfl⟩ := hpo
          k_steps
          refine Halt.mk (mul_int ?_ (IntMulOk.of_right (PySem.intBits_le_64 (by have := hewb nm hne; omega) (by have := hewb nm hne; omega))))
          k_steps
          refine dv_method PySem.F.slot_dict_get PySem.F.type_dict_get (by k_asm) (by k_mem) hC6 ?_
          k_steps
          refine Halt.mk (dvc_get (by k_asm) (by k_mem) hC6 hz6 fun t3 => ?_)
          k_steps
          have hu := heu nm hne
          have hwu6 : ∀ x ∈ ws6, x ∈ univ := fun x hx => hwu x (hw6 x hx)
          refine Halt.mk (dvc_set (by k_asm) (news_drop (by k_asm)) (UpdF.tail hIC (UpdF.head hCZ)) hC6 hz6 (univ_line hC6.nodup hwu6) fun h7 o7 F7 N7 hC7 hz7 => ?_)
          have hwu7 : ∀ x ∈ putKey ws6 (ep nm), x ∈ univ := fun x hx => (mem_putKey.mp hx).elim (hwu6 x) fun q => q ▸ hu.2.1
          k_steps
          refine dv_method PySem.F.slot_dict_get PySem.F.type_dict_get (by k_asm) (by k_mem) hC7 ?_
          k_steps
          refine Halt.mk (dvc_get (by k_asm) (by k_mem) hC7 hz7 fun t4 => ?_)
          k_steps
          refine Halt.mk (dvc_set (by k_asm) (by k_asm) (UpdF.tail hIC (UpdF.head hCZ)) hC7 hz7 (univ_line hC7.nodup hwu7) fun h8 o8 F8 N8 hC8 hz8 => ?_)
          k_steps
          rename Fr _ _ _ _ => Fz
          rename News _ _ _ _ => Nz
          refine TurnE.next _ Fz Nz (List.forall_mem_cons.mpr ⟨Ne.symm hIC, fun q hq => Nat.ne_of_lt (hlt q (.tail _ hq))⟩) (.tail _ (.head _)) ⟨o8, _, _, fdone ++ [nm], ftodo, _, _, rfl, hC8, hz8, fun x hx => (mem_putKey.mp hx).elim (hwu7 x) fun q => q ▸ hu.2.2, by rw [hfd]; simp, hts, hI.step hO hemp hfd heu (fun x => rfl) (fun x => rfl) (fun x => rfl), rfl, hmse⟩
      · intro m₁ news₁ h tk hJ F5 N5
        obtain ⟨oC, c, ws, fdone, ftodo, wv, tw, rfl, hC, hz, hwu, hfd, hts, hI, hmw, hmse⟩ := hJ
        cases hts
        rw [List.append_nil] at hfd
        subst hfd
        have hwl : ws.length ≤ 13 := univ_len ▸ nodup_len hC.nodup hwu
        k_steps
        refine Halt.mk (Assign_ListComp_W (F₀ := by k_asm) (by rfl) (by with_unfolding_all rfl) (by with_unfolding_all rfl) (by decide) (by rfl) (by decide) (by rfl) (by rfl) (by rfl) ?_)
        k_steps
        refine Halt.mk (srcW_dict rfl (by k_asm) (by k_asm) (.head _) hC (Nat.le_trans hwl (by decide)) fun g2 => comp_strs (ks := ws) (fun x => decide (x ≠ emp ∧ c x ≠ 0)) (.head _) rfl (fun i v hi => hi) rfl rfl rfl ?_ ?_)
        · intro k t I oI C oC D ys m₂ h tk E' hk hC2 hm2 F2 N2 off ne
          k_steps
          · rename (k != Str.ofString "") = true => hn1
            have hn1 : k ≠ Str.ofString "" := by simpa using hn1
            refine Halt.mk (dv_item (by k_asm) (.tail _ (.tail _ (.tail _ (.head _)))) hC hk (fun v hv => ?_) (by with_unfolding_all rfl))
            obtain ⟨tv, rfl⟩ := hv
            k_steps
            all_goals exact Halt.mk ⟨by rw [Bool.eq_iff_iff]; simp [hn1]; try omega, _, _, rfl, by k_asm, by k_asm⟩
          · rename (k != Str.ofString "") = false => hn1
            have hn1 : k = Str.ofString "" := by simpa using hn1
            exact Halt.mk ⟨by simp [hn1], _, _, rfl, by k_asm, by k_asm⟩
        · intro ys hys
          have hnn : (ws.filter fun x => decide (x ≠ emp ∧ c x ≠ 0)).Nodup := List.Pairwise.filter _ hC.nodup
          have hnm : ∀ x, x ∈ (ws.filter fun x => decide (x ≠ emp ∧ c x ≠ 0)) ↔ x ≠ emp ∧ c x ≠ 0 := fun x => by
            rw [List.mem_filter]
            simp only [decide_eq_true_eq]
            exact ⟨fun h => h.2, fun h => ⟨by
              by_cases hx : x ∈ ws
              · exact hx
              · exact absurd (hz x hx) h.2, h⟩⟩
          have hnl : (ws.filter fun x => decide (x ≠ emp ∧ c x ≠ 0)).length ≤ 13 := Nat.le_trans (List.length_filter_le _ _) hwl
          have hnw : ∀ x ∈ (ws.filter fun x => decide (x ≠ emp ∧ c x ≠ 0)), x ∈ ws := fun x hx => (List.mem_filter.mp hx).1
          generalize (ws.filter fun x => decide (x ≠ emp ∧ c x ≠ 0)) = nms at hys hnn hnm hnl hnw
          have hysl := hys.length
          have hcu : ∀ k, k ∉ univ → c k = 0 := fun k hk => hz k fun q => hk (hwu k q)
          k_steps
          refine Halt.mk (wpAny_If ?_)
          k_steps
          refine Halt.mk (LCt.ListComp_T (F₀ := by k_asm) (by with_unfolding_all rfl) (by decide) (by rfl) (by decide) (by rfl) ?_)
          k_steps
          rename Fr _ _ _ _ => F6
          rename News _ _ _ _ => N6
          refine Halt.mk (LCt.CompSrcT.ledger rfl F6 N6 (.head _) (by rw [List.size_toArray, hysl]; exact Nat.le_trans hnl (by decide)) fun g3 => ?_)
          refine comp_filterA (isS fun nm => decide (c nm > 1 ∨ c nm < -1)) (.inr ⟨_, .head _, rfl, _, rfl⟩) rfl rfl rfl ?_ ?_
          · intro v I oI C oC D ys m₂ h tk E' hv hC2 hm2 F2 N2 off ne
            obtain ⟨nm, t, rfl, hnm⟩ := strs_mem hys hv
            k_steps
            refine Halt.mk (dv_item (by k_asm) (.tail _ (.tail _ (.tail _ (.tail _ (.head _))))) hC (hnw nm hnm) (fun v hv => ?_) (by with_unfolding_all rfl))
            obtain ⟨tv, rfl⟩ := hv
            k_steps
            refine Halt.mk ⟨?_, _, _, rfl, by k_asm, by k_asm⟩
            rw [Bool.eq_iff_iff]
            simp only [decide_eq_true_eq, isS]
            split <;> omega
          have hS4 := strs_filter (fun nm => decide (c nm > 1 ∨ c nm < -1)) hys
          have hS4l := hS4.length
          k_steps
          refine Halt.mk (ne_nil (News.isList (by k_asm) (by k_mem)) (News.isList (by k_asm) (.head _)) (by show un + 3 < _; omega) (fun hz4 => ?_) (fun hz4 => ?_))
          all_goals rw [List.size_toArray, hS4l] at hz4
          · obtain ⟨x, hx⟩ := List.exists_mem_of_length_pos (Nat.pos_of_ne_zero hz4)
            obtain ⟨hx1, hx2⟩ := List.mem_filter.mp hx
            have hx3 : c x > 1 ∨ c x < -1 := by simpa using hx2
            have hxe := (hnm x).mp hx1
            have hbad : SumOf (fun y => if y = emp then wv else c y) none := .inr (.inr ⟨x, hxe.1, by
              show (if x = emp then wv else c x) ≠ 0 ∧ (if x = emp then wv else c x) ≠ 1 ∧ (if x = emp then wv else c x) ≠ -1
              rw [if_neg hxe.1]; omega⟩)
            have hmsg : Str.ofString "a symbol that is added or taken off twice" ≠ ringS := by decide
            k_steps
            refine Halt.mk (x_raise ?_)
            k_steps
            refine Halt.mk (x_make (.inl rfl) Bc (by k_asm) Xc (by k_asm) Tc (Around.frames_deeper Bc.stack) rfl rfl (by show dp + 1 + 1 < _; omega) fun e t2 dx h' tk' k1 k2 F' N' l1 l2 l3 => ?_)
            refine ⟨59, e, t2, dx, .none, rfl, hC59.keeps F'.keep, (N' _ (.head _)).1, wpAny_raiseNew_none rfl ?_⟩
            show wpAny _ _ (leaving _ _) _ _ _
            refine x_leaveK Bc F' rfl rfl N' (fun p hp => ?_) fun h'' RX u => hraise e t2 dx h'' _ g₁ k1 k2 _ _ (.inr ⟨hmsg, .inr ⟨fd, hO⟩, hI.done hcu hbad⟩) FG u (raised_head (pre := [_, _, _, _, _, _, _]) RX)
            rcases List.mem_cons.mp hp with rfl | hp
            · exact Nat.ne_of_gt (Nat.lt_trans l2 l3)
            · rcases List.mem_cons.mp hp with rfl | hp
              · exact Nat.ne_of_gt l2
              · exact Nat.ne_of_lt (l1 p hp)
          · have hones : ∀ x, x ∈ nms → c x = 1 ∨ c x = -1 := fun x hx => by
              have h1 := (hnm x).mp hx
              by_cases h2 : c x > 1 ∨ c x < -1
              · have : x ∈ nms.filter fun nm => decide (c nm > 1 ∨ c nm < -1) := List.mem_filter.mpr ⟨hx, by simpa using h2⟩
                rw [List.eq_nil_of_length_eq_zero hz4] at this
                nomatch this
              · omega
            k_steps
            refine Halt.mk (LCt.ListComp_T (F₀ := by k_asm) (by with_unfolding_all rfl) (by decide) (by rfl) (by decide) (by rfl) ?_)
            k_steps
            rename Fr _ _ _ _ => F7
            rename News _ _ _ _ => N7
            refine Halt.mk (LCt.CompSrcT.ledger rfl F7 N7 (by k_mem) (by rw [List.size_toArray, hysl]; exact Nat.le_trans hnl (by decide)) fun g3 => ?_)
            refine comp_filterA (isS fun nm => decide (c nm > 0)) (.inr ⟨LCg.lst ys, by k_mem, rfl, _, rfl⟩) rfl rfl rfl ?_ ?_
            · intro v I oI C oC D ys m₂ h tk E' hv hC2 hm2 F2 N2 off ne
              obtain ⟨nm, t, rfl, hnm⟩ := strs_mem hys hv
              k_steps
              refine Halt.mk (dv_item (by k_asm) (by k_mem) hC (hnw nm hnm) (fun v hv => ?_) (by with_unfolding_all rfl))
              obtain ⟨tv, rfl⟩ := hv
              k_steps
              exact Halt.mk ⟨rfl, _, _, rfl, by k_asm, by k_asm⟩
            have hSp := strs_filter (fun nm => decide (c nm > 0)) hys
            k_steps
            refine Halt.mk (LCt.ListComp_T (F₀ := by k_asm) (by with_unfolding_all rfl) (by decide) (by rfl) (by decide) (by rfl) ?_)
            k_steps
            rename Fr _ _ _ _ => F7
            rename News _ _ _ _ => N7
            refine Halt.mk (LCt.CompSrcT.ledger rfl F7 N7 (by k_mem) (by rw [List.size_toArray, hysl]; exact Nat.le_trans hnl (by decide)) fun g3 => ?_)
            refine comp_filterA (isS fun nm => decide (c nm < 0)) (.inr ⟨LCg.lst ys, by k_mem, rfl, _, rfl⟩) rfl rfl rfl ?_ ?_
            · intro v I oI C oC D ys m₂ h tk E' hv hC2 hm2 F2 N2 off ne
              obtain ⟨nm, t, rfl, hnm⟩ := strs_mem hys hv
              k_steps
              refine Halt.mk (dv_item (by k_asm) (by k_mem) hC (hnw nm hnm) (fun v hv => ?_) (by with_unfolding_all rfl))
              obtain ⟨tv, rfl⟩ := hv
              k_steps
              exact Halt.mk ⟨rfl, _, _, rfl, by k_asm, by k_asm⟩
            have hSn := strs_filter (fun nm => decide (c nm < 0)) hys
            k_steps
            rename Fr _ _ _ _ => F8
            rename News _ _ _ _ => N8
            have hPm : ∀ x, x ∈ nms.filter (fun nm => decide (c nm > 0)) ↔ x ≠ emp ∧ (if x = emp then wv else c x) > 0 := fun x => by
              rw [List.mem_filter, hnm]
              simp only [decide_eq_true_eq]
              constructor
              · rintro ⟨⟨h1, _⟩, h2⟩; exact ⟨h1, by rw [if_neg h1]; exact h2⟩
              · rintro ⟨h1, h2⟩; rw [if_neg h1] at h2; exact ⟨⟨h1, by omega⟩, h2⟩
            have hNm : ∀ x, x ∈ nms.filter (fun nm => decide (c nm < 0)) ↔ x ≠ emp ∧ (if x = emp then wv else c x) < 0 := fun x => by
              rw [List.mem_filter, hnm]
              simp only [decide_eq_true_eq]
              constructor
              · rintro ⟨⟨h1, _⟩, h2⟩; exact ⟨h1, by rw [if_neg h1]; exact h2⟩
              · rintro ⟨h1, h2⟩; rw [if_neg h1] at h2; exact ⟨⟨h1, by omega⟩, h2⟩
            have hPn : (nms.filter fun nm => decide (c nm > 0)).Nodup := List.Pairwise.filter _ hnn
            have hNn : (nms.filter fun nm => decide (c nm < 0)).Nodup := List.Pairwise.filter _ hnn
            have hPl : (nms.filter fun nm => decide (c nm > 0)).length ≤ 13 := Nat.le_trans (List.length_filter_le _ _) hnl
            have hNl : (nms.filter fun nm => decide (c nm < 0)).length ≤ 13 := Nat.le_trans (List.length_filter_le _ _) hnl
            have hone2 : ∀ x, x ∈ nms.filter (fun nm => decide (c nm > 0)) ∨ x ∈ nms.filter (fun nm => decide (c nm < 0)) → (if x = emp then wv else c x) = 1 ∨ (if x = emp then wv else c x) = -1 := fun x hx => by
              have h1 : x ∈ nms := hx.elim (fun q => (List.mem_filter.mp q).1) fun q => (List.mem_filter.mp q).1
              rw [if_neg ((hnm x).mp h1).1]; exact hones x h1
            have hdis : ∀ x ∈ nms.filter (fun nm => decide (c nm < 0)), x ∉ nms.filter fun nm => decide (c nm > 0) := fun x h1 h2 => by
              have h3 := ((hPm x).mp h2).2; have h4 := ((hNm x).mp h1).2; omega
            generalize (nms.filter fun nm => decide (c nm > 0)) = ps at hSp hPm hPn hPl hone2 hdis
            generalize (nms.filter fun nm => decide (c nm < 0)) = nns at hSn hNm hNn hNl hone2 hdis
            refine Halt.mk (affine_ok Bc F8 Xc N8 Tc rfl (by k_mem) (by k_mem) hSp hSn (fun x hx => ((hPm x).mp hx).1) (fun x hx => ((hNm x).mp hx).1) hdis hPl hNl (by show dp + 1 + 20 < _; omega) (by show un + 3 + 70 < _; omega) (fun hp1 hn1 x d o h9 tk9 F9 N9 hO9 hl9 hdx9 => ?_) (fun hbig e t dx h9 tk9 g₂ k1 k2 msg tm Fg u RX hmsg => ?_))
            · have hsum : SumOf (fun y => if y = emp then wv else c y) (some (wv, nrm ((ps ++ [emp]).getD 0 Str.empty) ((nns ++ [emp]).getD 0 Str.empty), nrm ((nns ++ [emp]).getD 0 Str.empty) ((ps ++ [emp]).getD 0 Str.empty))) :=
                sum_nrm (sum_of_lists (f := fun y => if y = emp then wv else c y) hp1 hPm hn1 hNm hone2)
              k_steps
              rename Fr _ _ _ _ => Fz
              rename News _ _ _ _ => Nz
              exact hret (.inr ⟨fd, hO⟩) x d o wv _ _ _ _ _ Fz Nz (fun r hr => .tail _ (.tail _ (.tail _ (.tail _ (.tail _ (.tail _ (.tail _ (.tail _ (.tail _ (.tail _ hr)))))))))) (.head _) (.tail _ (.head _)) hO9 (hI.done hcu hsum)
            · have hbad : SumOf (fun y => if y = emp then wv else c y) none := by
                rcases hbig with hb | hb
                · obtain ⟨x, y, hxy, hx, hy⟩ := two_of hPn hb
                  exact .inl ⟨x, y, hxy, ((hPm x).mp hx).1, ((hPm y).mp hy).1, ((hPm x).mp hx).2, ((hPm y).mp hy).2⟩
                · obtain ⟨x, y, hxy, hx, hy⟩ := two_of hNn hb
                  exact .inr (.inl ⟨x, y, hxy, ((hNm x).mp hx).1, ((hNm y).mp hy).1, ((hNm x).mp hx).2, ((hNm y).mp hy).2⟩)
              show wpAny _ _ (leaving _ _) _ _ _
              exact x_leaveOn Bc Fg rfl RX u fun h5 R5 u5 => hraise e t dx h5 _ g₁ k1 k2 msg tm (.inr ⟨hmsg, .inr ⟨fd, hO⟩, hI.done hcu hbad⟩) FG u5 (raised_head (pre := [_, _, _, _, _, _, _, _]) R5)
end
section
section
variable {prog : Program} {w : World} {A A₀ : Around} {s : Shared} {K : Frag} {L : Addr} {h₀ base : Heap} {m mg mb : Str → Option Value} {news : List (Addr × Obj)} {p : Program} {loose : List Str} {mean : ExcName → Option Value}
/-- the entering of a def whose frame may end with its ground turned -/
theorem code_raw {env : Env} {outer : List Env} {R : Result → Shared → Prop} {name qual : Str} {params : Arguments} {body : List Stmt} {scope : Scope} {dV kV doc pm cdv ct oc : Value} {an od : Option Addr} {osl : Array (Option Value)} {f : Addr} {args : Args} {binds : List (Str × Value)}
    (B : Below A₀ base outer h₀) (F : Fr h₀ L s.heap m) (X₀ : K.In h₀) (N : News h₀ L s.heap news) (T : Top p loose mean mg mb h₀) (hA : A.frames = some (env :: outer)) (hf : env.frame = some L) (hke : env.scope.kind = .function)
    (ho : K.lookup f = some ⟨oc, od, .func (fnOf name qual params body scope dV kV doc pm an cdv ct), osl⟩) (hcd : codeIn K cdv qual = true) (hroom : A.depth < recursionLimit)
    (hbind : BindsTo s (fnOf name qual params body scope dV kV doc pm an cdv ct) args binds) (hloc : ∀ y ∈ binds, scope.names.lookup y.1 = some .local)
    (h : ∀ g L' h₁, Fr h₀ L g m → Fr g L' h₁ (fun y => binds.reverse.lookup y) → News g L' h₁ news → Below A base (env :: outer) g → K.In g → Top p loose mean mg mb g →
      wpAny (model prog w) (A.deeper (envOf qual scope L' f cdv)) (execs body (envOf qual scope L' f cdv))
        (fun fl s' => LeaveK h₀ L m g R (match fl with | .ret v => v | _ => .none) s' ∨ R (.ok (.ret (match fl with | .ret v => v | _ => .none))) s')
        (fun e s' => wpAny (model prog w) (A.deeper (envOf qual scope L' f cdv)) (leaving (envOf qual scope L' f cdv) e) (fun _ s'' => R (.error e) s'') (fun e' s'' => R (.error e') s'') s')
        { s with heap := h₁, toks := s.toks + binds.length })
    (hco : scope.isCoroutine = false) (hgen : scope.isGenerator = false) (hk : scope.kind = .function)
    (hcell : ∀ x ∈ scope.names, x.2 ≠ .cell) : codeAny (model prog w) A (.call (.ref f) args) R s := by
  obtain ⟨FG, BG, st, lv⟩ := groundX (R := R) B F N hA hf hke
  refine codeAny_call_def (fd := fnX name qual params body scope [] dV kV doc pm an cdv ct) (body := body) (binds := binds) hroom ((X₀.keeps F.keep) _ _ ho) rfl (T.nolimit.keeps F.keep) (codeRec_of (X₀.keeps F.keep) hcd) rfl hbind hcell hloc (fun h₁ hns hk₁ => ?_) hco hgen hk
  exact wpAny_mono (h _ s.heap.objs.size h₁ FG ⟨hns, fun b o e => hk₁ b o (of_hideAll _ e), Nat.le_of_eq (hideAll_size _ _)⟩
    (fun p hp => ⟨hk₁ _ _ (N p hp).1, Nat.ne_of_lt (Heap.lt_size (N p hp).1), hideAll_none _ (List.mem_map_of_mem hp)⟩) BG (X₀.keeps st) (T.keeps st)) (fun fl s' hl => hl.elim (lv _ _) id) fun _ _ y => y
end
section
variable {M : Model} {A : Around} {E : Value → Shared → Prop} {s : Shared} {base : Heap} {env : Env} {outer l : List Env} {L e C t dx : Addr} {cx : Value} {news : List (Addr × Obj)} {Kq : Shared → Prop}
/-- an exception is caught by the frame's try -/
theorem x_noted (hfr : A.frames = some (env :: outer)) (hf : env.frame = some L) (R : RaisedX base (env :: outer) e C t dx cx news s.heap)
    (h : ∀ h', RaisedX base (env :: outer) e C t dx cx news h' → s.heap.UpToSlots h' → Kq { s with heap := h' }) :
    wpAny M A (noteFrame (.ref e) env) (fun _ s₂ => wpAny M A (setFlight (.ref e) none) (fun _ s₃ => Kq s₃) E s₂) E s := by
  obtain ⟨B, b1, b2, x⟩ := R
  refine fl_next hfr hf x fun h₁ x₁ u₁ => ?_
  exact fl_flight (s := { s with heap := h₁ }) (fr := none) x₁ fun h₂ x₂ u₂ => h h₂ ⟨B, b1, b2, x₂⟩ (u₁.trans u₂)
theorem x_unflown {Q : Unit → Shared → Prop} (R : RaisedX base l e C t dx cx news s.heap) (h : ∀ h', RaisedX base l e C t dx cx news h' → s.heap.UpToSlots h' → Q () { s with heap := h' }) :
    wpAny M A (setFlight (.ref e) none) Q E s := by
  obtain ⟨B, b1, b2, x⟩ := R
  exact fl_flight (fr := none) x fun h₂ x₂ u₂ => h h₂ ⟨B, b1, b2, x₂⟩ u₂
/-- the root's frame after a catch above it -/
theorem x_root {h₀ g h h' : Heap} {L : Addr} {m : Str → Option Value} {news news' : List (Addr × Obj)} (FG : Fr h₀ L g m) (hg : g.StaysIn h) (u : h.UpToSlots h') (R : RaisedX h₀ l e C t dx cx news h') (hs : ∀ q ∈ news', q ∈ news) (hL : ∀ q ∈ news', q.1 ≠ L) : Fr h₀ L h' m ∧ News h₀ L h' news' := by
  obtain ⟨B, b1, b2, x⟩ := R
  exact ⟨⟨((Heap.UpToSlots.of_keeps hg).trans u).ns FG.ns, fun b o q => x.stays b o (b1 b o q), FG.above⟩, fun q hq => ⟨x.stays _ _ (b2 q (hs q hq)).1, hL q hq, (b2 q (hs q hq)).2⟩⟩
end
theorem fr_above {h₀ g h : Heap} {L L' : Addr} {m m' : Str → Option Value} (FG : Fr h₀ L g m) (F : Fr g L' h m') : h₀.objs.size ≤ L' := by
  obtain ⟨o, es, ep, ho, _⟩ := FG.ns
  exact Nat.le_trans FG.above (Nat.le_trans (Nat.le_of_lt (Heap.lt_size ho)) F.above)
end
section
local macro_rules | `(tactic| walk_at $k:str) => if ["call ref", "exec Try", "exec If"].contains k.getString then `(tactic| (refine Halt.out ?_)) else Lean.Macro.throwUnsupported
set_option maxHeartbeats 4000000 in
theorem heard_ok {w : World} {mean : ExcName → Option Value} {mg mb : Str → Option Value} {dp un : Nat} {gd : Option (List Code)} {cn : Str} {cs : Scope} {a : Addr} {ccd : Value} {cl : List (Str × Addr)} {outer : List Env} {A₀ : Around} {h₀ : Heap} {L : Addr} {m : Str → Option Value} {s : Shared} {Q E : Value → Shared → Prop}
  {rest : List (Addr × Obj)} {sc scd ed ax ad : Addr} {hh : Int} {te : Tok} {eo ao : Obj} {eks : List Str} {ew : Str → Int} {ep eq : Str → Str} {aw : Int} {pn qn : Str}
  (B : Below A₀ h₀ outer h₀) (F : Fr h₀ L s.heap m) (X : (hd.heap_39 w.params).In h₀) (N : News h₀ L s.heap rest) (T : TopG mean mg mb h₀) (hk : cs.kind = .function)
  (hsc : (sc, instObj 184 scd) ∈ rest) (hscd : (scd, dictOf [⟨hh, .str (Str.ofString "equates") te, .ref ed⟩] 1) ∈ rest) (hed : (ed, eo) ∈ rest) (hE : DictV PG w ed eo eks (EqV rest ew ep eq)) (hemp : emp ∉ eks) (hpq : ∀ k ∈ eks, ep k = eq k → ep k = emp) (hel : eks.length ≤ 8)
  (hax : (ax, instObj 133 ad) ∈ rest) (had : (ad, ao) ∈ rest) (hao : AffD ao aw pn qn) (hpqn : pn = qn → pn = emp) (hpu : pn ∈ univ) (hqu : qn ∈ univ) (heu : ∀ k ∈ eks, k ∈ univ ∧ ep k ∈ univ ∧ eq k ∈ univ) (hewb : ∀ k ∈ eks, -100 ≤ ew k ∧ ew k ≤ 100)
  (hdp : dp + 60 < recursionLimit) (hun : un + 230 < cLine)
  (hgood : Okay eks (lean eks ep eq) pn qn → ∀ D o' z p q h' tk' tz tp tq, Worth eks ew ep eq aw pn qn (some (z, p, q)) → Fr h₀ L h' m → News h₀ L h' ((D, o') :: rest) → o' = { cls := .type "tuple", data := .seq #[.int z tz, .str p tp, .str q tq] 0 } → (∀ r ∈ rest, r.1 < D) → Q (.ref D) { s with heap := h', toks := tk' })
  (hnone : RingOk eks (lean eks ep eq) [pn, qn] ∨ (Okay eks (lean eks ep eq) pn qn ∧ Worth eks ew ep eq aw pn qn none) → ∀ h' tk', Fr h₀ L h' m → News h₀ L h' rest → Q .none { s with heap := h', toks := tk' }) :
  wpAny (model Challenge.rw_qz0049_01.row.prog w) (ktrTop dp un gd cn cs L a ccd cl outer) (call (.ref 301) [.ref sc, .ref ax]) Q E s := by
  have hNL : ∀ q ∈ rest, q.1 ≠ L := fun q hq => (N q hq).2.1
  have X0 := X
  revert X; k_fill; intro X
  refine wpAny_call ?_
  k_dflt (refine' code_raw ?k1 ?k2 ?k3 ?k4 ?k5 ?kA ?kF ?kK ?k6 ?k7 ?k8 ?k9 ?kB ?_ ?c2 ?c3 ?c4 ?c5; (case kA => exact rfl); (case kF => exact rfl); (case kK => first | exact rfl | assumption); (case k1 => k_asm); (case k2 => k_asm); (case k3 => k_asm); (case k4 => k_asm); (case k5 => k_asm); (case k6 => k_is); (case k7 => k_is); (case k8 => ktr_room); (case k9 => first | exact BindsTo.of_eq rfl | exact binds_K (by k_in) rfl (by k_is) rfl rfl rfl | fail "enter: no rule for these arguments"); (case c5 => decide); (case kB => exact locs rfl); (case c2 => exact rfl); (case c3 => exact rfl); (case c4 => exact rfl); k_whole; intro g₁ L₁ h₁ FG F₁ N₁ Bc Xc Tc; (try dsimp only); (try k_lift Bc); (try k_fold))
  have hL1 : h₀.objs.size ≤ L₁ := fr_above FG F₁
  k_steps
  refine Halt.mk (wpAny_Try_except ?_)
  k_steps
  refine Halt.mk (settled_ok Bc (by k_asm) Xc (by k_asm) Tc rfl hsc hscd hed hE hemp hpq hel hax had hao hpqn hpu hqu heu hewb (by show dp + 1 + 50 < _; omega) (by show un + 3 + 190 < _; omega) (fun hO x d o z p q h2 tk2 led F2 N2 hin hx hd hA hW => ?_) (fun e t dx h2 tk2 g₂ k1 k2 msg tm hwhy F2 u2 R2 => ?_))
  · obtain ⟨q1, q2, q3, t1, t2, t3, tz', tp', tq', rfl⟩ := hA
    k_steps
    refine Halt.mk (told_ok Bc (by k_asm) Xc (by k_asm) Tc rfl hx hd ⟨_, _, _, _, _, _, _, _, _, rfl⟩ (by show dp + 1 + 15 < _; omega) (by show un + 3 + 50 < _; omega) (fun D o' h3 tk3 tz tp tq F3 N3 hcl ho' hlt => ?_))
    k_steps
    refine .inl ⟨L₁, _, (D, o') :: rest, F3, fun r hr => ?_, fun F4 N4 => hgood hO D o' z p q _ _ tz tp tq hW F4 N4 ho' (fun r hr => hlt r (hin r hr))⟩
    cases hr with
    | head => exact N3 _ (.head _)
    | tail _ hr => exact N3 _ (.tail _ (hin r hr))
  · refine x_noted rfl rfl R2 fun h3 R3 u3 => ?_
    have hgk : g₁.StaysIn g₂ := F2.keep
    have hout := x_root FG hgk (u2.trans u3) R3 (fun q hq => List.mem_cons_of_mem _ hq) hNL
    have hFz : Fr h₀ L₁ h3 _ := ⟨(u2.trans u3).ns F2.ns, hout.1.keep, hL1⟩
    have he3 : ∃ T, h3.get? e = some (excT 59 t dx .none (.ref T)) := by
      obtain ⟨_, _, _, x⟩ := R3
      obtain ⟨T, _, _, he, _⟩ := x.there
      exact ⟨T, he⟩
    obtain ⟨T3, he3⟩ := he3
    refine x_take (D := 59) (fun Q' E' hq => ?_) (fun Q' E' hq => ?_) fun E' => ?_
    · k_dflt (refine' nameX_K (cl := []) ?F ?X ?T ?e ?_ ?a ?b ?c; (case F => exact hFz); (case X => exact X); (case T => k_asm); (case a => rfl); (case b => rfl); (case c => decide); (case e => k_is); exact hq)
    · k_dflt (refine' x_matches (C := 59) (K := hd.heap_39 w.params) (X.keeps hout.1.keep) he3 rfl ?h1 ?h2 ?h3 ?h4 hq; (case h1 => k_is); (case h2 => k_is); (case h3 => k_is); (case h4 => k_is))
    · refine x_unflown R3 fun h4 R4 u4 => ?_
      have hout := x_root FG hgk ((u2.trans u3).trans u4) R4 (fun q hq => List.mem_cons_of_mem _ hq) hNL
      refine wpAny_execs_cons (wpAny_Return_some (wpAny_Constant_none ?_))
      refine .inr ?_
      exact hnone (hwhy.elim (fun z => .inl z.2) fun z => .inr z.2) _ _ hout.1 hout.2
end
section
set_option maxHeartbeats 4000000 in
theorem scope_new {w : World} {mean : ExcName → Option Value} {mg mb : Str → Option Value} {dp un : Nat} {gd : Option (List Code)} {cn : Str} {cs : Scope} {a : Addr} {ccd : Value} {cl : List (Str × Addr)} {outer : List Env} {A₀ : Around} {base h₀ : Heap} {L : Addr} {m : Str → Option Value} {s : Shared} {Q E : Value → Shared → Prop}
  {rest : List (Addr × Obj)} {ed : Addr} {eo : Obj}
  (B : Below A₀ base outer h₀) (F : Fr h₀ L s.heap m) (X : (hd.heap_39 w.params).In h₀) (N : News h₀ L s.heap rest) (T : TopG mean mg mb h₀) (hk : cs.kind = .function)
  (hed : (ed, eo) ∈ rest)
  (hdp : dp + 15 < recursionLimit) (hun : un + 50 < cLine)
  (hret : ∀ x d hh te h' tk', Fr h₀ L h' m → News h₀ L h' ((x, instObj 184 d) :: (d, dictOf [⟨hh, .str (Str.ofString "equates") te, .ref ed⟩] 1) :: rest) → (∀ r ∈ rest, r.1 < d) → d < x → Q (.ref x) { s with heap := h', toks := tk' }) :
  wpAny (model Challenge.rw_qz0049_01.row.prog w) (ktrTop dp un gd cn cs L a ccd cl outer) (call (.ref 184) [.ref ed]) Q E s := by
  revert X; k_fill; intro X
  k_dflt (refine' call_cls ?k1 ?k2 ?k3 ?k4 ?k5 ?k6 ?_; (case k1 => k_asm); (case k2 => k_asm); (case k3 => k_asm); (case k4 => k_is); (case k5 => k_is); (case k6 => k_is); k_whole; intro x' d' h' F' N' l1 l2; (try k_lt l1); (try k_lt2 l2); (try k_sweep))
  k_dflt cell_enter
  k_steps
  exact hret _ _ _ _ _ _ (by assumption) (by assumption) l1 l2
section
variable {M : Model} {A : Around} {E : Value → Shared → Prop} {s : Shared} {B h h' : Heap} {env : Env} {outer : List Env} {L e C t dx : Addr} {cx fl : Value} {m : Str → Option Value}
/-- as x_asSuite; what stood below the frame stands up to slots -/
theorem x_asSuiteU {A' : Around} {n : Str} {pos : Pos} (hf : env.frame = some L) (hloc : env.locals = L) (hl : env.kindOf n = some .local) (hp : (env.scope.kind == .class || (env.scope.kind == .module && env.locals != env.globals)) = false)
    (hns : s.heap.Ns L m) (hout : ∀ env' ∈ outer, env'.frame ≠ some L)
    (note : ∀ Q' E', (∀ h', Flies B (env :: outer) e C t dx cx (rawInt L) h' → s.heap.UpToSlots h' → Q' () { s with heap := h' }) → wpAny M A' (noteFrame (.ref e) env) Q' E' s)
    (hE : ∀ h' tk', Flies B (env :: outer) e C t dx cx (rawInt L) h' → (∀ g : Heap, g.UpToSlots s.heap → g.get? L = none → g.UpToSlots h') → E (.ref e) { s with heap := h', toks := tk' }) :
    AsSuiteRaised M A' env n pos (notedBy M A' env (cameBackBy M A env E)) (.ref e) s := by
  refine note _ _ fun h₁ x₁ u₁ => ?_
  refine wpAny_nameGoes (s := { s with heap := h₁ }) hl (hloc ▸ u₁.ns hns) hp fun h₂ m₂ n₂ k₂ => ?_
  rw [hloc] at n₂ k₂
  have x₂ := x₁.store hf k₂ n₂ hout
  obtain ⟨T, oT, ts, he, hnT, hTe, hT, hdT, h3⟩ := x₂.there
  have neN : ¬ ((Value.ref T == Value.none) = true) := by simp
  unfold PySem.passOn
  refine wpAny_bind (wpAny_field he rfl (x := .ref T) rfl ?_)
  rw [if_neg neN]
  refine wpAny_bind ?_
  rw [hf]
  refine fl_flight (s := { s with heap := h₂, toks := s.toks + 1 }) (fr := some L) x₂ fun h₃ x₃ u₃ => wpAny_throw ?_
  refine fl_again (s := { s with heap := h₃, toks := s.toks + 1 }) hf x₃ ?_
  obtain ⟨T, oT, ts, he, hnT, hTe, hT, hdT, h3⟩ := x₃.there
  have neN : ¬ ((Value.ref T == Value.none) = true) := by simp
  refine wpAny_bind (wpAny_field he rfl (x := .ref T) rfl ?_)
  rw [if_neg neN, hf]
  refine fl_flight (s := { s with heap := h₃, toks := s.toks + 1 }) (fr := some L) x₃ fun h₄ x₄ u₄ => hE h₄ _ x₄ fun g u gn => ?_
  have ug : g.UpToSlots h₂ := fun b o hb hn => by
    obtain ⟨sl, q⟩ := (u.trans u₁) b o hb hn
    exact ⟨sl, (k₂.2 b fun z => by rw [z, gn] at hb; cases hb).trans q⟩
  exact (ug.trans u₃).trans u₄
end
/-- the frame's ground after a catch: the exception is one of the ledger's -/
theorem x_rebase2 {A : Around} {base g h h' : Heap} {env : Env} {outer : List Env} {L e C t dx : Addr} {cx : Value} {m : Str → Option Value} {news news' : List (Addr × Obj)} (Kb : Below A base outer g) (F : Fr g L h m) (uh : h.UpToSlots h') (hf : env.frame = some L) (R : RaisedX base (env :: outer) e C t dx cx news h') (hs : ∀ q ∈ news', q ∈ news) (hgn : ∀ q ∈ news', g.get? q.1 = none) :
    ∃ g' T, g.UpToSlots g' ∧ Below A base outer g' ∧ Fr g' L h' m ∧ News g' L h' ((e, excT C t dx cx (.ref T)) :: news') ∧ g'.objs.size ≤ L ∧ ∃ B, base.StaysIn B ∧ (∀ q ∈ news, B.get? q.1 = some q.2 ∧ base.get? q.1 = none) ∧ Flies B (env :: outer) e C t dx cx .none h' := by
  obtain ⟨B, b1, b2, x⟩ := R
  obtain ⟨T, oT, ts, he, hnT, hTe, hT, hdT, h3⟩ := x.there
  have u : g.UpToSlots h' := (Heap.UpToSlots.of_keeps F.keep).trans uh
  have gL : ∀ b o, g.get? b = some o → b < L := fun b o q => Nat.lt_of_lt_of_le (Heap.lt_size q) F.above
  have bg : base.StaysIn h' := fun b o q => x.stays b o (b1 b o q)
  have en : base.get? e = none := by
    cases q : base.get? e with
    | none => rfl
    | some o => have := b1 _ _ q; rw [x.new] at this; cases this
  have eF : ∀ b o, h'.get? b = some o → (∀ vs, o.data ≠ .fields vs) → b ≠ e := fun b o q hn z => by rw [z, he] at q; cases q; exact hn _ rfl
  have nF : ∀ env' ∈ env :: outer, ∀ b, env'.frame = some b → b ≠ e ∧ ∀ q ∈ news, b ≠ q.1 := fun env' hm b hb => by
    obtain ⟨bn, o, ho, hnf⟩ := x.frames.mem (List.mem_filterMap.mpr ⟨env', hm, hb⟩)
    exact ⟨eF b o ho hnf, fun q hq z => by rw [z, (b2 q hq).1] at bn; cases bn⟩
  have hLn := nF env (.head _) L hf
  have NN : ∀ q ∈ (e, excT C t dx cx (.ref T)) :: news', h'.get? q.1 = some q.2 ∧ q.1 ≠ L ∧ base.get? q.1 = none ∧ ∀ env' ∈ outer, ∀ b, env'.frame = some b → b ≠ q.1 := fun q hq => by
    cases hq with
    | head => exact ⟨he, Ne.symm hLn.1, en, fun env' hm b hb => (nF env' (.tail _ hm) b hb).1⟩
    | tail _ hq =>
      have hq := hs q hq
      exact ⟨x.stays _ _ (b2 q hq).1, Ne.symm (hLn.2 q hq), (b2 q hq).2, fun env' hm b hb => (nF env' (.tail _ hm) b hb).2 q hq⟩
  obtain ⟨nn, hnn⟩ : ∃ nn, nn = (e, excT C t dx cx (.ref T)) :: news' := ⟨_, rfl⟩
  rw [← hnn] at NN
  have st : ∀ b o, (hideAll (cut h' L) (nn.map (·.1))).get? b = some o → h'.get? b = some o := fun b o q => (of_cut (of_hideAll _ q)).2
  have ugg : g.UpToSlots (hideAll (cut h' L) (nn.map (·.1))) := fun b o q hnf => by
    obtain ⟨sl, q'⟩ := u b o q hnf
    refine ⟨sl, hideAll_get _ ((cut_get (gL b o q)).trans q') fun hm => ?_⟩
    obtain ⟨p, hp, rfl⟩ := List.mem_map.mp hm
    rw [hnn] at hp
    cases hp with
    | head => exact eF _ _ q' hnf rfl
    | tail _ hp => rw [hgn p hp] at q; cases q
  refine ⟨hideAll (cut h' L) (nn.map (·.1)), T, ugg, ⟨Kb.stack, fun b o q => ?_, ?_⟩, ⟨uh.ns F.ns, st, ?_⟩, ?_, ?_, B, b1, b2, x⟩
  · have q' := Kb.stays b o q
    refine hideAll_get _ ((cut_get (gL b o q')).trans (bg b o q)) fun hm => ?_
    obtain ⟨p, hp, rfl⟩ := List.mem_map.mp hm
    rw [(NN p hp).2.2.1] at q; cases q
  · have go : ∀ l : List Env, (∀ env' ∈ l, env' ∈ outer) → g.FunFrames base l → (hideAll (cut h' L) (nn.map (·.1))).FunFrames base l := by
      intro l
      induction l with
      | nil => intro _ _; trivial
      | cons a r ih =>
        rintro hsub ⟨k1, ⟨L₁, o₁, a1, a2, a3, a4⟩, k2⟩
        obtain ⟨sl, q⟩ := u L₁ o₁ a3 a4
        refine ⟨k1, ⟨L₁, _, a1, a2, hideAll_get _ ((cut_get (gL L₁ o₁ a3)).trans q) fun hm => ?_, a4⟩, ih (fun env' he => hsub env' (.tail _ he)) k2⟩
        obtain ⟨p, hp, hpe⟩ := List.mem_map.mp hm
        exact (NN p hp).2.2.2 a (hsub a (.head _)) L₁ a1 hpe.symm
    exact go outer (fun _ h => h) Kb.frames
  · rw [hideAll_size]; exact cut_size h' L
  · rw [← hnn]
    exact fun p hp => ⟨(NN p hp).1, (NN p hp).2.1, hideAll_none _ (List.mem_map_of_mem hp)⟩
  · rw [hideAll_size]; exact cut_size h' L
end
section
local macro_rules | `(tactic| walk_at $k:str) => if ["call ref", "exec Try", "exec Raise some none"].contains k.getString then `(tactic| (refine Halt.out ?_)) else Lean.Macro.throwUnsupported
local macro_rules | `(tactic| walk_at "getAttr ref") => `(tactic| (k_here; (with_reducible show wpAny _ (Around.mark _ _) _ _ _ _); refine Halt.out ?_))
theorem ne_three {h₀ h : Heap} {L : Addr} {rest : List (Addr × Obj)} {e t2 dx : Addr} {o o1 o2 : Obj} (_N : News h₀ L h ((e, o) :: (dx, o1) :: (t2, o2) :: rest)) (l1 : ∀ p ∈ rest, p.1 < e) (l2 : e < t2) (l3 : t2 < dx) : ∀ p ∈ (dx, o1) :: (t2, o2) :: rest, p.1 ≠ e := fun p hp => by
  rcases List.mem_cons.mp hp with rfl | hp
  · exact Nat.ne_of_gt (Nat.lt_trans l2 l3)
  · rcases List.mem_cons.mp hp with rfl | hp
    · exact Nat.ne_of_gt l2
    · exact Nat.ne_of_lt (l1 p hp)
theorem x_groundF {A : Around} {h base g D h0 : Heap} {env : Env} {outer : List Env} {L e₀ C t dx : Addr} {cx fl : Value} {m : Str → Option Value} {news : List (Addr × Obj)} (_x : Flies D (env :: outer) e₀ C t dx cx fl h0)
  (Kb : Below A base outer g) (F : Fr g L h m) (hf : env.frame = some L) (hk : env.scope.kind = .function) (as : List Addr) (hb : ∀ a ∈ as, g.get? a = none) (N : News g L h news) (hnews : ∀ q ∈ news, q.1 ∉ as) :
    ∃ B : Heap, base.StaysIn B ∧ (∀ q ∈ news, B.get? q.1 = some q.2 ∧ base.get? q.1 = none) ∧ B.StaysIn h ∧ (∀ a ∈ as, B.get? a = none) ∧ h.FunFrames B (env :: outer) := x_ground Kb F hf hk as hb N hnews
set_option maxHeartbeats 4000000 in
theorem plain_ok {w : World} {mean : ExcName → Option Value} {mg mb : Str → Option Value} {dp un : Nat} {gd : Option (List Code)} {cn : Str} {cs : Scope} {a : Addr} {ccd : Value} {cl : List (Str × Addr)} {outer : List Env} {A₀ : Around} {base h₀ : Heap} {L : Addr} {m : Str → Option Value} {s : Shared} {Q E : Value → Shared → Prop}
  {rest : List (Addr × Obj)} {pg pgd ed ax ad : Addr} {g1 g2 g3 g4 : Int} {u1 u2 u3 u4 : Tok} {v1 v2 v4 : Value} {eo ao : Obj} {eks : List Str} {ew : Str → Int} {ep eq : Str → Str} {aw : Int} {pn qn : Str}
  (B : Below A₀ base outer h₀) (F : Fr h₀ L s.heap m) (X : (hd.heap_39 w.params).In h₀) (N : News h₀ L s.heap rest) (T : TopG mean mg mb h₀) (hk : cs.kind = .function) (Xb : (hd.heap_39 w.params).In base) (Tb : TopG mean mg mb base)
  (hpg : (pg, instObj 252 pgd) ∈ rest) (hpgd : (pgd, dictOf [⟨g1, .str (Str.ofString "sections") u1, v1⟩, ⟨g2, .str (Str.ofString "names") u2, v2⟩, ⟨g3, .str (Str.ofString "equates") u3, .ref ed⟩, ⟨g4, .str (Str.ofString "globals_") u4, v4⟩] 4) ∈ rest) (hed : (ed, eo) ∈ rest) (hE : DictV PG w ed eo eks (EqV rest ew ep eq)) (hemp : emp ∉ eks) (hpq : ∀ k ∈ eks, ep k = eq k → ep k = emp) (hel : eks.length ≤ 8)
  (hax : (ax, instObj 133 ad) ∈ rest) (had : (ad, ao) ∈ rest) (hao : AffD ao aw pn qn) (hpqn : pn = qn → pn = emp) (hpu : pn ∈ univ) (hqu : qn ∈ univ) (heu : ∀ k ∈ eks, k ∈ univ ∧ ep k ∈ univ ∧ eq k ∈ univ) (hewb : ∀ k ∈ eks, -100 ≤ ew k ∧ ew k ≤ 100)
  (hdp : dp + 60 < recursionLimit) (hun : un + 230 < cLine)
  (hret : Okay eks (lean eks ep eq) pn qn → ∀ x d o z p q h' tk' led, Fr h₀ L h' m → News h₀ L h' led → (∀ r ∈ rest, r ∈ led) → (x, instObj 133 d) ∈ led → (d, o) ∈ led → AffD o z p q → Worth eks ew ep eq aw pn qn (some (z, p, q)) → Q (.ref x) { s with heap := h', toks := tk' })
  (hraise : ∀ e t dx C cx h' tk' g₂, (C = 71 ∧ RingOk eks (lean eks ep eq) [pn, qn]) ∨ (C = 59 ∧ Okay eks (lean eks ep eq) pn qn ∧ Worth eks ew ep eq aw pn qn none) → Fr h₀ L g₂ m → g₂.UpToSlots h' → RaisedX base (envX cn cs L a ccd cl :: outer) e C t dx cx rest h' → E (.ref e) { s with heap := h', toks := tk' }) :
  wpAny (model Challenge.rw_qz0049_01.row.prog w) (ktrTop dp un gd cn cs L a ccd cl outer) (call (.ref 195) [.ref pg, .ref ax]) Q E s := by
  revert X; k_fill; intro X
  refine wpAny_call ?_
  k_dflt cell_enter
  rename_i g₁ L₁ h₁ FG F₁ N₁ Bc Xc Tc
  k_steps
  refine Halt.mk (wpAny_Try_except ?_)
  k_steps
  refine Halt.mk (scope_new Bc (by k_asm) Xc (by k_asm) Tc rfl hed (by show dp + 1 + 15 < _; omega) (by show un + 3 + 50 < _; omega) (fun sc scd hh te h2 tk2 F2 N2 l1 l2 => ?_))
  k_steps
  have hI : ∀ {p : Addr × Obj}, p ∈ rest → p ∈ (sc, instObj 184 scd) :: (scd, dictOf [⟨hh, .str (Str.ofString "equates") te, .ref ed⟩] 1) :: rest := fun h => .tail _ (.tail _ h)
  have hE' : DictV PG w ed eo eks (EqV ((sc, instObj 184 scd) :: (scd, dictOf [⟨hh, .str (Str.ofString "equates") te, .ref ed⟩] 1) :: rest) ew ep eq) := hE.weak fun k v _ ⟨x, d, o, e1, e2, e3, e4⟩ => ⟨x, d, o, e1, hI e2, hI e3, e4⟩
  refine Halt.mk (settled_ok Bc (by k_asm) Xc (by k_asm) Tc rfl (.head _) (.tail _ (.head _)) (hI hed) hE' hemp hpq hel (hI hax) (hI had) hao hpqn hpu hqu heu hewb (by show dp + 1 + 50 < _; omega) (by show un + 3 + 190 < _; omega) (fun hO x d o z p q h3 tk3 led F3 N3 hin hx hd hA hW => ?_) (fun e t dx h3 tk3 g₂ k1 k2 msg tm hwhy F3 u3 R3 => ?_))
  · k_steps
    exact hret hO x d o z p q _ _ led (by assumption) (by assumption) (fun r hr => hin r (hI hr)) hx hd hA hW
  · refine x_noted rfl rfl R3 fun h4 R4 u4 => ?_
    have hgn : ∀ q ∈ (sc, instObj 184 scd) :: (scd, dictOf [⟨hh, .str (Str.ofString "equates") te, .ref ed⟩] 1) :: rest, g₁.get? q.1 = none := fun q hq => (N2 q hq).2.2
    obtain ⟨g5, T5, _, B5, F5, N5, sz5, D5, d1, d2, x5⟩ := x_rebase2 Bc F3 (u3.trans u4) rfl R4 (fun q hq => .tail _ hq) hgn
    have X5 : (hd.heap_39 w.params).In g5 := Xb.keeps B5.stays
    have T5' : TopG mean mg mb g5 := Tb.keeps B5.stays
    refine x_takeAs (D := 59) (fun Q' E' hq => ?_) (fun Q' E' hq => ?_) ?_
    · k_dflt (refine' nameX_K (cl := []) ?F ?X ?T ?e ?_ ?a ?b ?c; (case F => exact F5); (case X => exact X5); (case T => k_asm); (case a => rfl); (case b => rfl); (case c => decide); (case e => k_is); exact hq)
    · k_dflt (refine' x_matches (C := 59) (K := hd.heap_39 w.params) (X5.keeps F5.keep) (N5 _ (.head _)).1 rfl ?h1 ?h2 ?h3 ?h4 hq; (case h1 => k_is); (case h2 => k_is); (case h3 => k_is); (case h4 => k_is))
    · refine fl_flight (fr := none) x5 fun h5 x6 u6 => ?_
      obtain ⟨g6, T6, ugg, B6, F6, N6, sz6, D6, d3, d4, x7⟩ := x_rebase2 Bc F3 ((u3.trans u4).trans u6) rfl ⟨D5, d1, d2, x6⟩ (fun q hq => .tail _ hq) hgn
      have hout : ∀ env' ∈ envX cn cs L a ccd cl :: outer, env'.frame ≠ some L₁ := fun env' he q => by
        obtain ⟨_, o, ho, _⟩ := B6.frames.mem (List.mem_filterMap.mpr ⟨env', he, q⟩)
        exact Nat.lt_irrefl _ (Nat.lt_of_lt_of_le (Heap.lt_size ho) sz6)
      refine wpAny_storeName_local (by rfl) F6.ns (fun h7 hn hs => ?_)
      have F7 := F6.set hn hs
      have N7 := N6.set hs
      have x8 := x7.store rfl hs hn hout
      have ug : g₁.UpToSlots h5 := (Heap.UpToSlots.of_keeps F3.keep).trans ((u3.trans u4).trans u6)
      have gn : g₁.get? L₁ = none := Heap.get?_none_of_le F₁.above
      have ug7 : g₁.UpToSlots h7 := fun b o hb hnf => by
        obtain ⟨sl, q⟩ := ug b o hb hnf
        exact ⟨sl, (hs.2 b fun z => by have z : b = L₁ := z; rw [z, gn] at hb; cases hb).trans q⟩
      have X6 : (Mine.hd.heap_39 w.params).In g6 := Xb.keeps B6.stays
      have T6' : TopG mean mg mb g6 := Tb.keeps B6.stays
      have hC59 : ExcCls g6 59 := ⟨_, _, _, _, _, _, _, _, _, _, _, _, _, _, _, _, X6 59 (excClassObj _ _ _ _ _ _ _ _ _ _ _ _ _ _ _ _ _ _) (by k_dflt k_is), by decide⟩
      have hC71 : ExcCls g6 71 := ⟨_, _, _, _, _, _, _, _, _, _, _, _, _, _, _, _, X6 71 (excClassObj _ _ _ _ _ _ _ _ _ _ _ _ _ _ _ _ _ _) (by k_dflt k_is), by decide⟩
      clear F5 N5 B5 X5 T5'
      clear F6 N6 hn hs
      k_steps
      have I7 : InstAt h7 e (excT 59 t dx .none (.ref T6)) 59 (some (whatD w k1 k2 (.str msg tm))) := ⟨(N7 _ (.head _)).1, rfl, rfl, x8.stays _ _ (d4 _ (.head _)).1⟩
      refine Halt.mk (x_getattr (C := 59) (K := Mine.hd.heap_39 w.params) (v := .str msg tm) (X6.keeps F7.keep) I7 (by k_dflt k_is) (by k_dflt k_is) (by k_dflt k_is) (findObj_own (attr := none) (by k_dflt k_is) (by k_dflt k_is) (by rfl) (by rfl)) rfl ?_)
      k_steps
      · rename (msg == _) = true => hmsg
        have hmsg : msg = ringS := eq_of_beq hmsg
        refine Halt.mk (x_raise ?_)
        k_steps
        refine Halt.mk (x_make (.inr rfl) B6 (by k_asm) X6 (by k_asm) T6' (Around.frames_deeper B6.stack) rfl rfl (by show dp + 1 + 1 < _; omega) fun e' t2 dx' h8 tk8 k1' k2' F8 N8 l1' l2' l3' => ?_)
        have hne : e ≠ e' := Nat.ne_of_lt (l1' _ (.head _))
        refine ⟨71, e', t2, dx', .none, rfl, hC71.keeps F8.keep, (N8 _ (.head _)).1, x_raiseNew rfl hne (N8 _ (.head _)).1 (N8 _ (.tail _ (.tail _ (.tail _ (.head _))))).1 ?_⟩
        have ht := ne_three N8 l1' l2' l3'
        have hs9 := Heap.SameBut.update h8 e' (Obj.mapFields (·.setIfInBounds 2 (.ref e)))
        have he9 : (h8.update e' (Obj.mapFields (·.setIfInBounds 2 (.ref e)))).get? e' = some (excT 71 t2 dx' (.ref e) .none) := Heap.get?_update_self _ (N8 _ (.head _)).1 rfl
        generalize h8.update e' (Obj.mapFields (·.setIfInBounds 2 (.ref e))) = h9 at hs9 he9 ⊢
        have N9 := News.setAt (own := []) N8 (fun _ h => nomatch h) ht hs9 he9
        have F9 : Fr g6 L₁ h9 _ := ⟨F8.ns.sameBut hs9 (Ne.symm (N8 _ (.head _)).2.1), fun b ob q => (hs9.2 b fun z => by rw [z, (N8 _ (.head _)).2.2] at q; cases q).trans (F8.keep b ob q), F8.above⟩
        obtain ⟨D9, d5, d6, d7, d8, d9⟩ := x_groundF x8 B6 F9 rfl rfl [e'] (fun a ha => by rw [List.mem_singleton.mp ha]; exact (N8 _ (.head _)).2.2) (fun p hp => N9 p (.tail _ hp)) (fun q hq hm => ht q hq (List.mem_singleton.mp hm))
        refine x_asSuiteU (C := 71) (cx := .ref e) (B := D9) rfl rfl (by rfl) (by rfl) F9.ns hout (fun Q' E' hq => fl_first (Around.frames_deeper B6.stack) d9 rfl he9 d7 (d8 e' (.head _)) hq) (fun h10 tk10 x10 hu => ?_)
        show wpAny _ _ (leaving _ _) _ _ _
        refine fl_leave_held rfl x10 fun h11 x11 u11 => ?_
        refine hraise e' t2 dx' 71 (.ref e) h11 _ g₁ (.inl ⟨rfl, ?_⟩) FG ((hu g₁ (ugg.trans (Heap.UpToSlots.of_keeps F9.keep)) gn).trans u11) ⟨D9, d5, fun q hq => d6 q (.tail _ (.tail _ (.tail _ (.tail _ (.tail _ hq))))), x11⟩
        exact hwhy.elim (fun z => z.2) fun z => absurd hmsg z.1
      · rename (msg == _) = false => hmsg
        have hmsg : msg ≠ ringS := fun z => by
          have : (msg == ringS) = false := hmsg
          rw [z, beq_self_eq_true] at this; cases this
        refine Halt.mk (x_reraise rfl ?_)
        k_dflt (refine' nameX_L (cl := []) ?F ?v ?_ ?a ?b; (case F => exact F7); (case a => rfl); (case b => rfl); (case v => exact rfl))
        refine ⟨D6, _, 59, t, dx, .none, .none, rfl, hC59.keeps F7.keep, x8, fun h9 x9 u9 => ?_⟩
        refine x_asSuiteU (B := D6) rfl rfl (by rfl) (by rfl) (u9.ns F7.ns) hout (fun Q' E' hq => fl_next (Around.frames_deeper B6.stack) rfl x9 hq) (fun h10 tk10 x10 hu => ?_)
        show wpAny _ _ (leaving _ _) _ _ _
        refine fl_leave_held rfl x10 fun h11 x11 u11 => ?_
        exact hraise e t dx 59 .none h11 _ g₁ (.inr ⟨rfl, hwhy.elim (fun z => absurd z.1 hmsg) fun z => z.2⟩) FG ((hu g₁ (ug7.trans u9) gn).trans u11) ⟨D6, d3, fun q hq => d4 q (.tail _ (.tail _ (.tail _ hq))), x11⟩
end
section
local macro_rules | `(tactic| walk_at "pad LV 0") => `(tactic| skip)
local macro_rules | `(tactic| walk_at "pad LV 1") => `(tactic| skip)
local macro_rules | `(tactic| walk_at $k:str) => if ["call ref", "exec Try", "exec If"].contains k.getString then `(tactic| (refine Halt.out ?_)) else Lean.Macro.throwUnsupported
set_option maxHeartbeats 4000000 in
theorem laid_ok {w : World} {mean : ExcName → Option Value} {mg mb : Str → Option Value} {dp un : Nat} {gd : Option (List Code)} {cn : Str} {cs : Scope} {a : Addr} {ccd : Value} {cl : List (Str × Addr)} {outer : List Env} {A₀ : Around} {h₀ : Heap} {L : Addr} {m : Str → Option Value} {s : Shared} {Q E : Value → Shared → Prop}
  {rest : List (Addr × Obj)} {pg pgd ed ax ad : Addr} {g1 g2 g3 g4 : Int} {u1 u2 u3 u4 : Tok} {v1 v2 v4 : Value} {eo ao : Obj} {eks : List Str} {ew : Str → Int} {ep eq : Str → Str} {aw : Int} {pn qn : Str}
  (B : Below A₀ h₀ outer h₀) (F : Fr h₀ L s.heap m) (X : (hd.heap_39 w.params).In h₀) (N : News h₀ L s.heap rest) (T : TopG mean mg mb h₀) (hk : cs.kind = .function)
  (hpg : (pg, instObj 252 pgd) ∈ rest) (hpgd : (pgd, dictOf [⟨g1, .str (Str.ofString "sections") u1, v1⟩, ⟨g2, .str (Str.ofString "names") u2, v2⟩, ⟨g3, .str (Str.ofString "equates") u3, .ref ed⟩, ⟨g4, .str (Str.ofString "globals_") u4, v4⟩] 4) ∈ rest) (hed : (ed, eo) ∈ rest) (hE : DictV PG w ed eo eks (EqV rest ew ep eq)) (hemp : emp ∉ eks) (hpq : ∀ k ∈ eks, ep k = eq k → ep k = emp) (hel : eks.length ≤ 8)
  (hax : (ax, instObj 133 ad) ∈ rest) (had : (ad, ao) ∈ rest) (hao : AffD ao aw pn qn) (hpqn : pn = qn → pn = emp) (hpu : pn ∈ univ) (hqu : qn ∈ univ) (heu : ∀ k ∈ eks, k ∈ univ ∧ ep k ∈ univ ∧ eq k ∈ univ) (hewb : ∀ k ∈ eks, -100 ≤ ew k ∧ ew k ≤ 100)
  (hdp : dp + 70 < recursionLimit) (hun : un + 260 < cLine)
  (hgood : Okay eks (lean eks ep eq) pn qn → ∀ D o' z p q h' tk' tz tp tq, Worth eks ew ep eq aw pn qn (some (z, p, q)) → Fr h₀ L h' m → News h₀ L h' ((D, o') :: rest) → o' = { cls := .type "tuple", data := .seq #[.int z tz, .str p tp, .str q tq] 0 } → (∀ r ∈ rest, r.1 < D) → Q (.ref D) { s with heap := h', toks := tk' })
  (hring : RingOk eks (lean eks ep eq) [pn, qn] → ∀ h' tk' tr, Fr h₀ L h' m → News h₀ L h' rest → Q (.str (Str.ofString "ring") tr) { s with heap := h', toks := tk' })
  (hnone : Okay eks (lean eks ep eq) pn qn ∧ Worth eks ew ep eq aw pn qn none → ∀ h' tk', Fr h₀ L h' m → News h₀ L h' rest → Q .none { s with heap := h', toks := tk' }) :
  wpAny (model Challenge.rw_qz0049_01.row.prog w) (ktrTop dp un gd cn cs L a ccd cl outer) (call (.ref 308) [.ref pg, .ref ax]) Q E s := by
  have hNL : ∀ q ∈ rest, q.1 ≠ L := fun q hq => (N q hq).2.1
  have X0 := X
  revert X; k_fill; intro X
  refine wpAny_call ?_
  k_dflt (refine' code_raw ?k1 ?k2 ?k3 ?k4 ?k5 ?kA ?kF ?kK ?k6 ?k7 ?k8 ?k9 ?kB ?_ ?c2 ?c3 ?c4 ?c5; (case kA => exact rfl); (case kF => exact rfl); (case kK => first | exact rfl | assumption); (case k1 => k_asm); (case k2 => k_asm); (case k3 => k_asm); (case k4 => k_asm); (case k5 => k_asm); (case k6 => k_is); (case k7 => k_is); (case k8 => ktr_room); (case k9 => first | exact BindsTo.of_eq rfl | exact binds_K (by k_in) rfl (by k_is) rfl rfl rfl | fail "enter: no rule for these arguments"); (case c5 => decide); (case kB => exact locs rfl); (case c2 => exact rfl); (case c3 => exact rfl); (case c4 => exact rfl); k_whole; intro g₁ L₁ h₁ FG F₁ N₁ Bc Xc Tc; (try dsimp only); (try k_lift Bc); (try k_fold))
  have hL1 : h₀.objs.size ≤ L₁ := fr_above FG F₁
  k_steps
  refine Halt.mk (wpAny_Try_except ?_)
  k_steps
  refine Halt.mk (plain_ok Bc (by k_asm) Xc (by k_asm) Tc rfl X0 T hpg hpgd hed hE hemp hpq hel hax had hao hpqn hpu hqu heu hewb (by show dp + 1 + 60 < _; omega) (by show un + 3 + 230 < _; omega) (fun hO x d o z p q h2 tk2 led F2 N2 hin hx hd hA hW => ?_) (fun e t dx C cx h2 tk2 g₂ hwhy F2 u2 R2 => ?_))
  · obtain ⟨q1, q2, q3, t1, t2, t3, tz', tp', tq', rfl⟩ := hA
    k_steps
    refine Halt.mk (told_ok Bc (by k_asm) Xc (by k_asm) Tc rfl hx hd ⟨_, _, _, _, _, _, _, _, _, rfl⟩ (by show dp + 1 + 15 < _; omega) (by show un + 3 + 50 < _; omega) (fun D o' h3 tk3 tz tp tq F3 N3 hcl ho' hlt => ?_))
    k_steps
    refine .inl ⟨L₁, _, (D, o') :: rest, F3, fun r hr => ?_, fun F4 N4 => hgood hO D o' z p q _ _ tz tp tq hW F4 N4 ho' (fun r hr => hlt r (hin r hr))⟩
    cases hr with
    | head => exact N3 _ (.head _)
    | tail _ hr => exact N3 _ (.tail _ (hin r hr))
  · refine x_noted rfl rfl R2 fun h3 R3 u3 => ?_
    have hgk : g₁.StaysIn g₂ := F2.keep
    have hout := x_root FG hgk (u2.trans u3) R3 (fun q hq => hq) hNL
    have hFz : Fr h₀ L₁ h3 _ := ⟨(u2.trans u3).ns F2.ns, hout.1.keep, hL1⟩
    have he3 : ∃ T, h3.get? e = some (excT C t dx cx (.ref T)) := by
      obtain ⟨_, _, _, x⟩ := R3
      obtain ⟨T, _, _, he, _⟩ := x.there
      exact ⟨T, he⟩
    obtain ⟨T3, he3⟩ := he3
    rcases hwhy with ⟨rfl, hR⟩ | ⟨rfl, hO⟩
    · refine x_take (D := 71) (fun Q' E' hq => ?_) (fun Q' E' hq => ?_) fun E' => ?_
      · k_dflt (refine' nameX_K (cl := []) ?F ?X ?T ?e ?_ ?a ?b ?c; (case F => exact hFz); (case X => exact X); (case T => k_asm); (case a => rfl); (case b => rfl); (case c => decide); (case e => k_is); exact hq)
      · k_dflt (refine' x_matches (C := 71) (K := hd.heap_39 w.params) (X.keeps hout.1.keep) he3 rfl ?h1 ?h2 ?h3 ?h4 hq; (case h1 => k_is); (case h2 => k_is); (case h3 => k_is); (case h4 => k_is))
      · refine x_unflown R3 fun h4 R4 u4 => ?_
        have hout := x_root FG hgk ((u2.trans u3).trans u4) R4 (fun q hq => hq) hNL
        refine wpAny_execs_cons (wpAny_Return_some (wpAny_Constant_str ?_))
        refine .inr ?_
        exact hring hR _ _ _ hout.1 hout.2
    · refine x_skip (D := 71) (fun Q' E' hq => ?_) (fun Q' E' hq => ?_) ?_
      · k_dflt (refine' nameX_K (cl := []) ?F ?X ?T ?e ?_ ?a ?b ?c; (case F => exact hFz); (case X => exact X); (case T => k_asm); (case a => rfl); (case b => rfl); (case c => decide); (case e => k_is); exact hq)
      · k_dflt (refine' x_matches (C := 59) (K := hd.heap_39 w.params) (X.keeps hout.1.keep) he3 rfl ?h1 ?h2 ?h3 ?h4 hq; (case h1 => k_is); (case h2 => k_is); (case h3 => k_is); (case h4 => k_is))
      · refine x_take (D := 59) (fun Q' E' hq => ?_) (fun Q' E' hq => ?_) fun E' => ?_
        · k_dflt (refine' nameX_K (cl := []) ?F ?X ?T ?e ?_ ?a ?b ?c; (case F => exact hFz); (case X => exact X); (case T => k_asm); (case a => rfl); (case b => rfl); (case c => decide); (case e => k_is); exact hq)
        · k_dflt (refine' x_matches (C := 59) (K := hd.heap_39 w.params) (X.keeps hout.1.keep) he3 rfl ?h1 ?h2 ?h3 ?h4 hq; (case h1 => k_is); (case h2 => k_is); (case h3 => k_is); (case h4 => k_is))
        · refine x_unflown R3 fun h4 R4 u4 => ?_
          have hout := x_root FG hgk ((u2.trans u3).trans u4) R4 (fun q hq => hq) hNL
          refine wpAny_execs_cons (wpAny_Return_some (wpAny_Constant_none ?_))
          refine .inr ?_
          exact hnone hO _ _ hout.1 hout.2
end
section
theorem sum_fun {f : Str → Int} {r₁ r₂ : Option (Int × Str × Str)} (h₁ : SumOf f r₁) (h₂ : SumOf f r₂) : r₁ = r₂ := by
  have key : ∀ z p q, SumOf f (some (z, p, q)) → SumOf f none → False := fun z p q ⟨_, hp, hp', hq, hq'⟩ hn => by
    rcases hn with ⟨x, y, hxy, hx, hy, fx, fy⟩ | ⟨x, y, hxy, hx, hy, fx, fy⟩ | ⟨x, hx, f0, f1, f2⟩
    · exact hxy ((hp' x hx fx).trans (hp' y hy fy).symm)
    · exact hxy ((hq' x hx fx).trans (hq' y hy fy).symm)
    · rcases Int.lt_trichotomy (f x) 0 with h | h | h
      · have e := hq' x hx h
        exact f2 (e ▸ hq (e ▸ hx))
      · exact f0 h
      · have e := hp' x hx h
        exact f1 (e ▸ hp (e ▸ hx))
  match r₁, r₂, h₁, h₂ with
  | none, none, _, _ => rfl
  | some (z, p, q), none, h₁, h₂ => exact (key z p q h₁ h₂).elim
  | none, some (z, p, q), h₁, h₂ => exact (key z p q h₂ h₁).elim
  | some (z, p, q), some (z', p', q'), ⟨a1, a2, a3, a4, a5⟩, ⟨b1, b2, b3, b4, b5⟩ =>
    have hz : z = z' := a1.trans b1.symm
    have hp : p = p' := by
      by_cases h : p = emp
      · by_cases h' : p' = emp
        · rw [h, h']
        · exact (a3 p' h' (by rw [b2 h']; decide)).symm
      · exact b3 p h (by rw [a2 h]; decide)
    have hq : q = q' := by
      by_cases h : q = emp
      · by_cases h' : q' = emp
        · rw [h, h']
        · exact (a5 q' h' (by rw [b4 h']; decide)).symm
      · exact b5 q h (by rw [a4 h]; decide)
    rw [hz, hp, hq]
/-- what the law has built: the equates, the known counts, the lost names -/
structure Scene (eks : List Str) (ew : Str → Int) (ep eq : Str → Str) (Kn : Str → Str → Int) (lost : List Str) : Prop where
  good : ∀ x ∈ eks, x ∉ lost → ∀ y, Kn x y = cntOf eks Kn (ew x) (ep x) (eq x) y
  clo : ∀ x ∈ eks, ep x ∈ lost ∨ eq x ∈ lost → x ∈ lost
  rank : ∃ (r : Str → Nat) (n : Nat), (∀ x ∈ eks, r x ≤ n) ∧ ∀ x ∈ eks, x ∉ lost → ∀ y ∈ lean eks ep eq x, r y < r x
  lst : ∀ x ∈ lost, x ∈ eks ∧ ∃ sp, sp ∈ eks ∧ sp ∈ lean eks ep eq sp ∧ ∀ P : Str → Prop, (∀ x ∈ eks, P x → ∀ y ∈ lean eks ep eq x, P y) → P x → P sp
section
variable {eks : List Str} {ew : Str → Int} {ep eq : Str → Str} {Kn : Str → Str → Int} {lost : List Str} {aw : Int} {pn qn : Str}
theorem Scene.stay (S : Scene eks ew ep eq Kn lost) : ∀ x ∈ eks, x ∉ lost → ∀ y ∈ lean eks ep eq x, y ∉ lost := fun x hx hl y hy q => by
  have hm : y ∈ [ep x, eq x] := (List.mem_filter.mp hy).1
  rcases List.mem_cons.mp hm with rfl | hm
  · exact hl (S.clo x hx (.inl q))
  · rcases List.mem_cons.mp hm with rfl | hm
    · exact hl (S.clo x hx (.inr q))
    · cases hm
theorem Scene.noRing (S : Scene eks ew ep eq Kn lost) (hp : pn ∉ lost) (hq : qn ∉ lost) : ¬ RingOk eks (lean eks ep eq) [pn, qn] := fun ⟨T, ⟨x, hx⟩, hT, hP⟩ => by
  have nl : ∀ x, T x → x ∉ lost := hP (fun x => x ∉ lost) (fun n hn _ => by
    rcases List.mem_cons.mp hn with rfl | hn
    · exact hp
    · rcases List.mem_cons.mp hn with rfl | hn
      · exact hq
      · cases hn) S.stay
  obtain ⟨r, n, hr, hl⟩ := S.rank
  have go : ∀ k x, T x → n < r x + k → False := by
    intro k
    induction k with
    | zero => intro x hx h; have := hr x (hT x hx).1; omega
    | succ k ih =>
      intro x hx h
      obtain ⟨hxe, y, hy, hxy⟩ := hT x hx
      have := hl y (hT y hy).1 (nl y hy) x hxy
      exact ih y hy (by omega)
  exact go (n + 1) x hx (by omega)
theorem Scene.worth (S : Scene eks ew ep eq Kn lost) (hp : pn ∉ lost) (hq : qn ∉ lost) {r : Option (Int × Str × Str)} (h : Worth eks ew ep eq aw pn qn r) : SumOf (cntOf eks Kn aw pn qn) r :=
  h Kn (fun x => x ∉ lost) (fun n hn _ => by
    rcases List.mem_cons.mp hn with rfl | hn
    · exact hp
    · rcases List.mem_cons.mp hn with rfl | hn
      · exact hq
      · cases hn) S.stay S.good
theorem Scene.notOkay (S : Scene eks ew ep eq Kn lost) (h : pn ∈ lost ∨ qn ∈ lost) : ¬ Okay eks (lean eks ep eq) pn qn := fun hO => by
  obtain ⟨n, hn, hnl⟩ : ∃ n, n ∈ [pn, qn] ∧ n ∈ lost := h.elim (fun q => ⟨pn, .head _, q⟩) fun q => ⟨qn, .tail _ (.head _), q⟩
  obtain ⟨hne, sp, hsp, hss, hP⟩ := S.lst n hnl
  rcases hO with ⟨h1, h2⟩ | ⟨fd, O⟩
  · rcases List.mem_cons.mp hn with rfl | hn
    · exact h1 hne
    · rcases List.mem_cons.mp hn with rfl | hn
      · exact h2 hne
      · cases hn
  · have hs : sp ∈ fd := hP (· ∈ fd) (fun x _ hx y hy => O.clo x hx y hy) (O.base n hn hne)
    obtain ⟨pre, post, e⟩ := List.append_of_mem hs
    have hpre := O.topo pre sp post e sp hs hss
    have nd := O.nd
    rw [e] at nd
    exact (List.nodup_append.mp nd).2.2 sp hpre sp (.head _) rfl
end
end
section
section
variable {prog : Program} {w : World} {A : Around} {E : Value → Shared → Prop} {s : Shared} {env : Env} {h₀ : Heap} {target : PySem.Expr} {body : List Stmt} {Q : Flow → Shared → Prop}
/-- the end of a turn over a range -/
def TurnR (h₀ : Heap) (L : Addr) (s₁ : Shared) (p : Addr × Obj) (J : (Str → Option Value) → List (Addr × Obj) → Prop) (Q : Flow → Shared → Prop) (f : Flow) (s₂ : Shared) : Prop :=
  match f with
  | .ret v => Q (.ret v) s₂
  | .brk => Q .next s₂
  | _ => ∃ h' tk m' news', s₂ = { s₁ with heap := h', toks := tk } ∧ Fr h₀ L h' m' ∧ News h₀ L h' (p :: news') ∧ (∀ q ∈ news', q.1 ≠ p.1) ∧ J m' news'
theorem TurnR.next {L : Addr} {s₁ : Shared} {p : Addr × Obj} {J : (Str → Option Value) → List (Addr × Obj) → Prop} {h' : Heap} {tk : Nat} {m' : Str → Option Value} (news' : List (Addr × Obj)) (F : Fr h₀ L h' m') (N : News h₀ L h' (p :: news')) (hne : ∀ q ∈ news', q.1 ≠ p.1) (hJ : J m' news') :
    TurnR h₀ L s₁ p J Q .next { s₁ with heap := h', toks := tk } := ⟨h', tk, m', news', rfl, F, N, hne, hJ⟩
theorem letGo_rangeiter {target : PySem.Expr} {I : Addr} {x left c : Int} {v : Value} {Q' : Unit → Shared → Prop} {s' : Shared} (hit : IsRangeIter s'.heap I x left c) (h : Q' () s') :
    wpAny (model prog w) A (letOwnedTupleGo target (.ref I) v) Q' E s' := by
  unfold letOwnedTupleGo
  cases target <;> first
    | exact wpAny_pure h
    | (cases v <;> first
        | exact wpAny_pure h
        | (refine wpAny_bind (wpAny_load hit ?_)
           exact wpAny_pure h))
theorem for_rangeT {r : Addr} {n : Nat} {t u v : Tok} {m₀ : Str → Option Value} {news : List (Addr × Obj)} (J : Nat → (Str → Option Value) → List (Addr × Obj) → Prop)
    (hh : A.handled = none) (hr : IsRange s.heap r 0 n 1 t u v) (hsmall : Builtin.Range.small 0 n 1 = true) (hsz : Builtin.Range.rangeSize 0 n 1 = (n : Int)) (F : Fr h₀ env.locals s.heap m₀) (N : News h₀ env.locals s.heap news) (h0 : J 0 m₀ news)
    (turn : ∀ I oi i ti m₁ news₁ h tk, (∀ p ∈ news, p.1 < I) → oi.cls = .type "range_iterator" → i < n → (∀ p ∈ news₁, p.1 ≠ I) → J i m₁ news₁ → Fr h₀ env.locals h m₁ → News h₀ env.locals h ((I, oi) :: news₁) →
      wpAny (model prog w) A (assign target env (.int (i : Nat) ti)) (fun _ s₂ => wpAny (model prog w) A (execs body env) (TurnR h₀ env.locals { s with heap := h, toks := tk } (I, oi) (J (i + 1)) Q) E s₂) E { s with heap := h, toks := tk })
    (done : ∀ m₁ news₁ h tk, J n m₁ news₁ → Fr h₀ env.locals h m₁ → News h₀ env.locals h news₁ → Q .next { s with heap := h, toks := tk }) :
    wpAny (model prog w) A (pyIter (.ref r)) (fun it s₂ => TurnsAt prog w A h₀ env target body Q E it s₂) E s := by
  refine wpAny_pyIter_range hr hsmall ?_
  have lt : ∀ p ∈ news, p.1 < s.heap.objs.size := fun p hp => Heap.lt_size (N p hp).1
  refine ⟨s.heap.objs.size, [s.heap.objs.size], [s.heap.objs.size], n, _, _, _, m₀, news, J, rfl, KTurns.ofWalks (Walks.range hh s.heap.objs.size 0 1 n) fun i v s Q E st q => letGo_rangeiter st q, ?_, ?_, ?_, ?_, F.push _, fun p hp => ⟨Heap.get?_push_of_some _ (N p hp).1, (N p hp).2⟩, h0, ?_, ?_⟩
  · intro hm
    exact absurd F.ns.lt ((List.mem_singleton.mp hm) ▸ Nat.lt_irrefl _)
  · intro b hb
    rw [List.mem_singleton.mp hb]
    exact next_is_new F
  · intro p hp hI
    exact absurd (lt p hp) ((List.mem_singleton.mp hI) ▸ Nat.lt_irrefl _)
  · show IsRangeIter _ _ _ _ _
    rw [hsz]; simpa using Heap.get?_push_size _ rfl
  · rintro i v m₁ news₁ h₁ tk₁ own hin ⟨ti, rfl⟩ hJ hoff hown hget hall hst F₁ N₁
    have e1 : (0 : Int) + (i : Int) * 1 = (i : Int) := by omega
    rw [e1]
    obtain ⟨oi, hcl, hI⟩ : ∃ oi : Obj, oi.cls = .type "range_iterator" ∧ h₁.get? s.heap.objs.size = some oi := ⟨_, rfl, hst⟩
    have hI0 : h₀.get? s.heap.objs.size = none := next_is_new F
    have hmem := hall _ (.head _) hI0 oi hI
    have N₂ : News h₀ env.locals h₁ ((s.heap.objs.size, oi) :: news₁) := fun p hp => by
      rcases List.mem_cons.mp hp with rfl | hp
      · exact N₁ _ (List.mem_append_left _ hmem)
      · exact N₁ _ (List.mem_append_right _ hp)
    have own1 : ∀ p ∈ own, p = (s.heap.objs.size, oi) := fun p hp => by
      have a := List.mem_singleton.mp (hown p hp)
      have b := hget p hp
      rw [a, hI] at b
      exact Prod.ext a (Option.some.inj b).symm
    refine wpAny_mono (turn s.heap.objs.size oi i ti m₁ news₁ h₁ tk₁ lt hcl hin (fun p hp z => hoff p hp (z ▸ .head _)) hJ F₁ N₂) (fun _ s₂ h₂ => wpAny_mono h₂ (fun f s₃ p => ?_) fun _ _ e => e) fun _ _ e => e
    have fin : (∃ h' tk m' news', s₃ = { ({ s with heap := h₁, toks := tk₁ } : Shared) with heap := h', toks := tk } ∧ Fr h₀ env.locals h' m' ∧ News h₀ env.locals h' ((s.heap.objs.size, oi) :: news') ∧ (∀ q ∈ news', q.1 ≠ s.heap.objs.size) ∧ J (i + 1) m' news') →
        LoopStepU h₀ env.locals [s.heap.objs.size] own (J (i + 1)) { s with heap := h₁, toks := tk₁ } .next s₃ := by
      rintro ⟨h', tk, m', news', e, F', N', hne, hJ'⟩
      refine ⟨rfl, h', tk, m', news', e, F', fun p hp => ?_, fun p hp z => hne p hp (List.mem_singleton.mp z), hJ'⟩
      rcases List.mem_append.mp hp with hp | hp
      · rw [own1 p hp]; exact N' _ (.head _)
      · exact N' _ (.tail _ hp)
    cases f with
    | ret v => exact .ret p
    | brk => exact .brk p
    | next => exact .next (fin p)
    | cont => exact .cont (fin p)
  · intro h' tk m' news' F' N' _ hJ
    exact done m' news' h' tk hJ F' N'
end
end
section
/-- the names of the rows before i -/
def rowsE (i : Nat) : List Str := (List.range i).map nameE
theorem nameE_inj {i j : Nat} (hi : i < 8) (hj : j < 8) (h : nameE i = nameE j) : i = j := by
  have : ∀ i, i < 8 → ∀ j, j < 8 → nameE i = nameE j → i = j := by decide +kernel
  exact this i hi j hj h
theorem nameE_base {i : Nat} (hi : i < 8) : nameE i ∉ [Str.ofString "", Str.ofString "p", Str.ofString "q", Str.ofString "r", Str.ofString "s"] := by
  have : ∀ i, i < 8 → nameE i ∉ [Str.ofString "", Str.ofString "p", Str.ofString "q", Str.ofString "r", Str.ofString "s"] := by decide +kernel
  exact this i hi
theorem mem_rowsE {i : Nat} {x : Str} : x ∈ rowsE i ↔ ∃ k, k < i ∧ x = nameE k := by
  unfold rowsE; simp only [List.mem_map, List.mem_range]
  exact ⟨fun ⟨k, h, e⟩ => ⟨k, h, e.symm⟩, fun ⟨k, h, e⟩ => ⟨k, h, e.symm⟩⟩
theorem mem_namesOf {i : Nat} {x : Str} : x ∈ namesOf i ↔ x ∈ [Str.ofString "", Str.ofString "p", Str.ofString "q", Str.ofString "r", Str.ofString "s"] ∨ x ∈ rowsE i := by
  unfold namesOf rowsE; simp only [List.mem_append, or_self]
theorem namesOf_univ {i : Nat} {x : Str} (hi : i ≤ 8) (h : x ∈ namesOf i) : x ∈ univ := by
  rcases mem_namesOf.mp h with h | h
  · exact List.mem_append_left _ h
  · obtain ⟨k, hk, rfl⟩ := mem_rowsE.mp h
    exact List.mem_append_right _ (List.mem_map.mpr ⟨k, List.mem_range.mpr (by omega), rfl⟩)
theorem namesOf_ne {k i : Nat} {x : Str} (hk : k ≤ i) (hi : i < 8) (h : x ∈ namesOf k) : x ≠ nameE i := fun e => by
  subst e
  rcases mem_namesOf.mp h with h | h
  · exact nameE_base hi h
  · obtain ⟨j, hj, e⟩ := mem_rowsE.mp h
    have := nameE_inj hi (by omega) e
    omega
theorem rowsE_succ (i : Nat) : rowsE (i + 1) = rowsE i ++ [nameE i] := by unfold rowsE; rw [List.range_succ]; simp
theorem emp_rows {i : Nat} (hi : i ≤ 8) : emp ∉ rowsE i := fun h => by
  obtain ⟨k, hk, e⟩ := mem_rowsE.mp h
  exact nameE_base (i := k) (by omega) (e ▸ .head _)
def up {α : Type} (f : Str → α) (x : Str) (v : α) : Str → α := fun y => if y = x then v else f y
theorem up_self {α : Type} (f : Str → α) (x : Str) (v : α) : up f x v x = v := if_pos rfl
theorem up_ne {α : Type} {f : Str → α} {x y : Str} {v : α} (h : y ≠ x) : up f x v y = f y := if_neg h
structure RowsOk (i : Nat) (ew : Str → Int) (ep eq : Str → Str) (Kn : Str → Str → Int) : Prop where
  bd : ∀ k, k < i → -10 ≤ ew (nameE k) ∧ ew (nameE k) ≤ 10
  nm : ∀ k, k < i → ep (nameE k) ∈ namesOf k ∧ eq (nameE k) ∈ namesOf k
  ne : ∀ k, k < i → ep (nameE k) = eq (nameE k) → ep (nameE k) = emp
  good : ∀ k, k < i → ∀ y, Kn (nameE k) y = cntOf (rowsE i) Kn (ew (nameE k)) (ep (nameE k)) (eq (nameE k)) y
theorem rows_zero (ew : Str → Int) (ep eq : Str → Str) (Kn : Str → Str → Int) : RowsOk 0 ew ep eq Kn := ⟨fun _ h => absurd h (Nat.not_lt_zero _), fun _ h => absurd h (Nat.not_lt_zero _), fun _ h => absurd h (Nat.not_lt_zero _), fun _ h => absurd h (Nat.not_lt_zero _)⟩
theorem nmv_up {i : Nat} {Kn : Str → Str → Int} {g : Str → Int} {x y : Str} (h : x ≠ nameE i) : NmV (rowsE (i + 1)) (up Kn (nameE i) g) x y = NmV (rowsE i) Kn x y := by
  unfold NmV
  rw [rowsE_succ, up_ne h]
  have : (x ∈ rowsE i ++ [nameE i]) ↔ x ∈ rowsE i := by simp [h]
  simp only [this]
theorem rows_step {i : Nat} {ew : Str → Int} {ep eq : Str → Str} {Kn : Str → Str → Int} {z : Int} {p q : Str} (R : RowsOk i ew ep eq Kn) (hi : i < 8) (hz : -10 ≤ z ∧ z ≤ 10) (hp : p ∈ namesOf i) (hq : q ∈ namesOf i) (hpq : p = q → p = emp) :
    RowsOk (i + 1) (up ew (nameE i) z) (up ep (nameE i) p) (up eq (nameE i) q) (up Kn (nameE i) (cntOf (rowsE i) Kn z p q)) := by
  have old : ∀ k, k < i → nameE k ≠ nameE i := fun k hk e => by have := nameE_inj (by omega) hi e; omega
  have cnt : ∀ {z : Int} {a b : Str} {y : Str}, a ≠ nameE i → b ≠ nameE i → cntOf (rowsE (i + 1)) (up Kn (nameE i) (cntOf (rowsE i) Kn z p q)) z a b y = cntOf (rowsE i) Kn z a b y := fun ha hb => by
    unfold cntOf; rw [nmv_up ha, nmv_up hb]
  refine ⟨fun k hk => ?_, fun k hk => ?_, fun k hk => ?_, fun k hk y => ?_⟩ <;> rcases Nat.lt_succ_iff_lt_or_eq.mp hk with h | rfl
  · rw [up_ne (old k h)]; exact R.bd k h
  · rw [up_self]; exact hz
  · rw [up_ne (old k h), up_ne (old k h)]; exact R.nm k h
  · rw [up_self, up_self]; exact ⟨hp, hq⟩
  · rw [up_ne (old k h), up_ne (old k h)]; exact R.ne k h
  · rw [up_self, up_self]; exact hpq
  · rw [up_ne (old k h), up_ne (old k h), up_ne (old k h), up_ne (old k h), R.good k h]
    unfold cntOf
    rw [nmv_up (namesOf_ne (Nat.le_of_lt h) hi (R.nm k h).1), nmv_up (namesOf_ne (Nat.le_of_lt h) hi (R.nm k h).2)]
  · rw [up_self, up_self, up_self, up_self]
    unfold cntOf
    rw [nmv_up (namesOf_ne (Nat.le_refl _) hi hp), nmv_up (namesOf_ne (Nat.le_refl _) hi hq)]
end
section
def rkE (x : Str) : Nat := (rowsE 8).idxOf x
theorem rkE_of {k : Nat} (hk : k < 8) : rkE (nameE k) = k := by
  have : ∀ k, k < 8 → rkE (nameE k) = k := by decide +kernel
  exact this k hk
theorem names_elder {k n : Nat} {y : Str} (hn : n ≤ 8) (h : y ∈ namesOf k) (hy : y ∈ rowsE n) : ∃ j, j < k ∧ y = nameE j := by
  rcases mem_namesOf.mp h with h | h
  · obtain ⟨j, hj, rfl⟩ := mem_rowsE.mp hy
    exact absurd h (nameE_base (by omega))
  · exact mem_rowsE.mp h
theorem mem_lean {eks : List Str} {ep eq : Str → Str} {x y : Str} (h : y ∈ lean eks ep eq x) : (y = ep x ∨ y = eq x) ∧ y ∈ eks := by
  refine ⟨?_, lean_sub h⟩
  have hm : y ∈ [ep x, eq x] := (List.mem_filter.mp h).1
  simpa using hm
theorem lean_mem {eks : List Str} {ep eq : Str → Str} {x y : Str} (h : y = ep x ∨ y = eq x) (hy : y ∈ eks) : y ∈ lean eks ep eq x :=
  List.mem_filter.mpr ⟨by simpa using h, by simpa using hy⟩
section
variable {n : Nat} {ew : Str → Int} {ep eq : Str → Str} {Kn : Str → Str → Int}
theorem rows_rank (R : RowsOk n ew ep eq Kn) (hn : n ≤ 8) {k : Nat} (hk : k < n) {y : Str} (h : y = ep (nameE k) ∨ y = eq (nameE k)) (hy : y ∈ rowsE n) : rkE y < rkE (nameE k) := by
  have hm : y ∈ namesOf k := h.elim (fun e => e ▸ (R.nm k hk).1) fun e => e ▸ (R.nm k hk).2
  obtain ⟨j, hj, rfl⟩ := names_elder hn hm hy
  rw [rkE_of (by omega), rkE_of (by omega)]; exact hj
theorem rkE_le {n : Nat} (hn : n ≤ 8) : ∀ x ∈ rowsE n, rkE x ≤ 8 := fun x hx => by
  obtain ⟨k, hk, rfl⟩ := mem_rowsE.mp hx
  rw [rkE_of (by omega)]; omega
theorem scene_rows (R : RowsOk n ew ep eq Kn) (hn : n ≤ 8) : Scene (rowsE n) ew ep eq Kn [] where
  good := fun x hx _ y => by
    obtain ⟨k, hk, rfl⟩ := mem_rowsE.mp hx
    exact R.good k hk y
  clo := fun _ _ h => h.elim (fun h => nomatch h) fun h => nomatch h
  rank := ⟨rkE, 8, rkE_le hn, fun x hx _ y hy => by
    obtain ⟨k, hk, rfl⟩ := mem_rowsE.mp hx
    exact rows_rank R hn hk (mem_lean hy).1 (mem_lean hy).2⟩
  lst := fun _ h => nomatch h
/-- the lost names after the look at the rows before i -/
noncomputable def lostL (ep eq : Str → Str) (sp : Str) : Nat → List Str
  | 0 => [sp]
  | i + 1 => if ep (nameE i) ∈ lostL ep eq sp i ∨ eq (nameE i) ∈ lostL ep eq sp i then lostL ep eq sp i ++ [nameE i] else lostL ep eq sp i
theorem lostL_mono {ep eq : Str → Str} {sp x : Str} {i : Nat} (h : x ∈ lostL ep eq sp i) : ∀ {j}, i ≤ j → x ∈ lostL ep eq sp j := by
  intro j hj
  induction hj with
  | refl => exact h
  | step _ ih => unfold lostL; split; exact List.mem_append_left _ ih; exact ih
theorem lostL_back {ep eq : Str → Str} {sp x : Str} {k : Nat} (hx : ∀ j, k ≤ j → x ≠ nameE j ∨ 8 ≤ j) : ∀ {n}, n ≤ 8 → x ∈ lostL ep eq sp n → k ≤ n → x ∈ lostL ep eq sp k := by
  intro n
  induction n with
  | zero => intro _ h hk; have : k = 0 := by omega
            rw [this]; exact h
  | succ n ih =>
    intro hn h hk
    by_cases e : k = n + 1
    · rw [e]; exact h
    · have hkn : k ≤ n := by omega
      refine ih (by omega) ?_ hkn
      unfold lostL at h
      split at h
      · rcases List.mem_append.mp h with h | h
        · exact h
        · exact ((hx n hkn).elim (fun z => z (List.mem_singleton.mp h)) fun z => by omega).elim
      · exact h
theorem scene_lost {sp : Nat} (R : RowsOk n ew ep eq Kn) (hn : n ≤ 8) (hs : sp < n) {p : Str} {z : Int} :
    Scene (rowsE n) (up ew (nameE sp) z) (up ep (nameE sp) (nameE sp)) (up eq (nameE sp) p) Kn (lostL (up ep (nameE sp) (nameE sp)) (up eq (nameE sp) p) (nameE sp) n) := by
  have s0 : ∀ i, nameE sp ∈ lostL (up ep (nameE sp) (nameE sp)) (up eq (nameE sp) p) (nameE sp) i := fun i => lostL_mono (i := 0) (.head _) (Nat.zero_le _)
  have hsr : nameE sp ∈ rowsE n := mem_rowsE.mpr ⟨sp, hs, rfl⟩
  refine ⟨fun x hx hl y => ?_, fun x hx h => ?_, ⟨rkE, 8, rkE_le hn, fun x hx hl y hy => ?_⟩, fun x hx => ⟨?_, nameE sp, hsr, lean_mem (.inl (up_self _ _ _).symm) hsr, ?_⟩⟩
  · have hne : x ≠ nameE sp := fun e => hl (e ▸ s0 n)
    obtain ⟨k, hk, rfl⟩ := mem_rowsE.mp hx
    rw [up_ne hne, up_ne hne, up_ne hne]
    exact R.good k hk y
  · by_cases hne : x = nameE sp
    · rw [hne]; exact s0 n
    · obtain ⟨k, hk, rfl⟩ := mem_rowsE.mp hx
      have back : ∀ y, y ∈ namesOf k → y ∈ lostL (up ep (nameE sp) (nameE sp)) (up eq (nameE sp) p) (nameE sp) n → y ∈ lostL (up ep (nameE sp) (nameE sp)) (up eq (nameE sp) p) (nameE sp) k := fun y hy h =>
        lostL_back (fun j hj => by
          by_cases h8 : j < 8
          · exact .inl (namesOf_ne hj h8 hy)
          · exact .inr (by omega)) hn h (Nat.le_of_lt hk)
      refine lostL_mono (i := k + 1) ?_ hk
      unfold lostL
      rw [if_pos]
      · exact List.mem_append_right _ (.head _)
      · exact h.imp (fun h => back _ (by rw [up_ne hne]; exact (R.nm k hk).1) h) fun h => back _ (by rw [up_ne hne]; exact (R.nm k hk).2) h
  · have hne : x ≠ nameE sp := fun e => hl (e ▸ s0 n)
    obtain ⟨k, hk, rfl⟩ := mem_rowsE.mp hx
    have h1 := (mem_lean hy).1
    rw [up_ne hne, up_ne hne] at h1
    exact rows_rank R hn hk h1 (mem_lean hy).2
  · have : ∀ i, i ≤ n → ∀ x ∈ lostL (up ep (nameE sp) (nameE sp)) (up eq (nameE sp) p) (nameE sp) i, x ∈ rowsE n := by
      intro i
      induction i with
      | zero => intro _ x hx; rw [List.mem_singleton.mp hx]; exact hsr
      | succ i ih =>
        intro hi x hx
        unfold lostL at hx
        split at hx
        · rcases List.mem_append.mp hx with hx | hx
          · exact ih (by omega) x hx
          · rw [List.mem_singleton.mp hx]; exact mem_rowsE.mpr ⟨i, hi, rfl⟩
        · exact ih (by omega) x hx
    exact this n (Nat.le_refl _) x hx
  · intro P hP
    have mem : ∀ i, i ≤ n → ∀ x ∈ lostL (up ep (nameE sp) (nameE sp)) (up eq (nameE sp) p) (nameE sp) i, x ∈ rowsE n ∧ (P x → P (nameE sp)) := by
      intro i
      induction i with
      | zero => intro _ x hx; rw [List.mem_singleton.mp hx]; exact ⟨hsr, id⟩
      | succ i ih =>
        intro hi x hx
        unfold lostL at hx
        split at hx
        · rename_i hc
          rcases List.mem_append.mp hx with hx | hx
          · exact ih (by omega) x hx
          · rw [List.mem_singleton.mp hx]
            have hr := mem_rowsE.mpr ⟨i, (by omega : i < n), rfl⟩
            refine ⟨hr, fun hp => ?_⟩
            rcases hc with hc | hc
            · have := ih (by omega) _ hc
              exact this.2 (hP _ hr hp _ (lean_mem (.inl rfl) this.1))
            · have := ih (by omega) _ hc
              exact this.2 (hP _ hr hp _ (lean_mem (.inr rfl) this.1))
        · exact ih (by omega) x hx
    exact (mem n (Nat.le_refl _) x hx).2
end
end
section
theorem tups_kvs {V : Str → Value → Prop} {l : List (Addr × Obj)} {vs : List Value} {ks : List Str} (h : TupsAre V l vs ks) :
    ∃ kvs : List (Str × Value), kvs.map (·.1) = ks ∧ kvs.length = vs.length ∧ (∀ p ∈ kvs, V p.1 p.2) ∧
      ∀ (i : Nat) v, vs[i]? = some v → ∃ a k t x, v = .ref a ∧ (a, ({ cls := .type "tuple", data := .seq #[.str k t, x] } : Obj)) ∈ l ∧ kvs[i]? = some (k, x) := by
  induction h with
  | nil => exact ⟨[], rfl, rfl, (fun _ h => nomatch h), fun i v h => by simp at h⟩
  | @cons a k t v vs ks hm hV _ ih =>
    obtain ⟨kvs, e1, e2, e3, e4⟩ := ih
    refine ⟨(k, v) :: kvs, by simp [e1], by simp [e2], List.forall_mem_cons.mpr ⟨hV, e3⟩, fun i x hx => ?_⟩
    cases i with
    | zero =>
      simp only [List.getElem?_cons_zero, Option.some.injEq] at hx
      exact ⟨a, k, t, v, hx.symm, hm, rfl⟩
    | succ i =>
      simp only [List.getElem?_cons_succ] at hx
      obtain ⟨a', k', t', x', h1, h2, h3⟩ := e4 i x hx
      exact ⟨a', k', t', x', h1, h2, by simpa using h3⟩
theorem valueAt_mem {kvs : List (Str × Value)} {k : Str} {v : Value} (h : valueAt kvs k = some v) : (k, v) ∈ kvs := by
  unfold valueAt at h
  cases e : kvs.find? (fun kv => decide (kv.1 = k)) with
  | none => rw [e] at h; cases h
  | some p =>
    rw [e] at h
    have hm := List.mem_of_find?_eq_some e
    have hk := List.find?_some e
    simp only [decide_eq_true_eq] at hk
    simp only [Option.map_some, Option.some.injEq] at h
    rw [← hk, ← h]; exact hm
section
variable {prog : Program} {w : World} {A : Around} {E : Value → Shared → Prop} {s : Shared} {h₀ : Heap} {L : Addr} {m : Str → Option Value} {news : List (Addr × Obj)}
theorem dv_pairs {V : Str → Value → Prop} {B : Addr} {vs : List Value} {c : Nat} {ks : List Str} {Q : Value → Shared → Prop} (hh : A.handled = none) (hbig : h₀.NoLimit) (F : Fr h₀ L s.heap m) (N : News h₀ L s.heap news) (hB : (B, PySem.W.listOf vs.toArray c) ∈ news) (hT : TupsAre V news vs ks) (hn : ks.Nodup) (hsz : ks.length ≤ sizeLine)
    (h : ∀ D o h' tk, Fr h₀ L h' m → News h₀ L h' ((D, o) :: news) → (∀ r ∈ news, r.1 < D) → DictV prog w D o ks V → Q (.ref D) { s with heap := h', toks := tk }) :
    wpAny (model prog w) A (call (.type "dict") [.ref B]) Q E s := by
  obtain ⟨kvs, e1, e2, e3, e4⟩ := tups_kvs hT
  refine call_dict_pairs (kvs := kvs) hh (N _ hB).1 rfl rfl rfl e2 (by have := congrArg List.length e1; simp at this; omega) (e1 ▸ hn) (fun i v hv => ?_) fun h' tk hD hk => ?_
  · obtain ⟨a, k, t, x, h1, h2, h3⟩ := e4 i v hv
    exact ⟨a, k, t, x, h1, (N _ h2).1, h3⟩
  · obtain ⟨o, ho, hd⟩ := Heap.dictOf_iff.mp hD
    obtain ⟨oL, _, _, hL, _⟩ := F.ns
    have hLlt : L < s.heap.objs.size := Heap.lt_size hL
    refine h _ o h' tk ⟨F.ns.at' fun o' e => hk L o' hLlt e, fun b o' e => hk b o' (Heap.lt_size (F.keep b o' e)) (F.keep b o' e), F.above⟩ (fun p hp => ?_) (fun r hr => Heap.lt_size (N r hr).1) ⟨F.notModules (modules_low hbig), kvs, hd, e1, fun k v e => e3 _ (valueAt_mem e)⟩
    rcases List.mem_cons.mp hp with rfl | hp
    · refine ⟨ho, Nat.ne_of_gt hLlt, ?_⟩
      cases hq : h₀.get? s.heap.objs.size with
      | none => rfl
      | some o' => exact absurd (Heap.lt_size (F.keep _ _ hq)) (Nat.lt_irrefl _)
    · exact ⟨hk _ _ (Heap.lt_size (N p hp).1) (N p hp).1, (N p hp).2.1, (N p hp).2.2⟩
end
end
section
theorem lean_perm {eks eks' : List Str} (h : ∀ x, x ∈ eks ↔ x ∈ eks') (ep eq : Str → Str) : lean eks ep eq = lean eks' ep eq := by
  funext x; unfold lean; simp only [h]
theorem nmv_perm {eks eks' : List Str} (h : ∀ x, x ∈ eks ↔ x ∈ eks') (Kn : Str → Str → Int) : NmV eks Kn = NmV eks' Kn := by
  funext n x; unfold NmV; simp only [h]
theorem cnt_perm {eks eks' : List Str} (h : ∀ x, x ∈ eks ↔ x ∈ eks') (Kn : Str → Str → Int) : cntOf eks Kn = cntOf eks' Kn := by
  funext z p q x; unfold cntOf; rw [nmv_perm h]
theorem Scene.perm {eks eks' : List Str} {ew : Str → Int} {ep eq : Str → Str} {Kn : Str → Str → Int} {lost : List Str} (S : Scene eks ew ep eq Kn lost) (h : ∀ x, x ∈ eks ↔ x ∈ eks') : Scene eks' ew ep eq Kn lost where
  good := fun x hx hl y => by rw [← cnt_perm h]; exact S.good x ((h x).mpr hx) hl y
  clo := fun x hx => S.clo x ((h x).mpr hx)
  rank := by
    obtain ⟨r, n, h1, h2⟩ := S.rank
    exact ⟨r, n, fun x hx => h1 x ((h x).mpr hx), fun x hx hl y hy => h2 x ((h x).mpr hx) hl y (by rw [lean_perm h]; exact hy)⟩
  lst := fun x hx => by
    obtain ⟨h1, sp, h2, h3, h4⟩ := S.lst x hx
    exact ⟨(h x).mp h1, sp, (h sp).mp h2, by rw [← lean_perm h]; exact h3, fun P hP => h4 P fun x hx hp y hy => hP x ((h x).mp hx) hp y (by rw [← lean_perm h]; exact hy)⟩
/-- what the walk asks of the equates beside a Scene -/
structure Side (eks : List Str) (ew : Str → Int) (ep eq : Str → Str) : Prop where
  pq : ∀ k ∈ eks, ep k = eq k → ep k = emp
  un : ∀ k ∈ eks, k ∈ univ ∧ ep k ∈ univ ∧ eq k ∈ univ
  bd : ∀ k ∈ eks, -100 ≤ ew k ∧ ew k ≤ 100
theorem Side.perm {eks eks' : List Str} {ew : Str → Int} {ep eq : Str → Str} (S : Side eks ew ep eq) (h : ∀ x, x ∈ eks ↔ x ∈ eks') : Side eks' ew ep eq :=
  ⟨fun k hk => S.pq k ((h k).mpr hk), fun k hk => S.un k ((h k).mpr hk), fun k hk => S.bd k ((h k).mpr hk)⟩
theorem name_univ {k : Nat} (hk : k < 8) : nameE k ∈ univ := List.mem_append_right _ (List.mem_map.mpr ⟨k, List.mem_range.mpr hk, rfl⟩)
section
variable {n : Nat} {ew : Str → Int} {ep eq : Str → Str} {Kn : Str → Str → Int}
theorem side_rows (R : RowsOk n ew ep eq Kn) (hn : n ≤ 8) : Side (rowsE n) ew ep eq := by
  refine ⟨fun x hx => ?_, fun x hx => ?_, fun x hx => ?_⟩ <;> obtain ⟨k, hk, rfl⟩ := mem_rowsE.mp hx
  · exact R.ne k hk
  · exact ⟨name_univ (by omega), namesOf_univ (by omega) (R.nm k hk).1, namesOf_univ (by omega) (R.nm k hk).2⟩
  · have := R.bd k hk; omega
theorem name_ne_p {k : Nat} (hk : k < 8) : nameE k ≠ Str.ofString "p" := fun e => nameE_base hk (e ▸ .tail _ (.head _))
theorem side_lost {sp : Nat} (R : RowsOk n ew ep eq Kn) (hn : n ≤ 8) (hs : sp < n) : Side (rowsE n) (up ew (nameE sp) 1) (up ep (nameE sp) (nameE sp)) (up eq (nameE sp) (Str.ofString "p")) := by
  have S := side_rows R hn
  refine ⟨fun x hx => ?_, fun x hx => ?_, fun x hx => ?_⟩ <;> by_cases e : x = nameE sp
  · subst e; rw [up_self, up_self]; exact fun q => absurd q (name_ne_p (by omega))
  · rw [up_ne e, up_ne e]; exact S.pq x hx
  · subst e; rw [up_self, up_self]; exact ⟨name_univ (by omega), name_univ (by omega), List.mem_append_left _ (.tail _ (.head _))⟩
  · rw [up_ne e, up_ne e]; exact S.un x hx
  · subst e; rw [up_self]; decide
  · rw [up_ne e]; exact S.bd x hx
end
theorem nrm_univ {p q : Str} (hp : p ∈ univ) : nrm p q ∈ univ := by
  unfold nrm; split
  · exact List.mem_append_left _ (.head _)
  · exact hp
section
variable {prog : Program} {w : World} {A : Around} {E : Value → Shared → Prop} {s : Shared} {h₀ : Heap} {L : Addr} {news : List (Addr × Obj)}
theorem told_univ {w : World} {d : Addr} {o : Obj} {f : Str → Int} {z : Int} {p q : Str} (D : CntD w d o f) (h : SumOf f (some (z, p, q))) : p ∈ univ ∧ q ∈ univ := by
  obtain ⟨ks, _, h0, hu, he⟩ := D.ex
  have key : ∀ x, f x ≠ 0 → x ∈ univ := fun x hx => Classical.byContradiction fun q => hx (h0 x fun hk => q (hu x hk))
  have hE : emp ∈ univ := List.mem_append_left _ (.head _)
  refine ⟨?_, ?_⟩
  · by_cases e : p = emp
    · exact e ▸ hE
    · exact key p (by rw [h.2.1 e]; decide)
  · by_cases e : q = emp
    · exact e ▸ hE
    · exact key q (by rw [h.2.2.2.1 e]; decide)
theorem univ_ok : ∀ x ∈ univ, PyData.strOk x = true := by decide +kernel
theorem told_reads {a : Addr} {z : Int} {p q : Str} {tz tp tq : Tok} (N : News h₀ L s.heap news) (ha : (a, toldObj z p q tz tp tq) ∈ news) :
    ∃ as, Reads s.heap (.ref a) (.tuple [.int z, .str p, .str q]) as := ⟨_, reads_tuple_at (N.get ha) rfl rfl (ReadsAll.cons (Reads.int _ _) (ReadsAll.cons (Reads.str _ _) (ReadsAll.cons (Reads.str _ _) ReadsAll.nil)))⟩
theorem told_ne {a b : Addr} {z : Int} {p q : Str} {tz tp tq tz' tp' tq' : Tok} {Q : Value → Shared → Prop} (N : News h₀ L s.heap news) (ha : (a, toldObj z p q tz tp tq) ∈ news) (hb : (b, toldObj z p q tz' tp' tq') ∈ news) (hp : p ∈ univ) (hq : q ∈ univ) (hu : A.units + 64 < cLine) (h : Q (.bool false) s) :
    wpAny (model prog w) A (compareOp .NotEq (.ref a) (.ref b)) Q E s := by
  obtain ⟨as, ra⟩ := told_reads N ha
  obtain ⟨bs, rb⟩ := told_reads N hb
  have sh : SeqAt.shaped (.tuple [.int z, .str p, .str q]) = true := by simp [SeqAt.shaped, PyData.canLay0, PyData.canLayAll0, PyData.depth, PyData.depthAll, univ_ok p hp, univ_ok q hq]
  refine ne_dataH ra rb sh sh hu ?_
  simp only [PyData.eqv, PyData.eqvAll, beq_self_eq_true, Bool.and_true, Bool.not_true, decide_true]
  exact h
end
end
section
local macro_rules | `(tactic| walk_at "pad MC 0") => `(tactic| skip)
set_option maxHeartbeats 4000000 in
theorem prog_new {w : World} {mean : ExcName → Option Value} {mg mb : Str → Option Value} {dp un : Nat} {gd : Option (List Code)} {cn : Str} {cs : Scope} {a : Addr} {ccd : Value} {cl : List (Str × Addr)} {outer : List Env} {A₀ : Around} {base h₀ : Heap} {L : Addr} {m : Str → Option Value} {s : Shared} {Q E : Value → Shared → Prop}
  {rest : List (Addr × Obj)}
  (B : Below A₀ base outer h₀) (F : Fr h₀ L s.heap m) (X : (hd.heap_39 w.params).In h₀) (N : News h₀ L s.heap rest) (T : TopG mean mg mb h₀) (hk : cs.kind = .function)
  (hdp : dp + 15 < recursionLimit) (hun : un + 50 < cLine)
  (hret : ∀ x d g1 g2 g3 g4 u1 u2 u3 u4 v1 v2 v3 v4 h' tk', Fr h₀ L h' m → News h₀ L h' ((x, instObj 252 d) :: (d, dictOf [⟨g1, .str (Str.ofString "sections") u1, v1⟩, ⟨g2, .str (Str.ofString "names") u2, v2⟩, ⟨g3, .str (Str.ofString "equates") u3, v3⟩, ⟨g4, .str (Str.ofString "globals_") u4, v4⟩] 4) :: rest) → (∀ r ∈ rest, r.1 < d) → @LT.lt Nat _ d x → Q (.ref x) { s with heap := h', toks := tk' }) :
  wpAny (model Challenge.rw_qz0049_01.row.prog w) (ktrTop dp un gd cn cs L a ccd cl outer) (call (.ref 252) []) Q E s := by
  revert X; k_fill; intro X
  k_dflt (refine' call_cls ?k1 ?k2 ?k3 ?k4 ?k5 ?k6 ?_; (case k1 => k_asm); (case k2 => k_asm); (case k3 => k_asm); (case k4 => k_is); (case k5 => k_is); (case k6 => k_is); k_whole; intro x' d' h' F' N' l1 l2; (try k_lt l1); (try k_lt2 l2); (try k_sweep))
  k_dflt cell_enter
  k_steps
  rename Fr h₀ _ _ _ => kF
  rename News h₀ _ _ _ => kN
  exact hret _ _ _ _ _ _ _ _ _ _ _ _ _ _ _ _ kF (news_sub kN (List.forall_mem_cons.mpr ⟨.tail _ (.tail _ (.tail _ (.tail _ (.head _)))), List.forall_mem_cons.mpr ⟨.tail _ (.tail _ (.tail _ (.tail _ (.tail _ (.head _))))), fun p hp => .tail _ (.tail _ (.tail _ (.tail _ (.tail _ (.tail _ hp)))))⟩⟩)) l1 l2
end
section
/-- what is due: None, or a told tuple of the ledger -/
def Due (f : Str → Int) (l : List (Addr × Obj)) (v : Value) : Prop :=
  (v = .none ∧ SumOf f none) ∨ ∃ D z p q tz tp tq, v = .ref D ∧ (D, toldObj z p q tz tp tq) ∈ l ∧ SumOf f (some (z, p, q))
theorem Due.mono {f : Str → Int} {l l' : List (Addr × Obj)} {v : Value} (h : Due f l v) (hl : ∀ r ∈ l, r ∈ l') : Due f l' v :=
  h.imp id fun ⟨D, z, p, q, tz, tp, tq, a, b, c⟩ => ⟨D, z, p, q, tz, tp, tq, a, hl _ b, c⟩
theorem ne_none {prog : Program} {w : World} {A : Around} {E : Value → Shared → Prop} {s : Shared} {Q : Value → Shared → Prop} (h : Q (.bool false) s) : wpAny (model prog w) A (compareOp .NotEq .none .none) Q E s := PySem.EqNone.ne_none_none h
theorem ne_due {prog : Program} {w : World} {A : Around} {E : Value → Shared → Prop} {s : Shared} {h₀ : Heap} {L : Addr} {l : List (Addr × Obj)} {d : Addr} {o : Obj} {f : Str → Int} {v v' : Value} {Q : Value → Shared → Prop}
    (N : News h₀ L s.heap l) (h1 : Due f l v) (h2 : Due f l v') (C : CntD w d o f) (hu : A.units + 64 < cLine) (h : Q (.bool false) s) : wpAny (model prog w) A (compareOp .NotEq v v') Q E s := by
  rcases h1 with ⟨rfl, s1⟩ | ⟨D, z, p, q, tz, tp, tq, rfl, m1, s1⟩ <;> rcases h2 with ⟨rfl, s2⟩ | ⟨D', z', p', q', tz', tp', tq', rfl, m2, s2⟩
  · exact ne_none h
  · exact absurd (sum_fun s1 s2) (by simp)
  · exact absurd (sum_fun s1 s2) (by simp)
  · have e := sum_fun s1 s2
    simp only [Option.some.injEq, Prod.mk.injEq] at e
    obtain ⟨rfl, rfl, rfl⟩ := e
    have u := told_univ C s1
    exact told_ne N m1 m2 u.1 u.2 hu h
theorem due_okQ {w : World} {mean : ExcName → Option Value} {mg mb : Str → Option Value} {dp un : Nat} {gd : Option (List Code)} {cn : Str} {cs : Scope} {a : Addr} {ccd : Value} {cl : List (Str × Addr)} {outer : List Env} {A₀ : Around} {base h₀ : Heap} {L : Addr} {m : Str → Option Value} {s : Shared} {Q E : Value → Shared → Prop}
  {rest : List (Addr × Obj)} {d : Addr} {o : Obj} {f : Str → Int}
  (B : Below A₀ base outer h₀) (F : Fr h₀ L s.heap m) (X : (hd.heap_39 w.params).In h₀) (N : News h₀ L s.heap rest) (T : TopG mean mg mb h₀) (hk : cs.kind = .function)
  (hdm : (d, o) ∈ rest) (hD : CntD w d o f)
  (hdp : dp + 15 < recursionLimit) (hun : un + 50 < cLine)
  (hret : ∀ v l h' tk', Fr h₀ L h' m → News h₀ L h' l → (∀ r ∈ rest, r ∈ l) → Due f l v → Q v { s with heap := h', toks := tk' }) :
  wpAny (model Challenge.rw_qz0049_01.row.prog w) (ktrTop dp un gd cn cs L a ccd cl outer) (call (.ref 294) [.ref d]) Q E s :=
  due_ok B F X N T hk hdm hD hdp hun (fun h' tk' F' N' hs => hret _ rest h' tk' F' N' (fun _ h => h) (.inl ⟨rfl, hs⟩))
    fun D z p q tz tp tq h' tk' F' N' _ hs => hret _ _ h' tk' F' N' (fun _ h => .tail _ h) (.inr ⟨D, z, p, q, tz, tp, tq, rfl, .head _, hs⟩)
section
variable {w : World} {mean : ExcName → Option Value} {mg mb : Str → Option Value} {dp un : Nat} {gd : Option (List Code)} {cn : Str} {cs : Scope} {a : Addr} {ccd : Value} {cl : List (Str × Addr)} {outer : List Env} {A₀ : Around} {h₀ : Heap} {L : Addr} {m : Str → Option Value} {s : Shared} {Q E : Value → Shared → Prop}
  {rest : List (Addr × Obj)} {sc scd ed ax ad pg pgd : Addr} {hh g1 g2 g3 g4 : Int} {te u1 u2 u3 u4 : Tok} {v1 v2 v4 : Value} {eo ao : Obj} {eks : List Str} {ew : Str → Int} {ep eq : Str → Str} {aw : Int} {pn qn : Str} {Kn : Str → Str → Int} {lost : List Str}
theorem heard_lost
  (B : Below A₀ h₀ outer h₀) (F : Fr h₀ L s.heap m) (X : (hd.heap_39 w.params).In h₀) (N : News h₀ L s.heap rest) (T : TopG mean mg mb h₀) (hk : cs.kind = .function)
  (hsc : (sc, instObj 184 scd) ∈ rest) (hscd : (scd, dictOf [⟨hh, .str (Str.ofString "equates") te, .ref ed⟩] 1) ∈ rest) (hed : (ed, eo) ∈ rest) (hE : DictV PG w ed eo eks (EqV rest ew ep eq)) (hemp : emp ∉ eks) (Sd : Side eks ew ep eq) (hel : eks.length ≤ 8)
  (hax : (ax, instObj 133 ad) ∈ rest) (had : (ad, ao) ∈ rest) (hao : AffD ao aw pn qn) (hpqn : pn = qn → pn = emp) (hpu : pn ∈ univ) (hqu : qn ∈ univ)
  (S : Scene eks ew ep eq Kn lost) (hl : pn ∈ lost ∨ qn ∈ lost)
  (hdp : dp + 60 < recursionLimit) (hun : un + 230 < cLine)
  (hret : ∀ h' tk', Fr h₀ L h' m → News h₀ L h' rest → Q .none { s with heap := h', toks := tk' }) :
  wpAny (model Challenge.rw_qz0049_01.row.prog w) (ktrTop dp un gd cn cs L a ccd cl outer) (call (.ref 301) [.ref sc, .ref ax]) Q E s :=
  heard_ok B F X N T hk hsc hscd hed hE hemp Sd.pq hel hax had hao hpqn hpu hqu Sd.un Sd.bd hdp hun (fun O => absurd O (S.notOkay hl)) fun _ h' tk' F' N' => hret h' tk' F' N'
theorem heard_due
  (B : Below A₀ h₀ outer h₀) (F : Fr h₀ L s.heap m) (X : (hd.heap_39 w.params).In h₀) (N : News h₀ L s.heap rest) (T : TopG mean mg mb h₀) (hk : cs.kind = .function)
  (hsc : (sc, instObj 184 scd) ∈ rest) (hscd : (scd, dictOf [⟨hh, .str (Str.ofString "equates") te, .ref ed⟩] 1) ∈ rest) (hed : (ed, eo) ∈ rest) (hE : DictV PG w ed eo eks (EqV rest ew ep eq)) (hemp : emp ∉ eks) (Sd : Side eks ew ep eq) (hel : eks.length ≤ 8)
  (hax : (ax, instObj 133 ad) ∈ rest) (had : (ad, ao) ∈ rest) (hao : AffD ao aw pn qn) (hpqn : pn = qn → pn = emp) (hpu : pn ∈ univ) (hqu : qn ∈ univ)
  (S : Scene eks ew ep eq Kn lost) (hp : pn ∉ lost) (hq : qn ∉ lost)
  (hdp : dp + 60 < recursionLimit) (hun : un + 230 < cLine)
  (hret : ∀ v l h' tk', Fr h₀ L h' m → News h₀ L h' l → (∀ r ∈ rest, r ∈ l) → Due (cntOf eks Kn aw pn qn) l v → Q v { s with heap := h', toks := tk' }) :
  wpAny (model Challenge.rw_qz0049_01.row.prog w) (ktrTop dp un gd cn cs L a ccd cl outer) (call (.ref 301) [.ref sc, .ref ax]) Q E s :=
  heard_ok B F X N T hk hsc hscd hed hE hemp Sd.pq hel hax had hao hpqn hpu hqu Sd.un Sd.bd hdp hun
    (fun _ D _ z p q h' tk' tz tp tq W F' N' e _ => hret _ _ h' tk' F' N' (fun _ h => .tail _ h) (.inr ⟨D, z, p, q, tz, tp, tq, rfl, e ▸ .head _, S.worth hp hq W⟩))
    fun h h' tk' F' N' => h.elim (fun r => absurd r (S.noRing hp hq)) fun r => hret _ _ h' tk' F' N' (fun _ h => h) (.inl ⟨rfl, S.worth hp hq r.2⟩)
theorem laid_lost
  (B : Below A₀ h₀ outer h₀) (F : Fr h₀ L s.heap m) (X : (hd.heap_39 w.params).In h₀) (N : News h₀ L s.heap rest) (T : TopG mean mg mb h₀) (hk : cs.kind = .function)
  (hpg : (pg, instObj 252 pgd) ∈ rest) (hpgd : (pgd, dictOf [⟨g1, .str (Str.ofString "sections") u1, v1⟩, ⟨g2, .str (Str.ofString "names") u2, v2⟩, ⟨g3, .str (Str.ofString "equates") u3, .ref ed⟩, ⟨g4, .str (Str.ofString "globals_") u4, v4⟩] 4) ∈ rest) (hed : (ed, eo) ∈ rest) (hE : DictV PG w ed eo eks (EqV rest ew ep eq)) (hemp : emp ∉ eks) (Sd : Side eks ew ep eq) (hel : eks.length ≤ 8)
  (hax : (ax, instObj 133 ad) ∈ rest) (had : (ad, ao) ∈ rest) (hao : AffD ao aw pn qn) (hpqn : pn = qn → pn = emp) (hpu : pn ∈ univ) (hqu : qn ∈ univ)
  (S : Scene eks ew ep eq Kn lost) (hl : pn ∈ lost ∨ qn ∈ lost)
  (hdp : dp + 70 < recursionLimit) (hun : un + 260 < cLine)
  (hret : ∀ h' tk' tr, Fr h₀ L h' m → News h₀ L h' rest → Q (.str (Str.ofString "ring") tr) { s with heap := h', toks := tk' }) :
  wpAny (model Challenge.rw_qz0049_01.row.prog w) (ktrTop dp un gd cn cs L a ccd cl outer) (call (.ref 308) [.ref pg, .ref ax]) Q E s :=
  laid_ok B F X N T hk hpg hpgd hed hE hemp Sd.pq hel hax had hao hpqn hpu hqu Sd.un Sd.bd hdp hun (fun O => absurd O (S.notOkay hl)) (fun _ h' tk' tr F' N' => hret h' tk' tr F' N') fun O => absurd O.1 (S.notOkay hl)
theorem laid_due
  (B : Below A₀ h₀ outer h₀) (F : Fr h₀ L s.heap m) (X : (hd.heap_39 w.params).In h₀) (N : News h₀ L s.heap rest) (T : TopG mean mg mb h₀) (hk : cs.kind = .function)
  (hpg : (pg, instObj 252 pgd) ∈ rest) (hpgd : (pgd, dictOf [⟨g1, .str (Str.ofString "sections") u1, v1⟩, ⟨g2, .str (Str.ofString "names") u2, v2⟩, ⟨g3, .str (Str.ofString "equates") u3, .ref ed⟩, ⟨g4, .str (Str.ofString "globals_") u4, v4⟩] 4) ∈ rest) (hed : (ed, eo) ∈ rest) (hE : DictV PG w ed eo eks (EqV rest ew ep eq)) (hemp : emp ∉ eks) (Sd : Side eks ew ep eq) (hel : eks.length ≤ 8)
  (hax : (ax, instObj 133 ad) ∈ rest) (had : (ad, ao) ∈ rest) (hao : AffD ao aw pn qn) (hpqn : pn = qn → pn = emp) (hpu : pn ∈ univ) (hqu : qn ∈ univ)
  (S : Scene eks ew ep eq Kn lost) (hp : pn ∉ lost) (hq : qn ∉ lost)
  (hdp : dp + 70 < recursionLimit) (hun : un + 260 < cLine)
  (hret : ∀ v l h' tk', Fr h₀ L h' m → News h₀ L h' l → (∀ r ∈ rest, r ∈ l) → Due (cntOf eks Kn aw pn qn) l v → Q v { s with heap := h', toks := tk' }) :
  wpAny (model Challenge.rw_qz0049_01.row.prog w) (ktrTop dp un gd cn cs L a ccd cl outer) (call (.ref 308) [.ref pg, .ref ax]) Q E s :=
  laid_ok B F X N T hk hpg hpgd hed hE hemp Sd.pq hel hax had hao hpqn hpu hqu Sd.un Sd.bd hdp hun
    (fun _ D _ z p q h' tk' tz tp tq W F' N' e _ => hret _ _ h' tk' F' N' (fun _ h => .tail _ h) (.inr ⟨D, z, p, q, tz, tp, tq, rfl, e ▸ .head _, S.worth hp hq W⟩))
    (fun r => absurd r (S.noRing hp hq)) fun r h' tk' F' N' => hret _ _ h' tk' F' N' (fun _ h => h) (.inl ⟨rfl, S.worth hp hq r.2⟩)
end
/-- what holds before turn i of the four -/
def TurnJ (n : Nat) (tn : Tok) (D kd ll sc pg : Addr) (W : List (Addr × Obj)) (i : Nat) (m₁ : Str → Option Value) (news₁ : List (Addr × Obj)) : Prop :=
  ∃ oP, news₁ = (D, oP) :: W ∧ PenB (31 + 3 * (i : Int)) oP ∧ m₁ (Str.ofString "pen") = some (.ref D) ∧ m₁ (Str.ofString "many") = some (.int n tn) ∧ m₁ (Str.ofString "known") = some (.ref kd) ∧ m₁ (Str.ofString "lost") = some (.ref ll) ∧ m₁ (Str.ofString "scope") = some (.ref sc) ∧ m₁ (Str.ofString "program") = some (.ref pg)
theorem EqV.mono {l l' : List (Addr × Obj)} {ew : Str → Int} {ep eq : Str → Str} {y : Str} {v : Value} (h : EqV l ew ep eq y v) (hl : ∀ r ∈ l, r ∈ l') : EqV l' ew ep eq y v := by
  obtain ⟨x, d, o, h1, h2, h3, h4⟩ := h
  exact ⟨x, d, o, h1, hl _ h2, hl _ h3, h4⟩
theorem nrm_ne {p q : Str} (h : nrm p q = nrm q p) : nrm p q = emp := by
  unfold nrm at h ⊢
  by_cases e : p = q
  · rw [if_pos e]
  · rw [if_neg e, if_neg (Ne.symm e)] at h; exact absurd h e
end
section
local macro_rules | `(tactic| walk_at "pad LY 0") => `(tactic| skip)
local macro_rules | `(tactic| walk_at $k:str) => if ["setAttr ref", "call ref", "exec For Name Call cons nil", "pyIter ref", "setItem ref str", "exec If", "subscriptTail Call", "call type:list", "call type:dict", "compareOp In str ref", "binaryOp Add ref ref"].contains k.getString then `(tactic| (refine Halt.out ?_)) else Lean.Macro.throwUnsupported
local macro_rules | `(tactic| walk_at "eval IfExp") => `(tactic| (k_here; (with_reducible show wpAny _ _ (eval (PySem.Expr.IfExp _ (PySem.Expr.ListComp _ _ _ _) _ _) _) _ _ _); refine Halt.out ?_))
local macro_rules | `(tactic| walk_at "subscriptTail") => `(tactic| (k_here; (with_reducible show wpAny _ _ (subscriptTail _ _ (Value.ref _) (Value.str _ _)) _ _ _); refine Halt.out ?_))
theorem news_five {h₀ h : Heap} {L : Addr} {t td kd D cl : Addr × Obj} (N : News h₀ L h [t, td, kd, D, cl]) : News h₀ L h [D, cl, td, kd] := news_sub N fun p hp => by
  simp only [List.mem_cons, List.not_mem_nil, or_false] at hp ⊢
  rcases hp with h | h | h | h <;> simp [h]
/-- what holds before row i -/
def RowJ (w : World) (n : Nat) (tn : Tok) (D cl td kd : Addr) (i : Nat) (m₁ : Str → Option Value) (news₁ : List (Addr × Obj)) : Prop :=
  ∃ oP oc oT oK R ew ep eq Kn, news₁ = (D, oP) :: (cl, oc) :: (td, oT) :: (kd, oK) :: R ∧ PenB (1 + 3 * (i : Int)) oP ∧ oc.data = .cell (some (.ref td)) ∧ DictV PG w td oT (rowsE i) (EqV R ew ep eq) ∧
    DictV PG w kd oK (rowsE i) (fun k v => ∃ d o, v = .ref d ∧ (d, o) ∈ R ∧ CntD w d o (Kn k)) ∧ RowsOk i ew ep eq Kn ∧ (∀ p ∈ R, p.1 ≠ D ∧ p.1 ≠ cl ∧ p.1 ≠ td ∧ p.1 ≠ kd) ∧
    m₁ (Str.ofString "pen") = some (.ref D) ∧ m₁ (Str.ofString "many") = some (.int n tn) ∧ m₁ (Str.ofString "known") = some (.ref kd)
theorem lostL_len (ep eq : Str → Str) (sp : Str) : ∀ i, (lostL ep eq sp i).length ≤ i + 1
  | 0 => Nat.le_refl _
  | i + 1 => by
    have := lostL_len ep eq sp i
    unfold lostL
    split
    · rw [List.length_append]; simp; omega
    · omega
theorem lostL_in {ep eq : Str → Str} {sp : Str} {i : Nat} (h : ep (nameE i) ∈ lostL ep eq sp i ∨ eq (nameE i) ∈ lostL ep eq sp i) : lostL ep eq sp (i + 1) = lostL ep eq sp i ++ [nameE i] := by rw [lostL, if_pos h]
theorem lostL_out {ep eq : Str → Str} {sp : Str} {i : Nat} (h : ¬ (ep (nameE i) ∈ lostL ep eq sp i ∨ eq (nameE i) ∈ lostL ep eq sp i)) : lostL ep eq sp (i + 1) = lostL ep eq sp i := by rw [lostL, if_neg h]
theorem any_eq {l : List Str} {k : Str} : l.any (· == k) = true ↔ k ∈ l := by simp
theorem any_ne {l : List Str} {k : Str} (h : l.any (· == k) = false) : k ∉ l := fun q => by rw [any_eq.mpr q] at h; cases h
theorem putKey_mem {l : List Str} {k : Str} (h : k ∈ l) : putKey l k = l := if_pos h
/-- what holds before the look at row i for lost ones -/
def LostJ (n : Nat) (tn : Tok) (D td kd sp : Addr) (W : List (Addr × Obj)) (ep eq : Str → Str) (i : Nat) (m₁ : Str → Option Value) (news₁ : List (Addr × Obj)) : Prop :=
  ∃ ll vs c, news₁ = (ll, PySem.W.listOf (List.toArray vs) c) :: W ∧ StrsAre vs (lostL ep eq (nameE sp) i) ∧ ll ≠ D ∧
    m₁ (Str.ofString "pen") = some (.ref D) ∧ m₁ (Str.ofString "many") = some (.int n tn) ∧ m₁ (Str.ofString "known") = some (.ref kd) ∧ m₁ (Str.ofString "lost") = some (.ref ll)
/-- what holds behind the first if -/
def MidL (w : World) (n : Nat) (tn : Tok) (s1 : Shared) (D cl td kd : Addr) (oK : Obj) (Kn : Str → Str → Int) (f : Flow) (s₂ : Shared) : Prop :=
  f = .next ∧ ∃ h tk m oP oc oT ll vs c R ew ep eq lost, s₂ = { s1 with heap := h, toks := tk } ∧ Fr s1.heap s1.heap.objs.size h m ∧ News s1.heap s1.heap.objs.size h ((D, oP) :: (cl, oc) :: (td, oT) :: (kd, oK) :: (ll, PySem.W.listOf vs.toArray c) :: R) ∧ PenB 30 oP ∧ oc.data = .cell (some (.ref td)) ∧
    DictV PG w td oT (rowsE n) (EqV R ew ep eq) ∧ DictV PG w kd oK (rowsE n) (fun k v => ∃ d o, v = .ref d ∧ (d, o) ∈ R ∧ CntD w d o (Kn k)) ∧ Scene (rowsE n) ew ep eq Kn lost ∧ Side (rowsE n) ew ep eq ∧ StrsAre vs lost ∧
    (∀ p ∈ (cl, oc) :: (td, oT) :: (kd, oK) :: (ll, PySem.W.listOf vs.toArray c) :: R, p.1 ≠ D) ∧ m (Str.ofString "pen") = some (.ref D) ∧ m (Str.ofString "many") = some (.int n tn) ∧ m (Str.ofString "known") = some (.ref kd) ∧ m (Str.ofString "lost") = some (.ref ll)
theorem strs_rev {vs : List Value} {ss : List Str} (h : StrsAre vs ss) : StrsAre vs.reverse ss.reverse := by
  induction h with
  | nil => exact .nil
  | cons a t _ ih => rw [List.reverse_cons, List.reverse_cons]; exact strs_append ih (.cons _ _ .nil)
theorem nodup_rev {l : List Str} (h : l.Nodup) : l.reverse.Nodup := by
  unfold List.Nodup at h ⊢
  rw [List.pairwise_reverse]; exact h.imp fun e => Ne.symm e
theorem strs_at {vs : List Value} {ss : List Str} (h : StrsAre vs ss) : ∀ {i : Nat} {v : Value}, vs[i]? = some v → ∃ k t, v = .str k t ∧ ss[i]? = some k := by
  induction h with
  | nil => intro i v h; simp at h
  | cons a t _ ih =>
    intro i v h
    cases i with
    | zero => simp only [List.getElem?_cons_zero, Option.some.injEq] at h; exact ⟨a, t, h.symm, rfl⟩
    | succ i => simp only [List.getElem?_cons_succ] at h ⊢; exact ih h
theorem tups_snoc {V : Str → Value → Prop} {l : List (Addr × Obj)} {vs : List Value} {ks : List Str} {a : Addr} {k : Str} {t : Tok} {v : Value} (h : TupsAre V l vs ks) (hm : (a, ({ cls := .type "tuple", data := .seq #[.str k t, v] } : Obj)) ∈ l) (hV : V k v) : TupsAre V l (vs ++ [.ref a]) (ks ++ [k]) := by
  induction h with
  | nil => exact .cons hm hV .nil
  | cons h1 h2 _ ih => exact .cons h1 h2 ih
/-- what the names are -/
def NamesQ (n : Nat) (s1 : Shared) (D cl td kd ll : Addr) (oK oc oT oL : Obj) (R : List (Addr × Obj)) (m : Str → Option Value) (v : Value) (s₁ : Shared) : Prop :=
  ∃ h tk Bn vs c oP eks, v = .ref Bn ∧ s₁ = { s1 with heap := h, toks := tk } ∧ Fr s1.heap s1.heap.objs.size h m ∧ News s1.heap s1.heap.objs.size h ((D, oP) :: (cl, oc) :: (td, oT) :: (kd, oK) :: (ll, oL) :: (Bn, PySem.W.listOf (List.toArray vs) c) :: R) ∧ PenB 31 oP ∧
    StrsAre vs eks ∧ eks.Nodup ∧ (∀ x, x ∈ rowsE n ↔ x ∈ eks) ∧ Bn ≠ D
theorem nrm_names {i : Nat} {p q : Str} (hp : p ∈ namesOf i) : nrm p q ∈ namesOf i := by
  unfold nrm; split
  · exact List.mem_append_left _ (.head _)
  · exact hp
theorem nrm_eq {p q : Str} (h : nrm p q = nrm q p) : nrm p q = emp := by
  unfold nrm at h ⊢
  by_cases e : p = q
  · rw [if_pos e]
  · rw [if_neg e, if_neg (Ne.symm e)] at h; exact absurd h e
theorem putKey_rows {i : Nat} (hi : i < 8) : putKey (rowsE i) (nameE i) = rowsE (i + 1) := by
  unfold putKey
  rw [if_neg, rowsE_succ]
  intro h
  obtain ⟨k, hk, e⟩ := mem_rowsE.mp h
  have := nameE_inj hi (by omega) e
  omega
theorem rowsE_len (i : Nat) : (rowsE i).length = i := by simp [rowsE]
theorem rowJ_next {w : World} {n : Nat} {tn : Tok} {D cl td kd : Addr} {i : Nat} {m : Str → Option Value} {oP oc oT oK : Obj} {R : List (Addr × Obj)} {ew : Str → Int} {ep eq : Str → Str} {Kn : Str → Str → Int} {x d Dn : Addr} {o on : Obj} {z b : Int} {p q : Str}
    (hP : PenB b oP) (hb : b = 1 + 3 * ((i + 1 : Nat) : Int)) (hc : oc.data = .cell (some (.ref td)))
    (hT : DictV PG w td oT (putKey (rowsE i) (nameE i)) (fun y v => if y = nameE i then v = .ref x else EqV R ew ep eq y v))
    (hK : DictV PG w kd oK (putKey (rowsE i) (nameE i)) (fun y v => if y = nameE i then v = .ref Dn else ∃ d o, v = .ref d ∧ (d, o) ∈ R ∧ CntD w d o (Kn y)))
    (hA : AffD o z p q) (hC : CntD w Dn on (cntOf (rowsE i) Kn z p q)) (hRows : RowsOk i ew ep eq Kn) (hi : i < 8) (hz : -10 ≤ z ∧ z ≤ 10) (hp : p ∈ namesOf i) (hq : q ∈ namesOf i) (hpq : p = q → p = emp)
    (hR : ∀ r ∈ R, r.1 ≠ D ∧ r.1 ≠ cl ∧ r.1 ≠ td ∧ r.1 ≠ kd) (hnew : ∀ a ∈ [Dn, x, d], a ≠ D ∧ a ≠ cl ∧ a ≠ td ∧ a ≠ kd)
    (e1 : m (Str.ofString "pen") = some (.ref D)) (e2 : m (Str.ofString "many") = some (.int n tn)) (e3 : m (Str.ofString "known") = some (.ref kd)) :
    RowJ w n tn D cl td kd (i + 1) m ((D, oP) :: (cl, oc) :: (td, oT) :: (kd, oK) :: (Dn, on) :: (x, instObj 133 d) :: (d, o) :: R) := by
  rw [putKey_rows hi] at hT hK
  refine ⟨oP, oc, oT, oK, _, _, _, _, _, rfl, hb ▸ hP, hc, hT.weak fun y v _ h => ?_, hK.weak fun y v _ h => ?_, rows_step hRows hi hz hp hq hpq, ?_, e1, e2, e3⟩
  · by_cases e : y = nameE i
    · rw [if_pos e] at h
      subst e
      exact ⟨x, d, o, h, .tail _ (.head _), .tail _ (.tail _ (.head _)), by rw [up_self, up_self, up_self]; exact hA⟩
    · rw [if_neg e] at h
      obtain ⟨x', d', o', h1, h2, h3, h4⟩ := h
      exact ⟨x', d', o', h1, .tail _ (.tail _ (.tail _ h2)), .tail _ (.tail _ (.tail _ h3)), by rw [up_ne e, up_ne e, up_ne e]; exact h4⟩
  · by_cases e : y = nameE i
    · rw [if_pos e] at h
      subst e
      exact ⟨Dn, on, h, .head _, by rw [up_self]; exact hC⟩
    · rw [if_neg e] at h
      obtain ⟨d', o', h1, h2, h3⟩ := h
      exact ⟨d', o', h1, .tail _ (.tail _ (.tail _ h2)), by rw [up_ne e]; exact h3⟩
  · refine List.forall_mem_cons.mpr ⟨hnew _ (.head _), List.forall_mem_cons.mpr ⟨hnew _ (.tail _ (.head _)), List.forall_mem_cons.mpr ⟨hnew _ (.tail _ (.tail _ (.head _))), hR⟩⟩⟩
set_option maxHeartbeats 4000000 in
theorem law_all : PySem.Challenge.rw_qz0049_01.Holds := by
  refine holds_law hd.said fun said => ?_
  refine holds_open (q := hd.view_39) (loose := [Str.ofString "MintError"]) (Xt := fun s => xlAt hd.view_39 [] s && recOk (RowW.records RW0.toRowW) s) (XP := XL hd.view_39 []) (Yf := Hook.obs (kHook hd.heap_39 hd.as hd.ase)) (Ya := Hook.val (kHook hd.heap_39 hd.as hd.ase)) (YP := Hook.says (kHook hd.heap_39 hd.as hd.ase)) (N := 4658) hd.left (Hook.of (kHook hd.heap_39 hd.as hd.ase)) (Hook.keeps (kHook hd.heap_39 hd.as hd.ase)) (fun s e => xl_of s (Bool.and_eq_true_iff.mp e).1) XL.keeps (by rfl) (by rfl) (by rfl) (fun s e => recFacts_of (Bool.and_eq_true_iff.mp e).2) (by rfl) (by assumption) (by decide +kernel) ⟨rfl, rfl, rfl, rfl, rfl, by decide +kernel⟩ ?hw ?hc
  case hw => w_witness2
  clear said
  k_go0
  (all_goals try k_fold)
  rename Fr _ _ _ _ => F
  rename News _ _ _ _ => N
  rename Heap.IsList _ _ _ => hL
  rename IntsAre _ _ => hI
  rename Below _ _ _ _ => B
  rename Top _ _ _ _ _ _ => T
  rename Frag.In _ _ => X
  rename ¬ _ < _ => hlen
  k_steps
  refine Halt.mk (pen_ok B (by k_asm) X (by k_asm) T rfl hL hI (by omega) (by decide) (by decide) (fun D h' tk' o' F' N' l' hP => ?_))
  have hne1 := fun p hp => Nat.ne_of_lt (l' p hp)
  k_lt l'
  k_steps
  refine Halt.mk (take_pen B (by k_asm) X (by k_asm) T rfl hP hne1 (by decide) (by decide) (by decide) (by decide) (by decide) (fun v tv h2 tk2 o2 F2 N2 hP2 v0 v1 => ?_))
  obtain ⟨n, rfl⟩ : ∃ n : Nat, v = n := ⟨v.toNat, by omega⟩
  k_steps
  refine Halt.mk (For_turns (by k_asm) ?_)
  k_steps
  rename IsRange _ _ _ _ _ _ _ _ => hR
  rename Fr _ _ _ _ => F4
  rename News _ _ _ _ => N4
  rename _ ∧ _ ∧ _ ∧ _ < _ => ltD
  rename World => w
  rename Shared => s1
  rename_i kd _ oK loK hsK _ _ _ l1a td _ oT loT hsT _ _ _ l1b Dt _ _ _ _ _ oc _ _ hoc _ _ _ _ _ _
  obtain ⟨cl, hcl⟩ : ∃ cl, cl = s1.heap.objs.size + 1 := ⟨_, rfl⟩
  have ltc : cl < D ∧ D < kd ∧ kd < td := by
    rw [hcl]; exact ⟨l', l1a.1, l1b.1⟩
  refine Halt.mk (for_rangeT (RowJ w n tv D (s1.heap.objs.size + 1) td kd) rfl hR (rg_small (by omega)) (rg_size (by omega)) F4 (news_five N4) ⟨o2, oc, oT, oK, [], fun _ => 0, fun _ => emp, fun _ => emp, fun _ _ => 0, rfl, hP2, hoc, ⟨loT, [], hsT, rfl, fun _ _ h => nomatch h⟩, ⟨loK, [], hsK, rfl, fun _ _ h => nomatch h⟩, rows_zero _ _ _ _, (fun _ h => nomatch h), rfl, rfl, rfl⟩ (fun I oi i ti m₁ news₁ h tk hI hoi hi hne hJ F5 N5 => ?_) (fun m₁ news₁ h tk hJ F5 N5 => ?_))
  · obtain ⟨oP, oc, oT, oK, R, ew, ep, eq, Kn, rfl, hP, hc, hT, hK, hRows, hne2, e1, e2, e3⟩ := hJ
    have hi8 : i < 8 := by omega
    k_steps
    have lI : D < I ∧ s1.heap.objs.size + 1 < I ∧ td < I ∧ kd < I := ⟨hI _ (.head _), hI _ (.tail _ (.head _)), hI _ (.tail _ (.tail _ (.head _))), hI _ (.tail _ (.tail _ (.tail _ (.head _))))⟩
    have lt3 : s1.heap.objs.size + 1 < D ∧ D < kd ∧ kd < td := hcl ▸ ltc
    have neD : ∀ p ∈ (I, oi) :: (s1.heap.objs.size + 1, oc) :: (td, oT) :: (kd, oK) :: R, p.1 ≠ D :=
      List.forall_mem_cons.mpr ⟨Nat.ne_of_gt lI.1, List.forall_mem_cons.mpr ⟨Nat.ne_of_lt lt3.1, List.forall_mem_cons.mpr ⟨Nat.ne_of_gt (Nat.lt_trans lt3.2.1 lt3.2.2), List.forall_mem_cons.mpr ⟨Nat.ne_of_gt lt3.2.1, fun p hp => (hne2 p hp).1⟩⟩⟩⟩
    refine Halt.mk (take_pen B (by k_asm) X (news_swap (by k_asm)) T rfl hP neD (by omega) (by decide) (by decide) (by decide) (by decide) (fun v tv' h6 tk6 oP1 F6 N6 hP1 v0 v1 => ?_))
    k_steps
    refine Halt.mk (name_ok B (by k_asm) X (by k_asm) T rfl hP1 neD (by omega) (by omega) (by decide) (by decide) (fun pn tp h7 tk7 oP2 F7 N7 hP2' hp => ?_))
    k_steps
    refine Halt.mk (name_ok B (by k_asm) X (by k_asm) T rfl hP2' neD (by omega) (by omega) (by decide) (by decide) (fun qn tq h8 tk8 oP3 F8 N8 hP3 hq => ?_))
    have b8 : ∀ p ∈ (D, oP3) :: (I, oi) :: (s1.heap.objs.size + 1, oc) :: (td, oT) :: (kd, oK) :: R, p.1 < h8.objs.size := fun p hp => Heap.lt_size (N8 p hp).1
    k_steps
    refine Halt.mk (aff_new B (by k_asm) X (by k_asm) T rfl (by decide) (by decide) (fun x d o h9 tk9 F9 N9 hA lA lB => ?_))
    k_steps
    have htd : td < d := lA (td, oT) (.tail _ (.tail _ (.tail _ (.tail _ (.head _)))))
    have hkd : kd < d := lA (kd, oK) (.tail _ (.tail _ (.tail _ (.tail _ (.tail _ (.head _))))))
    have hDd : D < d := lA (D, oP3) (.tail _ (.head _))
    have hId : I < d := lA (I, oi) (.tail _ (.tail _ (.head _)))
    have hcd : s1.heap.objs.size + 1 < d := lA (s1.heap.objs.size + 1, oc) (.tail _ (.tail _ (.tail _ (.head _))))
    have htt : td < h8.objs.size := b8 (td, oT) (.tail _ (.tail _ (.tail _ (.head _))))
    have hsz : (rowsE i).length ≤ sizeLine := by rw [rowsE_len]; exact rg_line (by omega)
    have hz : -10 ≤ v - 10 ∧ v - 10 ≤ 10 := by omega
    have hap : ∀ a, d ≤ a → a ≠ D ∧ a ≠ s1.heap.objs.size + 1 ∧ a ≠ td ∧ a ≠ kd := fun a ha => ⟨Nat.ne_of_gt (Nat.lt_of_lt_of_le hDd ha), Nat.ne_of_gt (Nat.lt_of_lt_of_le hcd ha), Nat.ne_of_gt (Nat.lt_of_lt_of_le htd ha), Nat.ne_of_gt (Nat.lt_of_lt_of_le hkd ha)⟩
    refine Halt.mk (dv_set (by k_asm) (by k_asm) (UpdF.tail (Nat.ne_of_gt (Nat.lt_trans htd lB)) (UpdF.tail (Nat.ne_of_gt htd) (UpdF.tail (Nat.ne_of_gt htt) (UpdF.tail (Nat.ne_of_lt (Nat.lt_trans lt3.2.1 lt3.2.2)) (UpdF.tail (Nat.ne_of_gt lI.2.2.1) (UpdF.tail (Nat.ne_of_lt (Nat.lt_trans lt3.1 (Nat.lt_trans lt3.2.1 lt3.2.2))) (UpdF.head (List.forall_mem_cons.mpr ⟨Nat.ne_of_lt lt3.2.2, fun p hp => (hne2 p hp).2.2.1⟩)))))))) hT hsz (fun h10 oT1 F10 N10 hT1 => ?_))
    k_steps
    · rename (pn != qn) = true => hpq
      have hpq : pn ≠ qn := by simpa using hpq
      have en : nrm pn qn = pn ∧ nrm qn pn = qn := ⟨if_neg hpq, if_neg (Ne.symm hpq)⟩
      rename News _ _ _ _ => Nz
      obtain ⟨W, NW, hW1, hW2, hW3⟩ := news_pull [_, _] Nz
      have mkd := hW2 _ (.tail _ (.tail _ (.tail _ (.tail _ (.head _)))))
      have mR : ∀ r ∈ R, r ∈ W := fun r hr => hW2 _ (.tail _ (.tail _ (.tail _ (.tail _ (.tail _ hr)))))
      refine Halt.mk (counts_ok B (by k_asm) X NW T rfl mkd (hK.weak fun k v _ ⟨d', o', q1, q2, q3⟩ => ⟨d', o', q1, mR _ q2, q3⟩) (namesOf_univ (by omega) hp) (namesOf_univ (by omega) hq) (by decide) (by decide) (fun Dn on h11 tk11 F11 N11 lD1 lD2 hC => ?_))
      k_steps
      have sub : ∀ q : Addr × Obj, ∀ p ∈ (kd, oK) :: (Dn, on) :: (x, instObj 133 d) :: (d, o) :: (D, oP3) :: (I, oi) :: (s1.heap.objs.size + 1, oc) :: (td, oT1) :: R, p ∈ (Dn, on) :: q :: W := fun q => List.forall_mem_cons.mpr ⟨.tail _ (.tail _ mkd), List.forall_mem_cons.mpr ⟨.head _, List.forall_mem_cons.mpr ⟨.tail _ (.tail _ (hW1 _ (.head _))), List.forall_mem_cons.mpr ⟨.tail _ (.tail _ (hW1 _ (.tail _ (.head _)))), List.forall_mem_cons.mpr ⟨.tail _ (.tail _ (hW2 _ (.head _))), List.forall_mem_cons.mpr ⟨.tail _ (.tail _ (hW2 _ (.tail _ (.head _)))), List.forall_mem_cons.mpr ⟨.tail _ (.tail _ (hW2 _ (.tail _ (.tail _ (.head _))))), List.forall_mem_cons.mpr ⟨.tail _ (.tail _ (hW2 _ (.tail _ (.tail _ (.tail _ (.head _)))))), fun p hp => .tail _ (.tail _ (mR p hp))⟩⟩⟩⟩⟩⟩⟩⟩
      have hDn : d < Dn := lD1 _ (hW1 _ (.tail _ (.head _)))
      have hkn := hap _ (Nat.le_of_lt hDn)
      have hkx := hap _ (Nat.le_of_lt lB)
      have hk0 := hap _ (Nat.le_refl _)
      refine Halt.mk (dv_set (by k_asm) (news_sub (by k_asm) (sub _)) (UpdF.head (List.forall_mem_cons.mpr ⟨hkn.2.2.2, List.forall_mem_cons.mpr ⟨hkx.2.2.2, List.forall_mem_cons.mpr ⟨hk0.2.2.2, List.forall_mem_cons.mpr ⟨Nat.ne_of_lt lt3.2.1, List.forall_mem_cons.mpr ⟨Nat.ne_of_gt lI.2.2.2, List.forall_mem_cons.mpr ⟨Nat.ne_of_lt (Nat.lt_trans lt3.1 lt3.2.1), List.forall_mem_cons.mpr ⟨Nat.ne_of_gt lt3.2.2, fun p hp => (hne2 p hp).2.2.2⟩⟩⟩⟩⟩⟩⟩)) hK hsz (fun h12 oK1 F12 N12 hK1 => ?_))
      k_steps
      rename Fr _ _ _ _ => Fz
      rename News _ _ _ _ => Nz2
      have sub2 : ∀ p ∈ (I, oi) :: (D, oP3) :: (s1.heap.objs.size + 1, oc) :: (td, oT1) :: (kd, oK1) :: (Dn, on) :: (x, instObj 133 d) :: (d, o) :: R, p ∈ (kd, oK1) :: (Dn, on) :: (x, instObj 133 d) :: (d, o) :: (D, oP3) :: (I, oi) :: (s1.heap.objs.size + 1, oc) :: (td, oT1) :: R := fun p hp => by
        simp only [List.mem_cons] at hp ⊢
        rcases hp with h | h | h | h | h | h | h | h | h <;> simp only [h, true_or, or_true]
      have neI : ∀ q ∈ (D, oP3) :: (s1.heap.objs.size + 1, oc) :: (td, oT1) :: (kd, oK1) :: (Dn, on) :: (x, instObj 133 d) :: (d, o) :: R, q.1 ≠ I := List.forall_mem_cons.mpr ⟨Nat.ne_of_lt lI.1, List.forall_mem_cons.mpr ⟨Nat.ne_of_lt lI.2.1, List.forall_mem_cons.mpr ⟨Nat.ne_of_lt lI.2.2.1, List.forall_mem_cons.mpr ⟨Nat.ne_of_lt lI.2.2.2, List.forall_mem_cons.mpr ⟨Nat.ne_of_gt (Nat.lt_trans hId hDn), List.forall_mem_cons.mpr ⟨Nat.ne_of_gt (Nat.lt_trans hId lB), List.forall_mem_cons.mpr ⟨Nat.ne_of_gt hId, fun q hq => hne q (.tail _ (.tail _ (.tail _ (.tail _ hq))))⟩⟩⟩⟩⟩⟩⟩
      exact TurnR.next _ Fz (news_sub Nz2 sub2) neI (rowJ_next hP3 (by omega) hc hT1 hK1 (by rw [en.1, en.2] at hA; exact hA) hC hRows hi8 hz hp hq (fun e => absurd e hpq) hne2 (fun a ha => by
        simp only [List.mem_cons, List.not_mem_nil, or_false] at ha
        rcases ha with rfl | rfl | rfl
        · exact hkn
        · exact hkx
        · exact hk0) e1 e2 e3)
    · rename (pn != qn) = false => hpq
      have hpq : pn = qn := by simpa using hpq
      have en : nrm pn qn = emp ∧ nrm qn pn = emp := ⟨if_pos hpq, if_pos hpq.symm⟩
      have hE0 : ∀ j, emp ∈ namesOf j := fun j => List.mem_append_left _ (.head _)
      refine Halt.mk (counts_ok (p := emp) (q := emp) B (by k_asm) X (by k_asm) T rfl (.tail _ (.tail _ (.tail _ (.tail _ (.tail _ (.tail _ (.tail _ (.head _)))))))) (hK.weak fun k v _ ⟨d', o', q1, q2, q3⟩ => ⟨d', o', q1, .tail _ (.tail _ (.tail _ (.tail _ (.tail _ (.tail _ (.tail _ (.tail _ q2))))))), q3⟩) (namesOf_univ (by omega) (hE0 i)) (namesOf_univ (by omega) (hE0 i)) (by decide) (by decide) (fun Dn on h11 tk11 F11 N11 lD1 lD2 hC => ?_))
      k_steps
      have sub : ∀ (u v : Addr × Obj), ∀ p ∈ (kd, oK) :: (Dn, on) :: (x, instObj 133 d) :: (d, o) :: (D, oP3) :: (I, oi) :: (s1.heap.objs.size + 1, oc) :: (td, oT1) :: R, p ∈ (Dn, on) :: u :: (x, instObj 133 d) :: (d, o) :: v :: (D, oP3) :: (I, oi) :: (s1.heap.objs.size + 1, oc) :: (td, oT1) :: (kd, oK) :: R := fun u v p hp => by
        simp only [List.mem_cons] at hp ⊢
        rcases hp with h | h | h | h | h | h | h | h | h <;> simp only [h, true_or, or_true]
      have hDn : d < Dn := lD1 _ (.tail _ (.head _))
      have hkn := hap _ (Nat.le_of_lt hDn)
      have hkx := hap _ (Nat.le_of_lt lB)
      have hk0 := hap _ (Nat.le_refl _)
      refine Halt.mk (dv_set (by k_asm) (news_sub (by k_asm) (sub _ _)) (UpdF.head (List.forall_mem_cons.mpr ⟨hkn.2.2.2, List.forall_mem_cons.mpr ⟨hkx.2.2.2, List.forall_mem_cons.mpr ⟨hk0.2.2.2, List.forall_mem_cons.mpr ⟨Nat.ne_of_lt lt3.2.1, List.forall_mem_cons.mpr ⟨Nat.ne_of_gt lI.2.2.2, List.forall_mem_cons.mpr ⟨Nat.ne_of_lt (Nat.lt_trans lt3.1 lt3.2.1), List.forall_mem_cons.mpr ⟨Nat.ne_of_gt lt3.2.2, fun p hp => (hne2 p hp).2.2.2⟩⟩⟩⟩⟩⟩⟩)) hK hsz (fun h12 oK1 F12 N12 hK1 => ?_))
      k_steps
      rename Fr _ _ _ _ => Fz
      rename News _ _ _ _ => Nz2
      have sub2 : ∀ p ∈ (I, oi) :: (D, oP3) :: (s1.heap.objs.size + 1, oc) :: (td, oT1) :: (kd, oK1) :: (Dn, on) :: (x, instObj 133 d) :: (d, o) :: R, p ∈ (kd, oK1) :: (Dn, on) :: (x, instObj 133 d) :: (d, o) :: (D, oP3) :: (I, oi) :: (s1.heap.objs.size + 1, oc) :: (td, oT1) :: R := fun p hp => by
        simp only [List.mem_cons] at hp ⊢
        rcases hp with h | h | h | h | h | h | h | h | h <;> simp only [h, true_or, or_true]
      have neI : ∀ q ∈ (D, oP3) :: (s1.heap.objs.size + 1, oc) :: (td, oT1) :: (kd, oK1) :: (Dn, on) :: (x, instObj 133 d) :: (d, o) :: R, q.1 ≠ I := List.forall_mem_cons.mpr ⟨Nat.ne_of_lt lI.1, List.forall_mem_cons.mpr ⟨Nat.ne_of_lt lI.2.1, List.forall_mem_cons.mpr ⟨Nat.ne_of_lt lI.2.2.1, List.forall_mem_cons.mpr ⟨Nat.ne_of_lt lI.2.2.2, List.forall_mem_cons.mpr ⟨Nat.ne_of_gt (Nat.lt_trans hId hDn), List.forall_mem_cons.mpr ⟨Nat.ne_of_gt (Nat.lt_trans hId lB), List.forall_mem_cons.mpr ⟨Nat.ne_of_gt hId, fun q hq => hne q (.tail _ (.tail _ (.tail _ (.tail _ hq))))⟩⟩⟩⟩⟩⟩⟩
      exact TurnR.next _ Fz (news_sub Nz2 sub2) neI (rowJ_next hP3 (by omega) hc hT1 hK1 (by rw [en.1, en.2] at hA; exact hA) hC hRows hi8 hz (hE0 i) (hE0 i) (fun _ => rfl) hne2 (fun a ha => by
        simp only [List.mem_cons, List.not_mem_nil, or_false] at ha
        rcases ha with rfl | rfl | rfl
        · exact hkn
        · exact hkx
        · exact hk0) e1 e2 e3)
  · obtain ⟨oP, oc, oT, oK, R, ew, ep, eq, Kn, rfl, hP, hc, hT, hK, hRows, hne2, e1, e2, e3⟩ := hJ
    have hn8 : n ≤ 8 := by omega
    have lt3 : s1.heap.objs.size + 1 < D ∧ D < kd ∧ kd < td := hcl ▸ ltc
    k_steps
    rename_i ll _ _ _ l1A _ _ _
    have lll : D < ll ∧ s1.heap.objs.size + 1 < ll ∧ td < ll ∧ kd < ll ∧ AllLt ll R := l1A
    have neD : ∀ lo, ∀ p ∈ (s1.heap.objs.size + 1, oc) :: (td, oT) :: (kd, oK) :: (ll, lo) :: R, p.1 ≠ D := fun lo =>
      List.forall_mem_cons.mpr ⟨Nat.ne_of_lt lt3.1, List.forall_mem_cons.mpr ⟨Nat.ne_of_gt (Nat.lt_trans lt3.2.1 lt3.2.2), List.forall_mem_cons.mpr ⟨Nat.ne_of_gt lt3.2.1, List.forall_mem_cons.mpr ⟨Nat.ne_of_gt lll.1, fun p hp => (hne2 p hp).1⟩⟩⟩⟩
    have sub : ∀ (lo oP : Obj), ∀ p ∈ (D, oP) :: (s1.heap.objs.size + 1, oc) :: (td, oT) :: (kd, oK) :: (ll, lo) :: R, p ∈ (ll, lo) :: (D, oP) :: (s1.heap.objs.size + 1, oc) :: (td, oT) :: (kd, oK) :: R := fun lo oP p hp => by
      simp only [List.mem_cons] at hp ⊢
      rcases hp with h | h | h | h | h | h <;> simp only [h, true_or, or_true]
    refine Halt.mk (wpAny_mono (Q := fun f s₂ => Halt (MidL w n tv s1 D (s1.heap.objs.size + 1) td kd oK Kn f s₂)) (wpAny_If ?_) (fun f s₂ hm => ?_) fun _ _ x => x)
    · k_steps
      · refine Halt.mk (take_pen B (by k_asm) X (news_sub (by k_asm) (sub _ _)) T rfl hP (neD _) (by omega) (by decide) (by decide) (by decide) (by decide) (fun v tv' h6 tk6 oP1 F6 N6 hP1 v0 v1 => ?_))
        k_steps
        · refine Halt.mk (take_pen B (by k_asm) X (by k_asm) T rfl hP1 (neD _) (by omega) (by omega) (by omega) (by decide) (by decide) (fun v2 tv2 h7 tk7 oP2 F7 N7 hP2b v20 v21 => ?_))
          obtain ⟨sp, rfl⟩ : ∃ sp : Nat, v2 = sp := ⟨v2.toNat, by omega⟩
          have hsp : sp < n := by omega
          k_steps
          refine Halt.mk (aff_new B (by k_asm) X (by k_asm) T rfl (by decide) (by decide) (fun x d o h9 tk9 F9 N9 hA lA lB => ?_))
          k_steps
          have hap : ∀ a, @LE.le Nat _ d a → a ≠ D ∧ a ≠ s1.heap.objs.size + 1 ∧ a ≠ td ∧ a ≠ kd := fun a ha => ⟨Nat.ne_of_gt (Nat.lt_of_lt_of_le (lA _ (.head _)) ha), Nat.ne_of_gt (Nat.lt_of_lt_of_le (lA _ (.tail _ (.head _))) ha), Nat.ne_of_gt (Nat.lt_of_lt_of_le (lA _ (.tail _ (.tail _ (.head _)))) ha), Nat.ne_of_gt (Nat.lt_of_lt_of_le (lA _ (.tail _ (.tail _ (.tail _ (.head _))))) ha)⟩
          have hsz : (rowsE n).length ≤ sizeLine := by rw [rowsE_len]; exact rg_line hn8
          have hxd : ∀ a ∈ [x, d], a ≠ D ∧ a ≠ s1.heap.objs.size + 1 ∧ a ≠ td ∧ a ≠ kd := List.forall_mem_cons.mpr ⟨hap x (Nat.le_of_lt lB), List.forall_mem_cons.mpr ⟨hap d (Nat.le_refl _), fun _ h => nomatch h⟩⟩
          refine Halt.mk (dv_set (by k_asm) (by k_asm) (UpdF.tail (hxd _ (.head _)).2.2.1 (UpdF.tail (hxd _ (.tail _ (.head _))).2.2.1 (UpdF.tail (Nat.ne_of_lt (Nat.lt_trans lt3.2.1 lt3.2.2)) (UpdF.tail (Nat.ne_of_lt (Nat.lt_trans lt3.1 (Nat.lt_trans lt3.2.1 lt3.2.2))) (UpdF.head (List.forall_mem_cons.mpr ⟨Nat.ne_of_lt lt3.2.2, List.forall_mem_cons.mpr ⟨Nat.ne_of_gt lll.2.2.1, fun p hp => (hne2 p hp).2.2.1⟩⟩)))))) hT hsz (fun h10 oT1 F10 N10 hT1 => ?_))
          k_steps
          refine Halt.mk (For_turns (by k_asm) ?_)
          k_steps
          rename_i l2 _ l12 _ _ _ _ _ _ _ _ hR2 F4 N4 _
          have en : nrm (nameE sp) (Str.ofString "p") = nameE sp ∧ nrm (Str.ofString "p") (nameE sp) = Str.ofString "p" := ⟨if_neg (name_ne_p (by omega)), if_neg (Ne.symm (name_ne_p (by omega)))⟩
          have hA2 : AffD o 1 (nameE sp) (Str.ofString "p") := by
            have := hA
            rw [show Str.ofString "e" ++ Str.ofString (toString (sp : Int)) = nameE sp from rfl, en.1, en.2] at this
            exact this
          obtain ⟨W, hW⟩ : ∃ W, W = (x, instObj 133 d) :: (d, o) :: (D, oP2) :: (s1.heap.objs.size + 1, oc) :: (td, oT1) :: (kd, oK) :: (ll, PySem.W.listOf (List.toArray []) 0) :: R := ⟨_, rfl⟩
          have mx : (x, instObj 133 d) ∈ W := hW ▸ .head _
          have md : (d, o) ∈ W := hW ▸ .tail _ (.head _)
          have mD : (D, oP2) ∈ W := hW ▸ .tail _ (.tail _ (.head _))
          have mcl : (s1.heap.objs.size + 1, oc) ∈ W := hW ▸ .tail _ (.tail _ (.tail _ (.head _)))
          have mT : (td, oT1) ∈ W := hW ▸ .tail _ (.tail _ (.tail _ (.tail _ (.head _))))
          have mK : (kd, oK) ∈ W := hW ▸ .tail _ (.tail _ (.tail _ (.tail _ (.tail _ (.head _)))))
          have mR : ∀ r ∈ R, r ∈ W := fun r hr => hW ▸ .tail _ (.tail _ (.tail _ (.tail _ (.tail _ (.tail _ (.tail _ hr))))))
          have hT2 : DictV PG w td oT1 (rowsE n) (EqV ((x, instObj 133 d) :: (d, o) :: R) (up ew (nameE sp) 1) (up ep (nameE sp) (nameE sp)) (up eq (nameE sp) (Str.ofString "p"))) := by
            have := hT1
            rw [show Str.ofString "e" ++ Str.ofString (toString (sp : Int)) = nameE sp from rfl, putKey_mem (mem_rowsE.mpr ⟨sp, hsp, rfl⟩)] at this
            refine this.weak fun y v _ h => ?_
            by_cases e : y = nameE sp
            · rw [if_pos e] at h
              subst e
              exact ⟨x, d, o, h, .head _, .tail _ (.head _), by rw [up_self, up_self, up_self]; exact hA2⟩
            · rw [if_neg e] at h
              obtain ⟨x', d', o', h1, h2, h3, h4⟩ := h
              exact ⟨x', d', o', h1, .tail _ (.tail _ h2), .tail _ (.tail _ h3), by rw [up_ne e, up_ne e, up_ne e]; exact h4⟩
          have mW0 : ∀ r ∈ (x, instObj 133 d) :: (d, o) :: R, r ∈ W := List.forall_mem_cons.mpr ⟨mx, List.forall_mem_cons.mpr ⟨md, mR⟩⟩
          have l2D : l2 ≠ D := Nat.ne_of_gt l12.2.2.1
          rw [← hW] at N4
          refine Halt.mk (for_rangeT (LostJ n tv D td kd sp W (up ep (nameE sp) (nameE sp)) (up eq (nameE sp) (Str.ofString "p"))) rfl hR2 (rg_small hn8) (rg_size hn8) F4 N4 ⟨l2, _, 0, rfl, .cons _ _ .nil, l2D, e1, e2, e3, rfl⟩ (fun I oi i ti m₁ news₁ h tk hI hoi hi hne hJ F5 N5 => ?_) (fun m₁ news₁ h tk hJ F5 N5 => ?_))
          · obtain ⟨l3, vs, c, rfl, hS, hlD, q1, q2, q3, q4⟩ := hJ
            k_steps
            refine Halt.mk (dv_item (by k_asm) (.tail _ (.tail _ mT)) hT2 (mem_rowsE.mpr ⟨i, hi, rfl⟩) (fun v hv => ?_) (by with_unfolding_all rfl))
            obtain ⟨px, pd, po, rfl, hpx, hpd, hpo⟩ := hv
            have hpx := mW0 _ hpx
            have hpd := mW0 _ hpd
            obtain ⟨g1, g2, g3, t1, t2, t3, tz, tp, tq, rfl⟩ := hpo
            k_steps
            refine Halt.mk (wpAny_If ?_)
            k_steps
            refine Halt.mk (in_list_strs (vs := vs) (News.isList (by k_asm) (by k_mem)) hS ?_)
            k_steps
            · rename List.any _ _ = true => ha
              refine Halt.mk (add_strs (by k_asm) (by k_asm) (by k_mem) (.head _) hS (.cons (nameE i) _ .nil) (Nat.le_trans (by have := lostL_len (up ep (nameE sp) (nameE sp)) (up eq (nameE sp) (Str.ofString "p")) (nameE sp) i; simp; omega : _ ≤ 26) (by decide)) fun B4 zs h4 F6 N6 l4 hS5 => ?_)
              k_steps
              rename Fr _ _ _ _ => Fz
              rename News _ _ _ _ => Nz
              exact TurnR.next ((B4, PySem.W.listOf zs.toList.toArray 0) :: W) Fz (news_sub Nz (List.forall_mem_cons.mpr ⟨.tail _ (.tail _ (.head _)), List.forall_mem_cons.mpr ⟨.head _, fun p hp => .tail _ (.tail _ (.tail _ (.tail _ hp)))⟩⟩)) (List.forall_mem_cons.mpr ⟨Nat.ne_of_gt (l4 _ (.tail _ (.head _))), fun q hq => hne q (.tail _ hq)⟩) ⟨B4, zs.toList, 0, rfl, by rw [lostL_in (.inl (any_eq.mp ha))]; exact hS5, Nat.ne_of_gt (l4 _ (.tail _ (.tail _ (.tail _ mD)))), q1, q2, q3, rfl⟩
            · rename List.any _ _ = false => ha1
              refine Halt.mk (in_list_strs (vs := vs) (News.isList (by k_asm) (by k_mem)) hS ?_)
              k_steps
              · rename List.any _ _ = true => ha
                refine Halt.mk (add_strs (by k_asm) (by k_asm) (by k_mem) (.head _) hS (.cons (nameE i) _ .nil) (Nat.le_trans (by have := lostL_len (up ep (nameE sp) (nameE sp)) (up eq (nameE sp) (Str.ofString "p")) (nameE sp) i; simp; omega : _ ≤ 26) (by decide)) fun B4 zs h4 F6 N6 l4 hS5 => ?_)
                k_steps
                rename Fr _ _ _ _ => Fz
                rename News _ _ _ _ => Nz
                exact TurnR.next ((B4, PySem.W.listOf zs.toList.toArray 0) :: W) Fz (news_sub Nz (List.forall_mem_cons.mpr ⟨.tail _ (.tail _ (.head _)), List.forall_mem_cons.mpr ⟨.head _, fun p hp => .tail _ (.tail _ (.tail _ (.tail _ hp)))⟩⟩)) (List.forall_mem_cons.mpr ⟨Nat.ne_of_gt (l4 _ (.tail _ (.head _))), fun q hq => hne q (.tail _ hq)⟩) ⟨B4, zs.toList, 0, rfl, by rw [lostL_in (.inr (any_eq.mp ha))]; exact hS5, Nat.ne_of_gt (l4 _ (.tail _ (.tail _ (.tail _ mD)))), q1, q2, q3, rfl⟩
              · rename List.any _ _ = false => ha2
                rename Fr _ _ _ _ => Fz
                rename News _ _ _ _ => Nz
                exact TurnR.next _ Fz Nz hne ⟨l3, vs, c, rfl, by rw [lostL_out (fun q => q.elim (any_ne ha1) (any_ne ha2))]; exact hS, hlD, q1, q2, q3, q4⟩
          · obtain ⟨l3, vs, c, rfl, hS, hlD, q1, q2, q3, q4⟩ := hJ
            k_steps
            exact Halt.mk ⟨rfl, _, _, _, oP2, oc, oT1, l3, vs, c, (x, instObj 133 d) :: (d, o) :: R, _, _, _, _, rfl, F5, news_sub N5 (List.forall_mem_cons.mpr ⟨.tail _ mD, List.forall_mem_cons.mpr ⟨.tail _ mcl, List.forall_mem_cons.mpr ⟨.tail _ mT, List.forall_mem_cons.mpr ⟨.tail _ mK, List.forall_mem_cons.mpr ⟨.head _, fun p hp => .tail _ (mW0 p hp)⟩⟩⟩⟩⟩), hP2b.mono (by omega), hc, hT2, hK.weak fun k v _ ⟨d', o', r1, r2, r3⟩ => ⟨d', o', r1, .tail _ (.tail _ r2), r3⟩, scene_lost hRows hn8 hsp, side_lost hRows hn8 hsp, hS,
              List.forall_mem_cons.mpr ⟨Nat.ne_of_lt lt3.1, List.forall_mem_cons.mpr ⟨Nat.ne_of_gt (Nat.lt_trans lt3.2.1 lt3.2.2), List.forall_mem_cons.mpr ⟨Nat.ne_of_gt lt3.2.1, List.forall_mem_cons.mpr ⟨hlD, List.forall_mem_cons.mpr ⟨(hxd _ (.head _)).1, List.forall_mem_cons.mpr ⟨(hxd _ (.tail _ (.head _))).1, fun p hp => (hne2 p hp).1⟩⟩⟩⟩⟩⟩, q1, q2, q3, q4⟩
        · rename Fr _ _ _ _ => Fz
          rename News _ _ _ _ => Nz
          exact Halt.mk ⟨rfl, _, _, _, oP1, oc, oT, ll, [], 0, R, ew, ep, eq, [], rfl, Fz, Nz, hP1.mono (by omega), hc, hT, hK, scene_rows hRows hn8, side_rows hRows hn8, .nil, neD _, e1, e2, e3, rfl⟩
      · rename Fr _ _ _ _ => Fz
        rename News _ _ _ _ => Nz
        exact Halt.mk ⟨rfl, _, _, _, oP, oc, oT, ll, [], 0, R, ew, ep, eq, [], rfl, Fz, news_sub Nz (sub _ _), hP.mono (by omega), hc, hT, hK, scene_rows hRows hn8, side_rows hRows hn8, .nil, neD _, e1, e2, e3, rfl⟩
    · obtain ⟨rfl, h, tk, m, oP, oc, oT, ll, vs, c, R, ew, ep, eq, lost, rfl, F7, N7, hP7, hc7, hT7, hK7, hS7, hSd, hSt, hne7, g1, g2, g3, g4⟩ := hm.out
      clear hT hK hP hc hne2 hRows sub neD hm
      have hbn : (rowsE n).length ≤ 16777216 := Nat.le_trans (Nat.le_of_eq (rowsE_len n)) (Nat.le_trans hn8 (by decide))
      k_steps
      refine Halt.mk (wpAny_mono (Q := fun v s₁ => Halt (NamesQ n s1 D (s1.heap.objs.size + 1) td kd ll oK oc oT (PySem.W.listOf (List.toArray vs) c) R m v s₁)) (IfExp_ ?_) (fun v s₂ hm => ?_) fun _ _ x => x)
      · k_steps
        refine Halt.mk (take_pen B (by k_asm) X (by k_asm) T rfl hP7 hne7 (by decide) (by decide) (by decide) (by decide) (by decide) (fun v tv' h6 tk6 oP1 F6 N6 hP1 v0 v1 => ?_))
        k_steps
        · refine Halt.mk (dv_list rfl (by k_asm) (by k_asm) (.tail _ (.tail _ (.head _))) hT7 hbn fun Bt vs2 c2 h7 tk7 F8 N8 l8 hS8 => ?_)
          k_steps
          have hl2 : vs2.length = n := by rw [hS8.length, rowsE_len]
          have hsz2 : vs2.toArray.size ≤ sizeLine := by rw [List.size_toArray, hl2]; exact rg_line hn8
          refine Halt.mk (kba_turn (value' := PySem.Expr.Name (PySem.Str.ofString "_") ⟨0, 0, 0, 0⟩) (fun _ => rfl) (krv_lit (its := vs2.toArray) (zs := vs2.reverse) (by k_asm) (by k_asm) (News.isList (by k_asm) (.head _)) (IsPart.int _ _) rfl (fun Dz h8 F9 N9 l9 => ?_) (by with_unfolding_all rfl) (fun _ => rfl) hsz2))
          refine LCg.CompSrc.ledger rfl F9 N9 (.head _) (by rw [List.size_toArray, List.length_reverse, ← List.size_toArray]; exact hsz2) fun g' => ?_
          refine comp_map (fun i y => vs2.reverse[i]? = some y) (.inr ⟨_, .head _, rfl, _, rfl⟩) ?_ ?_
          · intro i ys v' I oI C oC D' m₂ h tk E' hi hv hC hx' F' N' o' ne'
            k_steps
            exact Halt.mk ⟨by simpa using hv, _, _, rfl, by assumption, by assumption⟩
          · intro ys hl hG
            have hys : ys = vs2.reverse := by
              refine List.ext_getElem? fun i => ?_
              cases e : ys[i]? with
              | some y => exact (hG i y e).symm
              | none =>
                rw [List.getElem?_eq_none_iff] at e
                exact (List.getElem?_eq_none (by rw [List.size_toArray] at hl; omega)).symm
            subst hys
            k_steps
            rename_i Dn _ _ F10 N10 off
            exact Halt.mk ⟨_, _, Dn, vs2.reverse, vs2.reverse.length, oP1, (rowsE n).reverse, rfl, rfl, F10, news_sub N10 (List.forall_mem_cons.mpr ⟨.tail _ (.tail _ (.tail _ (.head _))), List.forall_mem_cons.mpr ⟨.tail _ (.tail _ (.tail _ (.tail _ (.head _)))), List.forall_mem_cons.mpr ⟨.tail _ (.tail _ (.tail _ (.tail _ (.tail _ (.head _))))), List.forall_mem_cons.mpr ⟨.tail _ (.tail _ (.tail _ (.tail _ (.tail _ (.tail _ (.head _)))))), List.forall_mem_cons.mpr ⟨.tail _ (.tail _ (.tail _ (.tail _ (.tail _ (.tail _ (.tail _ (.head _))))))), List.forall_mem_cons.mpr ⟨.head _, fun p hp => .tail _ (.tail _ (.tail _ (.tail _ (.tail _ (.tail _ (.tail _ (.tail _ hp)))))))⟩⟩⟩⟩⟩⟩), hP1, strs_rev hS8, nodup_rev hT7.nodup, fun x => List.mem_reverse.symm, Ne.symm off.2.2.1⟩
        · refine Halt.mk (dv_list rfl (by k_asm) (by k_asm) (.tail _ (.tail _ (.head _))) hT7 hbn fun Bn vs2 c2 h7 tk7 F8 N8 l8 hS8 => ?_)
          exact Halt.mk ⟨h7, tk7, Bn, vs2, c2, oP1, rowsE n, rfl, rfl, F8, news_sub N8 (List.forall_mem_cons.mpr ⟨.tail _ (.head _), List.forall_mem_cons.mpr ⟨.tail _ (.tail _ (.head _)), List.forall_mem_cons.mpr ⟨.tail _ (.tail _ (.tail _ (.head _))), List.forall_mem_cons.mpr ⟨.tail _ (.tail _ (.tail _ (.tail _ (.head _)))), List.forall_mem_cons.mpr ⟨.tail _ (.tail _ (.tail _ (.tail _ (.tail _ (.head _))))), List.forall_mem_cons.mpr ⟨.head _, fun p hp => .tail _ (.tail _ (.tail _ (.tail _ (.tail _ (.tail _ hp)))))⟩⟩⟩⟩⟩⟩), hP1, hS8, hT7.nodup, fun _ => Iff.rfl, Nat.ne_of_gt (l8 _ (.head _))⟩
      · obtain ⟨h7, tk7, Bn, vn, cn, oP1, eks, rfl, rfl, F8, N8, hP8, hSn, hnd, hmem, hBD⟩ := hm.out
        clear hm
        have hlen : eks.length ≤ 8 := Nat.le_trans (nodup_len hnd fun x hx => (hmem x).mpr hx) (by rw [rowsE_len]; exact hn8)
        have hln : vn.length = eks.length := hSn.length
        have hszn : vn.toArray.size ≤ sizeLine := by rw [List.size_toArray, hln]; exact rg_line hlen
        obtain ⟨base, hbase⟩ : ∃ base, base = (D, oP1) :: (s1.heap.objs.size + 1, oc) :: (td, oT) :: (kd, oK) :: (ll, PySem.W.listOf vs.toArray c) :: (Bn, PySem.W.listOf vn.toArray cn) :: R := ⟨_, rfl⟩
        have bD : (D, oP1) ∈ base := hbase ▸ .head _
        have bcl : (s1.heap.objs.size + 1, oc) ∈ base := hbase ▸ .tail _ (.head _)
        have bT : (td, oT) ∈ base := hbase ▸ .tail _ (.tail _ (.head _))
        have bK : (kd, oK) ∈ base := hbase ▸ .tail _ (.tail _ (.tail _ (.head _)))
        have bL : (ll, PySem.W.listOf vs.toArray c) ∈ base := hbase ▸ .tail _ (.tail _ (.tail _ (.tail _ (.head _))))
        have bN : (Bn, PySem.W.listOf vn.toArray cn) ∈ base := hbase ▸ .tail _ (.tail _ (.tail _ (.tail _ (.tail _ (.head _)))))
        have bR : ∀ r ∈ R, r ∈ base := fun r hr => hbase ▸ .tail _ (.tail _ (.tail _ (.tail _ (.tail _ (.tail _ hr)))))
        rw [← hbase] at N8
        k_steps
        refine Halt.mk (LCg.CompSrc.ledger rfl (by k_asm) (by k_asm) bN hszn fun g' => ?_)
        refine comp_inv (fun i ys news' => TupsAre (EqV R ew ep eq) news' ys (eks.take i) ∧ ∀ p ∈ base, p ∈ news') ⟨.nil, fun p hp => hp⟩ ?_ ?_
        · intro i ys news' v' I oI C oC D' m₂ h tk E' hi hJ hv hC hx' F' N' o' ne'
          obtain ⟨hTu, hB⟩ := hJ
          obtain ⟨k, t, rfl, hk⟩ := strs_at hSn (by simpa using hv)
          have mcl := hB _ bcl
          have mT := hB _ bT
          have bI := fun p hp => Nat.ne_of_gt (Heap.lt_size (N' p hp).1)
          k_steps
          refine Halt.mk (dv_item (by k_asm) (.tail _ (.tail _ (.tail _ mT))) hT7 ((hmem k).mpr (List.mem_of_getElem? hk)) (fun v hv => ?_) (by with_unfolding_all rfl))
          k_steps
          rename Fr _ _ _ _ => Fz
          rename News _ _ _ _ => Nz
          exact LCg.CompEnd.intro Fz Nz ((_, _) :: news') (List.forall_mem_cons.mpr ⟨.tail _ (.head _), List.forall_mem_cons.mpr ⟨.tail _ (.tail _ (.head _)), List.forall_mem_cons.mpr ⟨.tail _ (.tail _ (.tail _ (.head _))), List.forall_mem_cons.mpr ⟨.head _, fun p hp => .tail _ (.tail _ (.tail _ (.tail _ hp)))⟩⟩⟩⟩) ⟨⟨bI _ (.head _), bI _ (.tail _ (.head _)), bI _ (.tail _ (.tail _ (.head _)))⟩, o'⟩ (.inr ⟨_, .tail _ (hB _ bN), rfl, _, rfl⟩)
            ⟨by rw [List.take_add_one, hk]; exact tups_snoc (hTu.mono fun r hr => .tail _ hr) (.head _) hv, fun p hp => .tail _ (hB p hp)⟩
        · intro ys news' hJ
          obtain ⟨hTu, hB⟩ := hJ
          rw [List.take_of_length_le (by rw [List.size_toArray, hln]; exact Nat.le_refl _)] at hTu
          k_steps
          refine Halt.mk (dv_pairs rfl (Top.nolimit T) (by k_asm) (by k_asm) (.head _) (hTu.mono fun r hr => .tail _ hr) hnd (rg_line hlen) fun ed eo h9 tk9 F9 N9 l9 hE => ?_)
          have N9 := news_sub (l' := (ed, eo) :: base) N9 (List.forall_mem_cons.mpr ⟨.head _, fun p hp => .tail _ (.tail _ (hB p hp))⟩)
          have lE : ∀ r ∈ base, r.1 < ed := fun r hr => l9 r (.tail _ (hB r hr))
          clear l9
          k_steps
          refine Halt.mk (scope_new B (by k_asm) X (by k_asm) T rfl (.head _) (by decide) (by decide) fun sc scd hh te h10 tk10 F10 N10 lS1 lS2 => ?_)
          k_steps
          refine Halt.mk (prog_new B (by k_asm) X (by k_asm) T rfl (by decide) (by decide) fun pg pgd q1 q2 q3 q4 u1 u2 u3 u4 v1 v2 v3 v4 h11 tk11 F11 N11 lP1 lP2 => ?_)
          k_steps
          obtain ⟨base2, hbase2⟩ : ∃ b, b = (pg, instObj 252 pgd) :: (pgd, dictOf [⟨q1, .str (Str.ofString "sections") u1, v1⟩, ⟨q2, .str (Str.ofString "names") u2, v2⟩, ⟨q3, .str (Str.ofString "equates") u3, v3⟩, ⟨q4, .str (Str.ofString "globals_") u4, v4⟩] 4) :: (sc, instObj 184 scd) :: (scd, dictOf [⟨hh, .str (Str.ofString "equates") te, .ref ed⟩] 1) :: (ed, eo) :: base := ⟨_, rfl⟩
          have mB : ∀ p ∈ base, p ∈ base2 := fun p hp => hbase2 ▸ .tail _ (.tail _ (.tail _ (.tail _ (.tail _ hp))))
          have cN := mB _ bN
          have cT := mB _ bT
          have ccl := mB _ bcl
          rename Fr _ _ _ _ => Fz
          rename News _ _ _ _ => Nz
          have Nz := news_drop Nz
          rw [← hbase2] at Nz
          refine Halt.mk (LCg.CompSrc.ledger rfl Fz Nz cN hszn fun g' => ?_)
          refine comp_inv (fun i ys news' => TupsAre (EqV R ew ep eq) news' ys (eks.take i) ∧ ∀ p ∈ base2, p ∈ news') ⟨.nil, fun p hp => hp⟩ ?_ ?_
          · intro i ys news' v' I oI C oC D' m₂ h tk E' hi hJ hv hC hx' F' N' o' ne'
            obtain ⟨hTu, hB⟩ := hJ
            obtain ⟨k, t, rfl, hk⟩ := strs_at hSn (by simpa using hv)
            have mcl := hB _ ccl
            have mT := hB _ cT
            have bI := fun p hp => Nat.ne_of_gt (Heap.lt_size (N' p hp).1)
            k_steps
            refine Halt.mk (dv_item (by k_asm) (.tail _ (.tail _ (.tail _ mT))) hT7 ((hmem k).mpr (List.mem_of_getElem? hk)) (fun v hv => ?_) (by with_unfolding_all rfl))
            k_steps
            rename Fr _ _ _ _ => Fz
            rename News _ _ _ _ => Nz
            exact LCg.CompEnd.intro Fz Nz ((_, _) :: news') (List.forall_mem_cons.mpr ⟨.tail _ (.head _), List.forall_mem_cons.mpr ⟨.tail _ (.tail _ (.head _)), List.forall_mem_cons.mpr ⟨.tail _ (.tail _ (.tail _ (.head _))), List.forall_mem_cons.mpr ⟨.head _, fun p hp => .tail _ (.tail _ (.tail _ (.tail _ hp)))⟩⟩⟩⟩) ⟨⟨bI _ (.head _), bI _ (.tail _ (.head _)), bI _ (.tail _ (.tail _ (.head _)))⟩, o'⟩ (.inr ⟨_, .tail _ (hB _ cN), rfl, _, rfl⟩)
              ⟨by rw [List.take_add_one, hk]; exact tups_snoc (hTu.mono fun r hr => .tail _ hr) (.head _) hv, fun p hp => .tail _ (hB p hp)⟩
          · intro ys news' hJ
            obtain ⟨hTu, hB⟩ := hJ
            rw [List.take_of_length_le (by rw [List.size_toArray, hln]; exact Nat.le_refl _)] at hTu
            k_steps
            refine Halt.mk (dv_pairs rfl (Top.nolimit T) (by k_asm) (by k_asm) (.head _) (hTu.mono fun r hr => .tail _ hr) hnd (rg_line hlen) fun ed2 eo2 h12 tk12 F12 N12 l12 hE2 => ?_)
            have N12 := news_sub (l' := (ed2, eo2) :: base2) N12 (List.forall_mem_cons.mpr ⟨.head _, fun p hp => .tail _ (.tail _ (hB p hp))⟩)
            have lE2 : ∀ r ∈ base2, r.1 < ed2 := fun r hr => l12 r (.tail _ (hB r hr))
            clear l12
            rw [hbase2] at N12
            k_steps
            have lE1 : scd < pgd ∧ sc < pgd ∧ ed < pgd ∧ ∀ r ∈ base, r.1 < pgd := ⟨lP1 _ (.tail _ (.head _)), lP1 _ (.head _), lP1 _ (.tail _ (.tail _ (.head _))), fun r hr => lP1 _ (.tail _ (.tail _ (.tail _ hr)))⟩
            have lEp : @LT.lt Nat _ pgd ed2 := by rw [hbase2] at lE2; exact lE2 _ (.tail _ (.head _))
            have N13 := news_sub (l' := (pgd, dictOf [⟨q1, .str (Str.ofString "sections") u1, v1⟩, ⟨q2, .str (Str.ofString "names") u2, v2⟩, ⟨q3, .str (Str.ofString "equates") u3, v3⟩, ⟨q4, .str (Str.ofString "globals_") u4, v4⟩] 4) :: (ed2, eo2) :: (pg, instObj 252 pgd) :: (sc, instObj 184 scd) :: (scd, dictOf [⟨hh, .str (Str.ofString "equates") te, .ref ed⟩] 1) :: (ed, eo) :: base) N12 (List.forall_mem_cons.mpr ⟨.tail _ (.tail _ (.head _)), List.forall_mem_cons.mpr ⟨.head _, List.forall_mem_cons.mpr ⟨.tail _ (.head _), fun p hp => .tail _ (.tail _ (.tail _ hp))⟩⟩⟩)
            refine' Halt.mk (set_dict ?k1 X N13 (InstAt.of_news N13 (.tail _ (.tail _ (.head _))) (.head _)) rfl ?k6 ?k7 ?k8 ?k9 ?k10 ?k11 (Upd.head (List.forall_mem_cons.mpr ⟨Nat.ne_of_gt lEp, List.forall_mem_cons.mpr ⟨Nat.ne_of_gt lP2, List.forall_mem_cons.mpr ⟨Nat.ne_of_lt lE1.2.1, List.forall_mem_cons.mpr ⟨Nat.ne_of_lt lE1.1, List.forall_mem_cons.mpr ⟨Nat.ne_of_lt lE1.2.2.1, fun p hp => Nat.ne_of_lt (lE1.2.2.2 p hp)⟩⟩⟩⟩⟩)) ?k13 ?_)
            case k1 => k_asm
            case k6 => k_is
            case k7 => k_is
            case k8 => k_is
            case k9 => k_is
            case k10 => k_get
            case k11 => k_put
            case k13 => exact Nat.le_of_ble_eq_true rfl
            intro h14 F14 N14
            obtain ⟨baseR, hbaseR⟩ : ∃ b, b = (s1.heap.objs.size + 1, oc) :: (td, oT) :: (kd, oK) :: (ll, PySem.W.listOf vs.toArray c) :: (Bn, PySem.W.listOf vn.toArray cn) :: R := ⟨_, rfl⟩
            have hbR : base = (D, oP1) :: baseR := by rw [hbase, hbaseR]
            obtain ⟨W, hW⟩ : ∃ W, W = (pgd, dictOf [⟨q1, .str (Str.ofString "sections") u1, v1⟩, ⟨q2, .str (Str.ofString "names") u2, v2⟩, ⟨q3, .str (Str.ofString "equates") u3, .ref ed2⟩, ⟨q4, .str (Str.ofString "globals_") u4, v4⟩] 4) :: (ed2, eo2) :: (pg, instObj 252 pgd) :: (sc, instObj 184 scd) :: (scd, dictOf [⟨hh, .str (Str.ofString "equates") te, .ref ed⟩] 1) :: (ed, eo) :: baseR := ⟨_, rfl⟩
            have wRb : ∀ r ∈ baseR, r ∈ W := fun r hr => hW ▸ .tail _ (.tail _ (.tail _ (.tail _ (.tail _ (.tail _ hr)))))
            have wR : ∀ r ∈ R, r ∈ W := fun r hr => wRb r (hbaseR ▸ .tail _ (.tail _ (.tail _ (.tail _ (.tail _ hr)))))
            have wK : (kd, oK) ∈ W := wRb _ (hbaseR ▸ .tail _ (.tail _ (.head _)))
            have wL : (ll, PySem.W.listOf vs.toArray c) ∈ W := wRb _ (hbaseR ▸ .tail _ (.tail _ (.tail _ (.head _))))
            have wPd : (pgd, dictOf [⟨q1, .str (Str.ofString "sections") u1, v1⟩, ⟨q2, .str (Str.ofString "names") u2, v2⟩, ⟨q3, .str (Str.ofString "equates") u3, .ref ed2⟩, ⟨q4, .str (Str.ofString "globals_") u4, v4⟩] 4) ∈ W := hW ▸ .head _
            have wE2 : (ed2, eo2) ∈ W := hW ▸ .tail _ (.head _)
            have wPg : (pg, instObj 252 pgd) ∈ W := hW ▸ .tail _ (.tail _ (.head _))
            have wSc : (sc, instObj 184 scd) ∈ W := hW ▸ .tail _ (.tail _ (.tail _ (.head _)))
            have wSd : (scd, dictOf [⟨hh, .str (Str.ofString "equates") te, .ref ed⟩] 1) ∈ W := hW ▸ .tail _ (.tail _ (.tail _ (.tail _ (.head _))))
            have wE : (ed, eo) ∈ W := hW ▸ .tail _ (.tail _ (.tail _ (.tail _ (.tail _ (.head _)))))
            have hDp : D < pgd := lE1.2.2.2 _ bD
            have hDs : D < scd := lS1 _ (.tail _ bD)
            have hbD : ∀ p ∈ baseR, p.1 ≠ D := by
              rw [hbaseR]
              exact List.forall_mem_cons.mpr ⟨hne7 _ (.head _), List.forall_mem_cons.mpr ⟨hne7 _ (.tail _ (.head _)), List.forall_mem_cons.mpr ⟨hne7 _ (.tail _ (.tail _ (.head _))), List.forall_mem_cons.mpr ⟨hne7 _ (.tail _ (.tail _ (.tail _ (.head _)))), List.forall_mem_cons.mpr ⟨hBD, fun p hp => hne7 _ (.tail _ (.tail _ (.tail _ (.tail _ hp))))⟩⟩⟩⟩⟩
            have hWD : ∀ p ∈ W, p.1 ≠ D := by
              rw [hW]
              exact List.forall_mem_cons.mpr ⟨Nat.ne_of_gt hDp, List.forall_mem_cons.mpr ⟨Nat.ne_of_gt (Nat.lt_trans hDp lEp), List.forall_mem_cons.mpr ⟨Nat.ne_of_gt (Nat.lt_trans hDp lP2), List.forall_mem_cons.mpr ⟨Nat.ne_of_gt (Nat.lt_trans hDs lS2), List.forall_mem_cons.mpr ⟨Nat.ne_of_gt hDs, List.forall_mem_cons.mpr ⟨Nat.ne_of_gt (lE _ bD), hbD⟩⟩⟩⟩⟩⟩
            have N15 : News s1.heap s1.heap.objs.size h14 ((D, oP1) :: W) := news_sub N14 (List.forall_mem_cons.mpr ⟨.tail _ (.tail _ (.tail _ (.tail _ (.tail _ (.tail _ bD))))), by
              rw [hW, hbR]
              exact fun p hp => by
                simp only [List.mem_cons] at hp ⊢
                rcases hp with h | h | h | h | h | h | h <;> simp only [h, true_or, or_true]⟩)
            clear N14 N13 N12
            have hSc : Scene eks ew ep eq Kn lost := hS7.perm hmem
            have hSi : Side eks ew ep eq := hSd.perm hmem
            have hemp : emp ∉ eks := fun h => emp_rows hn8 ((hmem _).mpr h)
            have hEW : ∀ y v, EqV R ew ep eq y v → EqV W ew ep eq y v := fun y v h => h.mono wR
            k_steps
            refine Halt.mk (For_turns (by k_asm) ?_)
            k_steps
            rename IsRange _ _ _ _ _ _ _ _ => hR3
            rename Fr _ _ _ _ => F15
            rename News _ _ _ _ => N16
            refine Halt.mk (for_rangeT (n := 4) (TurnJ n tv D kd ll sc pg W) rfl hR3 (by decide) (by decide) F15 N16 ⟨oP1, rfl, hP8, g1, g2, g3, g4, rfl, rfl⟩ (fun I oi i ti m₁ news₁ h tk hI hoi hi hne hJ F5 N5 => ?_) (fun m₁ news₁ h tk hJ F5 N5 => ?_))
            · obtain ⟨oP, rfl, hP, e1, e2, e3, e4, e5, e6⟩ := hJ
              have lID : @LT.lt Nat _ D I := hI _ (.head _)
              have neD : ∀ p ∈ (I, oi) :: W, p.1 ≠ D := List.forall_mem_cons.mpr ⟨Nat.ne_of_gt lID, hWD⟩
              k_steps
              refine Halt.mk (take_pen B (by k_asm) X (news_swap (by k_asm)) T rfl hP neD (by omega) (by decide) (by decide) (by decide) (by decide) (fun z tz' h6 tk6 oP4 F6 N6 hP1 v0 v1 => ?_))
              k_steps
              refine Halt.mk (name_ok B (by k_asm) X (by k_asm) T rfl hP1 neD (by omega) (by omega) (by decide) (by decide) (fun p tp h7 tk7 oP2 F7 N7 hP2' hp => ?_))
              k_steps
              refine Halt.mk (name_ok B (by k_asm) X (by k_asm) T rfl hP2' neD (by omega) (by omega) (by decide) (by decide) (fun q tq h8 tk8 oP3 F8 N8 hP3 hq => ?_))
              k_steps
              refine Halt.mk (aff_new B (by k_asm) X (by k_asm) T rfl (by decide) (by decide) (fun x d o h9 tk9 F9 N9 hA lA lB => ?_))
              have hpu := nrm_univ (q := q) (namesOf_univ hn8 hp)
              have hqu := nrm_univ (q := p) (namesOf_univ hn8 hq)
              have hpq := nrm_ne (p := p) (q := q)
              obtain ⟨pn, hpn⟩ : ∃ pn, pn = nrm p q := ⟨_, rfl⟩
              obtain ⟨qn, hqn⟩ : ∃ qn, qn = nrm q p := ⟨_, rfl⟩
              rw [← hpn, ← hqn] at hA hpq
              rw [← hpn] at hpu
              rw [← hqn] at hqu
              have hA0 := hA
              obtain ⟨k1, k2, k3, t1, t2, t3, tz2, tp2, tq2, ho⟩ := hA0
              subst ho
              k_steps
              refine Halt.mk (counts_ok B (by k_asm) X (by k_asm) T rfl (.tail _ (.tail _ (.tail _ (.tail _ wK)))) (hK7.weak fun k v _ ⟨d', o', r1, r2, r3⟩ => ⟨d', o', r1, .tail _ (.tail _ (.tail _ (.tail _ (wR _ r2)))), r3⟩) hpu hqu (by decide) (by decide) (fun Dn on h11 tk11 F11 N11 lD1 lD2 hC => ?_))
              k_steps
              refine Halt.mk (due_okQ B (by k_asm) X (by k_asm) T rfl (.head _) hC (by decide) (by decide) fun dv l h12 tk12 F12 N12 hl hDue => ?_)
              have mX := hl _ (.tail _ (.tail _ (.head _)))
              have mA := hl _ (.tail _ (.tail _ (.tail _ (.head _))))
              have mD := hl _ (.tail _ (.tail _ (.tail _ (.tail _ (.head _)))))
              have mI := hl _ (.tail _ (.tail _ (.tail _ (.tail _ (.tail _ (.head _))))))
              have mW : ∀ r ∈ W, r ∈ l := fun r hr => hl _ (.tail _ (.tail _ (.tail _ (.tail _ (.tail _ (.tail _ hr))))))
              have N13 := news_sub N12 (List.forall_mem_cons.mpr ⟨mX, List.forall_mem_cons.mpr ⟨mA, fun p hp => hp⟩⟩)
              clear N12
              rw [cnt_perm hmem] at hDue hC
              have fin : ∀ p ∈ (I, oi) :: (D, oP3) :: W, p ∈ l := List.forall_mem_cons.mpr ⟨mI, List.forall_mem_cons.mpr ⟨mD, mW⟩⟩
              have neI : ∀ p ∈ (D, oP3) :: W, p.1 ≠ I := List.forall_mem_cons.mpr ⟨Nat.ne_of_lt lID, fun p hp => hne p (.tail _ hp)⟩
              have hP9 : PenB (31 + 3 * ((i + 1 : Nat) : Int)) oP3 := hP3.mono (by omega)
              k_steps
              refine Halt.mk (wpAny_If ?_)
              k_steps
              refine Halt.mk (in_list_strs (vs := vs) (News.isList (by k_asm) (.tail _ (.tail _ (mW _ wL)))) hSt ?_)
              k_steps
              · rename List.any _ _ = true => ha
                refine Halt.mk (wpAny_If ?_)
                k_steps
                refine Halt.mk (heard_lost B (by k_asm) X (by k_asm) T rfl (.tail _ (.tail _ (mW _ wSc))) (.tail _ (.tail _ (mW _ wSd))) (.tail _ (.tail _ (mW _ wE))) (hE.weak fun y v _ h => h.mono fun r hr => .tail _ (.tail _ (mW r (wR r hr)))) hemp hSi hlen (.head _) (.tail _ (.head _)) hA hpq hpu hqu hSc (.inl (any_eq.mp ha)) (by decide) (by decide) fun h15 tk15 F17 N17 => ?_)
                k_steps
                refine Halt.mk (laid_lost B (by k_asm) X (by k_asm) T rfl (.tail _ (.tail _ (mW _ wPg))) (.tail _ (.tail _ (mW _ wPd))) (.tail _ (.tail _ (mW _ wE2))) (hE2.weak fun y v _ h => h.mono fun r hr => .tail _ (.tail _ (mW r (wR r hr)))) hemp hSi hlen (.head _) (.tail _ (.head _)) hA hpq hpu hqu hSc (.inl (any_eq.mp ha)) (by decide) (by decide) fun h16 tk16 tr F18 N18 => ?_)
                k_steps
                rename Fr _ _ _ _ => Fz
                rename News _ _ _ _ => Nz
                exact TurnR.next _ Fz (news_sub Nz fun p hp => .tail _ (.tail _ (fin p hp))) neI ⟨oP3, rfl, hP9, e1, e2, e3, e4, e5, e6⟩
              · rename List.any _ _ = false => ha1
                refine Halt.mk (in_list_strs (vs := vs) (News.isList (by k_asm) (.tail _ (.tail _ (mW _ wL)))) hSt ?_)
                k_steps
                · rename List.any _ _ = true => ha
                  refine Halt.mk (wpAny_If ?_)
                  k_steps
                  refine Halt.mk (heard_lost B (by k_asm) X (by k_asm) T rfl (.tail _ (.tail _ (mW _ wSc))) (.tail _ (.tail _ (mW _ wSd))) (.tail _ (.tail _ (mW _ wE))) (hE.weak fun y v _ h => h.mono fun r hr => .tail _ (.tail _ (mW r (wR r hr)))) hemp hSi hlen (.head _) (.tail _ (.head _)) hA hpq hpu hqu hSc (.inr (any_eq.mp ha)) (by decide) (by decide) fun h15 tk15 F17 N17 => ?_)
                  k_steps
                  refine Halt.mk (laid_lost B (by k_asm) X (by k_asm) T rfl (.tail _ (.tail _ (mW _ wPg))) (.tail _ (.tail _ (mW _ wPd))) (.tail _ (.tail _ (mW _ wE2))) (hE2.weak fun y v _ h => h.mono fun r hr => .tail _ (.tail _ (mW r (wR r hr)))) hemp hSi hlen (.head _) (.tail _ (.head _)) hA hpq hpu hqu hSc (.inr (any_eq.mp ha)) (by decide) (by decide) fun h16 tk16 tr F18 N18 => ?_)
                  k_steps
                  rename Fr _ _ _ _ => Fz
                  rename News _ _ _ _ => Nz
                  exact TurnR.next _ Fz (news_sub Nz fun p hp => .tail _ (.tail _ (fin p hp))) neI ⟨oP3, rfl, hP9, e1, e2, e3, e4, e5, e6⟩
                · rename List.any _ _ = false => ha2
                  refine Halt.mk (wpAny_If ?_)
                  k_steps
                  refine Halt.mk (heard_due B (by k_asm) X (by k_asm) T rfl (.tail _ (.tail _ (mW _ wSc))) (.tail _ (.tail _ (mW _ wSd))) (.tail _ (.tail _ (mW _ wE))) (hE.weak fun y v _ h => h.mono fun r hr => .tail _ (.tail _ (mW r (wR r hr)))) hemp hSi hlen (.head _) (.tail _ (.head _)) hA hpq hpu hqu hSc (any_ne ha1) (any_ne ha2) (by decide) (by decide) fun hv l3 h15 tk15 F17 N17 hl3 hD3 => ?_)
                  have lW3 : ∀ r ∈ W, r ∈ l3 := fun r hr => hl3 _ (.tail _ (.tail _ (mW r hr)))
                  k_steps
                  refine ne_due (by k_asm) hD3 (hDue.mono fun r hr => hl3 _ (.tail _ (.tail _ hr))) hC (by k_units) ?_
                  k_steps
                  refine Halt.mk (laid_due B (by k_asm) X (by k_asm) T rfl (lW3 _ wPg) (lW3 _ wPd) (lW3 _ wE2) (hE2.weak fun y v _ h => h.mono fun r hr => lW3 r (wR r hr)) hemp hSi hlen (hl3 _ (.head _)) (hl3 _ (.tail _ (.head _))) hA hpq hpu hqu hSc (any_ne ha1) (any_ne ha2) (by decide) (by decide) fun hv2 l4 h16 tk16 F18 N18 hl4 hD4 => ?_)
                  k_steps
                  refine ne_due (by k_asm) hD4 (hDue.mono fun r hr => hl4 _ (hl3 _ (.tail _ (.tail _ hr)))) hC (by k_units) ?_
                  k_steps
                  rename Fr _ _ _ _ => Fz
                  rename News _ _ _ _ => Nz
                  exact TurnR.next _ Fz (news_sub Nz fun p hp => hl4 _ (hl3 _ (.tail _ (.tail _ (fin p hp))))) neI ⟨oP3, rfl, hP9, e1, e2, e3, e4, e5, e6⟩
            · obtain ⟨oP, rfl, hP, e1, e2, e3, e4, e5, e6⟩ := hJ
              k_steps
end
end Mine
theorem PySem.Challenge.cw_qz0049_01_holds : PySem.Challenge.rw_qz0049_01.Holds :=
  Mine.law_all
