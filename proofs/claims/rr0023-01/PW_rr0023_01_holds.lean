import PyProof.Rows.All
import PyProof.DictUpdate
import PyProof.EqKinds
import PyProof.NeKinds
import PyProof.ExcClass2
import PyProof.ExcBaseAll.Exception
import PyProof.ExcInit
import PyProof.InstStoreFacts
import PyProof.Rows.CatchBare
import Open.Line
import OpenK.KTop
import KE.KDictIter
import KE.KEqDict
import KE.KIntText
import KE.KRevIter
import Wide.All
import PySem.Challenge.RW_rr0023_01
set_option Elab.async false
set_option linter.unusedVariables false
set_option maxRecDepth 100000
set_option maxHeartbeats 8000000
namespace Mine
open PySem PySem.W PyProof.Rows PySem.Calls
noncomputable def defAt (i : Nat) : Stmt := (PySem.Challenge.pw_rr0023_01.main.body[i]?).getD (.Pass ⟨0, 0, 0, 0⟩)
noncomputable def stq : Stmt → List Stmt × List Stmt × Arguments × Scope
  | .FunctionDef _ args body _ _ _ sc _ _ _ => (body, [], args, sc)
  | .ClassDef _ _ _ body _ _ sc _ _ _ _ => (body, [], { posonlyargs := [], args := [], vararg := none, kwonlyargs := [], kw_defaults := [], kwarg := none, defaults := [] }, sc)
  | .For _ _ body orelse _ => (body, orelse, { posonlyargs := [], args := [], vararg := none, kwonlyargs := [], kw_defaults := [], kwarg := none, defaults := [] }, { kind := .function, names := [], isGenerator := false, isCoroutine := false })
  | .If _ body orelse _ => (body, orelse, { posonlyargs := [], args := [], vararg := none, kwonlyargs := [], kw_defaults := [], kwarg := none, defaults := [] }, { kind := .function, names := [], isGenerator := false, isCoroutine := false })
  | .While _ body orelse _ => (body, orelse, { posonlyargs := [], args := [], vararg := none, kwonlyargs := [], kw_defaults := [], kwarg := none, defaults := [] }, { kind := .function, names := [], isGenerator := false, isCoroutine := false })
  | _ => ([], [], { posonlyargs := [], args := [], vararg := none, kwonlyargs := [], kw_defaults := [], kwarg := none, defaults := [] }, { kind := .function, names := [], isGenerator := false, isCoroutine := false })
noncomputable def bodyOf (s : Stmt) : List Stmt := (stq s).1
noncomputable def argsOf (s : Stmt) : Arguments := (stq s).2.2.1
noncomputable def scopeOf (s : Stmt) : Scope := (stq s).2.2.2
noncomputable def methAt (i j : Nat) : Stmt := ((bodyOf (defAt i))[j]?).getD (.Pass ⟨0, 0, 0, 0⟩)
noncomputable def headS (l : List Stmt) : Stmt := (l[0]?).getD (.Pass ⟨0, 0, 0, 0⟩)
noncomputable def forBody (l : List Stmt) : List Stmt := bodyOf (headS l)
noncomputable def orE (l : List Stmt) : List Stmt := (stq (headS l)).2.1
noncomputable def ob2 (P : Params) : Obj := ⟨.none, none, (.dict #[⟨PyData.keyHash P (Str.ofString "type.__subclasses__.Exception.0"), (.str (Str.ofString "type.__subclasses__.Exception.0") 212), (.int 31 0)⟩, ⟨PyData.keyHash P (Str.ofString "type.__subclasses__.Exception.n"), (.str (Str.ofString "type.__subclasses__.Exception.n") 213), (.int 1 0)⟩] 2), #[]⟩
noncomputable def ob3 (P : Params) : Obj := ⟨(.type "dict"), none, (.dict #[⟨PyData.keyHash P (Str.ofString "__name__"), (.str (Str.ofString "__name__") 165), (.str (Str.ofString "law_rr0023_01") 712)⟩, ⟨PyData.keyHash P (Str.ofString "__doc__"), (.str (Str.ofString "__doc__") 166), .none⟩, ⟨PyData.keyHash P (Str.ofString "__package__"), (.str (Str.ofString "__package__") 167), .none⟩, ⟨PyData.keyHash P (Str.ofString "__loader__"), (.str (Str.ofString "__loader__") 168), (.builtin "__main__.__loader__#opaque")⟩, ⟨PyData.keyHash P (Str.ofString "__spec__"), (.str (Str.ofString "__spec__") 169), .none⟩, ⟨PyData.keyHash P (Str.ofString "__annotations__"), (.str (Str.ofString "__annotations__") 170), (.ref 6)⟩, ⟨PyData.keyHash P (Str.ofString "__builtins__"), (.str (Str.ofString "__builtins__") 171), (.ref 4)⟩, ⟨PyData.keyHash P (Str.ofString "__file__"), (.str (Str.ofString "__file__") 173), (.str (Str.ofString "/claim/cut.py") 172)⟩, ⟨PyData.keyHash P (Str.ofString "__cached__"), (.str (Str.ofString "__cached__") 174), .none⟩, ⟨PyData.keyHash P (Str.ofString "_wall"), (.str (Str.ofString "_wall") 193), (.ref 21)⟩, ⟨PyData.keyHash P (Str.ofString "ClausemillError"), (.str (Str.ofString "ClausemillError") 215), (.ref 31)⟩, ⟨PyData.keyHash P (Str.ofString "LinkFault"), (.str (Str.ofString "LinkFault") 241), (.ref 52)⟩, ⟨PyData.keyHash P (Str.ofString "fixed_atoms"), (.str (Str.ofString "fixed_atoms") 247), (.ref 61)⟩, ⟨PyData.keyHash P (Str.ofString "fixed_functors"), (.str (Str.ofString "fixed_functors") 253), (.ref 68)⟩, ⟨PyData.keyHash P (Str.ofString "Symbols"), (.str (Str.ofString "Symbols") 373), (.ref 155)⟩, ⟨PyData.keyHash P (Str.ofString "CON"), (.str (Str.ofString "CON") 375), (.int 4 374)⟩, ⟨PyData.keyHash P (Str.ofString "INT"), (.str (Str.ofString "INT") 377), (.int 5 376)⟩, ⟨PyData.keyHash P (Str.ofString "is_digit"), (.str (Str.ofString "is_digit") 386), (.ref 166)⟩, ⟨PyData.keyHash P (Str.ofString "is_small"), (.str (Str.ofString "is_small") 393), (.ref 173)⟩, ⟨PyData.keyHash P (Str.ofString "is_capital"), (.str (Str.ofString "is_capital") 400), (.ref 180)⟩, ⟨PyData.keyHash P (Str.ofString "is_alnum"), (.str (Str.ofString "is_alnum") 407), (.ref 187)⟩, ⟨PyData.keyHash P (Str.ofString "number_text"), (.str (Str.ofString "number_text") 417), (.ref 194)⟩, ⟨PyData.keyHash P (Str.ofString "is_alnum_name"), (.str (Str.ofString "is_alnum_name") 425), (.ref 201)⟩, ⟨PyData.keyHash P (Str.ofString "shapes"), (.str (Str.ofString "shapes") 433), (.ref 208)⟩, ⟨PyData.keyHash P (Str.ofString "is_whole"), (.str (Str.ofString "is_whole") 440), (.ref 215)⟩, ⟨PyData.keyHash P (Str.ofString "is_pair"), (.str (Str.ofString "is_pair") 447), (.ref 222)⟩, ⟨PyData.keyHash P (Str.ofString "is_register"), (.str (Str.ofString "is_register") 455), (.ref 229)⟩, ⟨PyData.keyHash P (Str.ofString "is_constant"), (.str (Str.ofString "is_constant") 462), (.ref 236)⟩, ⟨PyData.keyHash P (Str.ofString "is_functor"), (.str (Str.ofString "is_functor") 469), (.ref 243)⟩, ⟨PyData.keyHash P (Str.ofString "is_target"), (.str (Str.ofString "is_target") 477), (.ref 250)⟩, ⟨PyData.keyHash P (Str.ofString "is_key"), (.str (Str.ofString "is_key") 485), (.ref 257)⟩, ⟨PyData.keyHash P (Str.ofString "is_table"), (.str (Str.ofString "is_table") 496), (.ref 264)⟩, ⟨PyData.keyHash P (Str.ofString "is_operand"), (.str (Str.ofString "is_operand") 505), (.ref 271)⟩, ⟨PyData.keyHash P (Str.ofString "check_row"), (.str (Str.ofString "check_row") 517), (.ref 278)⟩, ⟨PyData.keyHash P (Str.ofString "code_digits"), (.str (Str.ofString "code_digits") 526), (.ref 285)⟩, ⟨PyData.keyHash P (Str.ofString "quoted_name"), (.str (Str.ofString "quoted_name") 535), (.ref 292)⟩, ⟨PyData.keyHash P (Str.ofString "read_code"), (.str (Str.ofString "read_code") 546), (.ref 299)⟩, ⟨PyData.keyHash P (Str.ofString "unquoted_name"), (.str (Str.ofString "unquoted_name") 558), (.ref 306)⟩, ⟨PyData.keyHash P (Str.ofString "constant_text"), (.str (Str.ofString "constant_text") 566), (.ref 313)⟩, ⟨PyData.keyHash P (Str.ofString "functor_text"), (.str (Str.ofString "functor_text") 574), (.ref 320)⟩, ⟨PyData.keyHash P (Str.ofString "table_words"), (.str (Str.ofString "table_words") 586), (.ref 327)⟩, ⟨PyData.keyHash P (Str.ofString "instruction_words"), (.str (Str.ofString "instruction_words") 600), (.ref 334)⟩, ⟨PyData.keyHash P (Str.ofString "listing"), (.str (Str.ofString "listing") 614), (.ref 342)⟩, ⟨PyData.keyHash P (Str.ofString "split_row"), (.str (Str.ofString "split_row") 623), (.ref 349)⟩, ⟨PyData.keyHash P (Str.ofString "read_count"), (.str (Str.ofString "read_count") 634), (.ref 356)⟩, ⟨PyData.keyHash P (Str.ofString "read_constant"), (.str (Str.ofString "read_constant") 643), (.ref 363)⟩, ⟨PyData.keyHash P (Str.ofString "read_functor"), (.str (Str.ofString "read_functor") 653), (.ref 370)⟩, ⟨PyData.keyHash P (Str.ofString "read_register"), (.str (Str.ofString "read_register") 660), (.ref 377)⟩, ⟨PyData.keyHash P (Str.ofString "read_table"), (.str (Str.ofString "read_table") 674), (.ref 384)⟩, ⟨PyData.keyHash P (Str.ofString "read_operand"), (.str (Str.ofString "read_operand") 683), (.ref 391)⟩, ⟨PyData.keyHash P (Str.ofString "read_instruction"), (.str (Str.ofString "read_instruction") 697), (.ref 398)⟩, ⟨PyData.keyHash P (Str.ofString "read_listing"), (.str (Str.ofString "read_listing") 711), (.ref 405)⟩, ⟨PyData.keyHash P (Str.ofString "_law_figures"), (.str (Str.ofString "_law_figures") 724), (.ref 412)⟩, ⟨PyData.keyHash P (Str.ofString "_law_draw"), (.str (Str.ofString "_law_draw") 732), (.ref 419)⟩, ⟨PyData.keyHash P (Str.ofString "_law_name"), (.str (Str.ofString "_law_name") 741), (.ref 426)⟩, ⟨PyData.keyHash P (Str.ofString "_law_constant"), (.str (Str.ofString "_law_constant") 749), (.ref 433)⟩, ⟨PyData.keyHash P (Str.ofString "_law_row_drawn"), (.str (Str.ofString "_law_row_drawn") 761), (.ref 440)⟩, ⟨PyData.keyHash P (Str.ofString "_law_refused"), (.str (Str.ofString "_law_refused") 769), (.ref 447)⟩, ⟨PyData.keyHash P (Str.ofString "law"), (.str (Str.ofString "law") 788), (.ref 454)⟩] 59), #[]⟩
noncomputable def ob30 (P : Params) : Obj := ⟨(.type "dict"), none, (.dict #[⟨PyData.keyHash P (Str.ofString "__module__"), (.str (Str.ofString "__module__") 203), (.str (Str.ofString "clausemill.symbols") 194)⟩, ⟨PyData.keyHash P (Str.ofString "__firstlineno__"), (.str (Str.ofString "__firstlineno__") 207), (.int 5 206)⟩, ⟨PyData.keyHash P (Str.ofString "__static_attributes__"), (.str (Str.ofString "__static_attributes__") 208), (.ref 29)⟩, ⟨PyData.keyHash P (Str.ofString "__weakref__"), (.str (Str.ofString "__weakref__") 210), (.ref 32)⟩, ⟨PyData.keyHash P (Str.ofString "__doc__"), (.str (Str.ofString "__doc__") 211), .none⟩] 3), #[]⟩
noncomputable def ob31 : Obj := ⟨(.type "type"), none, (.cls { name := (Str.ofString "ClausemillError"), bases := [(.type "Exception")], mro := [(.ref 31), (.type "Exception"), (.type "BaseException"), (.type "object")], ns := 30, qualname := (Str.ofString "ClausemillError"), hasDict := true, slotNames := [], subclasses := [(.ref 52)], abstract := false, collection := none, hasDel := false }), #[(some (.ref 22)), none, (some (.str (Str.ofString "ClausemillError") 196)), (some (.str (Str.ofString "ClausemillError") 204)), (some (.builtin "Exception.__new__")), (some (.bool true))]⟩
noncomputable def ob42 : Obj := ⟨(.type "tuple"), none, (.seq #[(.str (Str.ofString "") 228)] 0), #[]⟩
noncomputable def ob48 : Obj := ⟨(.type "code"), none, (.fields #[(.str (Str.ofString "__init__") 229), (.str (Str.ofString "LinkFault.__init__") 230), (.str (Str.ofString "/claim/cut.py") 231), (.int 9 0), (.int 2 0), (.int 0 0), (.int 0 0), (.int 3 0), (.ref 43), (.bool true), (.int 181 0), (.ref 44), .none, (.ref 45), (.ref 46), (.ref 47), (.int 234 0), (.int 9 0), (.str (Str.ofString "/claim/cut.py") 235)]), #[]⟩
noncomputable def ob49 : Obj := ⟨(.type "function"), none, (.func (fnOf (Str.ofString "__init__") (Str.ofString "LinkFault.__init__") (argsOf (methAt 3 0)) (bodyOf (methAt 3 0)) (scopeOf (methAt 3 0)) (.ref 42) .none .none (.str (Str.ofString "clausemill.symbols") 194) none (.ref 48) .none)), #[]⟩
noncomputable def ob51 (P : Params) : Obj := ⟨(.type "dict"), none, (.dict #[⟨PyData.keyHash P (Str.ofString "__module__"), (.str (Str.ofString "__module__") 223), (.str (Str.ofString "clausemill.symbols") 194)⟩, ⟨PyData.keyHash P (Str.ofString "__firstlineno__"), (.str (Str.ofString "__firstlineno__") 227), (.int 7 226)⟩, ⟨PyData.keyHash P (Str.ofString "__init__"), (.str (Str.ofString "__init__") 236), (.ref 49)⟩, ⟨PyData.keyHash P (Str.ofString "__static_attributes__"), (.str (Str.ofString "__static_attributes__") 238), (.ref 50)⟩, ⟨PyData.keyHash P (Str.ofString "__doc__"), (.str (Str.ofString "__doc__") 239), .none⟩] 2), #[]⟩
noncomputable def ob52 : Obj := ⟨(.type "type"), none, (.cls { name := (Str.ofString "LinkFault"), bases := [(.ref 31)], mro := [(.ref 52), (.ref 31), (.type "Exception"), (.type "BaseException"), (.type "object")], ns := 51, qualname := (Str.ofString "LinkFault"), hasDict := true, slotNames := [], subclasses := [], abstract := false, collection := none, hasDel := false }), #[(some (.ref 35)), none, (some (.str (Str.ofString "LinkFault") 216)), (some (.str (Str.ofString "LinkFault") 224)), (some (.builtin "Exception.__new__")), (some (.bool true))]⟩
noncomputable def ob60 : Obj := ⟨(.type "code"), none, (.fields #[(.str (Str.ofString "fixed_atoms") 242), (.str (Str.ofString "fixed_atoms") 243), (.str (Str.ofString "/claim/cut.py") 244), (.int 11 0), (.int 0 0), (.int 0 0), (.int 0 0), (.int 3 0), (.ref 55), (.bool true), (.int 181 0), (.ref 56), .none, (.ref 57), (.ref 58), (.ref 59), (.int 245 0), (.int 11 0), (.str (Str.ofString "/claim/cut.py") 246)]), #[]⟩
noncomputable def ob61 : Obj := ⟨(.type "function"), none, (.func (fnOf (Str.ofString "fixed_atoms") (Str.ofString "fixed_atoms") (argsOf (defAt 4)) (bodyOf (defAt 4)) (scopeOf (defAt 4)) .none .none .none (.str (Str.ofString "clausemill.symbols") 194) none (.ref 60) .none)), #[]⟩
noncomputable def ob67 : Obj := ⟨(.type "code"), none, (.fields #[(.str (Str.ofString "fixed_functors") 248), (.str (Str.ofString "fixed_functors") 249), (.str (Str.ofString "/claim/cut.py") 250), (.int 13 0), (.int 0 0), (.int 0 0), (.int 0 0), (.int 3 0), (.ref 62), (.bool true), (.int 181 0), (.ref 63), .none, (.ref 64), (.ref 65), (.ref 66), (.int 251 0), (.int 13 0), (.str (Str.ofString "/claim/cut.py") 252)]), #[]⟩
noncomputable def ob68 : Obj := ⟨(.type "function"), none, (.func (fnOf (Str.ofString "fixed_functors") (Str.ofString "fixed_functors") (argsOf (defAt 5)) (bodyOf (defAt 5)) (scopeOf (defAt 5)) .none .none .none (.str (Str.ofString "clausemill.symbols") 194) none (.ref 67) .none)), #[]⟩
noncomputable def ob81 : Obj := ⟨(.type "code"), none, (.fields #[(.str (Str.ofString "__init__") 266), (.str (Str.ofString "Symbols.__init__") 267), (.str (Str.ofString "/claim/cut.py") 268), (.int 17 0), (.int 1 0), (.int 0 0), (.int 0 0), (.int 3 0), (.ref 76), (.bool true), (.int 181 0), (.ref 77), .none, (.ref 78), (.ref 79), (.ref 80), (.int 272 0), (.int 17 0), (.str (Str.ofString "/claim/cut.py") 273)]), #[]⟩
noncomputable def ob82 : Obj := ⟨(.type "function"), none, (.func (fnOf (Str.ofString "__init__") (Str.ofString "Symbols.__init__") (argsOf (methAt 6 0)) (bodyOf (methAt 6 0)) (scopeOf (methAt 6 0)) .none .none .none (.str (Str.ofString "clausemill.symbols") 194) none (.ref 81) .none)), #[]⟩
noncomputable def ob88 : Obj := ⟨(.type "code"), none, (.fields #[(.str (Str.ofString "atom") 275), (.str (Str.ofString "Symbols.atom") 276), (.str (Str.ofString "/claim/cut.py") 277), (.int 27 0), (.int 2 0), (.int 0 0), (.int 0 0), (.int 3 0), (.ref 83), (.bool true), (.int 181 0), (.ref 84), .none, (.ref 85), (.ref 86), (.ref 87), (.int 282 0), (.int 27 0), (.str (Str.ofString "/claim/cut.py") 283)]), #[]⟩
noncomputable def ob89 : Obj := ⟨(.type "function"), none, (.func (fnOf (Str.ofString "atom") (Str.ofString "Symbols.atom") (argsOf (methAt 6 1)) (bodyOf (methAt 6 1)) (scopeOf (methAt 6 1)) .none .none .none (.str (Str.ofString "clausemill.symbols") 194) none (.ref 88) .none)), #[]⟩
noncomputable def ob95 : Obj := ⟨(.type "code"), none, (.fields #[(.str (Str.ofString "text") 285), (.str (Str.ofString "Symbols.text") 286), (.str (Str.ofString "/claim/cut.py") 287), (.int 36 0), (.int 2 0), (.int 0 0), (.int 0 0), (.int 3 0), (.ref 90), (.bool true), (.int 181 0), (.ref 91), .none, (.ref 92), (.ref 93), (.ref 94), (.int 290 0), (.int 36 0), (.str (Str.ofString "/claim/cut.py") 291)]), #[]⟩
noncomputable def ob96 : Obj := ⟨(.type "function"), none, (.func (fnOf (Str.ofString "text") (Str.ofString "Symbols.text") (argsOf (methAt 6 2)) (bodyOf (methAt 6 2)) (scopeOf (methAt 6 2)) .none .none .none (.str (Str.ofString "clausemill.symbols") 194) none (.ref 95) .none)), #[]⟩
noncomputable def ob102 : Obj := ⟨(.type "code"), none, (.fields #[(.str (Str.ofString "functor") 293), (.str (Str.ofString "Symbols.functor") 294), (.str (Str.ofString "/claim/cut.py") 295), (.int 39 0), (.int 3 0), (.int 0 0), (.int 0 0), (.int 3 0), (.ref 97), (.bool true), (.int 181 0), (.ref 98), .none, (.ref 99), (.ref 100), (.ref 101), (.int 302 0), (.int 39 0), (.str (Str.ofString "/claim/cut.py") 303)]), #[]⟩
noncomputable def ob103 : Obj := ⟨(.type "function"), none, (.func (fnOf (Str.ofString "functor") (Str.ofString "Symbols.functor") (argsOf (methAt 6 3)) (bodyOf (methAt 6 3)) (scopeOf (methAt 6 3)) .none .none .none (.str (Str.ofString "clausemill.symbols") 194) none (.ref 102) .none)), #[]⟩
noncomputable def ob109 : Obj := ⟨(.type "code"), none, (.fields #[(.str (Str.ofString "func") 305), (.str (Str.ofString "Symbols.func") 306), (.str (Str.ofString "/claim/cut.py") 307), (.int 49 0), (.int 3 0), (.int 0 0), (.int 0 0), (.int 3 0), (.ref 104), (.bool true), (.int 181 0), (.ref 105), .none, (.ref 106), (.ref 107), (.ref 108), (.int 311 0), (.int 49 0), (.str (Str.ofString "/claim/cut.py") 312)]), #[]⟩
noncomputable def ob110 : Obj := ⟨(.type "function"), none, (.func (fnOf (Str.ofString "func") (Str.ofString "Symbols.func") (argsOf (methAt 6 4)) (bodyOf (methAt 6 4)) (scopeOf (methAt 6 4)) .none .none .none (.str (Str.ofString "clausemill.symbols") 194) none (.ref 109) .none)), #[]⟩
noncomputable def ob116 : Obj := ⟨(.type "code"), none, (.fields #[(.str (Str.ofString "name") 314), (.str (Str.ofString "Symbols.name") 315), (.str (Str.ofString "/claim/cut.py") 316), (.int 52 0), (.int 2 0), (.int 0 0), (.int 0 0), (.int 3 0), (.ref 111), (.bool true), (.int 181 0), (.ref 112), .none, (.ref 113), (.ref 114), (.ref 115), (.int 319 0), (.int 52 0), (.str (Str.ofString "/claim/cut.py") 320)]), #[]⟩
noncomputable def ob117 : Obj := ⟨(.type "function"), none, (.func (fnOf (Str.ofString "name") (Str.ofString "Symbols.name") (argsOf (methAt 6 5)) (bodyOf (methAt 6 5)) (scopeOf (methAt 6 5)) .none .none .none (.str (Str.ofString "clausemill.symbols") 194) none (.ref 116) .none)), #[]⟩
noncomputable def ob123 : Obj := ⟨(.type "code"), none, (.fields #[(.str (Str.ofString "arity") 322), (.str (Str.ofString "Symbols.arity") 323), (.str (Str.ofString "/claim/cut.py") 324), (.int 55 0), (.int 2 0), (.int 0 0), (.int 0 0), (.int 3 0), (.ref 118), (.bool true), (.int 181 0), (.ref 119), .none, (.ref 120), (.ref 121), (.ref 122), (.int 327 0), (.int 55 0), (.str (Str.ofString "/claim/cut.py") 328)]), #[]⟩
noncomputable def ob124 : Obj := ⟨(.type "function"), none, (.func (fnOf (Str.ofString "arity") (Str.ofString "Symbols.arity") (argsOf (methAt 6 6)) (bodyOf (methAt 6 6)) (scopeOf (methAt 6 6)) .none .none .none (.str (Str.ofString "clausemill.symbols") 194) none (.ref 123) .none)), #[]⟩
noncomputable def ob137 : Obj := ⟨(.type "code"), none, (.fields #[(.str (Str.ofString "count") 339), (.str (Str.ofString "Symbols.count") 340), (.str (Str.ofString "/claim/cut.py") 341), (.int 62 0), (.int 1 0), (.int 0 0), (.int 0 0), (.int 3 0), (.ref 132), (.bool true), (.int 181 0), (.ref 133), .none, (.ref 134), (.ref 135), (.ref 136), (.int 343 0), (.int 62 0), (.str (Str.ofString "/claim/cut.py") 344)]), #[]⟩
noncomputable def ob138 : Obj := ⟨(.type "function"), none, (.func (fnOf (Str.ofString "count") (Str.ofString "Symbols.count") (argsOf (methAt 6 8)) (bodyOf (methAt 6 8)) (scopeOf (methAt 6 8)) .none .none .none (.str (Str.ofString "clausemill.symbols") 194) none (.ref 137) .none)), #[]⟩
noncomputable def ob144 : Obj := ⟨(.type "code"), none, (.fields #[(.str (Str.ofString "functor_count") 346), (.str (Str.ofString "Symbols.functor_count") 347), (.str (Str.ofString "/claim/cut.py") 348), (.int 65 0), (.int 1 0), (.int 0 0), (.int 0 0), (.int 3 0), (.ref 139), (.bool true), (.int 181 0), (.ref 140), .none, (.ref 141), (.ref 142), (.ref 143), (.int 350 0), (.int 65 0), (.str (Str.ofString "/claim/cut.py") 351)]), #[]⟩
noncomputable def ob145 : Obj := ⟨(.type "function"), none, (.func (fnOf (Str.ofString "functor_count") (Str.ofString "Symbols.functor_count") (argsOf (methAt 6 9)) (bodyOf (methAt 6 9)) (scopeOf (methAt 6 9)) .none .none .none (.str (Str.ofString "clausemill.symbols") 194) none (.ref 144) .none)), #[]⟩
noncomputable def ob154 (P : Params) : Obj := ⟨(.type "dict"), none, (.dict #[⟨PyData.keyHash P (Str.ofString "__module__"), (.str (Str.ofString "__module__") 261), (.str (Str.ofString "clausemill.symbols") 194)⟩, ⟨PyData.keyHash P (Str.ofString "__firstlineno__"), (.str (Str.ofString "__firstlineno__") 265), (.int 15 264)⟩, ⟨PyData.keyHash P (Str.ofString "__init__"), (.str (Str.ofString "__init__") 274), (.ref 82)⟩, ⟨PyData.keyHash P (Str.ofString "atom"), (.str (Str.ofString "atom") 284), (.ref 89)⟩, ⟨PyData.keyHash P (Str.ofString "text"), (.str (Str.ofString "text") 292), (.ref 96)⟩, ⟨PyData.keyHash P (Str.ofString "functor"), (.str (Str.ofString "functor") 304), (.ref 103)⟩, ⟨PyData.keyHash P (Str.ofString "func"), (.str (Str.ofString "func") 313), (.ref 110)⟩, ⟨PyData.keyHash P (Str.ofString "name"), (.str (Str.ofString "name") 321), (.ref 117)⟩, ⟨PyData.keyHash P (Str.ofString "arity"), (.str (Str.ofString "arity") 329), (.ref 124)⟩, ⟨PyData.keyHash P (Str.ofString "label"), (.str (Str.ofString "label") 338), (.ref 131)⟩, ⟨PyData.keyHash P (Str.ofString "count"), (.str (Str.ofString "count") 345), (.ref 138)⟩, ⟨PyData.keyHash P (Str.ofString "functor_count"), (.str (Str.ofString "functor_count") 352), (.ref 145)⟩, ⟨PyData.keyHash P (Str.ofString "known"), (.str (Str.ofString "known") 361), (.ref 152)⟩, ⟨PyData.keyHash P (Str.ofString "__static_attributes__"), (.str (Str.ofString "__static_attributes__") 366), (.ref 153)⟩, ⟨PyData.keyHash P (Str.ofString "__dict__"), (.str (Str.ofString "__dict__") 368), (.ref 156)⟩, ⟨PyData.keyHash P (Str.ofString "__weakref__"), (.str (Str.ofString "__weakref__") 370), (.ref 157)⟩, ⟨PyData.keyHash P (Str.ofString "__doc__"), (.str (Str.ofString "__doc__") 371), .none⟩] 4), #[]⟩
noncomputable def ob155 : Obj := ⟨(.type "type"), none, (.cls { name := (Str.ofString "Symbols"), bases := [(.type "object")], mro := [(.ref 155), (.type "object")], ns := 154, qualname := (Str.ofString "Symbols"), hasDict := true, slotNames := [], subclasses := [], abstract := false, collection := none, hasDel := false }), #[none, none, (some (.str (Str.ofString "Symbols") 254)), (some (.str (Str.ofString "Symbols") 262)), (some (.builtin "object.__new__")), (some (.bool true))]⟩
noncomputable def ob165 : Obj := ⟨(.type "code"), none, (.fields #[(.str (Str.ofString "is_digit") 380), (.str (Str.ofString "is_digit") 381), (.str (Str.ofString "/claim/cut.py") 382), (.int 73 0), (.int 1 0), (.int 0 0), (.int 0 0), (.int 3 0), (.ref 160), (.bool true), (.int 181 0), (.ref 161), .none, (.ref 162), (.ref 163), (.ref 164), (.int 384 0), (.int 73 0), (.str (Str.ofString "/claim/cut.py") 385)]), #[]⟩
noncomputable def ob166 : Obj := ⟨(.type "function"), none, (.func (fnOf (Str.ofString "is_digit") (Str.ofString "is_digit") (argsOf (defAt 10)) (bodyOf (defAt 10)) (scopeOf (defAt 10)) .none .none .none (.str (Str.ofString "clausemill.chars") 378) none (.ref 165) .none)), #[]⟩
noncomputable def ob172 : Obj := ⟨(.type "code"), none, (.fields #[(.str (Str.ofString "is_small") 387), (.str (Str.ofString "is_small") 388), (.str (Str.ofString "/claim/cut.py") 389), (.int 75 0), (.int 1 0), (.int 0 0), (.int 0 0), (.int 3 0), (.ref 167), (.bool true), (.int 181 0), (.ref 168), .none, (.ref 169), (.ref 170), (.ref 171), (.int 391 0), (.int 75 0), (.str (Str.ofString "/claim/cut.py") 392)]), #[]⟩
noncomputable def ob173 : Obj := ⟨(.type "function"), none, (.func (fnOf (Str.ofString "is_small") (Str.ofString "is_small") (argsOf (defAt 11)) (bodyOf (defAt 11)) (scopeOf (defAt 11)) .none .none .none (.str (Str.ofString "clausemill.chars") 378) none (.ref 172) .none)), #[]⟩
noncomputable def ob179 : Obj := ⟨(.type "code"), none, (.fields #[(.str (Str.ofString "is_capital") 394), (.str (Str.ofString "is_capital") 395), (.str (Str.ofString "/claim/cut.py") 396), (.int 77 0), (.int 1 0), (.int 0 0), (.int 0 0), (.int 3 0), (.ref 174), (.bool true), (.int 181 0), (.ref 175), .none, (.ref 176), (.ref 177), (.ref 178), (.int 398 0), (.int 77 0), (.str (Str.ofString "/claim/cut.py") 399)]), #[]⟩
noncomputable def ob180 : Obj := ⟨(.type "function"), none, (.func (fnOf (Str.ofString "is_capital") (Str.ofString "is_capital") (argsOf (defAt 12)) (bodyOf (defAt 12)) (scopeOf (defAt 12)) .none .none .none (.str (Str.ofString "clausemill.chars") 378) none (.ref 179) .none)), #[]⟩
noncomputable def ob186 : Obj := ⟨(.type "code"), none, (.fields #[(.str (Str.ofString "is_alnum") 401), (.str (Str.ofString "is_alnum") 402), (.str (Str.ofString "/claim/cut.py") 403), (.int 79 0), (.int 1 0), (.int 0 0), (.int 0 0), (.int 3 0), (.ref 181), (.bool true), (.int 181 0), (.ref 182), .none, (.ref 183), (.ref 184), (.ref 185), (.int 405 0), (.int 79 0), (.str (Str.ofString "/claim/cut.py") 406)]), #[]⟩
noncomputable def ob187 : Obj := ⟨(.type "function"), none, (.func (fnOf (Str.ofString "is_alnum") (Str.ofString "is_alnum") (argsOf (defAt 13)) (bodyOf (defAt 13)) (scopeOf (defAt 13)) .none .none .none (.str (Str.ofString "clausemill.chars") 378) none (.ref 186) .none)), #[]⟩
noncomputable def ob193 : Obj := ⟨(.type "code"), none, (.fields #[(.str (Str.ofString "number_text") 408), (.str (Str.ofString "number_text") 409), (.str (Str.ofString "/claim/cut.py") 410), (.int 81 0), (.int 1 0), (.int 0 0), (.int 0 0), (.int 3 0), (.ref 188), (.bool true), (.int 181 0), (.ref 189), .none, (.ref 190), (.ref 191), (.ref 192), (.int 415 0), (.int 81 0), (.str (Str.ofString "/claim/cut.py") 416)]), #[]⟩
noncomputable def ob194 : Obj := ⟨(.type "function"), none, (.func (fnOf (Str.ofString "number_text") (Str.ofString "number_text") (argsOf (defAt 14)) (bodyOf (defAt 14)) (scopeOf (defAt 14)) .none .none .none (.str (Str.ofString "clausemill.chars") 378) none (.ref 193) .none)), #[]⟩
noncomputable def ob200 : Obj := ⟨(.type "code"), none, (.fields #[(.str (Str.ofString "is_alnum_name") 418), (.str (Str.ofString "is_alnum_name") 419), (.str (Str.ofString "/claim/cut.py") 420), (.int 91 0), (.int 1 0), (.int 0 0), (.int 0 0), (.int 3 0), (.ref 195), (.bool true), (.int 181 0), (.ref 196), .none, (.ref 197), (.ref 198), (.ref 199), (.int 423 0), (.int 91 0), (.str (Str.ofString "/claim/cut.py") 424)]), #[]⟩
noncomputable def ob201 : Obj := ⟨(.type "function"), none, (.func (fnOf (Str.ofString "is_alnum_name") (Str.ofString "is_alnum_name") (argsOf (defAt 15)) (bodyOf (defAt 15)) (scopeOf (defAt 15)) .none .none .none (.str (Str.ofString "clausemill.chars") 378) none (.ref 200) .none)), #[]⟩
noncomputable def ob207 : Obj := ⟨(.type "code"), none, (.fields #[(.str (Str.ofString "shapes") 428), (.str (Str.ofString "shapes") 429), (.str (Str.ofString "/claim/cut.py") 430), (.int 99 0), (.int 0 0), (.int 0 0), (.int 0 0), (.int 3 0), (.ref 202), (.bool true), (.int 181 0), (.ref 203), .none, (.ref 204), (.ref 205), (.ref 206), (.int 431 0), (.int 99 0), (.str (Str.ofString "/claim/cut.py") 432)]), #[]⟩
noncomputable def ob208 : Obj := ⟨(.type "function"), none, (.func (fnOf (Str.ofString "shapes") (Str.ofString "shapes") (argsOf (defAt 17)) (bodyOf (defAt 17)) (scopeOf (defAt 17)) .none .none .none (.str (Str.ofString "clausemill.assembler") 426) none (.ref 207) .none)), #[]⟩
noncomputable def ob214 : Obj := ⟨(.type "code"), none, (.fields #[(.str (Str.ofString "is_whole") 434), (.str (Str.ofString "is_whole") 435), (.str (Str.ofString "/claim/cut.py") 436), (.int 101 0), (.int 1 0), (.int 0 0), (.int 0 0), (.int 3 0), (.ref 209), (.bool true), (.int 181 0), (.ref 210), .none, (.ref 211), (.ref 212), (.ref 213), (.int 438 0), (.int 101 0), (.str (Str.ofString "/claim/cut.py") 439)]), #[]⟩
noncomputable def ob215 : Obj := ⟨(.type "function"), none, (.func (fnOf (Str.ofString "is_whole") (Str.ofString "is_whole") (argsOf (defAt 18)) (bodyOf (defAt 18)) (scopeOf (defAt 18)) .none .none .none (.str (Str.ofString "clausemill.assembler") 426) none (.ref 214) .none)), #[]⟩
noncomputable def ob221 : Obj := ⟨(.type "code"), none, (.fields #[(.str (Str.ofString "is_pair") 441), (.str (Str.ofString "is_pair") 442), (.str (Str.ofString "/claim/cut.py") 443), (.int 103 0), (.int 1 0), (.int 0 0), (.int 0 0), (.int 3 0), (.ref 216), (.bool true), (.int 181 0), (.ref 217), .none, (.ref 218), (.ref 219), (.ref 220), (.int 445 0), (.int 103 0), (.str (Str.ofString "/claim/cut.py") 446)]), #[]⟩
noncomputable def ob222 : Obj := ⟨(.type "function"), none, (.func (fnOf (Str.ofString "is_pair") (Str.ofString "is_pair") (argsOf (defAt 19)) (bodyOf (defAt 19)) (scopeOf (defAt 19)) .none .none .none (.str (Str.ofString "clausemill.assembler") 426) none (.ref 221) .none)), #[]⟩
noncomputable def ob228 : Obj := ⟨(.type "code"), none, (.fields #[(.str (Str.ofString "is_register") 448), (.str (Str.ofString "is_register") 449), (.str (Str.ofString "/claim/cut.py") 450), (.int 105 0), (.int 2 0), (.int 0 0), (.int 0 0), (.int 3 0), (.ref 223), (.bool true), (.int 181 0), (.ref 224), .none, (.ref 225), (.ref 226), (.ref 227), (.int 453 0), (.int 105 0), (.str (Str.ofString "/claim/cut.py") 454)]), #[]⟩
noncomputable def ob229 : Obj := ⟨(.type "function"), none, (.func (fnOf (Str.ofString "is_register") (Str.ofString "is_register") (argsOf (defAt 20)) (bodyOf (defAt 20)) (scopeOf (defAt 20)) .none .none .none (.str (Str.ofString "clausemill.assembler") 426) none (.ref 228) .none)), #[]⟩
noncomputable def ob235 : Obj := ⟨(.type "code"), none, (.fields #[(.str (Str.ofString "is_constant") 456), (.str (Str.ofString "is_constant") 457), (.str (Str.ofString "/claim/cut.py") 458), (.int 107 0), (.int 1 0), (.int 0 0), (.int 0 0), (.int 3 0), (.ref 230), (.bool true), (.int 181 0), (.ref 231), .none, (.ref 232), (.ref 233), (.ref 234), (.int 460 0), (.int 107 0), (.str (Str.ofString "/claim/cut.py") 461)]), #[]⟩
noncomputable def ob236 : Obj := ⟨(.type "function"), none, (.func (fnOf (Str.ofString "is_constant") (Str.ofString "is_constant") (argsOf (defAt 21)) (bodyOf (defAt 21)) (scopeOf (defAt 21)) .none .none .none (.str (Str.ofString "clausemill.assembler") 426) none (.ref 235) .none)), #[]⟩
noncomputable def ob242 : Obj := ⟨(.type "code"), none, (.fields #[(.str (Str.ofString "is_functor") 463), (.str (Str.ofString "is_functor") 464), (.str (Str.ofString "/claim/cut.py") 465), (.int 109 0), (.int 1 0), (.int 0 0), (.int 0 0), (.int 3 0), (.ref 237), (.bool true), (.int 181 0), (.ref 238), .none, (.ref 239), (.ref 240), (.ref 241), (.int 467 0), (.int 109 0), (.str (Str.ofString "/claim/cut.py") 468)]), #[]⟩
noncomputable def ob243 : Obj := ⟨(.type "function"), none, (.func (fnOf (Str.ofString "is_functor") (Str.ofString "is_functor") (argsOf (defAt 22)) (bodyOf (defAt 22)) (scopeOf (defAt 22)) .none .none .none (.str (Str.ofString "clausemill.assembler") 426) none (.ref 242) .none)), #[]⟩
noncomputable def ob249 : Obj := ⟨(.type "code"), none, (.fields #[(.str (Str.ofString "is_target") 470), (.str (Str.ofString "is_target") 471), (.str (Str.ofString "/claim/cut.py") 472), (.int 111 0), (.int 2 0), (.int 0 0), (.int 0 0), (.int 3 0), (.ref 244), (.bool true), (.int 181 0), (.ref 245), .none, (.ref 246), (.ref 247), (.ref 248), (.int 475 0), (.int 111 0), (.str (Str.ofString "/claim/cut.py") 476)]), #[]⟩
noncomputable def ob250 : Obj := ⟨(.type "function"), none, (.func (fnOf (Str.ofString "is_target") (Str.ofString "is_target") (argsOf (defAt 23)) (bodyOf (defAt 23)) (scopeOf (defAt 23)) .none .none .none (.str (Str.ofString "clausemill.assembler") 426) none (.ref 249) .none)), #[]⟩
noncomputable def ob256 : Obj := ⟨(.type "code"), none, (.fields #[(.str (Str.ofString "is_key") 478), (.str (Str.ofString "is_key") 479), (.str (Str.ofString "/claim/cut.py") 480), (.int 117 0), (.int 2 0), (.int 0 0), (.int 0 0), (.int 3 0), (.ref 251), (.bool true), (.int 181 0), (.ref 252), .none, (.ref 253), (.ref 254), (.ref 255), (.int 483 0), (.int 117 0), (.str (Str.ofString "/claim/cut.py") 484)]), #[]⟩
noncomputable def ob257 : Obj := ⟨(.type "function"), none, (.func (fnOf (Str.ofString "is_key") (Str.ofString "is_key") (argsOf (defAt 24)) (bodyOf (defAt 24)) (scopeOf (defAt 24)) .none .none .none (.str (Str.ofString "clausemill.assembler") 426) none (.ref 256) .none)), #[]⟩
noncomputable def ob263 : Obj := ⟨(.type "code"), none, (.fields #[(.str (Str.ofString "is_table") 486), (.str (Str.ofString "is_table") 487), (.str (Str.ofString "/claim/cut.py") 488), (.int 121 0), (.int 3 0), (.int 0 0), (.int 0 0), (.int 3 0), (.ref 258), (.bool true), (.int 181 0), (.ref 259), .none, (.ref 260), (.ref 261), (.ref 262), (.int 494 0), (.int 121 0), (.str (Str.ofString "/claim/cut.py") 495)]), #[]⟩
noncomputable def ob264 : Obj := ⟨(.type "function"), none, (.func (fnOf (Str.ofString "is_table") (Str.ofString "is_table") (argsOf (defAt 25)) (bodyOf (defAt 25)) (scopeOf (defAt 25)) .none .none .none (.str (Str.ofString "clausemill.assembler") 426) none (.ref 263) .none)), #[]⟩
noncomputable def ob270 : Obj := ⟨(.type "code"), none, (.fields #[(.str (Str.ofString "is_operand") 497), (.str (Str.ofString "is_operand") 498), (.str (Str.ofString "/claim/cut.py") 499), (.int 135 0), (.int 3 0), (.int 0 0), (.int 0 0), (.int 3 0), (.ref 265), (.bool true), (.int 181 0), (.ref 266), .none, (.ref 267), (.ref 268), (.ref 269), (.int 503 0), (.int 135 0), (.str (Str.ofString "/claim/cut.py") 504)]), #[]⟩
noncomputable def ob271 : Obj := ⟨(.type "function"), none, (.func (fnOf (Str.ofString "is_operand") (Str.ofString "is_operand") (argsOf (defAt 26)) (bodyOf (defAt 26)) (scopeOf (defAt 26)) .none .none .none (.str (Str.ofString "clausemill.assembler") 426) none (.ref 270) .none)), #[]⟩
noncomputable def ob277 : Obj := ⟨(.type "code"), none, (.fields #[(.str (Str.ofString "check_row") 506), (.str (Str.ofString "check_row") 507), (.str (Str.ofString "/claim/cut.py") 508), (.int 149 0), (.int 3 0), (.int 0 0), (.int 0 0), (.int 3 0), (.ref 272), (.bool true), (.int 181 0), (.ref 273), .none, (.ref 274), (.ref 275), (.ref 276), (.int 515 0), (.int 149 0), (.str (Str.ofString "/claim/cut.py") 516)]), #[]⟩
noncomputable def ob278 : Obj := ⟨(.type "function"), none, (.func (fnOf (Str.ofString "check_row") (Str.ofString "check_row") (argsOf (defAt 27)) (bodyOf (defAt 27)) (scopeOf (defAt 27)) .none .none .none (.str (Str.ofString "clausemill.assembler") 426) none (.ref 277) .none)), #[]⟩
noncomputable def ob284 : Obj := ⟨(.type "code"), none, (.fields #[(.str (Str.ofString "code_digits") 518), (.str (Str.ofString "code_digits") 519), (.str (Str.ofString "/claim/cut.py") 520), (.int 161 0), (.int 1 0), (.int 0 0), (.int 0 0), (.int 3 0), (.ref 279), (.bool true), (.int 181 0), (.ref 280), .none, (.ref 281), (.ref 282), (.ref 283), (.int 524 0), (.int 161 0), (.str (Str.ofString "/claim/cut.py") 525)]), #[]⟩
noncomputable def ob285 : Obj := ⟨(.type "function"), none, (.func (fnOf (Str.ofString "code_digits") (Str.ofString "code_digits") (argsOf (defAt 28)) (bodyOf (defAt 28)) (scopeOf (defAt 28)) .none .none .none (.str (Str.ofString "clausemill.assembler") 426) none (.ref 284) .none)), #[]⟩
noncomputable def ob291 : Obj := ⟨(.type "code"), none, (.fields #[(.str (Str.ofString "quoted_name") 527), (.str (Str.ofString "quoted_name") 528), (.str (Str.ofString "/claim/cut.py") 529), (.int 169 0), (.int 1 0), (.int 0 0), (.int 0 0), (.int 3 0), (.ref 286), (.bool true), (.int 181 0), (.ref 287), .none, (.ref 288), (.ref 289), (.ref 290), (.int 533 0), (.int 169 0), (.str (Str.ofString "/claim/cut.py") 534)]), #[]⟩
noncomputable def ob292 : Obj := ⟨(.type "function"), none, (.func (fnOf (Str.ofString "quoted_name") (Str.ofString "quoted_name") (argsOf (defAt 29)) (bodyOf (defAt 29)) (scopeOf (defAt 29)) .none .none .none (.str (Str.ofString "clausemill.assembler") 426) none (.ref 291) .none)), #[]⟩
noncomputable def ob298 : Obj := ⟨(.type "code"), none, (.fields #[(.str (Str.ofString "read_code") 536), (.str (Str.ofString "read_code") 537), (.str (Str.ofString "/claim/cut.py") 538), (.int 180 0), (.int 1 0), (.int 0 0), (.int 0 0), (.int 3 0), (.ref 293), (.bool true), (.int 181 0), (.ref 294), .none, (.ref 295), (.ref 296), (.ref 297), (.int 544 0), (.int 180 0), (.str (Str.ofString "/claim/cut.py") 545)]), #[]⟩
noncomputable def ob299 : Obj := ⟨(.type "function"), none, (.func (fnOf (Str.ofString "read_code") (Str.ofString "read_code") (argsOf (defAt 30)) (bodyOf (defAt 30)) (scopeOf (defAt 30)) .none .none .none (.str (Str.ofString "clausemill.assembler") 426) none (.ref 298) .none)), #[]⟩
noncomputable def ob305 : Obj := ⟨(.type "code"), none, (.fields #[(.str (Str.ofString "unquoted_name") 547), (.str (Str.ofString "unquoted_name") 548), (.str (Str.ofString "/claim/cut.py") 549), (.int 191 0), (.int 1 0), (.int 0 0), (.int 0 0), (.int 3 0), (.ref 300), (.bool true), (.int 181 0), (.ref 301), .none, (.ref 302), (.ref 303), (.ref 304), (.int 556 0), (.int 191 0), (.str (Str.ofString "/claim/cut.py") 557)]), #[]⟩
noncomputable def ob306 : Obj := ⟨(.type "function"), none, (.func (fnOf (Str.ofString "unquoted_name") (Str.ofString "unquoted_name") (argsOf (defAt 31)) (bodyOf (defAt 31)) (scopeOf (defAt 31)) .none .none .none (.str (Str.ofString "clausemill.assembler") 426) none (.ref 305) .none)), #[]⟩
noncomputable def ob312 : Obj := ⟨(.type "code"), none, (.fields #[(.str (Str.ofString "constant_text") 559), (.str (Str.ofString "constant_text") 560), (.str (Str.ofString "/claim/cut.py") 561), (.int 213 0), (.int 2 0), (.int 0 0), (.int 0 0), (.int 3 0), (.ref 307), (.bool true), (.int 181 0), (.ref 308), .none, (.ref 309), (.ref 310), (.ref 311), (.int 564 0), (.int 213 0), (.str (Str.ofString "/claim/cut.py") 565)]), #[]⟩
noncomputable def ob313 : Obj := ⟨(.type "function"), none, (.func (fnOf (Str.ofString "constant_text") (Str.ofString "constant_text") (argsOf (defAt 32)) (bodyOf (defAt 32)) (scopeOf (defAt 32)) .none .none .none (.str (Str.ofString "clausemill.assembler") 426) none (.ref 312) .none)), #[]⟩
noncomputable def ob319 : Obj := ⟨(.type "code"), none, (.fields #[(.str (Str.ofString "functor_text") 567), (.str (Str.ofString "functor_text") 568), (.str (Str.ofString "/claim/cut.py") 569), (.int 219 0), (.int 2 0), (.int 0 0), (.int 0 0), (.int 3 0), (.ref 314), (.bool true), (.int 181 0), (.ref 315), .none, (.ref 316), (.ref 317), (.ref 318), (.int 572 0), (.int 219 0), (.str (Str.ofString "/claim/cut.py") 573)]), #[]⟩
noncomputable def ob320 : Obj := ⟨(.type "function"), none, (.func (fnOf (Str.ofString "functor_text") (Str.ofString "functor_text") (argsOf (defAt 33)) (bodyOf (defAt 33)) (scopeOf (defAt 33)) .none .none .none (.str (Str.ofString "clausemill.assembler") 426) none (.ref 319) .none)), #[]⟩
noncomputable def ob326 : Obj := ⟨(.type "code"), none, (.fields #[(.str (Str.ofString "table_words") 575), (.str (Str.ofString "table_words") 576), (.str (Str.ofString "/claim/cut.py") 577), (.int 223 0), (.int 3 0), (.int 0 0), (.int 0 0), (.int 3 0), (.ref 321), (.bool true), (.int 181 0), (.ref 322), .none, (.ref 323), (.ref 324), (.ref 325), (.int 584 0), (.int 223 0), (.str (Str.ofString "/claim/cut.py") 585)]), #[]⟩
noncomputable def ob327 : Obj := ⟨(.type "function"), none, (.func (fnOf (Str.ofString "table_words") (Str.ofString "table_words") (argsOf (defAt 34)) (bodyOf (defAt 34)) (scopeOf (defAt 34)) .none .none .none (.str (Str.ofString "clausemill.assembler") 426) none (.ref 326) .none)), #[]⟩
noncomputable def ob333 : Obj := ⟨(.type "code"), none, (.fields #[(.str (Str.ofString "instruction_words") 587), (.str (Str.ofString "instruction_words") 588), (.str (Str.ofString "/claim/cut.py") 589), (.int 233 0), (.int 3 0), (.int 0 0), (.int 0 0), (.int 3 0), (.ref 328), (.bool true), (.int 181 0), (.ref 329), .none, (.ref 330), (.ref 331), (.ref 332), (.int 598 0), (.int 233 0), (.str (Str.ofString "/claim/cut.py") 599)]), #[]⟩
noncomputable def ob334 : Obj := ⟨(.type "function"), none, (.func (fnOf (Str.ofString "instruction_words") (Str.ofString "instruction_words") (argsOf (defAt 35)) (bodyOf (defAt 35)) (scopeOf (defAt 35)) .none .none .none (.str (Str.ofString "clausemill.assembler") 426) none (.ref 333) .none)), #[]⟩
noncomputable def ob335 : Obj := ⟨(.type "tuple"), none, (.seq #[(.int 0 601)] 0), #[]⟩
noncomputable def ob341 : Obj := ⟨(.type "code"), none, (.fields #[(.str (Str.ofString "listing") 602), (.str (Str.ofString "listing") 603), (.str (Str.ofString "/claim/cut.py") 604), (.int 250 0), (.int 3 0), (.int 0 0), (.int 0 0), (.int 3 0), (.ref 336), (.bool true), (.int 181 0), (.ref 337), .none, (.ref 338), (.ref 339), (.ref 340), (.int 612 0), (.int 250 0), (.str (Str.ofString "/claim/cut.py") 613)]), #[]⟩
noncomputable def ob342 : Obj := ⟨(.type "function"), none, (.func (fnOf (Str.ofString "listing") (Str.ofString "listing") (argsOf (defAt 36)) (bodyOf (defAt 36)) (scopeOf (defAt 36)) (.ref 335) .none .none (.str (Str.ofString "clausemill.assembler") 426) none (.ref 341) .none)), #[]⟩
noncomputable def ob348 : Obj := ⟨(.type "code"), none, (.fields #[(.str (Str.ofString "split_row") 615), (.str (Str.ofString "split_row") 616), (.str (Str.ofString "/claim/cut.py") 617), (.int 258 0), (.int 1 0), (.int 0 0), (.int 0 0), (.int 3 0), (.ref 343), (.bool true), (.int 181 0), (.ref 344), .none, (.ref 345), (.ref 346), (.ref 347), (.int 621 0), (.int 258 0), (.str (Str.ofString "/claim/cut.py") 622)]), #[]⟩
noncomputable def ob349 : Obj := ⟨(.type "function"), none, (.func (fnOf (Str.ofString "split_row") (Str.ofString "split_row") (argsOf (defAt 37)) (bodyOf (defAt 37)) (scopeOf (defAt 37)) .none .none .none (.str (Str.ofString "clausemill.assembler") 426) none (.ref 348) .none)), #[]⟩
noncomputable def ob355 : Obj := ⟨(.type "code"), none, (.fields #[(.str (Str.ofString "read_count") 624), (.str (Str.ofString "read_count") 625), (.str (Str.ofString "/claim/cut.py") 626), (.int 264 0), (.int 1 0), (.int 0 0), (.int 0 0), (.int 3 0), (.ref 350), (.bool true), (.int 181 0), (.ref 351), .none, (.ref 352), (.ref 353), (.ref 354), (.int 632 0), (.int 264 0), (.str (Str.ofString "/claim/cut.py") 633)]), #[]⟩
noncomputable def ob356 : Obj := ⟨(.type "function"), none, (.func (fnOf (Str.ofString "read_count") (Str.ofString "read_count") (argsOf (defAt 38)) (bodyOf (defAt 38)) (scopeOf (defAt 38)) .none .none .none (.str (Str.ofString "clausemill.assembler") 426) none (.ref 355) .none)), #[]⟩
noncomputable def ob362 : Obj := ⟨(.type "code"), none, (.fields #[(.str (Str.ofString "read_constant") 635), (.str (Str.ofString "read_constant") 636), (.str (Str.ofString "/claim/cut.py") 637), (.int 275 0), (.int 2 0), (.int 0 0), (.int 0 0), (.int 3 0), (.ref 357), (.bool true), (.int 181 0), (.ref 358), .none, (.ref 359), (.ref 360), (.ref 361), (.int 641 0), (.int 275 0), (.str (Str.ofString "/claim/cut.py") 642)]), #[]⟩
noncomputable def ob363 : Obj := ⟨(.type "function"), none, (.func (fnOf (Str.ofString "read_constant") (Str.ofString "read_constant") (argsOf (defAt 39)) (bodyOf (defAt 39)) (scopeOf (defAt 39)) .none .none .none (.str (Str.ofString "clausemill.assembler") 426) none (.ref 362) .none)), #[]⟩
noncomputable def ob369 : Obj := ⟨(.type "code"), none, (.fields #[(.str (Str.ofString "read_functor") 644), (.str (Str.ofString "read_functor") 645), (.str (Str.ofString "/claim/cut.py") 646), (.int 284 0), (.int 2 0), (.int 0 0), (.int 0 0), (.int 3 0), (.ref 364), (.bool true), (.int 181 0), (.ref 365), .none, (.ref 366), (.ref 367), (.ref 368), (.int 651 0), (.int 284 0), (.str (Str.ofString "/claim/cut.py") 652)]), #[]⟩
noncomputable def ob370 : Obj := ⟨(.type "function"), none, (.func (fnOf (Str.ofString "read_functor") (Str.ofString "read_functor") (argsOf (defAt 40)) (bodyOf (defAt 40)) (scopeOf (defAt 40)) .none .none .none (.str (Str.ofString "clausemill.assembler") 426) none (.ref 369) .none)), #[]⟩
noncomputable def ob376 : Obj := ⟨(.type "code"), none, (.fields #[(.str (Str.ofString "read_register") 654), (.str (Str.ofString "read_register") 655), (.str (Str.ofString "/claim/cut.py") 656), (.int 290 0), (.int 1 0), (.int 0 0), (.int 0 0), (.int 3 0), (.ref 371), (.bool true), (.int 181 0), (.ref 372), .none, (.ref 373), (.ref 374), (.ref 375), (.int 658 0), (.int 290 0), (.str (Str.ofString "/claim/cut.py") 659)]), #[]⟩
noncomputable def ob377 : Obj := ⟨(.type "function"), none, (.func (fnOf (Str.ofString "read_register") (Str.ofString "read_register") (argsOf (defAt 41)) (bodyOf (defAt 41)) (scopeOf (defAt 41)) .none .none .none (.str (Str.ofString "clausemill.assembler") 426) none (.ref 376) .none)), #[]⟩
noncomputable def ob383 : Obj := ⟨(.type "code"), none, (.fields #[(.str (Str.ofString "read_table") 661), (.str (Str.ofString "read_table") 662), (.str (Str.ofString "/claim/cut.py") 663), (.int 294 0), (.int 4 0), (.int 0 0), (.int 0 0), (.int 3 0), (.ref 378), (.bool true), (.int 181 0), (.ref 379), .none, (.ref 380), (.ref 381), (.ref 382), (.int 672 0), (.int 294 0), (.str (Str.ofString "/claim/cut.py") 673)]), #[]⟩
noncomputable def ob384 : Obj := ⟨(.type "function"), none, (.func (fnOf (Str.ofString "read_table") (Str.ofString "read_table") (argsOf (defAt 42)) (bodyOf (defAt 42)) (scopeOf (defAt 42)) .none .none .none (.str (Str.ofString "clausemill.assembler") 426) none (.ref 383) .none)), #[]⟩
noncomputable def ob390 : Obj := ⟨(.type "code"), none, (.fields #[(.str (Str.ofString "read_operand") 675), (.str (Str.ofString "read_operand") 676), (.str (Str.ofString "/claim/cut.py") 677), (.int 315 0), (.int 3 0), (.int 0 0), (.int 0 0), (.int 3 0), (.ref 385), (.bool true), (.int 181 0), (.ref 386), .none, (.ref 387), (.ref 388), (.ref 389), (.int 681 0), (.int 315 0), (.str (Str.ofString "/claim/cut.py") 682)]), #[]⟩
noncomputable def ob391 : Obj := ⟨(.type "function"), none, (.func (fnOf (Str.ofString "read_operand") (Str.ofString "read_operand") (argsOf (defAt 43)) (bodyOf (defAt 43)) (scopeOf (defAt 43)) .none .none .none (.str (Str.ofString "clausemill.assembler") 426) none (.ref 390) .none)), #[]⟩
noncomputable def ob397 : Obj := ⟨(.type "code"), none, (.fields #[(.str (Str.ofString "read_instruction") 684), (.str (Str.ofString "read_instruction") 685), (.str (Str.ofString "/claim/cut.py") 686), (.int 323 0), (.int 3 0), (.int 0 0), (.int 0 0), (.int 3 0), (.ref 392), (.bool true), (.int 181 0), (.ref 393), .none, (.ref 394), (.ref 395), (.ref 396), (.int 695 0), (.int 323 0), (.str (Str.ofString "/claim/cut.py") 696)]), #[]⟩
noncomputable def ob398 : Obj := ⟨(.type "function"), none, (.func (fnOf (Str.ofString "read_instruction") (Str.ofString "read_instruction") (argsOf (defAt 44)) (bodyOf (defAt 44)) (scopeOf (defAt 44)) .none .none .none (.str (Str.ofString "clausemill.assembler") 426) none (.ref 397) .none)), #[]⟩
noncomputable def ob404 : Obj := ⟨(.type "code"), none, (.fields #[(.str (Str.ofString "read_listing") 698), (.str (Str.ofString "read_listing") 699), (.str (Str.ofString "/claim/cut.py") 700), (.int 343 0), (.int 2 0), (.int 0 0), (.int 0 0), (.int 3 0), (.ref 399), (.bool true), (.int 181 0), (.ref 400), .none, (.ref 401), (.ref 402), (.ref 403), (.int 709 0), (.int 343 0), (.str (Str.ofString "/claim/cut.py") 710)]), #[]⟩
noncomputable def ob405 : Obj := ⟨(.type "function"), none, (.func (fnOf (Str.ofString "read_listing") (Str.ofString "read_listing") (argsOf (defAt 45)) (bodyOf (defAt 45)) (scopeOf (defAt 45)) .none .none .none (.str (Str.ofString "clausemill.assembler") 426) none (.ref 404) .none)), #[]⟩
noncomputable def ob411 : Obj := ⟨(.type "code"), none, (.fields #[(.str (Str.ofString "_law_figures") 714), (.str (Str.ofString "_law_figures") 715), (.str (Str.ofString "/claim/cut.py") 716), (.int 359 0), (.int 1 0), (.int 0 0), (.int 0 0), (.int 3 0), (.ref 406), (.bool true), (.int 181 0), (.ref 407), .none, (.ref 408), (.ref 409), (.ref 410), (.int 722 0), (.int 359 0), (.str (Str.ofString "/claim/cut.py") 723)]), #[]⟩
noncomputable def ob412 : Obj := ⟨(.type "function"), none, (.func (fnOf (Str.ofString "_law_figures") (Str.ofString "_law_figures") (argsOf (defAt 47)) (bodyOf (defAt 47)) (scopeOf (defAt 47)) .none .none .none (.str (Str.ofString "law_rr0023_01") 712) none (.ref 411) .none)), #[]⟩
noncomputable def ob418 : Obj := ⟨(.type "code"), none, (.fields #[(.str (Str.ofString "_law_draw") 725), (.str (Str.ofString "_law_draw") 726), (.str (Str.ofString "/claim/cut.py") 727), (.int 371 0), (.int 2 0), (.int 0 0), (.int 0 0), (.int 3 0), (.ref 413), (.bool true), (.int 181 0), (.ref 414), .none, (.ref 415), (.ref 416), (.ref 417), (.int 730 0), (.int 371 0), (.str (Str.ofString "/claim/cut.py") 731)]), #[]⟩
noncomputable def ob419 : Obj := ⟨(.type "function"), none, (.func (fnOf (Str.ofString "_law_draw") (Str.ofString "_law_draw") (argsOf (defAt 48)) (bodyOf (defAt 48)) (scopeOf (defAt 48)) .none .none .none (.str (Str.ofString "law_rr0023_01") 712) none (.ref 418) .none)), #[]⟩
noncomputable def ob425 : Obj := ⟨(.type "code"), none, (.fields #[(.str (Str.ofString "_law_name") 733), (.str (Str.ofString "_law_name") 734), (.str (Str.ofString "/claim/cut.py") 735), (.int 375 0), (.int 1 0), (.int 0 0), (.int 0 0), (.int 3 0), (.ref 420), (.bool true), (.int 181 0), (.ref 421), .none, (.ref 422), (.ref 423), (.ref 424), (.int 739 0), (.int 375 0), (.str (Str.ofString "/claim/cut.py") 740)]), #[]⟩
noncomputable def ob426 : Obj := ⟨(.type "function"), none, (.func (fnOf (Str.ofString "_law_name") (Str.ofString "_law_name") (argsOf (defAt 49)) (bodyOf (defAt 49)) (scopeOf (defAt 49)) .none .none .none (.str (Str.ofString "law_rr0023_01") 712) none (.ref 425) .none)), #[]⟩
noncomputable def ob432 : Obj := ⟨(.type "code"), none, (.fields #[(.str (Str.ofString "_law_constant") 742), (.str (Str.ofString "_law_constant") 743), (.str (Str.ofString "/claim/cut.py") 744), (.int 380 0), (.int 2 0), (.int 0 0), (.int 0 0), (.int 3 0), (.ref 427), (.bool true), (.int 181 0), (.ref 428), .none, (.ref 429), (.ref 430), (.ref 431), (.int 747 0), (.int 380 0), (.str (Str.ofString "/claim/cut.py") 748)]), #[]⟩
noncomputable def ob433 : Obj := ⟨(.type "function"), none, (.func (fnOf (Str.ofString "_law_constant") (Str.ofString "_law_constant") (argsOf (defAt 50)) (bodyOf (defAt 50)) (scopeOf (defAt 50)) .none .none .none (.str (Str.ofString "law_rr0023_01") 712) none (.ref 432) .none)), #[]⟩
noncomputable def ob439 : Obj := ⟨(.type "code"), none, (.fields #[(.str (Str.ofString "_law_row_drawn") 750), (.str (Str.ofString "_law_row_drawn") 751), (.str (Str.ofString "/claim/cut.py") 752), (.int 384 0), (.int 2 0), (.int 0 0), (.int 0 0), (.int 3 0), (.ref 434), (.bool true), (.int 181 0), (.ref 435), .none, (.ref 436), (.ref 437), (.ref 438), (.int 759 0), (.int 384 0), (.str (Str.ofString "/claim/cut.py") 760)]), #[]⟩
noncomputable def ob440 : Obj := ⟨(.type "function"), none, (.func (fnOf (Str.ofString "_law_row_drawn") (Str.ofString "_law_row_drawn") (argsOf (defAt 51)) (bodyOf (defAt 51)) (scopeOf (defAt 51)) .none .none .none (.str (Str.ofString "law_rr0023_01") 712) none (.ref 439) .none)), #[]⟩
noncomputable def ob446 : Obj := ⟨(.type "code"), none, (.fields #[(.str (Str.ofString "_law_refused") 762), (.str (Str.ofString "_law_refused") 763), (.str (Str.ofString "/claim/cut.py") 764), (.int 408 0), (.int 2 0), (.int 0 0), (.int 0 0), (.int 3 0), (.ref 441), (.bool true), (.int 181 0), (.ref 442), .none, (.ref 443), (.ref 444), (.ref 445), (.int 767 0), (.int 408 0), (.str (Str.ofString "/claim/cut.py") 768)]), #[]⟩
noncomputable def ob447 : Obj := ⟨(.type "function"), none, (.func (fnOf (Str.ofString "_law_refused") (Str.ofString "_law_refused") (argsOf (defAt 52)) (bodyOf (defAt 52)) (scopeOf (defAt 52)) .none .none .none (.str (Str.ofString "law_rr0023_01") 712) none (.ref 446) .none)), #[]⟩
noncomputable def ob453 : Obj := ⟨(.type "code"), none, (.fields #[(.str (Str.ofString "law") 770), (.str (Str.ofString "law") 771), (.str (Str.ofString "/claim/cut.py") 772), (.int 414 0), (.int 1 0), (.int 0 0), (.int 0 0), (.int 3 0), (.ref 448), (.bool true), (.int 181 0), (.ref 449), .none, (.ref 450), (.ref 451), (.ref 452), (.int 786 0), (.int 414 0), (.str (Str.ofString "/claim/cut.py") 787)]), #[]⟩
noncomputable def ob454 : Obj := ⟨(.type "function"), none, (.func (fnOf (Str.ofString "law") (Str.ofString "law") (argsOf (defAt 53)) (bodyOf (defAt 53)) (scopeOf (defAt 53)) .none .none .none (.str (Str.ofString "law_rr0023_01") 712) none (.ref 453) .none)), #[]⟩
noncomputable def KK (P : Params) : Frag := [
  (2, ob2 P),
  (3, ob3 P),
  (30, ob30 P),
  (31, ob31),
  (42, ob42),
  (48, ob48),
  (49, ob49),
  (51, ob51 P),
  (52, ob52),
  (60, ob60),
  (61, ob61),
  (67, ob67),
  (68, ob68),
  (81, ob81),
  (82, ob82),
  (88, ob88),
  (89, ob89),
  (95, ob95),
  (96, ob96),
  (102, ob102),
  (103, ob103),
  (109, ob109),
  (110, ob110),
  (116, ob116),
  (117, ob117),
  (123, ob123),
  (124, ob124),
  (137, ob137),
  (138, ob138),
  (144, ob144),
  (145, ob145),
  (154, ob154 P),
  (155, ob155),
  (165, ob165),
  (166, ob166),
  (172, ob172),
  (173, ob173),
  (179, ob179),
  (180, ob180),
  (186, ob186),
  (187, ob187),
  (193, ob193),
  (194, ob194),
  (200, ob200),
  (201, ob201),
  (207, ob207),
  (208, ob208),
  (214, ob214),
  (215, ob215),
  (221, ob221),
  (222, ob222),
  (228, ob228),
  (229, ob229),
  (235, ob235),
  (236, ob236),
  (242, ob242),
  (243, ob243),
  (249, ob249),
  (250, ob250),
  (256, ob256),
  (257, ob257),
  (263, ob263),
  (264, ob264),
  (270, ob270),
  (271, ob271),
  (277, ob277),
  (278, ob278),
  (284, ob284),
  (285, ob285),
  (291, ob291),
  (292, ob292),
  (298, ob298),
  (299, ob299),
  (305, ob305),
  (306, ob306),
  (312, ob312),
  (313, ob313),
  (319, ob319),
  (320, ob320),
  (326, ob326),
  (327, ob327),
  (333, ob333),
  (334, ob334),
  (335, ob335),
  (341, ob341),
  (342, ob342),
  (348, ob348),
  (349, ob349),
  (355, ob355),
  (356, ob356),
  (362, ob362),
  (363, ob363),
  (369, ob369),
  (370, ob370),
  (376, ob376),
  (377, ob377),
  (383, ob383),
  (384, ob384),
  (390, ob390),
  (391, ob391),
  (397, ob397),
  (398, ob398),
  (404, ob404),
  (405, ob405),
  (411, ob411),
  (412, ob412),
  (418, ob418),
  (419, ob419),
  (425, ob425),
  (426, ob426),
  (432, ob432),
  (433, ob433),
  (439, ob439),
  (440, ob440),
  (446, ob446),
  (447, ob447),
  (453, ob453),
  (454, ob454)]
noncomputable def KA : List Addr := [2, 3, 30, 31, 42, 48, 49, 51, 52, 60, 61, 67, 68, 81, 82, 88, 89, 95, 96, 102, 103, 109, 110, 116, 117, 123, 124, 137, 138, 144, 145, 154, 155, 165, 166, 172, 173, 179, 180, 186, 187, 193, 194, 200, 201, 207, 208, 214, 215, 221, 222, 228, 229, 235, 236, 242, 243, 249, 250, 256, 257, 263, 264, 270, 271, 277, 278, 284, 285, 291, 292, 298, 299, 305, 306, 312, 313, 319, 320, 326, 327, 333, 334, 335, 341, 342, 348, 349, 355, 356, 362, 363, 369, 370, 376, 377, 383, 384, 390, 391, 397, 398, 404, 405, 411, 412, 418, 419, 425, 426, 432, 433, 439, 440, 446, 447, 453, 454]
theorem KA_eq : ∀ P, KA = (KK P).map (·.1) := fun P => by kernel_rfl
theorem lk2 (P : Params) : (KK P).lookup 2 = some (ob2 P) := by kernel_rfl
theorem lk3 (P : Params) : (KK P).lookup 3 = some (ob3 P) := by kernel_rfl
theorem lk30 (P : Params) : (KK P).lookup 30 = some (ob30 P) := by kernel_rfl
theorem lk31 (P : Params) : (KK P).lookup 31 = some (ob31) := by kernel_rfl
theorem lk42 (P : Params) : (KK P).lookup 42 = some (ob42) := by kernel_rfl
theorem lk48 (P : Params) : (KK P).lookup 48 = some (ob48) := by kernel_rfl
theorem lk49 (P : Params) : (KK P).lookup 49 = some (ob49) := by kernel_rfl
theorem lk51 (P : Params) : (KK P).lookup 51 = some (ob51 P) := by kernel_rfl
theorem lk52 (P : Params) : (KK P).lookup 52 = some (ob52) := by kernel_rfl
theorem lk60 (P : Params) : (KK P).lookup 60 = some (ob60) := by kernel_rfl
theorem lk61 (P : Params) : (KK P).lookup 61 = some (ob61) := by kernel_rfl
theorem lk67 (P : Params) : (KK P).lookup 67 = some (ob67) := by kernel_rfl
theorem lk68 (P : Params) : (KK P).lookup 68 = some (ob68) := by kernel_rfl
theorem lk81 (P : Params) : (KK P).lookup 81 = some (ob81) := by kernel_rfl
theorem lk82 (P : Params) : (KK P).lookup 82 = some (ob82) := by kernel_rfl
theorem lk88 (P : Params) : (KK P).lookup 88 = some (ob88) := by kernel_rfl
theorem lk89 (P : Params) : (KK P).lookup 89 = some (ob89) := by kernel_rfl
theorem lk95 (P : Params) : (KK P).lookup 95 = some (ob95) := by kernel_rfl
theorem lk96 (P : Params) : (KK P).lookup 96 = some (ob96) := by kernel_rfl
theorem lk102 (P : Params) : (KK P).lookup 102 = some (ob102) := by kernel_rfl
theorem lk103 (P : Params) : (KK P).lookup 103 = some (ob103) := by kernel_rfl
theorem lk109 (P : Params) : (KK P).lookup 109 = some (ob109) := by kernel_rfl
theorem lk110 (P : Params) : (KK P).lookup 110 = some (ob110) := by kernel_rfl
theorem lk116 (P : Params) : (KK P).lookup 116 = some (ob116) := by kernel_rfl
theorem lk117 (P : Params) : (KK P).lookup 117 = some (ob117) := by kernel_rfl
theorem lk123 (P : Params) : (KK P).lookup 123 = some (ob123) := by kernel_rfl
theorem lk124 (P : Params) : (KK P).lookup 124 = some (ob124) := by kernel_rfl
theorem lk137 (P : Params) : (KK P).lookup 137 = some (ob137) := by kernel_rfl
theorem lk138 (P : Params) : (KK P).lookup 138 = some (ob138) := by kernel_rfl
theorem lk144 (P : Params) : (KK P).lookup 144 = some (ob144) := by kernel_rfl
theorem lk145 (P : Params) : (KK P).lookup 145 = some (ob145) := by kernel_rfl
theorem lk154 (P : Params) : (KK P).lookup 154 = some (ob154 P) := by kernel_rfl
theorem lk155 (P : Params) : (KK P).lookup 155 = some (ob155) := by kernel_rfl
theorem lk165 (P : Params) : (KK P).lookup 165 = some (ob165) := by kernel_rfl
theorem lk166 (P : Params) : (KK P).lookup 166 = some (ob166) := by kernel_rfl
theorem lk172 (P : Params) : (KK P).lookup 172 = some (ob172) := by kernel_rfl
theorem lk173 (P : Params) : (KK P).lookup 173 = some (ob173) := by kernel_rfl
theorem lk179 (P : Params) : (KK P).lookup 179 = some (ob179) := by kernel_rfl
theorem lk180 (P : Params) : (KK P).lookup 180 = some (ob180) := by kernel_rfl
theorem lk186 (P : Params) : (KK P).lookup 186 = some (ob186) := by kernel_rfl
theorem lk187 (P : Params) : (KK P).lookup 187 = some (ob187) := by kernel_rfl
theorem lk193 (P : Params) : (KK P).lookup 193 = some (ob193) := by kernel_rfl
theorem lk194 (P : Params) : (KK P).lookup 194 = some (ob194) := by kernel_rfl
theorem lk200 (P : Params) : (KK P).lookup 200 = some (ob200) := by kernel_rfl
theorem lk201 (P : Params) : (KK P).lookup 201 = some (ob201) := by kernel_rfl
theorem lk207 (P : Params) : (KK P).lookup 207 = some (ob207) := by kernel_rfl
theorem lk208 (P : Params) : (KK P).lookup 208 = some (ob208) := by kernel_rfl
theorem lk214 (P : Params) : (KK P).lookup 214 = some (ob214) := by kernel_rfl
theorem lk215 (P : Params) : (KK P).lookup 215 = some (ob215) := by kernel_rfl
theorem lk221 (P : Params) : (KK P).lookup 221 = some (ob221) := by kernel_rfl
theorem lk222 (P : Params) : (KK P).lookup 222 = some (ob222) := by kernel_rfl
theorem lk228 (P : Params) : (KK P).lookup 228 = some (ob228) := by kernel_rfl
theorem lk229 (P : Params) : (KK P).lookup 229 = some (ob229) := by kernel_rfl
theorem lk235 (P : Params) : (KK P).lookup 235 = some (ob235) := by kernel_rfl
theorem lk236 (P : Params) : (KK P).lookup 236 = some (ob236) := by kernel_rfl
theorem lk242 (P : Params) : (KK P).lookup 242 = some (ob242) := by kernel_rfl
theorem lk243 (P : Params) : (KK P).lookup 243 = some (ob243) := by kernel_rfl
theorem lk249 (P : Params) : (KK P).lookup 249 = some (ob249) := by kernel_rfl
theorem lk250 (P : Params) : (KK P).lookup 250 = some (ob250) := by kernel_rfl
theorem lk256 (P : Params) : (KK P).lookup 256 = some (ob256) := by kernel_rfl
theorem lk257 (P : Params) : (KK P).lookup 257 = some (ob257) := by kernel_rfl
theorem lk263 (P : Params) : (KK P).lookup 263 = some (ob263) := by kernel_rfl
theorem lk264 (P : Params) : (KK P).lookup 264 = some (ob264) := by kernel_rfl
theorem lk270 (P : Params) : (KK P).lookup 270 = some (ob270) := by kernel_rfl
theorem lk271 (P : Params) : (KK P).lookup 271 = some (ob271) := by kernel_rfl
theorem lk277 (P : Params) : (KK P).lookup 277 = some (ob277) := by kernel_rfl
theorem lk278 (P : Params) : (KK P).lookup 278 = some (ob278) := by kernel_rfl
theorem lk284 (P : Params) : (KK P).lookup 284 = some (ob284) := by kernel_rfl
theorem lk285 (P : Params) : (KK P).lookup 285 = some (ob285) := by kernel_rfl
theorem lk291 (P : Params) : (KK P).lookup 291 = some (ob291) := by kernel_rfl
theorem lk292 (P : Params) : (KK P).lookup 292 = some (ob292) := by kernel_rfl
theorem lk298 (P : Params) : (KK P).lookup 298 = some (ob298) := by kernel_rfl
theorem lk299 (P : Params) : (KK P).lookup 299 = some (ob299) := by kernel_rfl
theorem lk305 (P : Params) : (KK P).lookup 305 = some (ob305) := by kernel_rfl
theorem lk306 (P : Params) : (KK P).lookup 306 = some (ob306) := by kernel_rfl
theorem lk312 (P : Params) : (KK P).lookup 312 = some (ob312) := by kernel_rfl
theorem lk313 (P : Params) : (KK P).lookup 313 = some (ob313) := by kernel_rfl
theorem lk319 (P : Params) : (KK P).lookup 319 = some (ob319) := by kernel_rfl
theorem lk320 (P : Params) : (KK P).lookup 320 = some (ob320) := by kernel_rfl
theorem lk326 (P : Params) : (KK P).lookup 326 = some (ob326) := by kernel_rfl
theorem lk327 (P : Params) : (KK P).lookup 327 = some (ob327) := by kernel_rfl
theorem lk333 (P : Params) : (KK P).lookup 333 = some (ob333) := by kernel_rfl
theorem lk334 (P : Params) : (KK P).lookup 334 = some (ob334) := by kernel_rfl
theorem lk335 (P : Params) : (KK P).lookup 335 = some (ob335) := by kernel_rfl
theorem lk341 (P : Params) : (KK P).lookup 341 = some (ob341) := by kernel_rfl
theorem lk342 (P : Params) : (KK P).lookup 342 = some (ob342) := by kernel_rfl
theorem lk348 (P : Params) : (KK P).lookup 348 = some (ob348) := by kernel_rfl
theorem lk349 (P : Params) : (KK P).lookup 349 = some (ob349) := by kernel_rfl
theorem lk355 (P : Params) : (KK P).lookup 355 = some (ob355) := by kernel_rfl
theorem lk356 (P : Params) : (KK P).lookup 356 = some (ob356) := by kernel_rfl
theorem lk362 (P : Params) : (KK P).lookup 362 = some (ob362) := by kernel_rfl
theorem lk363 (P : Params) : (KK P).lookup 363 = some (ob363) := by kernel_rfl
theorem lk369 (P : Params) : (KK P).lookup 369 = some (ob369) := by kernel_rfl
theorem lk370 (P : Params) : (KK P).lookup 370 = some (ob370) := by kernel_rfl
theorem lk376 (P : Params) : (KK P).lookup 376 = some (ob376) := by kernel_rfl
theorem lk377 (P : Params) : (KK P).lookup 377 = some (ob377) := by kernel_rfl
theorem lk383 (P : Params) : (KK P).lookup 383 = some (ob383) := by kernel_rfl
theorem lk384 (P : Params) : (KK P).lookup 384 = some (ob384) := by kernel_rfl
theorem lk390 (P : Params) : (KK P).lookup 390 = some (ob390) := by kernel_rfl
theorem lk391 (P : Params) : (KK P).lookup 391 = some (ob391) := by kernel_rfl
theorem lk397 (P : Params) : (KK P).lookup 397 = some (ob397) := by kernel_rfl
theorem lk398 (P : Params) : (KK P).lookup 398 = some (ob398) := by kernel_rfl
theorem lk404 (P : Params) : (KK P).lookup 404 = some (ob404) := by kernel_rfl
theorem lk405 (P : Params) : (KK P).lookup 405 = some (ob405) := by kernel_rfl
theorem lk411 (P : Params) : (KK P).lookup 411 = some (ob411) := by kernel_rfl
theorem lk412 (P : Params) : (KK P).lookup 412 = some (ob412) := by kernel_rfl
theorem lk418 (P : Params) : (KK P).lookup 418 = some (ob418) := by kernel_rfl
theorem lk419 (P : Params) : (KK P).lookup 419 = some (ob419) := by kernel_rfl
theorem lk425 (P : Params) : (KK P).lookup 425 = some (ob425) := by kernel_rfl
theorem lk426 (P : Params) : (KK P).lookup 426 = some (ob426) := by kernel_rfl
theorem lk432 (P : Params) : (KK P).lookup 432 = some (ob432) := by kernel_rfl
theorem lk433 (P : Params) : (KK P).lookup 433 = some (ob433) := by kernel_rfl
theorem lk439 (P : Params) : (KK P).lookup 439 = some (ob439) := by kernel_rfl
theorem lk440 (P : Params) : (KK P).lookup 440 = some (ob440) := by kernel_rfl
theorem lk446 (P : Params) : (KK P).lookup 446 = some (ob446) := by kernel_rfl
theorem lk447 (P : Params) : (KK P).lookup 447 = some (ob447) := by kernel_rfl
theorem lk453 (P : Params) : (KK P).lookup 453 = some (ob453) := by kernel_rfl
theorem lk454 (P : Params) : (KK P).lookup 454 = some (ob454) := by kernel_rfl
end Mine
namespace Mine
open PySem PySem.W PyProof.Rows
noncomputable abbrev PW : Program := PySem.Challenge.pw_rr0023_01
noncomputable def viewP : Program := { PW with main := { PW.main with body := ((List.range 54).filter fun i => !([1, 9, 16, 36, 46] : List Nat).contains i).filterMap fun i => PW.main.body[i]? } }
noncomputable abbrev HK : Hook := kHook KK KA KA_eq
noncomputable abbrev LOs : List Str := [Str.ofString "LinkFault", Str.ofString "listing"]
noncomputable abbrev XtH : Shared → Bool := fun s => xlAt viewP [] s && recOk (RowW.records PySem.Challenge.rw_rr0023_01.row.toRowW) s
noncomputable def dLaw : DefRec := ⟨Str.ofString "law", argsOf (defAt 53), bodyOf (defAt 53), scopeOf (defAt 53), (match defAt 53 with | .FunctionDef _ _ _ _ _ _ _ _ _ pos => pos | _ => ⟨0, 0, 0, 0⟩)⟩
theorem hdA : PySem.Challenge.rw_rr0023_01.wellSaid = true := by kernel_rfl
theorem hdB : LeftO PW viewP LOs XtH (Hook.obs HK) (Hook.val HK) 5056 := fun w => by kernel_rfl
theorem hdC (call : WalkO viewP LOs (XL viewP []) (Hook.says HK) PySem.Challenge.rw_rr0023_01.row.toRowW dLaw [] fun f vs => PySem.call f vs) : PySem.Challenge.rw_rr0023_01.Holds := by
  w_on
  refine holds_law hdA fun said => ?_
  refine holds_open (q := viewP) (loose := LOs) (Xt := XtH) (XP := XL viewP []) (Yf := Hook.obs HK) (Ya := Hook.val HK) (YP := Hook.says HK) (N := 5056) hdB (Hook.of HK) (Hook.keeps HK) (fun s e => xl_of s (Bool.and_eq_true_iff.mp e).1) XL.keeps (d := dLaw) (kwd := []) (by rfl) (by rfl) (by rfl) (fun s e => recFacts_of (Bool.and_eq_true_iff.mp e).2) (by rfl) (by assumption) (by decide +kernel) ⟨rfl, rfl, rfl, rfl, rfl, by decide +kernel⟩ ?hw call
  w_witness2
end Mine
namespace Mine
open PySem PySem.W PyProof.Rows PySem.Calls

theorem ea {α : Type} {p q : α → Prop} {P : Prop} (o : ∃ x, p x ∧ q x) (k : ∀ x, p x → q x → P) : P := o.elim fun x o => k x o.1 o.2
theorem eaa {α : Type} {p q r : α → Prop} {P : Prop} (o : ∃ x, p x ∧ q x ∧ r x) (k : ∀ x, p x → q x → r x → P) : P := o.elim fun x o => k x o.1 o.2.1 o.2.2
theorem aa {p q r P : Prop} (o : p ∧ q ∧ r) (k : p → q → r → P) : P := k o.1 o.2.1 o.2.2
inductive V where
  | none | bool (b : Bool) | int (i : Int) | str (s : Str) | bi (n : String) | ty (n : String) | ref (a : Addr) | tup (l : List V) | fl (l : List V)
  | sd (l : List (Str × Str)) | idd (l : List (Int × Int)) | tdd (l : List (List Int × Int)) | rng (a b c : Int)

noncomputable def PureCls (c : Value) : Prop := c = .type "tuple" ∨ c = .type "dict" ∨ c = .type "range" ∨ c = .type "list"

inductive All2 {α β : Type} (R : α → β → Prop) : List α → List β → Prop
  | nil : All2 R [] []
  | cons {a : α} {b : β} {l : List α} {m : List β} : R a b → All2 R l m → All2 R (a :: l) (b :: m)
section
variable {α β : Type} {R : α → β → Prop} {l : List α} {m : List β}
theorem All2.length (x : All2 R l m) : l.length = m.length := by
  induction x with
  | nil => rfl
  | cons _ _ ih => exact congrArg (· + 1) ih
theorem All2.mono {R' : α → β → Prop} (x : All2 R l m) (h : ∀ a b, R a b → R' a b) : All2 R' l m := by
  induction x with
  | nil => exact .nil
  | cons r _ ih => exact .cons (h _ _ r) ih
theorem All2.append {l' : List α} {m' : List β} (x : All2 R l m) (y : All2 R l' m') : All2 R (l ++ l') (m ++ m') := by
  induction x with
  | nil => exact y
  | cons r _ ih => exact .cons r ih
theorem All2.get (x : All2 R l m) : ∀ {i : Nat} {a : α}, l[i]? = some a → ∃ b, m[i]? = some b ∧ R a b := by
  induction x with
  | nil => intro i a e; cases e
  | cons r _ ih =>
    intro i a e
    cases i with
    | zero => cases e; exact ⟨_, rfl, r⟩
    | succ i => exact ih e
theorem All2.get' (x : All2 R l m) : ∀ {i : Nat} {b : β}, m[i]? = some b → ∃ a, l[i]? = some a ∧ R a b := by
  induction x with
  | nil => intro i a e; cases e
  | cons r _ ih =>
    intro i a e
    cases i with
    | zero => cases e; exact ⟨_, rfl, r⟩
    | succ i => exact ih e
theorem All2.take (x : All2 R l m) : ∀ n, All2 R (l.take n) (m.take n) := by
  induction x with
  | nil => intro n; rw [List.take_nil, List.take_nil]; exact .nil
  | cons r _ ih =>
    intro n
    cases n with
    | zero => exact .nil
    | succ n => exact .cons r (ih n)
theorem All2.drop (x : All2 R l m) : ∀ n, All2 R (l.drop n) (m.drop n) := by
  induction x with
  | nil => intro n; rw [List.drop_nil, List.drop_nil]; exact .nil
  | cons r x ih =>
    intro n
    cases n with
    | zero => exact .cons r x
    | succ n => exact ih n
theorem All2.reverse (x : All2 R l m) : All2 R l.reverse m.reverse := by
  induction x with
  | nil => exact .nil
  | cons r _ ih => rw [List.reverse_cons, List.reverse_cons]; exact ih.append (.cons r .nil)
end
noncomputable abbrev StrsOf : List (Str × Value) → List (Str × Str) → Prop := All2 fun p q => p.1 = q.1 ∧ ∃ t, p.2 = .str q.2 t
noncomputable abbrev IntsOf {K : Type} : List (K × Value) → List (K × Int) → Prop := All2 fun p q => p.1 = q.1 ∧ ∃ t, p.2 = .int q.2 t
noncomputable def trip {K : Type} (x : K × Addr × Value) : K × Value := (x.1, x.2.2)

section
variable (prog : Program) (w : World)
mutual
inductive Rep (D : List Addr) (h : Heap) : Value → V → Prop
  | none : Rep D h .none .none
  | bool (b : Bool) : Rep D h (.bool b) (.bool b)
  | int (i : Int) (t : Tok) : Rep D h (.int i t) (.int i)
  | str (x : Str) (t : Tok) : Rep D h (.str x t) (.str x)
  | bi (n : String) : Rep D h (.builtin n) (.bi n)
  | ty (n : String) : Rep D h (.type n) (.ty n)
  | ref (a : Addr) : Rep D h (.ref a) (.ref a)
  | tup {a : Addr} {vs : List Value} {ds : List V} : a ∉ D → IsTup h a vs.toArray → Reps D h vs ds → Rep D h (.ref a) (.tup ds)
  | fl {a : Addr} {n : Nat} {vs : List Value} {ds : List V} : a ∉ D → IsL h a vs.toArray n → Reps D h vs ds → Rep D h (.ref a) (.fl ds)
  | sd {a : Addr} {kvs : List (Str × Value)} {l : List (Str × Str)} : a ∉ D → (a == sysModules) = false → h.DictOf (strKind prog w) a kvs → StrsOf kvs l → Rep D h (.ref a) (.sd l)
  | idd {a : Addr} {kvs : List (Int × Value)} {l : List (Int × Int)} : a ∉ D → (a == sysModules) = false → h.DictOf (intKind prog w) a kvs → IntsOf kvs l → Rep D h (.ref a) (.idd l)
  | tdd {a : Addr} {xs : List (List Int × Addr × Value)} {l : List (List Int × Int)} : a ∉ D → (a == sysModules) = false → h.DictOfH (tupleKind (intKind prog w)) a xs → (∀ x ∈ xs, x.2.1 ∉ D) → IntsOf (xs.map trip) l → Rep D h (.ref a) (.tdd l)
  | rng {r : Addr} {a b c : Int} {t u v : Tok} : r ∉ D → IsRange h r a b c t u v → Rep D h (.ref r) (.rng a b c)
inductive Reps (D : List Addr) (h : Heap) : List Value → List V → Prop
  | nil : Reps D h [] []
  | cons {v : Value} {d : V} {vs : List Value} {ds : List V} : Rep D h v d → Reps D h vs ds → Reps D h (v :: vs) (d :: ds)
end
end

noncomputable def Carry (D : List Addr) (h : Heap) (D' : List Addr) (h' : Heap) : Prop :=
  ∀ a o, a ∉ D → h.get? a = some o → PureCls o.cls → a ∉ D' ∧ h'.get? a = some o
theorem Carry.refl (D : List Addr) (h : Heap) : Carry D h D h := fun _ _ n e _ => ⟨n, e⟩
theorem Carry.trans {D D₁ D₂ : List Addr} {h h₁ h₂ : Heap} (x : Carry D h D₁ h₁) (y : Carry D₁ h₁ D₂ h₂) : Carry D h D₂ h₂ := fun a o n e c => y a o (x a o n e c).1 (x a o n e c).2 c

section
variable {prog : Program} {w : World} {D D' : List Addr} {h h' : Heap}
theorem Carry.tup (k : Carry D h D' h') {a : Addr} {xs : Array Value} (n : a ∉ D) (x : IsTup h a xs) : a ∉ D' ∧ IsTup h' a xs :=
  let ⟨o, ho, hc, r⟩ := x; ⟨(k a o n ho (.inl hc)).1, o, (k a o n ho (.inl hc)).2, hc, r⟩
theorem Carry.dictOf (k : Carry D h D' h') {K : Type} [DecidableEq K] {knd : KeyKind prog w K} {a : Addr} {kvs : List (K × Value)} (n : a ∉ D) (x : h.DictOf knd a kvs) : a ∉ D' ∧ h'.DictOf knd a kvs :=
  let ⟨o, es, ep, ho, hc, r⟩ := x; ⟨(k a o n ho (.inr (.inl hc.1))).1, o, es, ep, (k a o n ho (.inr (.inl hc.1))).2, hc, r⟩
theorem Carry.keyAt (k : Carry D h D' h') {ks : List Int} {a : Addr} (n : a ∉ D) (x : IsTupleKey (intKind prog w) h ks a) : a ∉ D' ∧ IsTupleKey (intKind prog w) h' ks a :=
  let ⟨o, items, m, ho, hc, r⟩ := x; ⟨(k a o n ho (.inl hc)).1, o, items, m, (k a o n ho (.inl hc)).2, hc, r⟩

theorem Carry.dictOfH (k : Carry D h D' h') {a : Addr} {xs : List (List Int × Addr × Value)} (n : a ∉ D) (x : h.DictOfH (tupleKind (intKind prog w)) a xs) (hk : ∀ x ∈ xs, x.2.1 ∉ D) :
    a ∉ D' ∧ h'.DictOfH (tupleKind (intKind prog w)) a xs ∧ ∀ x ∈ xs, x.2.1 ∉ D' := by
  obtain ⟨o, es, ep, ho, hc, hd, he, his, hn⟩ := x
  exact ⟨(k _ o n ho (.inr (.inl hc.1))).1, ⟨o, es, ep, (k _ o n ho (.inr (.inl hc.1))).2, hc, hd, he, fun x hx => (k.keyAt (hk x hx) (his x hx)).2, hn⟩, fun x hx => (k.keyAt (hk x hx) (his x hx)).1⟩
theorem Rep.carry (k : Carry D h D' h') {v : Value} {d : V} (r : Rep prog w D h v d) : Rep prog w D' h' v d :=
  Rep.rec (motive_1 := fun v d _ => Rep prog w D' h' v d) (motive_2 := fun vs ds _ => Reps prog w D' h' vs ds) .none .bool .int .str .bi .ty .ref
    (fun n x _ ih => .tup (k.tup n x).1 (k.tup n x).2 ih)
    (fun n x _ ih => .fl (k _ _ n x (.inr (.inr (.inr rfl)))).1 (k _ _ n x (.inr (.inr (.inr rfl)))).2 ih)
    (fun n m x rs => .sd (k.dictOf n x).1 m (k.dictOf n x).2 rs)
    (fun n m x rs => .idd (k.dictOf n x).1 m (k.dictOf n x).2 rs)
    (fun n m x hk rs => .tdd (k.dictOfH n x hk).1 m (k.dictOfH n x hk).2.1 (k.dictOfH n x hk).2.2 rs)
    (fun n x => .rng (k _ _ n x (.inr (.inr (.inl rfl)))).1 (k _ _ n x (.inr (.inr (.inl rfl)))).2)
    .nil (fun _ _ ih ihs => .cons ih ihs) r
theorem Reps.all {vs : List Value} {ds : List V} (x : Reps prog w D h vs ds) : All2 (Rep prog w D h) vs ds :=
  Reps.rec (motive_1 := fun _ _ _ => True) (motive_2 := fun vs ds _ => All2 (Rep prog w D h) vs ds) trivial (fun _ => trivial) (fun _ _ => trivial) (fun _ _ => trivial) (fun _ => trivial) (fun _ => trivial) (fun _ => trivial)
    (fun _ _ _ _ => trivial) (fun _ _ _ _ => trivial) (fun _ _ _ _ => trivial) (fun _ _ _ _ => trivial) (fun _ _ _ _ _ => trivial) (fun _ _ => trivial) .nil (fun r _ _ ih => .cons r ih) x
theorem All2.reps {vs : List Value} {ds : List V} (x : All2 (Rep prog w D h) vs ds) : Reps prog w D h vs ds := by
  induction x with
  | nil => exact .nil
  | cons r _ ih => exact .cons r ih
theorem Reps.carry {vs : List Value} {ds : List V} (k : Carry D h D' h') (x : Reps prog w D h vs ds) : Reps prog w D' h' vs ds := (x.all.mono fun _ _ r => r.carry k).reps
variable (prog w D h) in
noncomputable def RepView (v : Value) : V → Prop
  | .none => v = .none
  | .bool b => v = .bool b
  | .int i => ∃ t, v = .int i t
  | .str x => ∃ t, v = .str x t
  | .bi n => v = .builtin n
  | .ty n => v = .type n
  | .ref a => v = .ref a
  | .tup ds => ∃ a vs, v = .ref a ∧ a ∉ D ∧ IsTup h a vs.toArray ∧ Reps prog w D h vs ds
  | .fl ds => ∃ a n vs, v = .ref a ∧ a ∉ D ∧ IsL h a vs.toArray n ∧ Reps prog w D h vs ds
  | .sd l => ∃ a kvs, v = .ref a ∧ a ∉ D ∧ (a == sysModules) = false ∧ h.DictOf (strKind prog w) a kvs ∧ StrsOf kvs l
  | .idd l => ∃ a kvs, v = .ref a ∧ a ∉ D ∧ (a == sysModules) = false ∧ h.DictOf (intKind prog w) a kvs ∧ IntsOf kvs l
  | .tdd l => ∃ a xs, v = .ref a ∧ a ∉ D ∧ (a == sysModules) = false ∧ h.DictOfH (tupleKind (intKind prog w)) a xs ∧ (∀ x ∈ xs, x.2.1 ∉ D) ∧ IntsOf (xs.map trip) l
  | .rng a b c => ∃ p t u k, v = .ref p ∧ p ∉ D ∧ IsRange h p a b c t u k
theorem Rep.view {v : Value} {d : V} (r : Rep prog w D h v d) : RepView prog w D h v d := by
  cases r with
  | none => exact rfl
  | bool b => exact rfl
  | int i t => exact ⟨t, rfl⟩
  | str x t => exact ⟨t, rfl⟩
  | bi n => exact rfl
  | ty n => exact rfl
  | ref a => exact rfl
  | tup n x rs => exact ⟨_, _, rfl, n, x, rs⟩
  | fl n x rs => exact ⟨_, _, _, rfl, n, x, rs⟩
  | sd n m x rs => exact ⟨_, _, rfl, n, m, x, rs⟩
  | idd n m x rs => exact ⟨_, _, rfl, n, m, x, rs⟩
  | tdd n m x hk rs => exact ⟨_, _, rfl, n, m, x, hk, rs⟩
  | rng n x => exact ⟨_, _, _, _, rfl, n, x⟩
section
variable {v : Value} {P : Value → Prop}
theorem view_at {u : Value} (e : v = u) (q : P u) : P v := e ▸ q
@[elab_as_elim] theorem Rep.none_elim (r : Rep prog w D h v .none) (q : P .none) : P v := view_at r.view q
@[elab_as_elim] theorem Rep.bool_elim {b : Bool} (r : Rep prog w D h v (.bool b)) (q : P (.bool b)) : P v := view_at r.view q
@[elab_as_elim] theorem Rep.int_elim {i : Int} (r : Rep prog w D h v (.int i)) (q : ∀ t, P (.int i t)) : P v := Exists.elim r.view fun t e => view_at e (q t)
@[elab_as_elim] theorem Rep.str_elim {x : Str} (r : Rep prog w D h v (.str x)) (q : ∀ t, P (.str x t)) : P v := Exists.elim r.view fun t e => view_at e (q t)
@[elab_as_elim] theorem Rep.bi_elim {x : String} (r : Rep prog w D h v (.bi x)) (q : P (.builtin x)) : P v := view_at r.view q
@[elab_as_elim] theorem Rep.ty_elim {x : String} (r : Rep prog w D h v (.ty x)) (q : P (.type x)) : P v := view_at r.view q
@[elab_as_elim] theorem Rep.ref_elim {a : Addr} (r : Rep prog w D h v (.ref a)) (q : P (.ref a)) : P v := view_at r.view q
@[elab_as_elim] theorem Rep.tup_elim {ds : List V} (r : Rep prog w D h v (.tup ds)) (q : ∀ a vs, a ∉ D → IsTup h a vs.toArray → Reps prog w D h vs ds → P (.ref a)) : P v :=
  Exists.elim r.view fun a x => x.elim fun vs x => view_at x.1 (q a vs x.2.1 x.2.2.1 x.2.2.2)
@[elab_as_elim] theorem Rep.fl_elim {ds : List V} (r : Rep prog w D h v (.fl ds)) (q : ∀ a n vs, a ∉ D → IsL h a vs.toArray n → Reps prog w D h vs ds → P (.ref a)) : P v :=
  Exists.elim r.view fun a x => x.elim fun n x => x.elim fun vs x => view_at x.1 (q a n vs x.2.1 x.2.2.1 x.2.2.2)
@[elab_as_elim] theorem Rep.sd_elim {l : List (Str × Str)} (r : Rep prog w D h v (.sd l)) (q : ∀ a kvs, a ∉ D → (a == sysModules) = false → h.DictOf (strKind prog w) a kvs → StrsOf kvs l → P (.ref a)) : P v :=
  Exists.elim r.view fun a x => x.elim fun vs x => view_at x.1 (q a vs x.2.1 x.2.2.1 x.2.2.2.1 x.2.2.2.2)
@[elab_as_elim] theorem Rep.idd_elim {l : List (Int × Int)} (r : Rep prog w D h v (.idd l)) (q : ∀ a kvs, a ∉ D → (a == sysModules) = false → h.DictOf (intKind prog w) a kvs → IntsOf kvs l → P (.ref a)) : P v :=
  Exists.elim r.view fun a x => x.elim fun vs x => view_at x.1 (q a vs x.2.1 x.2.2.1 x.2.2.2.1 x.2.2.2.2)
@[elab_as_elim] theorem Rep.tdd_elim {l : List (List Int × Int)} (r : Rep prog w D h v (.tdd l)) (q : ∀ a xs, a ∉ D → (a == sysModules) = false → h.DictOfH (tupleKind (intKind prog w)) a xs → (∀ x ∈ xs, x.2.1 ∉ D) → IntsOf (xs.map trip) l → P (.ref a)) : P v :=
  Exists.elim r.view fun a x => x.elim fun vs x => view_at x.1 (q a vs x.2.1 x.2.2.1 x.2.2.2.1 x.2.2.2.2.1 x.2.2.2.2.2)
@[elab_as_elim] theorem Rep.rng_elim {a b c : Int} (r : Rep prog w D h v (.rng a b c)) (q : ∀ p t u k, p ∉ D → IsRange h p a b c t u k → P (.ref p)) : P v :=
  Exists.elim r.view fun p x => x.elim fun t x => x.elim fun u x => x.elim fun k x => view_at x.1 (q p t u k x.2.1 x.2.2)
end
section
variable {vs : List Value} {P : List Value → Prop}
@[elab_as_elim] theorem Reps.nil_elim (r : Reps prog w D h vs []) (q : P []) : P vs := by cases r; exact q
@[elab_as_elim] theorem Reps.cons_elim {d : V} {ds : List V} (r : Reps prog w D h vs (d :: ds)) (q : ∀ v us, Rep prog w D h v d → Reps prog w D h us ds → P (v :: us)) : P vs := by cases r with | cons r rs => exact q _ _ r rs
@[elab_as_elim] theorem Reps.one_elim {d : V} (r : Reps prog w D h vs [d]) (q : ∀ v, Rep prog w D h v d → P [v]) : P vs := r.cons_elim fun v us r rs => rs.nil_elim (q v r)
@[elab_as_elim] theorem Reps.two_elim {d e : V} (r : Reps prog w D h vs [d, e]) (q : ∀ v u, Rep prog w D h v d → Rep prog w D h u e → P [v, u]) : P vs := r.cons_elim fun v us r rs => rs.one_elim fun u r' => q v u r r'
end
variable {vs us : List Value} {ds es : List V}
theorem Reps.length (x : Reps prog w D h vs ds) : vs.length = ds.length := x.all.length
theorem Reps.append (x : Reps prog w D h vs ds) (y : Reps prog w D h us es) : Reps prog w D h (vs ++ us) (ds ++ es) := (x.all.append y.all).reps
theorem Reps.get (x : Reps prog w D h vs ds) {i : Nat} {v : Value} (e : vs[i]? = some v) : ∃ d, ds[i]? = some d ∧ Rep prog w D h v d := x.all.get e
theorem Reps.get' (x : Reps prog w D h vs ds) {i : Nat} {d : V} (e : ds[i]? = some d) : ∃ v, vs[i]? = some v ∧ Rep prog w D h v d := x.all.get' e
theorem Reps.take (x : Reps prog w D h vs ds) (n : Nat) : Reps prog w D h (vs.take n) (ds.take n) := (x.all.take n).reps
theorem Reps.drop (x : Reps prog w D h vs ds) (n : Nat) : Reps prog w D h (vs.drop n) (ds.drop n) := (x.all.drop n).reps
theorem Reps.reverse (x : Reps prog w D h vs ds) : Reps prog w D h vs.reverse ds.reverse := x.all.reverse.reps
end

inductive Vals (prog : Program) (w : World) (D : List Addr) (h : Heap) {K : Type} : List (K × Value) → List (K × V) → Prop
  | nil : Vals prog w D h [] []
  | cons {k : K} {v : Value} {d : V} {l : List (K × Value)} {m : List (K × V)} : Rep prog w D h v d → Vals prog w D h l m → Vals prog w D h ((k, v) :: l) ((k, d) :: m)
section
variable {prog : Program} {w : World} {D D' : List Addr} {h h' : Heap}
theorem Vals.carry (k : Carry D h D' h') {K : Type} {l : List (K × Value)} {m : List (K × V)} (x : Vals prog w D h l m) : Vals prog w D' h' l m := by
  induction x with
  | nil => exact .nil
  | cons r _ ih => exact .cons (r.carry k) ih
theorem Vals.keys {K : Type} {l : List (K × Value)} {m : List (K × V)} (x : Vals prog w D h l m) : l.map (·.1) = m.map (·.1) := by
  induction x with
  | nil => rfl
  | cons _ _ ih => simp [ih]
theorem Vals.length {K : Type} {l : List (K × Value)} {m : List (K × V)} (x : Vals prog w D h l m) : l.length = m.length := by
  induction x with
  | nil => rfl
  | cons _ _ ih => simp [ih]
theorem Vals.append {K : Type} {l l' : List (K × Value)} {m m' : List (K × V)} (x : Vals prog w D h l m) (y : Vals prog w D h l' m') : Vals prog w D h (l ++ l') (m ++ m') := by
  induction x with
  | nil => exact y
  | cons r _ ih => exact .cons r ih
end

inductive O where
  | list (l : List V)
  | sdict (l : List (Str × V))
  | idict (l : List (Int × V))
  | tdict (l : List (List Int × V))
  | ns (l : List (Str × V))
  | inst (C d : Addr)
  | exc (C : Addr) (own : Bool)

section
variable (prog : Program) (w : World)

noncomputable def RepO (D : List Addr) (h : Heap) (a : Addr) : O → Prop
  | .list l => ∃ (vs : List Value) (n : Nat), IsL h a vs.toArray n ∧ Reps prog w D h vs l
  | .sdict l => ∃ kvs : List (Str × Value), h.DictOf (strKind prog w) a kvs ∧ Vals prog w D h kvs l
  | .idict l => ∃ kvs : List (Int × Value), h.DictOf (intKind prog w) a kvs ∧ Vals prog w D h kvs l
  | .tdict l => ∃ xs : List (List Int × Addr × Value), h.DictOfH (tupleKind (intKind prog w)) a xs ∧ (∀ x ∈ xs, x.2.1 ∉ D) ∧ Vals prog w D h (xs.map trip) l
  | .ns l => ∃ m, h.Ns a m ∧ (∃ o es n, h.get? a = some o ∧ o.data = .dict es n ∧ es.size ≤ l.length) ∧ (∀ p ∈ l, ∃ v, m p.1 = some v ∧ Rep prog w D h v p.2) ∧ ∀ x, x ∉ l.map (·.1) → m x = none
  | .inst C d => h.get? a = some (instObj C d)
  | .exc C own => ∃ (oe : Obj) (vs : Array Value) (a0 : Value), h.get? a = some oe ∧ oe.cls = .ref C ∧ oe.data = .fields vs ∧ vs[0]? = some a0 ∧ vs[1]? = some .none ∧ (own = false → oe.dict = none)
end

noncomputable abbrev AHeap := List (Addr × O)
noncomputable abbrev dom (H : AHeap) : List Addr := H.map (·.1)

inductive Put {K X : Type} (k : K) (x : X) : List (K × X) → List (K × X) → Prop
  | here {y : X} {l : List (K × X)} : Put k x ((k, y) :: l) ((k, x) :: l)
  | there {p : K × X} {l l' : List (K × X)} : Put k x l l' → Put k x (p :: l) (p :: l')
theorem Put.keys {K X : Type} {k : K} {x : X} {l l' : List (K × X)} (h : Put k x l l') : l'.map (·.1) = l.map (·.1) := by
  induction h with
  | here => rfl
  | there _ ih => simp [ih]
theorem Put.mem {K X : Type} {k : K} {x : X} {l l' : List (K × X)} (h : Put k x l l') : (k, x) ∈ l' := by
  induction h with
  | here => exact .head _
  | there _ ih => exact .tail _ ih
theorem Put.key {K X : Type} {k : K} {x : X} {l l' : List (K × X)} (h : Put k x l l') : k ∈ l.map (·.1) := by
  induction h with
  | here => simp
  | there _ ih => simp [ih]
theorem Put.others {K X : Type} {k : K} {x : X} {l l' : List (K × X)} (h : Put k x l l') (hn : (l.map (·.1)).Nodup) : ∀ p ∈ l', p = (k, x) ∨ (p ∈ l ∧ p.1 ≠ k) := by
  induction h with
  | @here y l =>
    intro p hp
    rw [List.map_cons, List.nodup_cons] at hn
    rcases List.mem_cons.mp hp with rfl | hp
    · exact .inl rfl
    · exact .inr ⟨.tail _ hp, fun e => hn.1 (List.mem_map.mpr ⟨p, hp, e⟩)⟩
  | @there q l l' h ih =>
    intro p hp
    rw [List.map_cons, List.nodup_cons] at hn
    rcases List.mem_cons.mp hp with rfl | hp
    · exact .inr ⟨.head _, fun e => hn.1 (e ▸ h.key)⟩
    · rcases ih hn.2 p hp with e | ⟨e, e'⟩
      · exact .inl e
      · exact .inr ⟨.tail _ e, e'⟩
theorem Put.exists {K X : Type} {k : K} (x : X) : ∀ {l : List (K × X)} {y : X}, (k, y) ∈ l → ∃ l', Put k x l l'
  | (k', y') :: l, y, h => by
    rcases List.mem_cons.mp h with e | h
    · injection e with e1 e2; subst e1; exact ⟨_, .here⟩
    · obtain ⟨l', h'⟩ := Put.exists x h; exact ⟨_, .there h'⟩
theorem Put.again {K X : Type} {k : K} {x y : X} {l l₁ l₂ : List (K × X)} (u : Put k x l l₁) (u' : Put k y l₁ l₂) (hn : (l.map (·.1)).Nodup) : Put k y l l₂ := by
  induction u generalizing l₂ with
  | here =>
    cases u' with
    | here => exact .here
    | there u =>
      rw [List.map_cons, List.nodup_cons] at hn
      exact absurd u.key hn.1
  | there u ih =>
    rw [List.map_cons, List.nodup_cons] at hn
    cases u' with
    | here => exact absurd u.key hn.1
    | there u' => exact .there (ih u' hn.2)
theorem Put.domEq {a : Addr} {o : O} {H H' : AHeap} (u : Put a o H H') : dom H' = dom H := u.keys

section
variable {prog : Program} {w : World} {D D' : List Addr} {h h' : Heap}
theorem RepO.at_ {a : Addr} {o : O} (r : RepO prog w D h a o) : ∃ ob, h.get? a = some ob := by
  cases o with
  | list l => exact r.elim fun _ r => r.elim fun _ r => ⟨_, r.1⟩
  | sdict l => exact r.elim fun _ r => r.1.elim fun o r => r.elim fun _ r => r.elim fun _ r => ⟨o, r.1⟩
  | idict l => exact r.elim fun _ r => r.1.elim fun o r => r.elim fun _ r => r.elim fun _ r => ⟨o, r.1⟩
  | tdict l => exact r.elim fun _ r => r.1.elim fun o r => r.elim fun _ r => r.elim fun _ r => ⟨o, r.1⟩
  | ns l => exact r.elim fun _ r => r.1.elim fun o r => r.elim fun _ r => r.elim fun _ r => ⟨o, r.1⟩
  | inst C d => exact ⟨_, r⟩
  | exc C b => exact r.elim fun o r => r.elim fun _ r => r.elim fun _ r => ⟨o, r.1⟩
theorem dictOf_at {K : Type} [DecidableEq K] {knd : KeyKind prog w K} {a : Addr} {kvs : List (K × Value)} (ka : ∀ o, h.get? a = some o → h'.get? a = some o) (x : h.DictOf knd a kvs) : h'.DictOf knd a kvs :=
  x.elim fun o r => r.elim fun es r => r.elim fun ep r => ⟨o, es, ep, ka o r.1, r.2⟩
theorem ns_at {a : Addr} {m : Str → Option Value} (ka : ∀ o, h.get? a = some o → h'.get? a = some o) (x : h.Ns a m) : h'.Ns a m :=
  x.elim fun o r => r.elim fun es r => r.elim fun ep r => ⟨o, es, ep, ka o r.1, r.2⟩
theorem RepO.carry {a : Addr} (k : Carry D h D' h') (ka : ∀ o, h.get? a = some o → h'.get? a = some o) {o : O} (r : RepO prog w D h a o) : RepO prog w D' h' a o := by
  cases o with
  | list l => exact r.elim fun vs r => r.elim fun n r => ⟨vs, n, ka _ r.1, r.2.carry k⟩
  | sdict l => exact r.elim fun kvs r => ⟨kvs, dictOf_at ka r.1, r.2.carry k⟩
  | idict l => exact r.elim fun kvs r => ⟨kvs, dictOf_at ka r.1, r.2.carry k⟩
  | tdict l => exact r.elim fun xs r => ⟨xs, r.1.elim fun o x => x.elim fun es x => x.elim fun ep x => ⟨o, es, ep, ka o x.1, x.2.1, x.2.2.1, x.2.2.2.1, fun y hy => (k.keyAt (r.2.1 y hy) (x.2.2.2.2.1 y hy)).2, x.2.2.2.2.2⟩,
      fun y hy => r.1.elim fun o x => x.elim fun es x => x.elim fun ep x => (k.keyAt (r.2.1 y hy) (x.2.2.2.2.1 y hy)).1, r.2.2.carry k⟩
  | ns l => exact r.elim fun m r => ⟨m, ns_at ka r.1, r.2.1.elim fun o x => x.elim fun es x => x.elim fun n x => ⟨o, es, n, ka o x.1, x.2⟩, fun p hp => (r.2.2.1 p hp).elim fun v x => ⟨v, x.1, x.2.carry k⟩, r.2.2.2⟩
  | inst C d => exact ka _ r
  | exc C b => exact r.elim fun oe r => r.elim fun vs r => r.elim fun a0 r => ⟨oe, vs, a0, ka _ r.1, r.2⟩
end

structure St (prog : Program) (w : World) (B : Shared) (H : AHeap) (s : Shared) : Prop where
  keep : ∀ b o, B.heap.get? b = some o → s.heap.get? b = some o
  gens : s.gens = B.gens
  os : s.os = B.os
  nodup : (dom H).Nodup
  rep : ∀ p ∈ H, B.heap.get? p.1 = none ∧ RepO prog w (dom H) s.heap p.1 p.2

structure Kp (H : AHeap) (s : Shared) (H' : AHeap) (s' : Shared) : Prop where
  keep : ∀ b o, b ∉ dom H → s.heap.get? b = some o → s'.heap.get? b = some o
  dom : ∀ b o, s.heap.get? b = some o → b ∉ dom H → b ∉ dom H'
structure KpL (L : Addr) (H : AHeap) (s : Shared) (H' : AHeap) (s' : Shared) : Prop where
  keep : ∀ b o, b ≠ L → b ∉ dom H → s.heap.get? b = some o → s'.heap.get? b = some o
  dom : ∀ b o, s.heap.get? b = some o → b ∉ dom H → b ∉ dom H'
  there : ∀ o, s.heap.get? L = some o → ∃ o', s'.heap.get? L = some o'

theorem Kp.refl (H : AHeap) (s : Shared) : Kp H s H s := ⟨fun _ _ _ e => e, fun _ _ _ e => e⟩
theorem Kp.trans {H H₁ H₂ : AHeap} {s s₁ s₂ : Shared} (x : Kp H s H₁ s₁) (y : Kp H₁ s₁ H₂ s₂) : Kp H s H₂ s₂ :=
  ⟨fun b o hb e => y.keep b o (x.dom b o e hb) (x.keep b o hb e), fun b o e hb => y.dom b o (x.keep b o hb e) (x.dom b o e hb)⟩
theorem KpL.refl (L : Addr) (H : AHeap) (s : Shared) : KpL L H s H s := ⟨fun _ _ _ _ e => e, fun _ _ _ e => e, fun o e => ⟨o, e⟩⟩
theorem KpL.trans {L : Addr} {H H₁ H₂ : AHeap} {s s₁ s₂ : Shared} (x : KpL L H s H₁ s₁) (y : KpL L H₁ s₁ H₂ s₂) : KpL L H s H₂ s₂ :=
  ⟨fun b o hL hb e => y.keep b o hL (x.dom b o e hb) (x.keep b o hL hb e), fun b o e hb => by
    by_cases hL : b = L
    · subst hL
      obtain ⟨o', e'⟩ := x.there o e
      exact y.dom b o' e' (x.dom b o e hb)
    · exact y.dom b o (x.keep b o hL hb e) (x.dom b o e hb), fun o e => let ⟨o', e'⟩ := x.there o e; y.there o' e'⟩
theorem Kp.toL {H H' : AHeap} {s s' : Shared} (x : Kp H s H' s') {L : Addr} (hL : L ∉ Mine.dom H) : KpL L H s H' s' := ⟨fun b o _ hb e => x.keep b o hb e, x.dom, fun o e => ⟨o, x.keep L o hL e⟩⟩
theorem Kp.toks {H : AHeap} {s : Shared} (t : Nat) : Kp H s H { s with toks := t } := ⟨fun _ _ _ e => e, fun _ _ _ e => e⟩
theorem Kp.carry {H H' : AHeap} {s s' : Shared} (k : Kp H s H' s') : Carry (Mine.dom H) s.heap (Mine.dom H') s'.heap := fun a o n e _ => ⟨k.dom a o e n, k.keep a o n e⟩
noncomputable def FrameAt (h : Heap) (L : Addr) : Prop := ∃ o, h.get? L = some o ∧ o.cls = .type "frame"
theorem FrameAt.ne {h : Heap} {L a : Addr} {o : Obj} (f : FrameAt h L) (e : h.get? a = some o) (c : PureCls o.cls) : a ≠ L := fun q => by
  obtain ⟨o', e', c'⟩ := f
  subst q; rw [e] at e'; cases e'
  rcases c with c | c | c | c <;> (rw [c'] at c; simp at c)
theorem KpL.carry {L : Addr} {H H' : AHeap} {s s' : Shared} (k : KpL L H s H' s') (f : FrameAt s.heap L) : Carry (Mine.dom H) s.heap (Mine.dom H') s'.heap := fun a o n e c =>
  ⟨k.dom a o e n, k.keep a o (f.ne e c) n e⟩

section
variable {prog : Program} {w : World} {B s s' : Shared} {H H' : AHeap} {L : Addr}

theorem St.at_ (S : St prog w B H s) {a : Addr} (h : a ∈ dom H) : ∃ o, s.heap.get? a = some o := by
  obtain ⟨p, hp, rfl⟩ := List.mem_map.mp h
  exact (S.rep p hp).2.at_
theorem St.fresh (S : St prog w B H s) {a : Addr} (h : s.heap.get? a = none) : a ∉ dom H := fun q => by
  obtain ⟨o, e⟩ := S.at_ q
  rw [h] at e; cases e
theorem get_size (h : Heap) : h.get? h.objs.size = none := by
  cases e : h.get? h.objs.size with
  | none => rfl
  | some o => exact absurd (Heap.lt_size e) (Nat.lt_irrefl _)
theorem get_past {h : Heap} {a : Addr} (ha : h.objs.size ≤ a) : h.get? a = none := by
  cases e : h.get? a with
  | none => rfl
  | some o => exact absurd (Heap.lt_size e) (Nat.not_lt.mpr ha)
theorem St.toks (S : St prog w B H s) (t : Nat) : St prog w B H { s with toks := t } := ⟨S.keep, S.gens, S.os, S.nodup, S.rep⟩
theorem St.baseNone (S : St prog w B H s) {a : Addr} (h : s.heap.get? a = none) : B.heap.get? a = none := by
  cases e : B.heap.get? a with
  | none => rfl
  | some o => rw [S.keep a o e] at h; cases h

theorem Kp.growBut {h' : Heap} {t : Nat} {wr : List Addr} (k : ∀ b o, b ∉ wr → s.heap.get? b = some o → h'.get? b = some o) (hw : ∀ b ∈ wr, b ∉ Mine.dom H → s.heap.get? b = none) : Kp H s H { s with heap := h', toks := t } :=
  ⟨fun b o hb e => k b o (fun q => by rw [hw b q hb] at e; cases e) e, fun _ _ _ e => e⟩
theorem St.growBut (S : St prog w B H s) {h' : Heap} {t : Nat} {wr : List Addr} (k : ∀ b o, b ∉ wr → s.heap.get? b = some o → h'.get? b = some o) (hw : ∀ b ∈ wr, b ∉ dom H ∧ B.heap.get? b = none)
    (hc : ∀ b ∈ wr, ∀ o, s.heap.get? b = some o → ¬ PureCls o.cls) :
    St prog w B H { s with heap := h', toks := t } := by
  have C : Carry (dom H) s.heap (dom H) h' := fun a o n e c => ⟨n, k a o (fun q => hc a q o e c) e⟩
  exact ⟨fun b o e => k b o (fun q => by rw [(hw b q).2] at e; cases e) (S.keep b o e), S.gens, S.os, S.nodup,
    fun p hp => ⟨(S.rep p hp).1, (S.rep p hp).2.carry C fun o e => k _ o (fun q => (hw _ q).1 (List.mem_map_of_mem hp)) e⟩⟩
theorem Kp.grow {h' : Heap} {t : Nat} (k : ∀ b o, s.heap.get? b = some o → h'.get? b = some o) : Kp H s H { s with heap := h', toks := t } :=
  ⟨fun b o _ e => k b o e, fun _ _ _ e => e⟩
theorem St.grow (S : St prog w B H s) {h' : Heap} {t : Nat} (k : ∀ b o, s.heap.get? b = some o → h'.get? b = some o) :
    St prog w B H { s with heap := h', toks := t } :=
  ⟨fun b o e => k b o (S.keep b o e), S.gens, S.os, S.nodup, fun p hp => ⟨(S.rep p hp).1, (S.rep p hp).2.carry (Kp.grow (t := t) k).carry fun o e => k _ o e⟩⟩
theorem Kp.new {h' : Heap} {t : Nat} {a : Addr} {o : O} (k : ∀ b o, s.heap.get? b = some o → h'.get? b = some o) (ha : s.heap.get? a = none) :
    Kp H s ((a, o) :: H) { s with heap := h', toks := t } :=
  ⟨fun b o _ e => k b o e, fun b ob e hn h => by
    rcases List.mem_cons.mp h with rfl | h
    · rw [ha] at e; cases e
    · exact hn h⟩
theorem St.new (S : St prog w B H s) {h' : Heap} {t : Nat} {a : Addr} {o : O} (k : ∀ b o, s.heap.get? b = some o → h'.get? b = some o) (ha : s.heap.get? a = none)
    (r : RepO prog w (dom ((a, o) :: H)) h' a o) : St prog w B ((a, o) :: H) { s with heap := h', toks := t } := by
  have G := S.grow (t := t) k
  refine ⟨G.keep, G.gens, G.os, ?_, fun p hp => ?_⟩
  · show (a :: dom H).Nodup
    exact List.nodup_cons.mpr ⟨S.fresh ha, S.nodup⟩
  · rcases List.mem_cons.mp hp with rfl | hp
    · exact ⟨S.baseNone ha, r⟩
    · exact ⟨(S.rep p hp).1, (S.rep p hp).2.carry (Kp.new (t := t) (o := o) k ha).carry fun o e => k _ o e⟩
theorem Kp.put {h' : Heap} {t : Nat} {a : Addr} {o : O} (hs : Heap.SameBut a s.heap h') (u : Put a o H H') : Kp H s H' { s with heap := h', toks := t } :=
  ⟨fun b ob hb e => (hs.2 b fun q => hb (q ▸ u.key)).trans e, fun b _ _ hn h => hn (u.domEq ▸ h)⟩
theorem St.put (S : St prog w B H s) {h' : Heap} {t : Nat} {a : Addr} {o : O} (hs : Heap.SameBut a s.heap h') (u : Put a o H H') (r : RepO prog w (dom H') h' a o) : St prog w B H' { s with heap := h', toks := t } := by
  have kT := (Kp.put (t := t) hs u).carry
  have hB : B.heap.get? a = none := by
    obtain ⟨p, hp, e'⟩ := List.mem_map.mp u.key
    exact e' ▸ (S.rep p hp).1
  refine ⟨fun b ob e => (hs.2 b fun q => ?_).trans (S.keep b ob e), S.gens, S.os, ?_, fun p hp => ?_⟩
  · rw [q, hB] at e; cases e
  · rw [u.domEq]; exact S.nodup
  · rcases u.others S.nodup p hp with rfl | ⟨hp, hne⟩
    · exact ⟨hB, r⟩
    · exact ⟨(S.rep p hp).1, (S.rep p hp).2.carry kT fun ob e => (hs.2 _ hne).trans e⟩
theorem subCarry (u : H'.Sublist H) (h : Heap) : Carry (dom H) h (dom H') h := fun a o n e _ => ⟨fun q => n ((u.map _).subset q), e⟩
theorem St.sub (S : St prog w B H s) (u : H'.Sublist H) : St prog w B H' s :=
  ⟨S.keep, S.gens, S.os, (u.map _).nodup S.nodup, fun p hp => ⟨(S.rep p (u.subset hp)).1, (S.rep p (u.subset hp)).2.carry (subCarry u _) fun _ e => e⟩⟩
theorem Kp.subOut {H₁ : AHeap} (k : Kp H s H₁ s') (u : H'.Sublist H₁) : Kp H s H' s' :=
  ⟨k.keep, fun b o e hn h => k.dom b o e hn ((u.map _).subset h)⟩
theorem St.perm (S : St prog w B H s) (u : H'.Perm H) : St prog w B H' s :=
  ⟨S.keep, S.gens, S.os, (u.map _).nodup_iff.mpr S.nodup, fun p hp => ⟨(S.rep p (u.subset hp)).1, (S.rep p (u.subset hp)).2.carry (fun a o n e _ => ⟨fun q => n ((u.map _).subset q), e⟩) fun _ e => e⟩⟩

structure Loc (prog : Program) (w : World) (D : List Addr) (env : Env) (ρ : List (Str × Option V)) (h : Heap) : Prop where
  ns : ∃ m, h.Ns env.locals m ∧ ∀ p ∈ ρ, ∀ d, p.2 = some d → ∃ v, m p.1 = some v ∧ Rep prog w D h v d
  nodup : (ρ.map (·.1)).Nodup
  loc : ∀ p ∈ ρ, env.kindOf p.1 = some .local
  frame : FrameAt h env.locals
variable {env : Env} {ρ ρ' : List (Str × Option V)} {D D' : List Addr}
theorem Loc.carry {h h' : Heap} (x : Loc prog w D env ρ h) (k : Carry D h D' h') (kL : ∀ o, h.get? env.locals = some o → h'.get? env.locals = some o) : Loc prog w D' env ρ h' := by
  obtain ⟨⟨m, ⟨o, es, ep, ho, r⟩, hv⟩, n, l, o', ho', hc⟩ := x
  exact ⟨⟨m, ⟨o, es, ep, kL _ ho, r⟩, fun y hy d e => let ⟨v, a, b⟩ := hv y hy d e; ⟨v, a, b.carry k⟩⟩, n, l, o', kL _ ho', hc⟩
theorem Loc.kp (x : Loc prog w (dom H) env ρ s.heap) (hL : env.locals ∉ dom H) (k : Kp H s H' s') : Loc prog w (dom H') env ρ s'.heap :=
  x.carry k.carry fun o e => k.keep _ o hL e
theorem Loc.at_ {h : Heap} (x : Loc prog w D env ρ h) : ∃ o, h.get? env.locals = some o := let ⟨o, e, _⟩ := x.frame; ⟨o, e⟩
theorem Loc.lt {h : Heap} (x : Loc prog w D env ρ h) : env.locals < h.objs.size := let ⟨_, n, _⟩ := x.ns; n.lt
theorem Loc.out (x : Loc prog w D env ρ s.heap) (hL : env.locals ∉ dom H) (k : Kp H s H' s') : env.locals ∉ dom H' := let ⟨o, e⟩ := x.at_; k.dom _ o e hL
theorem Loc.outL (x : Loc prog w D env ρ s.heap) (hL : env.locals ∉ dom H) (k : KpL env.locals H s H' s') : env.locals ∉ dom H' := let ⟨o, e⟩ := x.at_; k.dom _ o e hL
theorem Loc.get {h : Heap} (x : Loc prog w D env ρ h) {y : Str} {d : V} (hm : (y, some d) ∈ ρ) : ∃ m v, h.Ns env.locals m ∧ m y = some v ∧ Rep prog w D h v d :=
  let ⟨m, n, r⟩ := x.ns
  let ⟨v, a, b⟩ := r _ hm d rfl
  ⟨m, v, n, a, b⟩
theorem Loc.put {h h' : Heap} {m : Str → Option Value} {y : Str} {v : Value} {d : V} (x : Loc prog w D env ρ h) (u : Put y (some d) ρ ρ') (k : Carry D h D' h') (r : Rep prog w D h v d)
    (hv : ∀ p ∈ ρ, ∀ d, p.2 = some d → ∃ v, m p.1 = some v ∧ Rep prog w D h v d)
    (hn' : h'.Ns env.locals (fun z => if z = y then some v else m z)) (hf : FrameAt h' env.locals) : Loc prog w D' env ρ' h' := by
  refine ⟨⟨_, hn', fun p hp d' e => ?_⟩, by rw [u.keys]; exact x.nodup, fun p hp => ?_, hf⟩
  · rcases u.others x.nodup p hp with rfl | ⟨hp, hne⟩
    · cases e
      exact ⟨v, if_pos rfl, r.carry k⟩
    · obtain ⟨v', a, b⟩ := hv p hp d' e
      exact ⟨v', by rw [if_neg hne]; exact a, b.carry k⟩
  · have : p.1 ∈ ρ.map (·.1) := u.keys ▸ List.mem_map_of_mem hp
    obtain ⟨q, hq, e⟩ := List.mem_map.mp this
    exact e ▸ x.loc q hq
theorem Loc.weaken {h : Heap} (x : Loc prog w D env ρ h) (hk : ρ'.map (·.1) = ρ.map (·.1)) (hs : ∀ p ∈ ρ', p.2 = none ∨ p ∈ ρ) : Loc prog w D env ρ' h := by
  obtain ⟨⟨m, n, r⟩, nd, l, f⟩ := x
  refine ⟨⟨m, n, fun p hp d e => ?_⟩, hk ▸ nd, fun p hp => ?_, f⟩
  · rcases hs p hp with q | q
    · rw [q] at e; cases e
    · exact r p q d e
  · have : p.1 ∈ ρ.map (·.1) := hk ▸ List.mem_map_of_mem hp
    obtain ⟨q, hq, e⟩ := List.mem_map.mp this
    exact e ▸ l q hq

theorem putName_cls (name : Str) (hsh : Int) (key v : Value) (o : Obj) : (Obj.putName name hsh key v o).cls = o.cls ∧ ((Obj.putName name hsh key v o).isFreed = o.isFreed) := by
  obtain ⟨c, d, dt, sl⟩ := o
  rw [Obj.putName_eq]
  cases dt <;> first | exact ⟨rfl, rfl⟩ | skip
  unfold Obj.putNameByArray
  dsimp only
  split <;> exact ⟨rfl, rfl⟩
theorem nsSet_at {M : Model} {A : Around} {E : Value → Shared → Prop} {s : Shared} {a : Addr} {m : Str → Option Value} {name : Str} {v : Value} {Q : Unit → Shared → Prop} (hn : s.heap.Ns a m)
    (h : ∀ hsh key, (s.heap.update a (Obj.putName name hsh key v)).Ns a (fun x => if x = name then some v else m x) → Heap.SameBut a s.heap (s.heap.update a (Obj.putName name hsh key v)) → Q () { s with heap := s.heap.update a (Obj.putName name hsh key v), toks := s.toks + 1 }) :
    wpAny M A (nsSet a name v) Q E s := fun Γ p hΓ => by
  have hP := Sem.wp_nsSet M Γ (fun _ _ _ => False) p s hn name v (fun _ _ s' => s'.heap.Ns a (fun x => if x = name then some v else m x) ∧ Heap.SameBut a s.heap s'.heap) fun h' x y => ⟨x, y⟩
  obtain ⟨o', es, ep, ho', hd, hk, hm⟩ := hn
  simp only [nsSet, strHash, Sem.wp_bind', Sem.wp_cmd_ask, Sem.wp_pure', Sem.wp_cmd_mkText] at hP ⊢
  rw [Sem.wp_loadPart_of M Γ _ p { s with toks := s.toks + 1 } (o := o') _ ho'] at hP
  rw [Sem.wp_loadPart_of M Γ _ p { s with toks := s.toks + 1 } (o := o') _ ho']
  simp only [hd] at hP ⊢
  split at hP
  · exact hP.elim
  · rename_i hno
    rw [if_neg hno]
    exact ⟨by rw [ho']; rfl, h _ _ hP.2.1 hP.2.2⟩
theorem wpAny_nsSet' {M : Model} {A : Around} {E : Value → Shared → Prop} {s : Shared} {a : Addr} {m : Str → Option Value} {name : Str} {v : Value} {Q : Unit → Shared → Prop} (hn : s.heap.Ns a m) {c : Value} (hc : ∃ o, s.heap.get? a = some o ∧ o.cls = c)
    (h : ∀ h', h'.Ns a (fun x => if x = name then some v else m x) → Heap.SameBut a s.heap h' → (∃ o, h'.get? a = some o ∧ o.cls = c) → Q () { s with heap := h', toks := s.toks + 1 }) :
    wpAny M A (nsSet a name v) Q E s := nsSet_at hn fun hsh key hN hS => ea hc fun o ho hcl => h _ hN hS ⟨_, Heap.get?_update_self _ ho ((putName_cls name hsh key v o).2.trans (Heap.get?_some_iff.mp ho).2), (putName_cls name hsh key v o).1.trans hcl⟩
theorem putName_size (name : Str) (hsh : Int) (key v : Value) (o : Obj) {es : Array DictEntry} {n : Nat} (h : o.data = .dict es n) : ∃ es' n', (Obj.putName name hsh key v o).data = .dict es' n' ∧ es'.size ≤ es.size + 1 := by
  obtain ⟨c, d, dt, sl⟩ := o
  dsimp only at h
  subst h
  rw [Obj.putName_eq]
  unfold Obj.putNameByArray
  dsimp only
  split
  · exact ⟨_, _, rfl, by simp⟩
  · exact ⟨_, _, rfl, by simp⟩
theorem wpAny_nsSetB {M : Model} {A : Around} {E : Value → Shared → Prop} {s : Shared} {a : Addr} {m : Str → Option Value} {name : Str} {v : Value} {Q : Unit → Shared → Prop} (hn : s.heap.Ns a m) {k : Nat} (hc : ∃ o es n, s.heap.get? a = some o ∧ o.data = .dict es n ∧ es.size ≤ k)
    (h : ∀ h', h'.Ns a (fun x => if x = name then some v else m x) → Heap.SameBut a s.heap h' → (∃ o es n, h'.get? a = some o ∧ o.data = .dict es n ∧ es.size ≤ k + 1) → Q () { s with heap := h', toks := s.toks + 1 }) :
    wpAny M A (nsSet a name v) Q E s := nsSet_at hn fun hsh key hN hS => by
  obtain ⟨o, es₀, n₀, ho, hd₀, hz₀⟩ := hc
  have alive : (Obj.putName name hsh key v o).isFreed = false := (putName_cls name hsh key v o).2.trans (Heap.get?_some_iff.mp ho).2
  obtain ⟨es', n', hd', hz'⟩ := putName_size name hsh key v o hd₀
  exact h _ hN hS ⟨_, es', n', Heap.get?_update_self _ ho alive, hd', by lia⟩
end
end Mine
namespace Mine
open PySem PySem.W PyProof.Rows PySem.Calls

structure Wd where
  prog : Program
  w : World
  B : Shared
  mg : Str → Option Value
  mb : Str → Option Value
  K : Frag
structure Wd.Ok (W : Wd) : Prop where
  g : W.B.heap.Ns mainGlobals W.mg
  b : W.B.heap.Ns builtinsNs W.mb
  nolimit : W.B.heap.NoLimit
  nodigits : ∃ mc, W.B.heap.Ns cStatics mc ∧ mc "sys.int_max_str_digits" = none
  blt : ∀ x : Str, x ≠ "__name__" → W.mb x = bootBuiltins x
  k : W.K.In W.B.heap
  gens : W.B.gens = #[]
  mods : ∃ o, W.B.heap.get? sysModules = some o

noncomputable abbrev Wd.M (W : Wd) : Model := model W.prog W.w
noncomputable abbrev Wd.Rep (W : Wd) (D : List Addr) (h : Heap) (v : Value) (d : V) : Prop := Mine.Rep W.prog W.w D h v d
noncomputable abbrev Wd.Reps (W : Wd) (D : List Addr) (h : Heap) (v : List Value) (d : List V) : Prop := Mine.Reps W.prog W.w D h v d
noncomputable abbrev Wd.Loc (W : Wd) (D : List Addr) (env : Env) (ρ : List (Str × Option V)) (h : Heap) : Prop := Mine.Loc W.prog W.w D env ρ h
noncomputable abbrev Wd.St (W : Wd) (H : AHeap) (s : Shared) : Prop := Mine.St W.prog W.w W.B H s

structure Fm where
  A : Around
  E : Value → Shared → Prop
  nm : Str
  sc : Scope
  L : Addr
  a : Addr
  cd : Value
noncomputable abbrev Fm.env (F : Fm) : Env := envOf F.nm F.sc F.L F.a F.cd
structure Rm (k : Nat) (A : Around) : Prop where
  units : A.units + 20 * k + 100 < cLine
  depth : A.depth + 2 * k + 100 < recursionLimit
  handled : A.handled = none
theorem Rm.le {k n : Nat} {A : Around} (r : Rm k A) (h : n ≤ k) : Rm n A := ⟨by have := r.units; lia, by have := r.depth; lia, r.handled⟩
theorem Rm.deeper {k : Nat} {A : Around} (r : Rm (k + 1) A) (env : Env) : Rm k (A.deeper env) := ⟨by have := r.units; simp only [Around.deeper]; lia, by have := r.depth; simp only [Around.deeper]; lia, r.handled⟩
structure Fm.Ok (F : Fm) (W : Wd) (k : Nat) : Prop where
  kind : F.sc.kind = .function
  nodup : (F.sc.names.map (·.1)).Nodup
  nodebug : ∀ p ∈ F.sc.names, (p.1 == ("__debug__" : Str)) = false
  base : W.B.heap.get? F.L = none
  room : Rm k F.A

theorem lookup_of_mem {K X : Type} [BEq K] [LawfulBEq K] {k : K} {x : X} : ∀ {l : List (K × X)}, (l.map (·.1)).Nodup → (k, x) ∈ l → l.lookup k = some x
  | (k', x') :: l, hn, h => by
    rw [List.map_cons, List.nodup_cons] at hn
    rcases List.mem_cons.mp h with e | h
    · injection e with e1 e2; subst e1; subst e2; simp [List.lookup]
    · have hne : k ≠ k' := fun e => hn.1 (e ▸ List.mem_map.mpr ⟨(k, x), h, rfl⟩)
      rw [List.lookup_cons, show (k == k') = false from beq_eq_false_iff_ne.mpr hne]
      exact lookup_of_mem hn.2 h
theorem mem_of_lookup {K X : Type} [BEq K] [LawfulBEq K] {k : K} {x : X} : ∀ {l : List (K × X)}, l.lookup k = some x → (k, x) ∈ l
  | (k', x') :: l, h => by
    rw [List.lookup_cons] at h
    by_cases e : (k == k') = true
    · rw [e] at h; injection h with h; rw [h, eq_of_beq e]; exact .head _
    · rw [Bool.not_eq_true] at e; rw [e] at h; exact .tail _ (mem_of_lookup h)

noncomputable def Out (W : Wd) (H : AHeap) (s : Shared) (Q : V → AHeap → Prop) (v : Value) (s' : Shared) : Prop :=
  ∃ d H', W.Rep (dom H') s'.heap v d ∧ W.St H' s' ∧ Kp H s H' s' ∧ Q d H'
noncomputable def OutB (W : Wd) (H : AHeap) (s : Shared) (Q : Bool → AHeap → Prop) (b : Bool) (s' : Shared) : Prop :=
  ∃ H', W.St H' s' ∧ Kp H s H' s' ∧ Q b H'
noncomputable def OutN (W : Wd) (H : AHeap) (s : Shared) (Q : List V → AHeap → Prop) (vs : List Value) (s' : Shared) : Prop :=
  ∃ ds H', W.Reps (dom H') s'.heap vs ds ∧ W.St H' s' ∧ Kp H s H' s' ∧ Q ds H'

structure EP (W : Wd) (F : Fm) (ρ : List (Str × Option V)) (H : AHeap) (t : Sem Value) (Q : V → AHeap → Prop) : Prop where
  go : ∀ s, W.St H s → W.Loc (dom H) F.env ρ s.heap → F.L ∉ dom H → wpAny W.M F.A t (Out W H s Q) F.E s
structure TP (W : Wd) (F : Fm) (ρ : List (Str × Option V)) (H : AHeap) (t : Sem Bool) (Q : Bool → AHeap → Prop) : Prop where
  go : ∀ s, W.St H s → W.Loc (dom H) F.env ρ s.heap → F.L ∉ dom H → wpAny W.M F.A t (OutB W H s Q) F.E s
structure NP (W : Wd) (F : Fm) (ρ : List (Str × Option V)) (H : AHeap) (t : Sem (List Value)) (Q : List V → AHeap → Prop) : Prop where
  go : ∀ s, W.St H s → W.Loc (dom H) F.env ρ s.heap → F.L ∉ dom H → wpAny W.M F.A t (OutN W H s Q) F.E s
structure OP1 (W : Wd) (F : Fm) (t : Value → Sem Value) (a : V) (H : AHeap) (Q : V → AHeap → Prop) : Prop where
  go : ∀ s v, W.St H s → W.Rep (dom H) s.heap v a → wpAny W.M F.A (t v) (Out W H s Q) F.E s
structure OP2 (W : Wd) (F : Fm) (t : Value → Value → Sem Value) (a b : V) (H : AHeap) (Q : V → AHeap → Prop) : Prop where
  go : ∀ s v u, W.St H s → W.Rep (dom H) s.heap v a → W.Rep (dom H) s.heap u b → wpAny W.M F.A (t v u) (Out W H s Q) F.E s
structure OPN (W : Wd) (F : Fm) (t : List Value → Sem Value) (ds : List V) (H : AHeap) (Q : V → AHeap → Prop) : Prop where
  go : ∀ s vs, W.St H s → W.Reps (dom H) s.heap vs ds → wpAny W.M F.A (t vs) (Out W H s Q) F.E s
structure OT (W : Wd) (F : Fm) (a : V) (H : AHeap) (Q : Bool → AHeap → Prop) : Prop where
  go : ∀ s v, W.St H s → W.Rep (dom H) s.heap v a → wpAny W.M F.A (truthy v) (OutB W H s Q) F.E s

section
variable {W : Wd} {F : Fm} {ρ : List (Str × Option V)} {H : AHeap} {Q : V → AHeap → Prop} {s : Shared} {k₀ : Nat}

theorem Out.trans {H₁ : AHeap} {s₁ s' : Shared} {v : Value} (k : Kp H s H₁ s₁) (o : Out W H₁ s₁ Q v s') : Out W H s Q v s' :=
  o.elim fun d o => o.elim fun H' o => ⟨d, H', o.1, o.2.1, k.trans o.2.2.1, o.2.2.2⟩
theorem OutB.trans {H₁ : AHeap} {s₁ s' : Shared} {v : Bool} {Q : Bool → AHeap → Prop} (k : Kp H s H₁ s₁) (o : OutB W H₁ s₁ Q v s') : OutB W H s Q v s' :=
  o.elim fun H' o => ⟨H', o.1, k.trans o.2.1, o.2.2⟩
theorem OutN.trans {H₁ : AHeap} {s₁ s' : Shared} {v : List Value} {Q : List V → AHeap → Prop} (k : Kp H s H₁ s₁) (o : OutN W H₁ s₁ Q v s') : OutN W H s Q v s' :=
  o.elim fun d o => o.elim fun H' o => ⟨d, H', o.1, o.2.1, k.trans o.2.2.1, o.2.2.2⟩
theorem Out.to {P : Prop} {v : Value} {s' : Shared} (o : Out W H s Q v s') (k : ∀ d H', W.Rep (dom H') s'.heap v d → W.St H' s' → Kp H s H' s' → Q d H' → P) : P := o.elim fun d o => o.elim fun H' o => k d H' o.1 o.2.1 o.2.2.1 o.2.2.2
theorem OutB.to {P : Prop} {v : Bool} {s' : Shared} {Q : Bool → AHeap → Prop} (o : OutB W H s Q v s') (k : ∀ H', W.St H' s' → Kp H s H' s' → Q v H' → P) : P := o.elim fun H' o => k H' o.1 o.2.1 o.2.2
theorem OutN.to {P : Prop} {v : List Value} {s' : Shared} {Q : List V → AHeap → Prop} (o : OutN W H s Q v s') (k : ∀ d H', W.Reps (dom H') s'.heap v d → W.St H' s' → Kp H s H' s' → Q d H' → P) : P := o.elim fun d o => o.elim fun H' o => k d H' o.1 o.2.1 o.2.2.1 o.2.2.2
theorem Out.here (S : W.St H s) {v : Value} {d : V} (r : W.Rep (dom H) s.heap v d) (q : Q d H) : Out W H s Q v s := ⟨d, H, r, S, .refl _ _, q⟩
theorem Out.toks (S : W.St H s) {v : Value} {d : V} {t : Nat} (r : W.Rep (dom H) s.heap v d) (q : Q d H) : Out W H s Q v { s with toks := t } := ⟨d, H, r, S.toks t, .toks t, q⟩
theorem OutB.here (S : W.St H s) {b : Bool} {Q : Bool → AHeap → Prop} (q : Q b H) : OutB W H s Q b s := ⟨H, S, .refl _ _, q⟩
theorem OutB.toks (S : W.St H s) {b : Bool} {t : Nat} {Q : Bool → AHeap → Prop} (q : Q b H) : OutB W H s Q b { s with toks := t } := ⟨H, S.toks t, .toks t, q⟩

theorem EP.mono {t : Sem Value} {Q' : V → AHeap → Prop} (h : EP W F ρ H t Q) (q : ∀ d H', Q d H' → Q' d H') : EP W F ρ H t Q' :=
  .mk fun s S l n => wpAny_mono (h.go s S l n) (fun _ _ o => o.to fun d H' r S' k x => ⟨d, H', r, S', k, q d H' x⟩) fun _ _ e => e

theorem EP.op1 {t : Sem Value} {f : Value → Sem Value} {s : Shared} (S : W.St H s) (l : W.Loc (dom H) F.env ρ s.heap) (n : F.L ∉ dom H) (h : EP W F ρ H t (fun d H₁ => OP1 W F f d H₁ Q)) :
    wpAny W.M F.A t (fun v s₁ => wpAny W.M F.A (f v) (Out W H s Q) F.E s₁) F.E s :=
  wpAny_mono (h.go s S l n) (fun v s₁ o => o.to fun d H₁ r S₁ kp q => wpAny_mono (q.go s₁ v S₁ r) (fun _ _ o => o.trans kp) fun _ _ e => e) fun _ _ e => e
theorem EP.op2 {t u : Sem Value} {f : Value → Value → Sem Value} {s : Shared} (S : W.St H s) (l : W.Loc (dom H) F.env ρ s.heap) (n : F.L ∉ dom H) (h : EP W F ρ H t (fun d H₁ => EP W F ρ H₁ u (fun e H₂ => OP2 W F f d e H₂ Q))) :
    wpAny W.M F.A t (fun v s₁ => wpAny W.M F.A u (fun z s₂ => wpAny W.M F.A (f v z) (Out W H s Q) F.E s₂) F.E s₁) F.E s :=
  wpAny_mono (h.go s S l n) (fun v s₁ o => o.to fun d H₁ r S₁ kp q => wpAny_mono (q.go s₁ S₁ (l.kp n kp) (l.out n kp)) (fun z s₂ o => o.to fun e H₂ r₂ S₂ kp₂ q₂ =>
    wpAny_mono (q₂.go s₂ v z S₂ (r.carry kp₂.carry) r₂) (fun _ _ o => (o.trans kp₂).trans kp) fun _ _ e => e) fun _ _ e => e) fun _ _ e => e

theorem EP_int {i : Int} {k : Nat} {pos : Pos} (q : Q (.int i) H) : EP W F ρ H (eval (.Constant (.int i) k pos) F.env) Q :=
  .mk fun s S l n => wpAny_Constant_int (Out.toks S (.int _ _) q)
theorem EP_str {x : Str} {k : Nat} {pos : Pos} (q : Q (.str x) H) : EP W F ρ H (eval (.Constant (.str x) k pos) F.env) Q :=
  .mk fun s S l n => wpAny_Constant_str (Out.toks S (.str _ _) q)
theorem EP_bool {b : Bool} {k : Nat} {pos : Pos} (q : Q (.bool b) H) : EP W F ρ H (eval (.Constant (.bool b) k pos) F.env) Q :=
  .mk fun s S l n => wpAny_Constant_bool (Out.here S (.bool _) q)
theorem EP_none {k : Nat} {pos : Pos} (q : Q .none H) : EP W F ρ H (eval (.Constant .none k pos) F.env) Q :=
  .mk fun s S l n => wpAny_Constant_none (Out.here S .none q)

theorem EP_local (ok : F.Ok W k₀) {x : Str} {pos : Pos} {d : V} (hm : (x, some d) ∈ ρ) (q : Q d H) : EP W F ρ H (eval (.Name x pos) F.env) Q :=
  .mk fun s S l n => by
    obtain ⟨m, v, hn, hv, r⟩ := l.get hm
    have hk : F.env.kindOf x = some .local := l.loc _ hm
    refine wpAny_Name (wpAny_loadName_local (m := m) ok.kind hk hn hv (Out.here S r q)) (ok.nodebug (x, .local) (mem_of_lookup hk))
theorem EP_global (ok : F.Ok W k₀) (wok : W.Ok) {x : Str} {pos : Pos} {v : Value} {d : V} (hm : (x, NameKind.globalImplicit) ∈ F.sc.names) (hg : W.mg x = some v) (r : ∀ D h, W.Rep D h v d) (q : Q d H) :
    EP W F ρ H (eval (.Name x pos) F.env) Q := .mk fun s S l n => by
  have hk : F.env.kindOf x = some .globalImplicit := lookup_of_mem ok.nodup hm
  exact Calls.Name_function_global ok.kind hk (Calls.loadGlobal_global (env := F.env) (wok.g.keeps S.keep) hg (Out.here S (r _ _) q)) (ok.nodebug _ hm)
theorem EP_builtin (ok : F.Ok W k₀) (wok : W.Ok) {x : Str} {pos : Pos} {v : Value} {d : V} (hm : (x, NameKind.globalImplicit) ∈ F.sc.names) (hg : W.mg x = none) (hb : bootBuiltins x = some v) (hx : x ≠ "__name__") (r : ∀ D h, W.Rep D h v d) (q : Q d H) :
    EP W F ρ H (eval (.Name x pos) F.env) Q := .mk fun s S l n => by
  have hk : F.env.kindOf x = some .globalImplicit := lookup_of_mem ok.nodup hm
  exact Calls.Name_function_global ok.kind hk (Calls.loadGlobal_builtin (env := F.env) (wok.g.keeps S.keep) hg (wok.b.keeps S.keep) ((wok.blt x hx).trans hb) (Out.here S (r _ _) q)) (ok.nodebug _ hm)

theorem EP_bin {e₁ e₂ : Expr} {op : Operator} {pos : Pos} (h : EP W F ρ H (eval e₁ F.env) (fun a H₁ => EP W F ρ H₁ (eval e₂ F.env) (fun b H₂ => OP2 W F (binaryOp op) a b H₂ Q))) :
    EP W F ρ H (eval (.BinOp e₁ op e₂ pos) F.env) Q := .mk fun s S l n => wpAny_BinOp (EP.op2 S l n h)
theorem EP_cmp {e₁ e₂ : Expr} {op : CmpOp} {pos : Pos} (h : EP W F ρ H (eval e₁ F.env) (fun a H₁ => EP W F ρ H₁ (eval e₂ F.env) (fun b H₂ => OP2 W F (compareOp op) a b H₂ Q)))
    (hm : behindInMarks op e₂ = false := by with_unfolding_all rfl) :
    EP W F ρ H (eval (.Compare e₁ [op] [e₂] pos) F.env) Q := .mk fun s S l n => wpAny_Compare1 (EP.op2 S l n h) hm
theorem EP_un {e : Expr} {op : UnaryOp} {pos : Pos} (h : EP W F ρ H (eval e F.env) (fun a H₁ => OP1 W F (unaryOp op) a H₁ Q)) :
    EP W F ρ H (eval (.UnaryOp op e pos) F.env) Q := .mk fun s S l n => wpAny_UnaryOp (EP.op1 S l n h)

theorem op_add_int {a b : Int} (q : Q (.int (a + b)) H) : OP2 W F (binaryOp .Add) (.int a) (.int b) H Q := .mk fun s v u S r₁ r₂ => by
  (first | refine Rep.int_elim r₁ (fun _ => ?_) | refine Rep.str_elim r₁ (fun _ => ?_) | refine Rep.bool_elim r₁ ?_ | refine Rep.ty_elim r₁ ?_)
  (first | refine Rep.int_elim r₂ (fun _ => ?_) | refine Rep.str_elim r₂ (fun _ => ?_) | refine Rep.bool_elim r₂ ?_ | refine Rep.ty_elim r₂ ?_)
  exact PyProof.Rows.add_int (Out.toks S (.int _ _) q)
theorem op_sub_int {a b : Int} (q : Q (.int (a - b)) H) : OP2 W F (binaryOp .Sub) (.int a) (.int b) H Q := .mk fun s v u S r₁ r₂ => by
  (first | refine Rep.int_elim r₁ (fun _ => ?_) | refine Rep.str_elim r₁ (fun _ => ?_) | refine Rep.bool_elim r₁ ?_ | refine Rep.ty_elim r₁ ?_)
  (first | refine Rep.int_elim r₂ (fun _ => ?_) | refine Rep.str_elim r₂ (fun _ => ?_) | refine Rep.bool_elim r₂ ?_ | refine Rep.ty_elim r₂ ?_)
  exact PyProof.Rows.sub_int (Out.toks S (.int _ _) q)
theorem op_mul_int {a b : Int} (hm : IntMulOk a b) (q : Q (.int (a * b)) H) : OP2 W F (binaryOp .Mult) (.int a) (.int b) H Q := .mk fun s v u S r₁ r₂ => by
  (first | refine Rep.int_elim r₁ (fun _ => ?_) | refine Rep.str_elim r₁ (fun _ => ?_) | refine Rep.bool_elim r₁ ?_ | refine Rep.ty_elim r₁ ?_)
  (first | refine Rep.int_elim r₂ (fun _ => ?_) | refine Rep.str_elim r₂ (fun _ => ?_) | refine Rep.bool_elim r₂ ?_ | refine Rep.ty_elim r₂ ?_)
  exact PyProof.Rows.mul_int (Out.toks S (.int _ _) q) hm
theorem op_mod_int {a b : Int} (hb : b ≠ 0) (q : Q (.int (a.fmod b)) H) : OP2 W F (binaryOp .Mod) (.int a) (.int b) H Q := .mk fun s v u S r₁ r₂ => by
  (first | refine Rep.int_elim r₁ (fun _ => ?_) | refine Rep.str_elim r₁ (fun _ => ?_) | refine Rep.bool_elim r₁ ?_ | refine Rep.ty_elim r₁ ?_)
  (first | refine Rep.int_elim r₂ (fun _ => ?_) | refine Rep.str_elim r₂ (fun _ => ?_) | refine Rep.bool_elim r₂ ?_ | refine Rep.ty_elim r₂ ?_)
  exact PyProof.Rows.mod_int hb (Out.toks S (.int _ _) q)
theorem op_pow_int {a n : Int} (hn : 0 ≤ n) (hn2 : n ≤ 1000000) (ha : a.natAbs < 2 ^ 64) (q : Q (.int (a ^ n.toNat)) H) : OP2 W F (binaryOp .Pow) (.int a) (.int n) H Q := .mk fun s v u S r₁ r₂ => by
  (first | refine Rep.int_elim r₁ (fun _ => ?_) | refine Rep.str_elim r₁ (fun _ => ?_) | refine Rep.bool_elim r₁ ?_ | refine Rep.ty_elim r₁ ?_)
  (first | refine Rep.int_elim r₂ (fun _ => ?_) | refine Rep.str_elim r₂ (fun _ => ?_) | refine Rep.bool_elim r₂ ?_ | refine Rep.ty_elim r₂ ?_)
  exact PyProof.Rows.pow_int_small hn hn2 ha (Out.toks S (.int _ _) q)
theorem op_neg_int {a : Int} (q : Q (.int (-a)) H) : OP1 W F (unaryOp .USub) (.int a) H Q := .mk fun s v S r₁  => by
  (first | refine Rep.int_elim r₁ (fun _ => ?_) | refine Rep.str_elim r₁ (fun _ => ?_) | refine Rep.bool_elim r₁ ?_ | refine Rep.ty_elim r₁ ?_)
  exact PySem.P.neg_int (Out.toks S (.int _ _) q)
theorem op_eq_int {a b : Int} (q : Q (.bool (a == b)) H) : OP2 W F (compareOp .Eq) (.int a) (.int b) H Q := .mk fun s v u S r₁ r₂ => by
  (first | refine Rep.int_elim r₁ (fun _ => ?_) | refine Rep.str_elim r₁ (fun _ => ?_) | refine Rep.bool_elim r₁ ?_ | refine Rep.ty_elim r₁ ?_)
  (first | refine Rep.int_elim r₂ (fun _ => ?_) | refine Rep.str_elim r₂ (fun _ => ?_) | refine Rep.bool_elim r₂ ?_ | refine Rep.ty_elim r₂ ?_)
  exact PyProof.Rows.eq_int (Out.here S (.bool _) q)
theorem op_ne_int {a b : Int} (q : Q (.bool (a != b)) H) : OP2 W F (compareOp .NotEq) (.int a) (.int b) H Q := .mk fun s v u S r₁ r₂ => by
  (first | refine Rep.int_elim r₁ (fun _ => ?_) | refine Rep.str_elim r₁ (fun _ => ?_) | refine Rep.bool_elim r₁ ?_ | refine Rep.ty_elim r₁ ?_)
  (first | refine Rep.int_elim r₂ (fun _ => ?_) | refine Rep.str_elim r₂ (fun _ => ?_) | refine Rep.bool_elim r₂ ?_ | refine Rep.ty_elim r₂ ?_)
  exact PyProof.Rows.ne_int (Out.here S (.bool _) q)
theorem op_lt_int {a b : Int} (q : Q (.bool (decide (a < b))) H) : OP2 W F (compareOp .Lt) (.int a) (.int b) H Q := .mk fun s v u S r₁ r₂ => by
  (first | refine Rep.int_elim r₁ (fun _ => ?_) | refine Rep.str_elim r₁ (fun _ => ?_) | refine Rep.bool_elim r₁ ?_ | refine Rep.ty_elim r₁ ?_)
  (first | refine Rep.int_elim r₂ (fun _ => ?_) | refine Rep.str_elim r₂ (fun _ => ?_) | refine Rep.bool_elim r₂ ?_ | refine Rep.ty_elim r₂ ?_)
  exact PyProof.Rows.lt_int (Out.here S (.bool _) q)
theorem op_gt_int {a b : Int} (q : Q (.bool (decide (b < a))) H) : OP2 W F (compareOp .Gt) (.int a) (.int b) H Q := .mk fun s v u S r₁ r₂ => by
  (first | refine Rep.int_elim r₁ (fun _ => ?_) | refine Rep.str_elim r₁ (fun _ => ?_) | refine Rep.bool_elim r₁ ?_ | refine Rep.ty_elim r₁ ?_)
  (first | refine Rep.int_elim r₂ (fun _ => ?_) | refine Rep.str_elim r₂ (fun _ => ?_) | refine Rep.bool_elim r₂ ?_ | refine Rep.ty_elim r₂ ?_)
  exact PyProof.Rows.gt_int (Out.here S (.bool _) q)
theorem op_le_int {a b : Int} (q : Q (.bool (decide (a ≤ b))) H) : OP2 W F (compareOp .LtE) (.int a) (.int b) H Q := .mk fun s v u S r₁ r₂ => by
  (first | refine Rep.int_elim r₁ (fun _ => ?_) | refine Rep.str_elim r₁ (fun _ => ?_) | refine Rep.bool_elim r₁ ?_ | refine Rep.ty_elim r₁ ?_)
  (first | refine Rep.int_elim r₂ (fun _ => ?_) | refine Rep.str_elim r₂ (fun _ => ?_) | refine Rep.bool_elim r₂ ?_ | refine Rep.ty_elim r₂ ?_)
  exact PyProof.Rows.le_int (Out.here S (.bool _) q)
theorem op_ge_int {a b : Int} (q : Q (.bool (decide (b ≤ a))) H) : OP2 W F (compareOp .GtE) (.int a) (.int b) H Q := .mk fun s v u S r₁ r₂ => by
  (first | refine Rep.int_elim r₁ (fun _ => ?_) | refine Rep.str_elim r₁ (fun _ => ?_) | refine Rep.bool_elim r₁ ?_ | refine Rep.ty_elim r₁ ?_)
  (first | refine Rep.int_elim r₂ (fun _ => ?_) | refine Rep.str_elim r₂ (fun _ => ?_) | refine Rep.bool_elim r₂ ?_ | refine Rep.ty_elim r₂ ?_)
  exact PyProof.Rows.ge_int (Out.here S (.bool _) q)
theorem lists_eq {x y : Str} : (x.cps.toList == y.cps.toList) = (x == y) := by
  by_cases h : x = y
  · subst h; simp
  · rw [beq_eq_false_iff_ne.mpr h]
    refine beq_eq_false_iff_ne.mpr fun e => h ?_
    cases x; cases y
    simp only [Str.mk.injEq]
    exact Array.toList_inj.mp e
theorem op_eq_str {x y : Str} (q : Q (.bool (x == y)) H) : OP2 W F (compareOp .Eq) (.str x) (.str y) H Q := .mk fun s v u S r₁ r₂ => by
  (first | refine Rep.int_elim r₁ (fun _ => ?_) | refine Rep.str_elim r₁ (fun _ => ?_) | refine Rep.bool_elim r₁ ?_ | refine Rep.ty_elim r₁ ?_)
  (first | refine Rep.int_elim r₂ (fun _ => ?_) | refine Rep.str_elim r₂ (fun _ => ?_) | refine Rep.bool_elim r₂ ?_ | refine Rep.ty_elim r₂ ?_)
  exact PySem.P.eq_str (Out.here S (.bool _) (by rw [lists_eq]; exact q))
theorem op_ne_str {x y : Str} (q : Q (.bool (x != y)) H) : OP2 W F (compareOp .NotEq) (.str x) (.str y) H Q := .mk fun s v u S r₁ r₂ => by
  (first | refine Rep.int_elim r₁ (fun _ => ?_) | refine Rep.str_elim r₁ (fun _ => ?_) | refine Rep.bool_elim r₁ ?_ | refine Rep.ty_elim r₁ ?_)
  (first | refine Rep.int_elim r₂ (fun _ => ?_) | refine Rep.str_elim r₂ (fun _ => ?_) | refine Rep.bool_elim r₂ ?_ | refine Rep.ty_elim r₂ ?_)
  exact PySem.P.ne_str (Out.here S (.bool _) (by unfold bne at *; rw [lists_eq]; exact q))
theorem op_le_str {x y : Str} (q : Q (.bool (!(decide (y.cps.toList < x.cps.toList)))) H) : OP2 W F (compareOp .LtE) (.str x) (.str y) H Q := .mk fun s v u S r₁ r₂ => by
  (first | refine Rep.int_elim r₁ (fun _ => ?_) | refine Rep.str_elim r₁ (fun _ => ?_) | refine Rep.bool_elim r₁ ?_ | refine Rep.ty_elim r₁ ?_)
  (first | refine Rep.int_elim r₂ (fun _ => ?_) | refine Rep.str_elim r₂ (fun _ => ?_) | refine Rep.bool_elim r₂ ?_ | refine Rep.ty_elim r₂ ?_)
  exact PySem.P.le_str (Out.here S (.bool _) q)
theorem Str.eq_of_len0 {x : Str} (h : (x.length == 0) = true) : x = Str.empty := by
  obtain ⟨⟨l⟩⟩ := x
  have : l.length = 0 := by simpa [Str.length] using h
  rw [List.length_eq_zero_iff.mp this]; rfl
theorem add_post {x y : Str} {t u : Tok} {P : Value → Shared → Prop} {s : Shared} (hz : x.length + y.length ≤ sizeLine) (h : ∀ (k : Nat) (n : Nat), P (.str (x ++ y) k) { s with toks := n }) :
    (if x.length == 0 then Made.val (.str y u) else if y.length == 0 then Made.val (.str x t) else Made.str (x ++ y)).post P s := by
  split
  · rename_i e
    have := h u s.toks
    rw [Str.eq_of_len0 e, Str.empty_append] at this
    exact this
  · split
    · rename_i e
      have := h t s.toks
      rw [Str.eq_of_len0 e, Str.append_empty] at this
      exact this
    · exact ⟨by rw [Str.length_append]; exact hz, h _ _⟩
theorem op_add_str {x y : Str} (hz : x.length + y.length ≤ sizeLine) (q : Q (.str (x ++ y)) H) : OP2 W F (binaryOp .Add) (.str x) (.str y) H Q := .mk fun s v u S r₁ r₂ => by
  (first | refine Rep.int_elim r₁ (fun _ => ?_) | refine Rep.str_elim r₁ (fun _ => ?_) | refine Rep.bool_elim r₁ ?_ | refine Rep.ty_elim r₁ ?_)
  (first | refine Rep.int_elim r₂ (fun _ => ?_) | refine Rep.str_elim r₂ (fun _ => ?_) | refine Rep.bool_elim r₂ ?_ | refine Rep.ty_elim r₂ ?_)
  exact PySem.P.add_str (add_post hz fun k n => Out.toks S (.str _ _) q)
theorem op_iadd_str {x y : Str} (hz : x.length + y.length ≤ sizeLine) (q : Q (.str (x ++ y)) H) : OP2 W F (inplaceOp .Add) (.str x) (.str y) H Q := .mk fun s v u S r₁ r₂ => by
  (first | refine Rep.int_elim r₁ (fun _ => ?_) | refine Rep.str_elim r₁ (fun _ => ?_) | refine Rep.bool_elim r₁ ?_ | refine Rep.ty_elim r₁ ?_)
  (first | refine Rep.int_elim r₂ (fun _ => ?_) | refine Rep.str_elim r₂ (fun _ => ?_) | refine Rep.bool_elim r₂ ?_ | refine Rep.ty_elim r₂ ?_)
  exact PySem.P.iadd_str (add_post hz fun k n => Out.toks S (.str _ _) q)
theorem op_iadd_int {a b : Int} (q : Q (.int (a + b)) H) : OP2 W F (inplaceOp .Add) (.int a) (.int b) H Q := .mk fun s v u S r₁ r₂ => by
  (first | refine Rep.int_elim r₁ (fun _ => ?_) | refine Rep.str_elim r₁ (fun _ => ?_) | refine Rep.bool_elim r₁ ?_ | refine Rep.ty_elim r₁ ?_)
  (first | refine Rep.int_elim r₂ (fun _ => ?_) | refine Rep.str_elim r₂ (fun _ => ?_) | refine Rep.bool_elim r₂ ?_ | refine Rep.ty_elim r₂ ?_)
  exact PyProof.Rows.iadd_int (Out.toks S (.int _ _) q)
theorem noPylong {a b : Int} (h : b.natAbs < 2 ^ 70) : Builtin.divisionGoesByPylong a b = false := by
  unfold Builtin.divisionGoesByPylong
  have hl : b.natAbs.log2 ≤ 70 := by
    by_cases h0 : b.natAbs = 0
    · rw [h0]; decide
    · have := (Nat.log2_lt h0).mpr h; lia
  simp only [Bool.and_eq_false_iff, decide_eq_false_iff_not]
  left
  split <;> lia
theorem op_fdiv_int {a b : Int} (hb : b ≠ 0) (hp : b.natAbs < 2 ^ 70) (q : Q (.int (a.fdiv b)) H) : OP2 W F (binaryOp .FloorDiv) (.int a) (.int b) H Q := .mk fun s v u S r₁ r₂ => by
  (first | refine Rep.int_elim r₁ (fun _ => ?_) | refine Rep.str_elim r₁ (fun _ => ?_) | refine Rep.bool_elim r₁ ?_ | refine Rep.ty_elim r₁ ?_)
  (first | refine Rep.int_elim r₂ (fun _ => ?_) | refine Rep.str_elim r₂ (fun _ => ?_) | refine Rep.bool_elim r₂ ?_ | refine Rep.ty_elim r₂ ?_)
  exact PyProof.Rows.floordiv_int hb (Out.toks S (.int _ _) q) (.inl (noPylong hp))

theorem ot_bool {b : Bool} {Q : Bool → AHeap → Prop} (q : Q b H) : OT W F (.bool b) H Q := .mk fun s v S r => by
  (first | refine Rep.int_elim r (fun _ => ?_) | refine Rep.str_elim r (fun _ => ?_) | refine Rep.bool_elim r ?_ | refine Rep.ty_elim r ?_)
  exact wpAny_truthy_bool (OutB.here S q)
theorem ot_int {i : Int} {Q : Bool → AHeap → Prop} (q : Q (i != 0) H) : OT W F (.int i) H Q := .mk fun s v S r => by
  (first | refine Rep.int_elim r (fun _ => ?_) | refine Rep.str_elim r (fun _ => ?_) | refine Rep.bool_elim r ?_ | refine Rep.ty_elim r ?_)
  exact PySem.P.truthy_int (OutB.here S q)

theorem TP.mono {t : Sem Bool} {Q Q' : Bool → AHeap → Prop} (h : TP W F ρ H t Q) (q : ∀ d H', Q d H' → Q' d H') : TP W F ρ H t Q' :=
  .mk fun s S l n => wpAny_mono (h.go s S l n) (fun _ _ ⟨H', S', k, x⟩ => ⟨H', S', k, q _ H' x⟩) fun _ _ e => e
theorem EP.test {t : Sem Value} {s : Shared} {Q : Bool → AHeap → Prop} (S : W.St H s) (l : W.Loc (dom H) F.env ρ s.heap) (n : F.L ∉ dom H) (h : EP W F ρ H t (fun d H₁ => OT W F d H₁ Q)) :
    wpAny W.M F.A t (fun v s₁ => wpAny W.M F.A (truthy v) (OutB W H s Q) F.E s₁) F.E s :=
  wpAny_mono (h.go s S l n) (fun v s₁ o => o.to fun d H₁ r S₁ kp q => wpAny_mono (q.go s₁ v S₁ r) (fun _ _ o => o.trans kp) fun _ _ e => e) fun _ _ e => e
theorem TP_value {e : Expr} {Q : Bool → AHeap → Prop} (h : EP W F ρ H (eval e F.env) (fun d H₁ => OT W F d H₁ Q))
    (he : isTrue e F.env (eval e F.env) = (do let v ← eval e F.env; standAt e.pos; holding [v] (truthy v)) := by rfl) : TP W F ρ H (isTrue e F.env (eval e F.env)) Q :=
  .mk fun s S l n => wpAny_isTrue_value (EP.test S l n h) he
theorem TP_cmp {e₁ e₂ : Expr} {op : CmpOp} {pos : Pos} {whole : Sem Value} {Q : Bool → AHeap → Prop}
    (h : EP W F ρ H (eval e₁ F.env) (fun a H₁ => EP W F ρ H₁ (eval e₂ F.env) (fun b H₂ => OP2 W F (compareOp op) a b H₂ (fun d H₃ => OT W F d H₃ Q))))
    (hm : behindInMarks op e₂ = false := by with_unfolding_all rfl) :
    TP W F ρ H (isTrue (.Compare e₁ [op] [e₂] pos) F.env whole) Q := .mk fun s S l n => wpAny_isTrue_Compare1
  (wpAny_mono (h.go s S l n) (fun v s₁ o => o.to fun d H₁ r S₁ kp q => wpAny_mono (q.go s₁ S₁ (l.kp n kp) (l.out n kp)) (fun z s₂ o => o.to fun e H₂ r₂ S₂ kp₂ q₂ =>
    wpAny_mono (q₂.go s₂ v z S₂ (r.carry kp₂.carry) r₂) (fun c s₃ o => o.to fun d₃ H₃ r₃ S₃ kp₃ q₃ => wpAny_mono (q₃.go s₃ c S₃ r₃) (fun _ _ o => ((o.trans kp₃).trans kp₂).trans kp) fun _ _ e => e) fun _ _ e => e) fun _ _ e => e) fun _ _ e => e) hm
theorem TP_not {e : Expr} {pos : Pos} {whole : Sem Value} {Q : Bool → AHeap → Prop} (h : TP W F ρ H (isTrue e F.env (eval e F.env)) (fun b H' => Q (!b) H')) :
    TP W F ρ H (isTrue (.UnaryOp .Not e pos) F.env whole) Q := .mk fun s S l n => wpAny_isTrue_Not (wpAny_mono (h.go s S l n) (fun _ _ o => o) fun _ _ e => e)
theorem TP_boolop {op : BoolOp} {es : List Expr} {pos : Pos} {whole : Sem Value} {Q : Bool → AHeap → Prop} (h : TP W F ρ H (allTrue op es F.env) Q) :
    TP W F ρ H (isTrue (.BoolOp op es pos) F.env whole) Q := .mk fun s S l n => wpAny_isTrue_BoolOp (h.go s S l n)
theorem TP_and_nil {Q : Bool → AHeap → Prop} (q : Q true H) : TP W F ρ H (allTrue .And [] F.env) Q := .mk fun s S l n => wpAny_allTrue_And_nil (OutB.here S q)
theorem TP_or_nil {Q : Bool → AHeap → Prop} (q : Q false H) : TP W F ρ H (allTrue .Or [] F.env) Q := .mk fun s S l n => wpAny_allTrue_Or_nil (OutB.here S q)
theorem TP_and_cons {e : Expr} {rest : List Expr} {Q : Bool → AHeap → Prop}
    (h : TP W F ρ H (isTrue e F.env (eval e F.env)) (fun b H' => (b = true → TP W F ρ H' (allTrue .And rest F.env) Q) ∧ (b = false → Q false H'))) : TP W F ρ H (allTrue .And (e :: rest) F.env) Q :=
  .mk fun s S l n => wpAny_allTrue_And_cons (wpAny_mono (h.go s S l n) (fun b s₁ o => o.to fun H₁ S₁ kp q => by
    cases b with
    | true => exact wpAny_mono ((q.1 rfl).go s₁ S₁ (l.kp n kp) (l.out n kp)) (fun _ _ o => o.trans kp) fun _ _ e => e
    | false => exact ⟨H₁, S₁, kp, q.2 rfl⟩) fun _ _ e => e)
theorem TP_or_cons {e : Expr} {rest : List Expr} {Q : Bool → AHeap → Prop}
    (h : TP W F ρ H (isTrue e F.env (eval e F.env)) (fun b H' => (b = true → Q true H') ∧ (b = false → TP W F ρ H' (allTrue .Or rest F.env) Q))) : TP W F ρ H (allTrue .Or (e :: rest) F.env) Q :=
  .mk fun s S l n => wpAny_allTrue_Or_cons (wpAny_mono (h.go s S l n) (fun b s₁ o => o.to fun H₁ S₁ kp q => by
    cases b with
    | false => exact wpAny_mono ((q.2 rfl).go s₁ S₁ (l.kp n kp) (l.out n kp)) (fun _ _ o => o.trans kp) fun _ _ e => e
    | true => exact ⟨H₁, S₁, kp, q.1 rfl⟩) fun _ _ e => e)
theorem EP_ifexp {t a b : Expr} {pos : Pos} (h : TP W F ρ H (isTrue t F.env (eval t F.env)) (fun c H' => (c = true → EP W F ρ H' (eval a F.env) Q) ∧ (c = false → EP W F ρ H' (eval b F.env) Q))) :
    EP W F ρ H (eval (.IfExp t a b pos) F.env) Q := .mk fun s S l n => wpAny_IfExp (wpAny_mono (h.go s S l n) (fun c s₁ o => o.to fun H₁ S₁ kp q => by
    cases c with
    | true => exact wpAny_mono ((q.1 rfl).go s₁ S₁ (l.kp n kp) (l.out n kp)) (fun _ _ o => o.trans kp) fun _ _ e => e
    | false => exact wpAny_mono ((q.2 rfl).go s₁ S₁ (l.kp n kp) (l.out n kp)) (fun _ _ o => o.trans kp) fun _ _ e => e) fun _ _ e => e)
theorem op_not {a : V} (h : OT W F a H (fun b H' => Q (.bool (!b)) H')) : OP1 W F (unaryOp .Not) a H Q := .mk fun s v S r =>
  not_value (wpAny_mono (h.go s v S r) (fun b s₁ o => o.to fun H₁ S₁ kp q => ⟨_, H₁, .bool _, S₁, kp, q⟩) fun _ _ e => e)

theorem EP_boolop_one {op : BoolOp} {e : Expr} {pos : Pos} (h : EP W F ρ H (eval e F.env) Q) : EP W F ρ H (boolOp pos op [eval e F.env]) Q := h
theorem EP_and_more {t x : Sem Value} {rest : List (Sem Value)} {pos : Pos}
    (h : EP W F ρ H t (fun d H₁ => OT W F d H₁ (fun b H₂ => (b = true → EP W F ρ H₂ (boolOp pos .And (x :: rest)) Q) ∧ (b = false → Q d H₂)))) : EP W F ρ H (boolOp pos .And (t :: x :: rest)) Q := .mk fun s S l n => by
  show wpAny _ _ (do
    let v ← t
    standAt pos
    let b ← holding [v] (truthy v)
    match BoolOp.And, b with
    | .And, false | .Or, true => pure v
    | _, _ => boolOp pos .And (x :: rest)) _ _ _
  refine wpAny_bind (wpAny_mono (h.go s S l n) (fun v s₁ o => o.to fun d H₁ r S₁ kp q => wpAny_bind (wpAny_standAt (wpAny_bind (wpAny_holding (wpAny_mono (q.go s₁ v S₁ r) (fun b s₂ o => o.to fun H₂ S₂ kp₂ q₂ => ?_) fun _ _ e => e))))) fun _ _ e => e)
  cases b with
  | false => exact wpAny_pure ⟨d, H₂, r.carry kp₂.carry, S₂, kp.trans kp₂, q₂.2 rfl⟩
  | true => exact wpAny_mono ((q₂.1 rfl).go s₂ S₂ ((l.kp n kp).kp (l.out n kp) kp₂) (l.out n (kp.trans kp₂))) (fun _ _ o => (o.trans kp₂).trans kp) fun _ _ e => e
theorem EP_or_more {t x : Sem Value} {rest : List (Sem Value)} {pos : Pos}
    (h : EP W F ρ H t (fun d H₁ => OT W F d H₁ (fun b H₂ => (b = false → EP W F ρ H₂ (boolOp pos .Or (x :: rest)) Q) ∧ (b = true → Q d H₂)))) : EP W F ρ H (boolOp pos .Or (t :: x :: rest)) Q := .mk fun s S l n => by
  show wpAny _ _ (do
    let v ← t
    standAt pos
    let b ← holding [v] (truthy v)
    match BoolOp.Or, b with
    | .And, false | .Or, true => pure v
    | _, _ => boolOp pos .Or (x :: rest)) _ _ _
  refine wpAny_bind (wpAny_mono (h.go s S l n) (fun v s₁ o => o.to fun d H₁ r S₁ kp q => wpAny_bind (wpAny_standAt (wpAny_bind (wpAny_holding (wpAny_mono (q.go s₁ v S₁ r) (fun b s₂ o => o.to fun H₂ S₂ kp₂ q₂ => ?_) fun _ _ e => e))))) fun _ _ e => e)
  cases b with
  | true => exact wpAny_pure ⟨d, H₂, r.carry kp₂.carry, S₂, kp.trans kp₂, q₂.2 rfl⟩
  | false => exact wpAny_mono ((q₂.1 rfl).go s₂ S₂ ((l.kp n kp).kp (l.out n kp) kp₂) (l.out n (kp.trans kp₂))) (fun _ _ o => (o.trans kp₂).trans kp) fun _ _ e => e
end
end Mine
namespace Mine
open PySem PySem.W PyProof.Rows PySem.Calls

inductive Fl where
  | next | brk | cont | ret (d : V)
inductive RepF (W : Wd) (D : List Addr) (h : Heap) : Flow → Fl → Prop
  | next : RepF W D h .next .next
  | brk : RepF W D h .brk .brk
  | cont : RepF W D h .cont .cont
  | ret {v : Value} {d : V} : W.Rep D h v d → RepF W D h (.ret v) (.ret d)

noncomputable abbrev Rho := List (Str × Option V)
noncomputable def OutS (W : Wd) (F : Fm) (H : AHeap) (s : Shared) (Q : Fl → AHeap → Rho → Prop) (f : Flow) (s' : Shared) : Prop :=
  ∃ fl H' ρ', RepF W (dom H') s'.heap f fl ∧ W.St H' s' ∧ KpL F.L H s H' s' ∧ W.Loc (dom H') F.env ρ' s'.heap ∧ Q fl H' ρ'
structure SP (W : Wd) (F : Fm) (ρ : Rho) (H : AHeap) (t : Sem Flow) (Q : Fl → AHeap → Rho → Prop) : Prop where
  go : ∀ s, W.St H s → W.Loc (dom H) F.env ρ s.heap → F.L ∉ dom H → wpAny W.M F.A t (OutS W F H s Q) F.E s

section
variable {W : Wd} {F : Fm} {ρ : Rho} {H : AHeap} {Q : Fl → AHeap → Rho → Prop} {s : Shared} {k₀ : Nat}

theorem OutS.to {P : Prop} {s : Shared} {f : Flow} {s' : Shared} (o : OutS W F H s Q f s') (k : ∀ fl H' ρ', RepF W (dom H') s'.heap f fl → W.St H' s' → KpL F.L H s H' s' → W.Loc (dom H') F.env ρ' s'.heap → Q fl H' ρ' → P) : P := o.elim fun fl o => o.elim fun H' o => o.elim fun ρ' o => k fl H' ρ' o.1 o.2.1 o.2.2.1 o.2.2.2.1 o.2.2.2.2
theorem OutS.trans {H₁ : AHeap} {s₁ s' : Shared} {f : Flow} (k : KpL F.L H s H₁ s₁) (o : OutS W F H₁ s₁ Q f s') : OutS W F H s Q f s' :=
  o.elim fun d o => o.elim fun H' o => o.elim fun ρ' o => ⟨d, H', ρ', o.1, o.2.1, k.trans o.2.2.1, o.2.2.2.1, o.2.2.2.2⟩
theorem SP.mono {t : Sem Flow} {Q' : Fl → AHeap → Rho → Prop} (h : SP W F ρ H t Q) (q : ∀ f H' ρ', Q f H' ρ' → Q' f H' ρ') : SP W F ρ H t Q' :=
  .mk fun s S l n  => wpAny_mono (h.go s S l n) (fun _ _ o => o.to fun d H' ρ' r S' k l x => ⟨d, H', ρ', r, S', k, l, q _ _ _ x⟩) fun _ _ e => e
theorem SP.weaken {t : Sem Flow} {ρ' : Rho} {H' : AHeap} (h : SP W F ρ' H' t Q) (hk : ρ'.map (·.1) = ρ.map (·.1)) (hs : ∀ p ∈ ρ', p.2 = none ∨ p ∈ ρ) : SP W F ρ H' t Q :=
  .mk fun s S l n  => h.go s S (l.weaken hk hs) n

theorem SP_nil (q : Q .next H ρ) : SP W F ρ H (execs [] F.env) Q := .mk fun s S l n  => wpAny_execs_nil ⟨_, H, ρ, .next, S, .refl _ _ _, l, q⟩
theorem SP_cons {st : Stmt} {rest : List Stmt} (h : SP W F ρ H (exec st F.env) (fun f H₁ ρ₁ => match f with | .next => SP W F ρ₁ H₁ (execs rest F.env) Q | f => Q f H₁ ρ₁)) :
    SP W F ρ H (execs (st :: rest) F.env) Q := .mk fun s S l n  => wpAny_execs_cons (wpAny_mono (h.go s S l n) (fun f s₁ o => o.to fun fl H₁ ρ₁ r S₁ k l₁ q => by
  cases r with
  | next => exact wpAny_mono (q.go s₁ S₁ l₁ (l.outL n k)) (fun _ _ o => o.trans k) fun _ _ e => e
  | brk => exact ⟨_, H₁, ρ₁, .brk, S₁, k, l₁, q⟩
  | cont => exact ⟨_, H₁, ρ₁, .cont, S₁, k, l₁, q⟩
  | ret r => exact ⟨_, H₁, ρ₁, .ret r, S₁, k, l₁, q⟩) fun _ _ e => e)

theorem storeAt (ok : F.Ok W k₀) {x : Str} {v : Value} {d : V} {ρ' : Rho} (S : W.St H s) (l : W.Loc (dom H) F.env ρ s.heap) (n : F.L ∉ dom H) (r : W.Rep (dom H) s.heap v d) (u : Put x (some d) ρ ρ') {P : Unit → Shared → Prop}
    (h : ∀ s', W.St H s' → KpL F.L H s H s' → W.Loc (dom H) F.env ρ' s'.heap → P () s') : wpAny W.M F.A (storeName F.env x v) P F.E s := by
  have hk : F.env.kindOf x = some .local := by
    obtain ⟨p, hp, e⟩ := List.mem_map.mp u.key
    exact e ▸ l.loc p hp
  obtain ⟨m, hn, hv⟩ := l.ns
  have hpl : (F.env.scope.kind == .class || (F.env.scope.kind == .module && F.env.locals != F.env.globals)) = false := by
    show (F.sc.kind == .class || (F.sc.kind == .module && F.L != mainGlobals)) = false
    rw [ok.kind]; rfl
  rw [storeName_local hk hpl]
  refine wpAny_nsSet' hn l.frame fun h' hn' hs hf => ?_
  have kB : ∀ b ob, b ≠ F.L → s.heap.get? b = some ob → h'.get? b = some ob := fun b ob hb e => (hs.2 b hb).trans e
  have K : KpL F.L H s H { s with heap := h', toks := s.toks + 1 } := ⟨fun b ob hb _ e => kB b ob hb e, fun _ _ _ e => e, fun _ _ => let ⟨o, e, _⟩ := hf; ⟨o, e⟩⟩
  have C := K.carry l.frame
  refine h _ ⟨fun b ob e => kB b ob ?_ (S.keep b ob e), S.gens, S.os, S.nodup, fun p hp => ⟨(S.rep p hp).1, (S.rep p hp).2.carry C fun ob e => kB _ ob ?_ e⟩⟩ K (l.put u C r hv hn' hf)
  · rintro rfl; rw [ok.base] at e; cases e
  · rintro q; exact n (q ▸ List.mem_map_of_mem hp)

noncomputable def StoreIn (ρ : Rho) (x : Str) (d : V) (P : Rho → Prop) : Prop := ∃ ρ', Put x (some d) ρ ρ' ∧ P ρ'
theorem SP_store (ok : F.Ok W k₀) {t : Sem Value} {x : Str} {s : Shared} (S : W.St H s) (l : W.Loc (dom H) F.env ρ s.heap) (n : F.L ∉ dom H) (h : EP W F ρ H t (fun d H₁ => StoreIn ρ x d (fun ρ' => Q .next H₁ ρ'))) :
    wpAny W.M F.A t (fun v s₁ => wpAny W.M F.A (storeName F.env x v) (fun _ => OutS W F H s Q .next) F.E s₁) F.E s :=
  wpAny_mono (h.go s S l n) (fun v s₁ o => o.to fun d H₁ r S₁ kp o => ea o fun ρ' u q =>
    storeAt ok S₁ (l.kp n kp) (l.out n kp) r u fun s' S' k' l' => ⟨_, H₁, ρ', .next, S', (kp.toL n).trans k', l', q⟩) fun _ _ e => e
theorem SP_assign (ok : F.Ok W k₀) {x : Str} {e : Expr} {pos pos' : Pos} (h : EP W F ρ H (eval e F.env) (fun d H₁ => StoreIn ρ x d (fun ρ' => Q .next H₁ ρ')))
    (hs : swapsWith e (some (.Name x pos')) pos.line F.env = pure false := by rfl) : SP W F ρ H (exec (.Assign [.Name x pos'] e pos) F.env) Q :=
  .mk fun s S l n  => wpAny_Assign_Name (SP_store ok S l n h) hs
theorem SP_aug (ok : F.Ok W k₀) {x : Str} {d : V} {op : Operator} {e : Expr} {pos pos' : Pos} (hm : (x, some d) ∈ ρ) (h : EP W F ρ H (eval e F.env) (fun b H₁ => OP2 W F (inplaceOp op) d b H₁ (fun d' H₂ => StoreIn ρ x d' (fun ρ' => Q .next H₂ ρ')))) :
    SP W F ρ H (exec (.AugAssign (.Name x pos') op e pos) F.env) Q := .mk fun s S l n  => by
  obtain ⟨m, v, hn, hv, r⟩ := l.get hm
  have hk : F.env.kindOf x = some .local := l.loc _ hm
  refine wpAny_AugAssign_Name (wpAny_loadName_local (m := m) ok.kind hk hn hv ?_)
  refine wpAny_mono (h.go s S l n) (fun b s₁ o => o.to fun d₁ H₁ r₁ S₁ kp q => wpAny_mono (q.go s₁ v b S₁ (r.carry kp.carry) r₁) (fun c s₂ o => o.to fun d₂ H₂ r₂ S₂ kp₂ o => ea o fun ρ' u q₂ => ?_) fun _ _ e => e) fun _ _ e => e
  have l₁ := l.kp n kp
  have n₁ := l.out n kp
  exact storeAt ok S₂ (l₁.kp n₁ kp₂) (l₁.out n₁ kp₂) r₂ u fun s' S' k' l' => ⟨_, H₂, ρ', .next, S', ((kp.trans kp₂).toL n).trans k', l', q₂⟩
theorem SP_return {e : Expr} {pos : Pos} (h : EP W F ρ H (eval e F.env) (fun d H₁ => Q (.ret d) H₁ ρ)) : SP W F ρ H (exec (.Return (some e) pos) F.env) Q :=
  .mk fun s S l n  => wpAny_Return_some (wpAny_mono (h.go s S l n) (fun v s₁ o => o.to fun d H₁ r S₁ kp q => ⟨_, H₁, ρ, .ret r, S₁, kp.toL n, l.kp n kp, q⟩) fun _ _ e => e)
theorem SP_return0 {pos : Pos} (q : Q (.ret .none) H ρ) : SP W F ρ H (exec (.Return none pos) F.env) Q :=
  .mk fun s S l n  => wpAny_Return_none ⟨_, H, ρ, .ret .none, S, .refl _ _ _, l, q⟩
theorem SP_pass {pos : Pos} (q : Q .next H ρ) : SP W F ρ H (exec (.Pass pos) F.env) Q := .mk fun s S l n  => wpAny_Pass ⟨_, H, ρ, .next, S, .refl _ _ _, l, q⟩
theorem SP_break {pos : Pos} (q : Q .brk H ρ) : SP W F ρ H (exec (.Break pos) F.env) Q := .mk fun s S l n  => wpAny_Break ⟨_, H, ρ, .brk, S, .refl _ _ _, l, q⟩
theorem SP_continue {pos : Pos} (q : Q .cont H ρ) : SP W F ρ H (exec (.Continue pos) F.env) Q := .mk fun s S l n  => wpAny_Continue ⟨_, H, ρ, .cont, S, .refl _ _ _, l, q⟩
theorem SP_if {t : Expr} {body orelse : List Stmt} {pos : Pos}
    (h : TP W F ρ H (isTrue t F.env (eval t F.env)) (fun b H₁ => (b = true → SP W F ρ H₁ (execs body F.env) Q) ∧ (b = false → SP W F ρ H₁ (execs orelse F.env) Q))) :
    SP W F ρ H (exec (.If t body orelse pos) F.env) Q := .mk fun s S l n  => wpAny_If (wpAny_mono (h.go s S l n) (fun b s₁ o => o.to fun H₁ S₁ kp q => by
  cases b with
  | true => exact wpAny_mono ((q.1 rfl).go s₁ S₁ (l.kp n kp) (l.out n kp)) (fun _ _ o => o.trans (kp.toL n)) fun _ _ e => e
  | false => exact wpAny_mono ((q.2 rfl).go s₁ S₁ (l.kp n kp) (l.out n kp)) (fun _ _ o => o.trans (kp.toL n)) fun _ _ e => e) fun _ _ e => e)
noncomputable def NoRef : V → Prop
  | .none | .bool _ | .int _ | .str _ => True
  | _ => False
theorem SP_expr (ok : F.Ok W k₀) {e : Expr} {pos : Pos} (h : EP W F ρ H (eval e F.env) (fun d H₁ => NoRef d ∧ Q .next H₁ ρ)) (hs : swapsWith e none pos.line F.env = pure false := by rfl) :
    SP W F ρ H (exec (.Expr e pos) F.env) Q := .mk fun s S l n  => wpAny_Expr (wpAny_mono (h.go s S l n) (fun v s₁ o => o.to fun d H₁ r S₁ kp o => o.elim fun nr q => by
  cases r <;> first | exact nr.elim | exact ⟨_, H₁, ρ, .next, S₁, kp.toL n, l.kp n kp, q⟩) fun _ _ e => e) (by show ((F.sc.kind == .module) && _) = false; rw [ok.kind]; rfl) hs

noncomputable abbrev Fm.inn (F : Fm) (W : Wd) : Fm := { F with E := notedBy W.M F.A F.env (cameBackBy W.M F.A F.env F.E) }
theorem Fm.Ok.inn (ok : F.Ok W k₀) : (F.inn W).Ok W k₀ := ⟨ok.kind, ok.nodup, ok.nodebug, ok.base, ok.room⟩

theorem SP_while {t : Expr} {body : List Stmt} {pos : Pos} (I : Nat → AHeap → Rho → Prop) (n₀ : Nat) (h0 : I n₀ H ρ)
    (turn : ∀ n H₁ ρ₁, I n H₁ ρ₁ → TP W (F.inn W) ρ₁ H₁ (isTrue t F.env (eval t F.env)) (fun b H₂ => (b = true → SP W (F.inn W) ρ₁ H₂ (execs body F.env) (fun f H₃ ρ₃ => match f with
        | .next | .cont => ∃ m, m < n ∧ I m H₃ ρ₃
        | .brk => Q .next H₃ ρ₃
        | .ret d => Q (.ret d) H₃ ρ₃)) ∧ (b = false → Q .next H₂ ρ₁))) :
    SP W F ρ H (exec (.While t body [] pos) F.env) Q := .mk fun s S l n  => by
  refine wpAny_While (codeAny_whileLoop (fun k s' => ∃ H₁ ρ₁, W.St H₁ s' ∧ KpL F.L H s H₁ s' ∧ W.Loc (dom H₁) F.env ρ₁ s'.heap ∧ I k H₁ ρ₁) ?_ n₀ ⟨H, ρ, S, .refl _ _ _, l, h0⟩)
  rintro k s' ⟨H₁, ρ₁, S₁, K₁, l₁, hI⟩
  refine wpAny_mono ((turn k H₁ ρ₁ hI).go s' S₁ l₁ (l.outL n K₁)) (fun b s₂ o => o.to fun H₂ S₂ kp₂ q => ?_) fun _ _ e => e
  have K₂ := K₁.trans (kp₂.toL (l.outL n K₁))
  have n₁ := l.outL n K₁
  have l₂ := l₁.kp n₁ kp₂
  cases b with
  | true =>
    rw [if_pos rfl]
    refine wpAny_mono ((q.1 rfl).go s₂ S₂ l₂ (l.outL n K₂)) (fun f s₃ o => o.to fun fl H₃ ρ₃ r S₃ K₃ l₃ q₃ => ?_) fun _ _ e => e
    cases r with
    | next => obtain ⟨m, hm, hI'⟩ := q₃; exact ⟨m, hm, H₃, ρ₃, S₃, K₂.trans K₃, l₃, hI'⟩
    | cont => obtain ⟨m, hm, hI'⟩ := q₃; exact ⟨m, hm, H₃, ρ₃, S₃, K₂.trans K₃, l₃, hI'⟩
    | brk => exact ⟨_, H₃, ρ₃, .next, S₃, K₂.trans K₃, l₃, q₃⟩
    | ret r => exact ⟨_, H₃, ρ₃, .ret r, S₃, K₂.trans K₃, l₃, q₃⟩
  | false =>
    rw [if_neg Bool.false_ne_true]
    exact wpAny_execs_nil ⟨_, H₂, ρ₁, .next, S₂, K₂, l₂, q.2 rfl⟩

noncomputable def WalkD (W : Wd) (A : Around) (H : AHeap) (s : Shared) (xs : List V) (it : Value) (s₂ : Shared) : Prop :=
  ∃ (I : Addr) (fp wr : List Addr) (P : Nat → Value → Prop) (St : Nat → Heap → Prop), it = .ref I ∧ Walks W.prog W.w A I fp wr xs.length P St ∧ St 0 s₂.heap ∧
    (∀ b ∈ wr, s.heap.get? b = none ∧ ∀ i h o, St i h → h.get? b = some o → ¬ PureCls o.cls) ∧ (∀ b ∈ fp, b ∉ dom H) ∧ (∀ b ∈ fp, ∀ i h, St i h → ∃ o, h.get? b = some o) ∧
    (∀ b ∈ fp, s.heap.get? b = none ∨ ∃ o, s.heap.get? b = some o ∧ PureCls o.cls) ∧
    (∀ i v, P i v → ∃ d, xs[i]? = some d ∧ W.Rep (dom H) s.heap v d) ∧ W.St H s₂ ∧ Kp H s H s₂
noncomputable def ItP (W : Wd) (A : Around) (d : V) (H : AHeap) (xs : List V) : Prop :=
  ∀ (E : Value → Shared → Prop) s v, W.St H s → W.Rep (dom H) s.heap v d → ∀ P : Value → Shared → Prop, (∀ it s₂, WalkD W A H s xs it s₂ → P it s₂) → wpAny W.M A (pyIter v) P E s

theorem WalkD.to {A : Around} {xs : List V} {it : Value} {s₂ : Shared} {P : Prop} (o : WalkD W A H s xs it s₂)
    (k : ∀ (I : Addr) (fp wr : List Addr) (Pv : Nat → Value → Prop) (St : Nat → Heap → Prop), it = .ref I → Walks W.prog W.w A I fp wr xs.length Pv St → St 0 s₂.heap →
    (∀ b ∈ wr, s.heap.get? b = none ∧ ∀ i h o, St i h → h.get? b = some o → ¬ PureCls o.cls) → (∀ b ∈ fp, b ∉ dom H) → (∀ b ∈ fp, ∀ i h, St i h → ∃ o, h.get? b = some o) →
    (∀ b ∈ fp, s.heap.get? b = none ∨ ∃ o, s.heap.get? b = some o ∧ PureCls o.cls) →
    (∀ i v, Pv i v → ∃ d, xs[i]? = some d ∧ W.Rep (dom H) s.heap v d) → W.St H s₂ → Kp H s H s₂ → P) : P :=
  o.elim fun I o => o.elim fun fp o => o.elim fun wr o => o.elim fun Pv o => o.elim fun St o => k I fp wr Pv St o.1 o.2.1 o.2.2.1 o.2.2.2.1 o.2.2.2.2.1 o.2.2.2.2.2.1 o.2.2.2.2.2.2.1 o.2.2.2.2.2.2.2.1 o.2.2.2.2.2.2.2.2.1 o.2.2.2.2.2.2.2.2.2
@[reducible] def LpQ (J : AHeap → Rho → Prop) (Q : Fl → AHeap → Rho → Prop) : Fl → AHeap → Rho → Prop := fun f H₂ ρ₃ => match f with
  | .next | .cont => J H₂ ρ₃
  | .brk => Q .next H₂ ρ₃
  | .ret d => Q (.ret d) H₂ ρ₃
inductive LpI (W : Wd) (F : Fm) (J : Nat → AHeap → Rho → Prop) (H₁ : AHeap) (s₁ : Shared) (fp : List Addr) (Stn : Nat → Heap → Prop) (n k : Nat) (s' : Shared) : Prop
  | mk (i : Nat) (H₃ : AHeap) (ρ₃ : Rho) (S : W.St H₃ s') (K : KpL F.L H₁ s₁ H₃ s') (l : W.Loc (dom H₃) F.env ρ₃ s'.heap) (hf : ∀ b ∈ fp, b ∉ dom H₃) (st : Stn i s'.heap) (hJ : J i H₃ ρ₃) (hi : i ≤ n) (e : k = n + 1 - i)
theorem SP_forX {x : Str} {xpos pos : Pos} {iter : Expr} {body : List Stmt} (ok : F.Ok W k₀)
    (h : EP W F ρ H (eval iter F.env) (fun d H₁ => ∃ (J : Nat → AHeap → Rho → Prop) (xs : List V), ItP W F.A d H₁ xs ∧ J 0 H₁ ρ ∧
      (∀ i d H₁ ρ₁, xs[i]? = some d → J i H₁ ρ₁ → StoreIn ρ₁ x d (fun ρ₂ => SP W (F.inn W) ρ₂ H₁ (execs body F.env) (LpQ (J (i + 1)) Q))) ∧
      ∀ H₁ ρ₁, J xs.length H₁ ρ₁ → Q .next H₁ ρ₁))
    (hs : ∀ x, foldedSetIterable iter F.env x = pure x := by intro _; rfl) :
    SP W F ρ H (exec (.For (.Name x xpos) iter body [] pos) F.env) Q := .mk fun s S l n  => by
  refine wpAny_For (wpAny_mono (h.go s S l n) (fun v s₁ o => o.to fun d H₁ r S₁ K₁ o => o.elim fun J o => o.elim fun xs o => o.1 F.E s₁ v S₁ r _ fun it s₂ w => w.to fun I fp wr P Stn e Wk st0 hwr hfd hfs hfc hP S₂ K₂ => ?_) fun _ _ e => e) hs
  have j0 := o.2.1
  have turn := o.2.2.1
  have fin := o.2.2.2
  subst e
  clear o w
  have l₁ := l.kp n K₁
  have n₁ := l.out n K₁
  have hfL : ∀ b ∈ fp, b ≠ F.L := by
    intro b hb q
    rcases hfc _ hb with q' | ⟨o, ho, hc⟩
    · obtain ⟨o, e⟩ := l₁.at_
      subst q; rw [show s₁.heap.get? F.L = some o from e] at q'; cases q'
    · exact l₁.frame.ne ho hc q
  have hB : ∀ b ∈ wr, W.B.heap.get? b = none := fun b hb => S₁.baseNone (hwr b hb).1
  refine codeAny_forLoop (LpI W F J H₁ s₁ fp Stn xs.length) ?_ (xs.length + 1) (.mk 0 H₁ ρ S₂ (K₂.toL n₁) (l₁.kp n₁ K₂) hfd st0 j0 (Nat.zero_le _) rfl)
  clear S₂ K₂ st0 j0 hfd hfc h r
  replace K₁ := K₁.toL n
  intro k s' hI
  cases hI with
  | mk i H₃ ρ₃ S₃ K₃ l₃ hf₃ st₃ hJ hi e =>
  subst e
  have next : ∀ h' tk, (∀ b o, b ∉ wr → s'.heap.get? b = some o → h'.get? b = some o) → W.St H₃ { s' with heap := h', toks := tk } ∧ KpL F.L H₁ s₁ H₃ { s' with heap := h', toks := tk } ∧ W.Loc (dom H₃) F.env ρ₃ h' := by
    intro h' tk hk
    have C : Carry (dom H₃) s'.heap (dom H₃) h' := fun a o na e c => ⟨na, hk a o (fun q => (hwr a q).2 i _ o st₃ e c) e⟩
    refine ⟨S₃.growBut hk (fun b hb => ⟨hf₃ b (Wk.sub b hb), hB b hb⟩) (fun b hb o e => (hwr b hb).2 i _ o st₃ e), ⟨fun b o hL hb e => hk b o (fun q => ?_) (K₃.keep b o hL hb e), fun b o e hb => K₃.dom b o e hb, fun o e => ?_⟩, l₃.carry C fun o e => hk _ o (fun q => hfL _ (Wk.sub _ q) rfl) e⟩
    · rw [(hwr b q).1] at e; cases e
    · obtain ⟨o', e'⟩ := l₃.at_
      exact ⟨o', hk _ o' (fun q => hfL _ (Wk.sub _ q) rfl) e'⟩
  have n₃ := l₁.outL n₁ K₃
  by_cases hlt : i < xs.length
  · refine Wk.item i _ _ _ hlt st₃ fun v h' tk hPv st' hk => aa (next h' tk hk) fun S₄ K₄ l₄ => (hP i v hPv).elim fun d o => (turn i d H₃ ρ₃ o.1 hJ).elim fun ρ₄ u => ?_
    have rd₄ : W.Rep (dom H₃) h' v d := o.2.carry (KpL.carry K₄ l₁.frame)
    clear next st₃ hk hPv hJ
    refine wpAny_assign_Name (storeAt ok.inn (F := F.inn W) S₄ l₄ n₃ rd₄ u.1 fun s₅ S₅ K₅ l₅ => ?_)
    have stn₅ : Stn (i + 1) s₅.heap := Wk.frame _ _ _ st' fun b hb o e => K₅.keep b o (hfL b hb) (hf₃ b hb) e
    refine wpAny_mono (u.2.go s₅ S₅ l₅ n₃) (fun f s₆ o => o.to fun fl H₆ ρ₆ r₆ S₆ K₆ l₆ q₆ => ?_) fun _ _ e => e
    have K₇ := (K₄.trans K₅).trans K₆
    have go : J (i + 1) H₆ ρ₆ → ∃ m, m < xs.length + 1 - i ∧ LpI W F J H₁ s₁ fp Stn xs.length m s₆ := fun q => ⟨xs.length + 1 - (i + 1), by lia, .mk (i + 1) H₆ ρ₆ S₆ K₇ l₆
      (fun b hb => (hfs b hb _ _ stn₅).elim fun o e => K₆.dom b o e (hf₃ b hb)) (Wk.frame _ _ _ stn₅ fun b hb o e => K₆.keep b o (hfL b hb) (hf₃ b hb) e) q hlt rfl⟩
    cases r₆ with
    | next => exact go q₆
    | cont => exact go q₆
    | brk => exact ⟨_, H₆, ρ₆, .next, S₆, K₁.trans K₇, l₆, q₆⟩
    | ret r => exact ⟨_, H₆, ρ₆, .ret r, S₆, K₁.trans K₇, l₆, q₆⟩
  · have hin : i = xs.length := by lia
    subst hin
    exact Wk.done _ _ _ st₃ fun h' tk hk => aa (next h' tk hk) fun S₄ K₄ l₄ => wpAny_execs_nil ⟨_, H₃, ρ₃, .next, S₄, K₁.trans K₄, l₄, fin _ _ hJ⟩
end
end Mine
namespace Mine
open PySem PySem.W PyProof.Rows PySem.Calls

section
variable {W : Wd} {A : Around} {H : AHeap} {s : Shared}

theorem push_keep (h : Heap) (o : Obj) : ∀ b ob, h.get? b = some ob → (h.push o).get? b = some ob := fun _ _ e => Heap.get?_push_of_some _ e

theorem walkD_one {xs : List V} {o : Obj} {P : Nat → Value → Prop} {Sn : Nat → Heap → Prop} (S : W.St H s) (Wk : Walks W.prog W.w A s.heap.objs.size [s.heap.objs.size] [s.heap.objs.size] xs.length P Sn) (h0 : Sn 0 (s.heap.push o))
    (hc : ∀ i h ob, Sn i h → h.get? s.heap.objs.size = some ob → ¬ PureCls ob.cls) (he : ∀ i h, Sn i h → ∃ ob, h.get? s.heap.objs.size = some ob)
    (hP : ∀ i v, P i v → ∃ d, xs[i]? = some d ∧ W.Rep (dom H) s.heap v d) : WalkD W A H s xs (.ref s.heap.objs.size) { s with heap := s.heap.push o } := by
  refine ⟨_, _, _, P, Sn, rfl, Wk, h0, fun b hb => ?_, fun b hb => ?_, fun b hb i h st => ?_, fun b hb => ?_, hP, S.grow (push_keep _ _), Kp.grow (push_keep _ _)⟩
  · simp only [List.mem_singleton] at hb; subst hb
    exact ⟨get_size _, fun i h ob st e => hc i h ob st e⟩
  · simp only [List.mem_singleton] at hb; subst hb
    exact S.fresh (get_size _)
  · simp only [List.mem_singleton] at hb; subst hb
    exact he i h st
  · simp only [List.mem_singleton] at hb; subst hb
    exact .inl (get_size _)

noncomputable def signs (x : Str) : List V := x.cps.toList.map fun c => V.str ⟨#[c]⟩
theorem ItP_str {x : Str} (hA : A.handled = none) : ItP W A (.str x) H (signs x) := fun E s v S r P h => by
  refine Rep.str_elim r (fun t => ?_)
  have hlen : (signs x).length = x.cps.size := by simp [signs]
  have hP : ∀ i v, SignAt x i v → ∃ d, (signs x)[i]? = some d ∧ W.Rep (dom H) s.heap v d := fun i v ⟨c, u, hc, e⟩ => ⟨.str ⟨#[c]⟩, by simp [signs, hc], e ▸ .str _ _⟩
  cases ha : x.cps.all (· < 128)
  · refine wpAny_pyIter_wide ha (h _ _ (walkD_one S (hlen ▸ Walks.strWide hA _ x t) ⟨_, Heap.get?_push_size _ rfl, rfl, rfl⟩ ?_ (fun i h ⟨o, e, _⟩ => ⟨o, e⟩) hP))
    rintro i h ob ⟨o, e, c, _⟩ e'
    rw [e] at e'; cases e'; rw [c]; simp [PureCls]
  · refine wpAny_pyIter_ascii ha (h _ _ (walkD_one S (hlen ▸ Walks.strAscii hA _ x t) ⟨_, Heap.get?_push_size _ rfl, rfl, rfl⟩ ?_ (fun i h ⟨o, e, _⟩ => ⟨o, e⟩) hP))
    rintro i h ob ⟨o, e, c, _⟩ e'
    rw [e] at e'; cases e'; rw [c]; simp [PureCls]

noncomputable def rangeV (a b : Int) : List V := (List.range (b - a).toNat).map fun i => V.int (a + (i : Nat))
noncomputable def rangeVS (a b c : Int) : List V := (List.range (Builtin.Range.rangeSize a b c).toNat).map fun i => V.int (a + (i : Nat) * c)
theorem rangeVS_one (a b : Int) : rangeVS a b 1 = rangeV a b := by
  unfold rangeVS rangeV
  rw [rangeSize_nat]; simp only [Int.mul_one, Int.toNat_natCast]
theorem ItP_rng {a b c : Int} (hA : A.handled = none) (hsm : Builtin.Range.small a b c = true) (hn : 0 ≤ Builtin.Range.rangeSize a b c) : ItP W A (.rng a b c) H (rangeVS a b c) := fun E s v S r P h => by
  refine Rep.rng_elim r (fun r t u k n x => ?_)
  have hlen : (rangeVS a b c).length = (Builtin.Range.rangeSize a b c).toNat := by simp [rangeVS]
  have hP : ∀ i v, (i < (rangeVS a b c).length ∧ ∃ t, v = Value.int (a + (i : Nat) * c) t) → ∃ d, (rangeVS a b c)[i]? = some d ∧ W.Rep (dom H) s.heap v d := fun i v ⟨hi, t, e⟩ =>
    ⟨.int (a + (i : Nat) * c), by
      have hi' : i < (Builtin.Range.rangeSize a b c).toNat := by lia
      simp [rangeVS, hi'], e ▸ .int _ _⟩
  refine wpAny_pyIter_range x hsm (h _ _ (walkD_one S (Walks.bound (Walks.range hA _ a c _)) ?_ ?_ (fun i h e => ⟨_, e⟩) hP))
  · show IsRangeIter _ _ _ _ _
    have e1 : a + ((0 : Nat) : Int) * c = a := by simp
    have e2 : (((rangeVS a b c).length : Nat) : Int) - ((0 : Nat) : Int) = Builtin.Range.rangeSize a b c := by rw [hlen]; lia
    rw [e1, e2]
    exact Heap.get?_push_size _ rfl
  · intro i h ob e e'
    have e1 : h.get? s.heap.objs.size = some _ := e
    rw [e1] at e'; cases e'; simp [PureCls]
theorem ItP_rng1 {a b : Int} (hA : A.handled = none) (ha : -(2 ^ 62) ≤ a) (ha' : a < 2 ^ 62) (hb : -(2 ^ 62) ≤ b) (hb' : b < 2 ^ 62) : ItP W A (.rng a b 1) H (rangeV a b) := by
  rw [← rangeVS_one]
  exact ItP_rng hA (small_one ha ha' hb hb') (by rw [rangeSize_nat]; lia)

theorem ItP_tup {l : List V} (hA : A.handled = none) : ItP W A (.tup l) H l := fun E s v S r P h => by
  refine Rep.tup_elim r (fun a vs n x rs => ?_)
  obtain ⟨o, ho, hc, k, hd⟩ := id x
  have hne : a ≠ s.heap.objs.size := Nat.ne_of_lt (Heap.lt_size ho)
  have hlen : vs.toArray.size = l.length := by simpa using rs.length
  refine wpAny_pyIter_tuple (items := vs.toArray) x (h _ _ ⟨_, [s.heap.objs.size, a], [s.heap.objs.size], _, _, rfl, hlen ▸ Walks.tuple hA _ a hne vs.toArray, ⟨⟨_, Heap.get?_push_size _ rfl, rfl, rfl⟩, ⟨o, push_keep _ _ _ _ ho, hc, k, hd⟩⟩, fun b hb => ?_, fun b hb => ?_, fun b hb i h st => ?_, fun b hb => ?_, fun i v e => ?_, S.grow (push_keep _ _), Kp.grow (push_keep _ _)⟩)
  · simp only [List.mem_singleton] at hb; subst hb
    refine ⟨get_size _, fun i h ob st e => ?_⟩
    obtain ⟨⟨o', e', c', _⟩, _⟩ := st
    rw [e'] at e; cases e; rw [c']; simp [PureCls]
  · simp only [List.mem_cons, List.not_mem_nil, or_false] at hb
    rcases hb with rfl | rfl
    · exact S.fresh (get_size _)
    · exact n
  · obtain ⟨⟨o', e', c', _⟩, ⟨o'', e'', _⟩⟩ := st
    simp only [List.mem_cons, List.not_mem_nil, or_false] at hb
    rcases hb with rfl | rfl
    · exact ⟨_, e'⟩
    · exact ⟨_, e''⟩
  · simp only [List.mem_cons, List.not_mem_nil, or_false] at hb
    rcases hb with rfl | rfl
    · exact .inl (get_size _)
    · exact .inr ⟨o, ho, .inl hc⟩
  · obtain ⟨d, h1, h2⟩ := rs.get (i := i) (v := v) (by simpa using e)
    exact ⟨d, h1, h2⟩
end

structure CallP (W : Wd) (k : Nat) (f : V) (args : List V) (H : AHeap) (Q : V → AHeap → Prop) : Prop where
  go : ∀ (A : Around) s fv vs, Rm k A → W.St H s → W.Rep (dom H) s.heap fv f → W.Reps (dom H) s.heap vs args →
    codeAny W.M A (.call fv ⟨vs, []⟩) (fun r s' => ∃ v, r = .ok (.ret v) ∧ Out W H s Q v s') s

section
variable {W : Wd} {F : Fm} {ρ : Rho} {H : AHeap} {Q : V → AHeap → Prop} {s : Shared} {k₀ : Nat}
theorem CallP.mono {k : Nat} {f : V} {args : List V} {Q' : V → AHeap → Prop} (h : CallP W k f args H Q) (q : ∀ d H', Q d H' → Q' d H') : CallP W k f args H Q' :=
  .mk fun A s fv vs r S rf ra  => codeAny_mono (h.go A s fv vs r S rf ra) fun r s' ⟨v, e, d, H', rd, S', k', x⟩ => ⟨v, e, d, H', rd, S', k', q _ _ x⟩
theorem CallP.le {k n : Nat} {f : V} {args : List V} (h : CallP W k f args H Q) (hk : k ≤ n) : CallP W n f args H Q := .mk fun A s fv vs r  => h.go A s fv vs (r.le hk)
theorem CallP.run {k : Nat} {f : V} {args : List V} (h : CallP W k f args H Q) {A : Around} {E : Value → Shared → Prop} {s : Shared} {fv : Value} {vs : List Value} (r : Rm k A) (S : W.St H s) (rf : W.Rep (dom H) s.heap fv f) (ra : W.Reps (dom H) s.heap vs args) :
    wpAny W.M A (call fv vs) (Out W H s Q) E s :=
  wpAny_call (codeAny_mono (h.go A s fv vs r S rf ra) fun r s' ⟨v, e, o⟩ => by subst e; exact o)

theorem NP_nil {Q : List V → AHeap → Prop} {pos : Pos} (q : Q [] H) : NP W F ρ H (spliced (backTo pos (starEach [] F.env))) Q := .mk fun s S l n  => spliced_none ⟨[], H, .nil, S, .refl _ _, q⟩
theorem NP_cons {Q : List V → AHeap → Prop} {e : Expr} {rest : List Expr} {pos : Pos}
    (h : EP W F ρ H (eval e F.env) (fun d H₁ => NP W F ρ H₁ (spliced (backTo pos (starEach rest F.env))) (fun ds H₂ => Q (d :: ds) H₂)))
    (he : starEach (e :: rest) F.env = (false, eval e F.env) :: starEach rest F.env := by rfl) : NP W F ρ H (spliced (backTo pos (starEach (e :: rest) F.env))) Q := .mk fun s S l n  =>
  spliced_more (wpAny_mono (h.go s S l n) (fun v s₁ o => o.to fun d H₁ r S₁ kp q => wpAny_mono (q.go s₁ S₁ (l.kp n kp) (l.out n kp)) (fun vs s₂ o => o.to fun ds H₂ rs S₂ kp₂ q₂ =>
    ⟨d :: ds, H₂, .cons (r.carry kp₂.carry) rs, S₂, kp.trans kp₂, q₂⟩) fun _ _ e => e) fun _ _ e => e) he

theorem EP_call {f e : Expr} {rest : List Expr} {pos : Pos} {a : Addr} {k : Nat} (ok : F.Ok W k₀) (wok : W.Ok) (hk : k ≤ k₀) (hkeep : keepIn W.K (.ref a) = true)
    (h : EP W F ρ H (eval f F.env) (fun d H₁ => d = .ref a ∧ NP W F ρ H₁ (spliced (backTo pos (starEach (e :: rest) F.env))) (fun ds H₂ => CallP W k (.ref a) ds H₂ Q)))
    (hc : eval (.Call f (e :: rest) [] pos) F.env = (do callWith pos (← eval f F.env) [] (backTo pos (starEach (e :: rest) F.env)) []) := by rfl)
    (he : starEach (e :: rest) F.env = (false, eval e F.env) :: starEach rest F.env := by rfl) (hplain : (backTo pos (starEach rest F.env)).any (·.1) = false := by rfl) :
    EP W F ρ H (eval (.Call f (e :: rest) [] pos) F.env) Q := .mk fun s S l n  => by
  rw [hc]
  refine wpAny_bind (wpAny_mono (h.go s S l n) (fun fv s₁ o => o.to fun d H₁ r S₁ kp o => o.elim fun hd q => ?_) fun _ _ e => e)
  subst hd
  refine Rep.ref_elim r ?_
  refine callWith_K (first := []) (wok.k.keeps S₁.keep) hkeep ?_ he hplain
  refine wpAny_mono (q.go s₁ S₁ (l.kp n kp) (l.out n kp)) (fun vs s₂ o => o.to fun ds H₂ rs S₂ kp₂ q₂ => ⟨wok.k.keeps S₂.keep, ?_⟩) fun _ _ e => e
  exact wpAny_mono (q₂.run (ok.room.le hk) S₂ (.ref a) rs) (fun _ _ o => (o.trans kp₂).trans kp) fun _ _ e => e
theorem EP_call0 {f : Expr} {pos : Pos} {a : Addr} {k : Nat} (ok : F.Ok W k₀) (wok : W.Ok) (hk : k ≤ k₀) (hkeep : keepIn W.K (.ref a) = true)
    (h : EP W F ρ H (eval f F.env) (fun d H₁ => d = .ref a ∧ CallP W k (.ref a) [] H₁ Q))
    (hc : eval (.Call f [] [] pos) F.env = (do callWith pos (← eval f F.env) [] (backTo pos (starEach [] F.env)) []) := by rfl) :
    EP W F ρ H (eval (.Call f [] [] pos) F.env) Q := .mk fun s S l n  => by
  rw [hc]
  refine wpAny_bind (wpAny_mono (h.go s S l n) (fun fv s₁ o => o.to fun d H₁ r S₁ kp o => o.elim fun hd q => ?_) fun _ _ e => e)
  subst hd
  refine Rep.ref_elim r ?_
  refine callWith_K0 (first := []) (wok.k.keeps S₁.keep) hkeep ?_
  exact wpAny_mono (q.run (ok.room.le hk) S₁ (.ref a) .nil) (fun _ _ o => o.trans kp) fun _ _ e => e

theorem EP_bi {f e : Expr} {rest : List Expr} {pos : Pos} {id : String}
    (h : EP W F ρ H (eval f F.env) (fun d H₁ => d = .bi id ∧ NP W F ρ H₁ (spliced (backTo pos (starEach (e :: rest) F.env))) (fun ds H₂ => OPN W F (fun vs => call (.builtin id) vs) ds H₂ Q)))
    (hc : eval (.Call f (e :: rest) [] pos) F.env = (do callWith pos (← eval f F.env) [] (backTo pos (starEach (e :: rest) F.env)) []) := by rfl)
    (he : starEach (e :: rest) F.env = (false, eval e F.env) :: starEach rest F.env := by rfl) (hplain : (backTo pos (starEach rest F.env)).any (·.1) = false := by rfl) :
    EP W F ρ H (eval (.Call f (e :: rest) [] pos) F.env) Q := .mk fun s S l n  => by
  rw [hc]
  refine wpAny_bind (wpAny_mono (h.go s S l n) (fun fv s₁ o => o.to fun d H₁ r S₁ kp o => o.elim fun hd q => ?_) fun _ _ e => e)
  subst hd
  refine Rep.bi_elim r ?_
  refine callWith_builtin1 ?_ he hplain
  exact wpAny_mono (q.go s₁ S₁ (l.kp n kp) (l.out n kp)) (fun vs s₂ o => o.to fun ds H₂ rs S₂ kp₂ q₂ => wpAny_mono (q₂.go s₂ vs S₂ rs) (fun _ _ o => (o.trans kp₂).trans kp) fun _ _ e => e) fun _ _ e => e
theorem EP_ty {f e : Expr} {rest : List Expr} {pos : Pos} {T : String}
    (h : EP W F ρ H (eval f F.env) (fun d H₁ => d = .ty T ∧ NP W F ρ H₁ (spliced (backTo pos (starEach (e :: rest) F.env))) (fun ds H₂ => OPN W F (fun vs => call (.type T) vs) ds H₂ Q)))
    (hc : eval (.Call f (e :: rest) [] pos) F.env = (do callWith pos (← eval f F.env) [] (backTo pos (starEach (e :: rest) F.env)) []) := by rfl)
    (he : starEach (e :: rest) F.env = (false, eval e F.env) :: starEach rest F.env := by rfl) (hplain : (backTo pos (starEach rest F.env)).any (·.1) = false := by rfl) :
    EP W F ρ H (eval (.Call f (e :: rest) [] pos) F.env) Q := .mk fun s S l n  => by
  rw [hc]
  refine wpAny_bind (wpAny_mono (h.go s S l n) (fun fv s₁ o => o.to fun d H₁ r S₁ kp o => o.elim fun hd q => ?_) fun _ _ e => e)
  subst hd
  refine Rep.ty_elim r ?_
  refine PyProof.Rows.callWith_type1 ?_ he hplain
  exact wpAny_mono (q.go s₁ S₁ (l.kp n kp) (l.out n kp)) (fun vs s₂ o => o.to fun ds H₂ rs S₂ kp₂ q₂ => wpAny_mono (q₂.go s₂ vs S₂ rs) (fun _ _ o => (o.trans kp₂).trans kp) fun _ _ e => e) fun _ _ e => e

noncomputable def MethOf (W : Wd) (H : AHeap) (d : V) (name : Str) (id : String) : Prop :=
  ∀ (A : Around) (E : Value → Shared → Prop) s v (pl : Sem Bool) (P : Value × List Value → Shared → Prop), W.St H s → W.Rep (dom H) s.heap v d → P (.builtin id, [v]) s → wpAny W.M A (getMethod v name pl) P E s

theorem EP_meth {o e : Expr} {rest : List Expr} {name : Str} {apos pos : Pos} {id : String} {pl : Sem Bool}
    (h : EP W F ρ H (eval o F.env) (fun d H₁ => MethOf W H₁ d name id ∧ NP W F ρ H₁ (spliced (backTo pos (starEach (e :: rest) F.env))) (fun ds H₂ => OPN W F (fun vs => call (.builtin id) vs) (d :: ds) H₂ Q)))
    (hm : eval (.Call (.Attribute o name apos) (e :: rest) [] pos) F.env = (do
      let ov ← eval o F.env
      standAt apos.atName
      let (f, first) ← holding [ov] (getMethod ov name pl)
      callWith pos f first (backTo pos (starEach (e :: rest) F.env)) []) := by rfl)
    (he : starEach (e :: rest) F.env = (false, eval e F.env) :: starEach rest F.env := by rfl) (hplain : (backTo pos (starEach rest F.env)).any (·.1) = false := by rfl) :
    EP W F ρ H (eval (.Call (.Attribute o name apos) (e :: rest) [] pos) F.env) Q := .mk fun s S l n  => by
  refine MethodCall_ (pl := pl) (wpAny_mono (h.go s S l n) (fun v s₁ o => o.to fun d H₁ r S₁ kp o => o.elim fun hd q => hd _ _ _ _ _ _ S₁ r ?_) fun _ _ e => e) hm
  refine callWith_method1 (first := [v]) ?_ he hplain
  exact wpAny_mono (q.go s₁ S₁ (l.kp n kp) (l.out n kp)) (fun vs s₂ o => o.to fun ds H₂ rs S₂ kp₂ q₂ => wpAny_mono (q₂.go s₂ (v :: vs) S₂ (.cons (r.carry kp₂.carry) rs)) (fun _ _ o => (o.trans kp₂).trans kp) fun _ _ e => e) fun _ _ e => e
theorem EP_meth0 {o : Expr} {name : Str} {apos pos : Pos} {id : String} {pl : Sem Bool}
    (h : EP W F ρ H (eval o F.env) (fun d H₁ => MethOf W H₁ d name id ∧ OPN W F (fun vs => call (.builtin id) vs) [d] H₁ Q))
    (hm : eval (.Call (.Attribute o name apos) [] [] pos) F.env = (do
      let ov ← eval o F.env
      standAt apos.atName
      let (f, first) ← holding [ov] (getMethod ov name pl)
      callWith pos f first (backTo pos (starEach [] F.env)) []) := by rfl) :
    EP W F ρ H (eval (.Call (.Attribute o name apos) [] [] pos) F.env) Q := .mk fun s S l n  => by
  refine MethodCall_ (pl := pl) (wpAny_mono (h.go s S l n) (fun v s₁ o => o.to fun d H₁ r S₁ kp o => o.elim fun hd q => hd _ _ _ _ _ _ S₁ r ?_) fun _ _ e => e) hm
  refine callWith_method0 ?_
  exact wpAny_mono (q.go s₁ [v] S₁ (.cons r .nil)) (fun _ _ o => o.trans kp) fun _ _ e => e

theorem isStr_of' (x : Str) (v : Value) : v.isStr x = Value.isStrOf x v := by cases v <;> rfl
theorem lookIn_ns {h : Heap} {d : Addr} {m : Str → Option Value} (N : h.Ns d m) : ∃ o, h.get? d = some o ∧ ∀ name, lookIn name o = some (m name) := by
  obtain ⟨o, es, ep, ho, hd, hk, hm⟩ := N
  refine ⟨o, ho, fun name => ?_⟩
  unfold lookIn
  rw [hd]
  dsimp only
  have e : (es.toList.find? (·.key.isStr name)).map (·.val) = m name := by
    rw [← hm name]
    unfold nsFind findBy
    rw [← Array.find?_toList]
  split
  · rename_i en he
    rw [he] at e; rw [← e]; rfl
  · rename_i he
    rw [he] at e; rw [← e]
    have : es.toList.any (·.refKey) = false := by
      rw [List.any_eq_false]
      intro en hen
      obtain ⟨n, t, q⟩ := hk en (Array.mem_toList_iff.mp hen)
      simp [DictEntry.refKey, q, Value.isRef]
    rw [this]; rfl
noncomputable def OwnMeth (W : Wd) (C : Addr) (name : Str) (f : Addr) : Prop :=
  plainGet W.K C name = true ∧ findIn W.K (.ref C) name = some (some (.ref f)) ∧ isFn W.K (.ref f) = true ∧ keepIn W.K (.ref f) = true
noncomputable def InstOf (H : AHeap) (x C : Addr) (name : Str) : Prop := ∃ dx fs, (x, O.inst C dx) ∈ H ∧ (dx, O.ns fs) ∈ H ∧ name ∉ fs.map (·.1)
theorem inst_at (S : W.St H s) {x C dx : Addr} {fs : List (Str × V)} (h1 : (x, O.inst C dx) ∈ H) (h2 : (dx, O.ns fs) ∈ H) :
    ∃ od m, InstAt s.heap x (instObj C dx) C (some od) ∧ (∀ name, lookIn name od = some (m name)) ∧ s.heap.Ns dx m ∧ (∀ p ∈ fs, ∃ v, m p.1 = some v ∧ W.Rep (dom H) s.heap v p.2) ∧ ∀ y, y ∉ fs.map (·.1) → m y = none := by
  have e := (S.rep _ h1).2
  obtain ⟨m, N, -, hv, hn⟩ := (S.rep _ h2).2
  obtain ⟨o, ho, hl⟩ := lookIn_ns N
  exact ⟨o, m, ⟨e, rfl, rfl, ho⟩, hl, N, hv, hn⟩
theorem method_at {x C : Addr} {name : Str} {f : Addr} {A : Around} {E : Value → Shared → Prop} {s : Shared} {pl : Sem Bool} {P : Value × List Value → Shared → Prop} (wok : W.Ok) (S : W.St H s) (hm : OwnMeth W C name f) (h : InstOf H x C name) (hP : P (.ref f, [.ref x]) s) :
    wpAny W.M A (getMethod (.ref x) name pl) P E s := by
  obtain ⟨dx, fs, h1, h2, hno⟩ := h
  obtain ⟨od, m, I, hl, N, hv, hn⟩ := inst_at S h1 h2
  exact method_fn (wok.k.keeps S.keep) I (plainGet_of hm.1).1 (plainGet_of hm.1).2 hm.2.1 (beq_iff_eq.mp hm.2.2.1) (by show (lookIn name od).map _ = _; rw [hl, hn name hno]; rfl) hP
theorem get_at {x C dx : Addr} {name : Str} {fs : List (Str × V)} {d : V} {A : Around} {E : Value → Shared → Prop} {s : Shared} {expr : Bool} {P : Value → Shared → Prop} (wok : W.Ok) (S : W.St H s) (hg : plainGet W.K C name = true) (hh : hasDictIn W.K C = true)
    (ha : findIn W.K (.ref C) name = some none) (h1 : (x, O.inst C dx) ∈ H) (h2 : (dx, O.ns fs) ∈ H) (hd : (name, d) ∈ fs) (hnb : ∀ i, d ≠ .bi i) (hP : ∀ v, W.Rep (dom H) s.heap v d → P v { s with toks := s.toks + 1 }) :
    wpAny W.M A (getAttr (.ref x) name expr) P E s := by
  obtain ⟨od, m, I, hl, N, hv, hn⟩ := inst_at S h1 h2
  obtain ⟨v, hm, r⟩ := hv _ hd
  refine get_value (wok.k.keeps S.keep) I (plainGet_of hg).1 (findObj_own hh ha rfl (by rw [hl, hm])) ?_ (hP v r)
  cases r <;> first | rfl | exact absurd rfl (hnb _)

theorem EP_own {o e : Expr} {rest : List Expr} {name : Str} {apos pos : Pos} {x C f : Addr} {k : Nat} {pl : Sem Bool} (ok : F.Ok W k₀) (wok : W.Ok) (hk : k ≤ k₀) (mo : OwnMeth W C name f)
    (h : EP W F ρ H (eval o F.env) (fun d H₁ => d = .ref x ∧ InstOf H₁ x C name ∧ NP W F ρ H₁ (spliced (backTo pos (starEach (e :: rest) F.env))) (fun ds H₂ => CallP W k (.ref f) (.ref x :: ds) H₂ Q)))
    (hm : eval (.Call (.Attribute o name apos) (e :: rest) [] pos) F.env = (do
      let ov ← eval o F.env
      standAt apos.atName
      let (f, first) ← holding [ov] (getMethod ov name pl)
      callWith pos f first (backTo pos (starEach (e :: rest) F.env)) []) := by rfl)
    (he : starEach (e :: rest) F.env = (false, eval e F.env) :: starEach rest F.env := by rfl) (hplain : (backTo pos (starEach rest F.env)).any (·.1) = false := by rfl) :
    EP W F ρ H (eval (.Call (.Attribute o name apos) (e :: rest) [] pos) F.env) Q := .mk fun s S l n  => by
  refine MethodCall_ (pl := pl) (wpAny_mono (h.go s S l n) (fun v s₁ o => o.to fun d H₁ r S₁ kp o => aa o fun hd hi q => ?_) fun _ _ e => e) hm
  subst hd
  refine Rep.ref_elim r ?_
  refine method_at wok S₁ mo hi ?_
  refine callWith_K (first := [.ref x]) (wok.k.keeps S₁.keep) mo.2.2.2 ?_ he hplain
  refine wpAny_mono (q.go s₁ S₁ (l.kp n kp) (l.out n kp)) (fun vs s₂ o => o.to fun ds H₂ rs S₂ kp₂ q₂ => ⟨wok.k.keeps S₂.keep, ?_⟩) fun _ _ e => e
  exact wpAny_mono (q₂.run (ok.room.le hk) S₂ (.ref f) (.cons (.ref x) rs)) (fun _ _ o => (o.trans kp₂).trans kp) fun _ _ e => e
theorem EP_own0 {o : Expr} {name : Str} {apos pos : Pos} {x C f : Addr} {k : Nat} {pl : Sem Bool} (ok : F.Ok W k₀) (wok : W.Ok) (hk : k ≤ k₀) (mo : OwnMeth W C name f)
    (h : EP W F ρ H (eval o F.env) (fun d H₁ => d = .ref x ∧ InstOf H₁ x C name ∧ CallP W k (.ref f) [.ref x] H₁ Q))
    (hm : eval (.Call (.Attribute o name apos) [] [] pos) F.env = (do
      let ov ← eval o F.env
      standAt apos.atName
      let (f, first) ← holding [ov] (getMethod ov name pl)
      callWith pos f first (backTo pos (starEach [] F.env)) []) := by rfl) :
    EP W F ρ H (eval (.Call (.Attribute o name apos) [] [] pos) F.env) Q := .mk fun s S l n  => by
  refine MethodCall_ (pl := pl) (wpAny_mono (h.go s S l n) (fun v s₁ o => o.to fun d H₁ r S₁ kp o => aa o fun hd hi q => ?_) fun _ _ e => e) hm
  subst hd
  refine Rep.ref_elim r ?_
  refine method_at wok S₁ mo hi ?_
  refine callWith_K0 (first := [.ref x]) (wok.k.keeps S₁.keep) mo.2.2.2 ?_
  exact wpAny_mono (q.run (ok.room.le hk) S₁ (.ref f) (.cons (.ref x) .nil)) (fun _ _ o => o.trans kp) fun _ _ e => e
end

section
variable {W : Wd} {H : AHeap} {Q : V → AHeap → Prop}
@[reducible] def bodyQ (Q : V → AHeap → Prop) : Fl → AHeap → Rho → Prop := fun f H' _ => match f with
  | .ret d => Q d H'
  | .next => Q .none H'
  | _ => False

noncomputable def rho0 (ps : List Str) (ds : List V) (more : List Str) : Rho := (ps.zip ds).map (fun p => (p.1, some p.2)) ++ more.map (·, none)

structure Names (sc : Scope) (ps more : List Str) : Prop where
  kind : sc.kind = .function
  gen : sc.isGenerator = false
  co : sc.isCoroutine = false
  nocell : ∀ x ∈ sc.names, x.2 ≠ .cell
  nodup : (sc.names.map (·.1)).Nodup
  nodebug : ∀ p ∈ sc.names, (p.1 == ("__debug__" : Str)) = false
  own : (ps ++ more).Nodup
  loc : ∀ x ∈ ps ++ more, sc.names.lookup x = some .local

theorem lookup_zip {ps : List Str} {vs : List Value} (hn : ps.Nodup) (hl : vs.length = ps.length) : ∀ {i : Nat} {x : Str} {v : Value}, ps[i]? = some x → vs[i]? = some v → (ps.zip vs).reverse.lookup x = some v := by
  intro i x v h1 h2
  refine lookup_of_mem ?_ ?_
  · rw [List.map_reverse]
    refine (List.reverse_perm _).nodup_iff.mpr ?_
    rw [show (fun x : Str × Value => x.1) = Prod.fst from rfl, List.map_fst_zip (by lia)]
    exact hn
  · rw [List.mem_reverse]
    exact List.mem_iff_getElem?.mpr ⟨i, by simp [List.getElem?_zip_eq_some, h1, h2]⟩

structure FrameWith (L : Addr) (h₀ : Heap) (done : List (Str × Value)) (h : Heap) : Prop where
  ns : h.Ns L (fun x => done.reverse.lookup x)
  same : Heap.SameBut L h₀ h
  isFrame : FrameAt h L
theorem FrameWith.bind {M : Model} {A : Around} {E : Value → Shared → Prop} {env : Env} {L : Addr} {h₀ : Heap} {done : List (Str × Value)} {s : Shared} {x : Str} {v : Value} {Q : Unit → Shared → Prop} (f : FrameWith L h₀ done s.heap) (hL : env.locals = L) (hk : env.scope.kind = .function) (hx : env.kindOf x = some .local)
    (h : ∀ h', FrameWith L h₀ (done ++ [(x, v)]) h' → Q () { s with heap := h', toks := s.toks + 1 }) : wpAny M A (storeName env x v) Q E s := by
  subst hL
  rw [storeName_local hx (by rw [hk]; rfl)]
  exact wpAny_nsSet' f.ns f.isFrame fun h' n b k => h h' ⟨by rw [lookup_reverse_snoc]; exact n, f.same.trans b, k⟩
theorem newEnv_frame {M : Model} {A : Around} {E : Value → Shared → Prop} {s : Shared} {scope : Scope} {globals : Addr} {closure : List (Str × Addr)} {binds : List (Str × Value)} {qual : Str}
    {func : Option Addr} {code : Value} {builtins : Addr} {Q : Env → Shared → Prop}
    (hc : ∀ x ∈ scope.names, x.2 ≠ .cell) (hl : ∀ x ∈ binds, scope.names.lookup x.1 = some .local)
    (hQ : ∀ h', FrameWith s.heap.objs.size (s.heap.push { cls := .type "frame", data := .dict #[] }) binds h' →
      Q (newEnv scope s.heap.objs.size globals closure qual func code none builtins) { s with heap := h', toks := s.toks + binds.length })
    (hk : scope.kind = .function := by rfl) :
    wpAny M A (newFunctionEnv scope globals closure binds qual func code none builtins) Q E s := by
  unfold newFunctionEnv
  refine wpAny_bind (wpAny_alloc ?_)
  dsimp only
  rw [forIn_yield_id closure fun p hp c => by exact if_neg fun q => hc p hp (beq_iff_eq.mp q)]
  refine wpAny_bind (wpAny_pure (wpAny_bind (wpAny_forIn_list _ (fun rest _ s' => ∃ done h', done ++ rest = binds ∧ s' = { s with heap := h', toks := s.toks + done.length } ∧ FrameWith s.heap.objs.size (s.heap.push { cls := .type "frame", data := .dict #[] }) done h') _ ?_ ?_ binds _
    ⟨[], _, rfl, rfl, Heap.Ns.new .., .refl .., _, Heap.get?_push_size _ rfl, rfl⟩)))
  · rintro p rest _ _ ⟨done, h', rfl, rfl, f⟩
    exact wpAny_bind (f.bind (env := newEnv scope s.heap.objs.size globals closure qual func code none builtins) rfl hk (hl p (List.mem_append_right _ (.head _))) fun h'' f' => wpAny_pure ⟨done ++ [p], h'', List.append_assoc .., by rw [List.length_append]; rfl, f'⟩)
  · rintro _ _ ⟨done, h', e, rfl, f⟩
    rw [List.append_nil] at e
    subst e
    exact wpAny_pure (hQ h' f)

theorem rho0_keys {ps more : List Str} {ds : List V} (hl : ds.length = ps.length) : (rho0 ps ds more).map (·.1) = ps ++ more := by
  unfold rho0
  simp only [List.map_append, List.map_map]
  congr 1
  · rw [show ((fun x : Str × Option V => x.1) ∘ fun p : Str × V => (p.1, some p.2)) = Prod.fst from rfl, List.map_fst_zip (by lia)]
  · exact List.map_id' _

theorem enterR {R : Result → Shared → Prop} {k : Nat} {f : Addr} {ds : List V} {name qual : Str} {params : Arguments} {body : List Stmt} {scope : Scope} {dV kV doc pm cdv ct oc : Value} {an od : Option Addr} {osl : Array (Option Value)} {ps more : List Str} {A : Around} {s : Shared} {vs : List Value} (wok : W.Ok)
    (nm : Names scope ps more) (r : Rm (k + 1) A) (S : W.St H s) (ra : W.Reps (dom H) s.heap vs ds)
    (ho : W.K.lookup f = some ⟨oc, od, .func (fnOf name qual params body scope dV kV doc pm an cdv ct), osl⟩) (hcd : codeIn W.K cdv qual = true) (hlen : ds.length = ps.length)
    (hbind : BindsTo s (fnOf name qual params body scope dV kV doc pm an cdv ct) ⟨vs, []⟩ (ps.zip vs))
    (h : ∀ F : Fm, F.nm = qual → F.sc = scope → F.L = s.heap.objs.size → F.a = f → F.cd = cdv → F.A = A.deeper F.env → F.Ok W k → (∃ (s₀ : Shared), W.St H s₀ ∧ W.Loc (dom H) F.env (rho0 ps ds more) s₀.heap ∧ F.L ∉ dom H ∧ (∀ b o, s.heap.get? b = some o → s₀.heap.get? b = some o) ∧ 
        (wpAny W.M F.A (execs body F.env) (fun fl s' => R (.ok (.ret (match fl with | .ret v => v | _ => .none))) s') (fun e s' => wpAny W.M F.A (leaving F.env e) (fun _ s'' => R (.error e) s'') (fun e' s'' => R (.error e') s'') s') s₀ → False)) → False) :
    codeAny W.M A (.call (.ref f) ⟨vs, []⟩) R s := by
  have hvl : vs.length = ps.length := ra.length.trans hlen
  have hnd : (rho0 ps ds more).map (·.1) = ps ++ more := rho0_keys hlen
  have hloc : ∀ x ∈ ps.zip vs, scope.names.lookup x.1 = some .local := fun x hx => nm.loc x.1 (List.mem_append_left _ (List.of_mem_zip hx).1)
  refine codeAny_call_function (by have := r.depth; lia) (wok.k.keeps S.keep _ _ ho) rfl nm.co nm.gen rfl (codeRec_of (wok.k.keeps S.keep) hcd) (hbind _ _ _ _ ?_)
  refine newEnv_frame nm.nocell hloc (fun h₀ fw => ?_) nm.kind
  have hsb := fw.same
  have k₀ : ∀ b o, s.heap.get? b = some o → h₀.get? b = some o := fun b o e => hsb.extBut b o (Nat.ne_of_lt (Heap.lt_size e)) (Heap.get?_push_of_some _ e)
  refine ⟨(wok.nolimit.keeps S.keep).fresh _ hsb, codeAny_func ?_⟩
  let F : Fm := ⟨A.deeper (envOf qual scope s.heap.objs.size f cdv), fun _ _ => False, qual, scope, s.heap.objs.size, f, cdv⟩
  refine Classical.byContradiction fun no => h F rfl rfl rfl rfl rfl rfl ⟨nm.kind, nm.nodup, nm.nodebug, S.baseNone (get_size _), r.deeper _⟩ ⟨_, S.grow (t := s.toks + (ps.zip vs).length) k₀, ⟨⟨_, fw.ns, ?_⟩, ?_, ?_, fw.isFrame⟩, S.fresh (get_size _), k₀, no⟩
  · intro p hp d e
    unfold rho0 at hp
    rcases List.mem_append.mp hp with hp | hp
    · obtain ⟨q, hq, rfl⟩ := List.mem_map.mp hp
      obtain ⟨i, hi⟩ := List.mem_iff_getElem?.mp hq
      obtain ⟨i1, i2⟩ := List.getElem?_zip_eq_some.mp hi
      obtain ⟨v, hv, rv⟩ := ra.get' i2
      cases e
      refine ⟨v, lookup_zip ((List.nodup_append.mp nm.own).1) hvl i1 hv, rv.carry (Kp.grow (H := H) (t := 0) k₀).carry⟩
    · obtain ⟨q, hq, rfl⟩ := List.mem_map.mp hp
      cases e
  · rw [hnd]; exact nm.own
  · intro p hp
    exact nm.loc p.1 (hnd ▸ List.mem_map_of_mem hp)

theorem CallP.enter {k : Nat} {f : Addr} {ds : List V} {name qual : Str} {params : Arguments} {body : List Stmt} {scope : Scope} {dV kV doc pm cdv ct oc : Value} {an od : Option Addr} {osl : Array (Option Value)} {ps more : List Str} (wok : W.Ok)
    (nm : Names scope ps more)
    (ho : W.K.lookup f = some ⟨oc, od, .func (fnOf name qual params body scope dV kV doc pm an cdv ct), osl⟩) (hcd : codeIn W.K cdv qual = true) (hlen : ds.length = ps.length)
    (hbind : ∀ (s : Shared) vs, W.K.In s.heap → vs.length = ps.length → BindsTo s (fnOf name qual params body scope dV kV doc pm an cdv ct) ⟨vs, []⟩ (ps.zip vs))
    (h : ∀ F : Fm, F.nm = qual → F.sc = scope → F.Ok W k → SP W F (rho0 ps ds more) H (execs body F.env) (bodyQ Q)) : CallP W (k + 1) (.ref f) ds H Q := by
  refine .mk ?_
  intro A s fv vs r S rf ra
  refine Rep.ref_elim rf ?_
  refine enterR (ds := ds) (H := H) wok nm r S ra ho hcd hlen (hbind s vs (wok.k.keeps S.keep) (ra.length.trans hlen)) ?_
  rintro F e1 e2 e3 e4 e5 e6 ok ⟨s₀, S₀, l₀, n₀, k₀, no⟩
  refine no ?_
  refine wpAny_mono ((h { F with E := fun _ _ => False } e1 e2 ⟨ok.kind, ok.nodup, ok.nodebug, ok.base, ok.room⟩).go s₀ S₀ l₀ n₀) (fun fl s₁ o => o.to fun f' H₁ ρ₁ rf S₁ K₁ l₁ q => ?_) fun _ _ e => e.elim
  have KK : Kp H s H₁ s₁ := by
    refine ⟨fun b o hb e => K₁.keep b o ?_ hb (k₀ b o e), fun b o e hb => K₁.dom b o (k₀ b o e) hb⟩
    rintro rfl
    have := e3 ▸ get_size s.heap
    rw [this] at e; cases e
  cases rf  with
  | next => exact ⟨_, rfl, .none, H₁, .none, S₁, KK, q⟩
  | brk => exact q.elim
  | cont => exact q.elim
  | ret rv => exact ⟨_, rfl, _, H₁, rv, S₁, KK, q⟩
end
end Mine
namespace Mine
open PySem PySem.W PyProof.Rows PySem.Calls

section
variable {W : Wd} {F : Fm} {ρ : Rho} {H H' : AHeap} {Q : V → AHeap → Prop} {s : Shared} {k₀ : Nat}

theorem OP1.run {f : Value → Sem Value} {d : V} (h : OP1 W F f d H Q) {s : Shared} {v : Value} (S : W.St H s) (r : W.Rep (dom H) s.heap v d) : wpAny W.M F.A (f v) (Out W H s Q) F.E s := h.go s v S r

theorem EP_tuple {elts : List Expr} {k : Nat} {pos : Pos} (h : NP W F ρ H (spliced (backTo pos (starEach elts F.env))) (fun ds H₁ => ds.length ≤ 1000 ∧ Q (.tup ds) H₁)) :
    EP W F ρ H (eval (.Tuple elts k pos) F.env) Q := .mk fun s S l n  => by
  refine wpAny_Tuple (wpAny_mono (h.go s S l n) (fun vs s₁ o => o.to fun ds H₁ rs S₁ kp o => o.elim fun hl q => ?_) fun _ _ e => e)
  have hk := push_keep s₁.heap { cls := .type "tuple", data := .seq vs.toArray }
  refine ⟨by rw [rs.length, sizeLine_eq]; lia, _, H₁, .tup (S₁.fresh (get_size _)) ⟨_, Heap.get?_push_size _ rfl, rfl, 0, rfl⟩ (rs.carry (Kp.grow (H := H₁) (t := s₁.toks) hk).carry), S₁.grow hk, kp.trans (Kp.grow hk), q⟩
theorem EP_list {elts : List Expr} {pos : Pos} (h : NP W F ρ H (spliced (backTo pos (starEach elts F.env))) (fun ds H₁ => ds.length ≤ 1000 ∧ ∀ a, Q (.ref a) ((a, .list ds) :: H₁))) :
    EP W F ρ H (eval (.List elts pos) F.env) Q := .mk fun s S l n  => by
  refine wpAny_List (wpAny_mono (h.go s S l n) (fun vs s₁ o => o.to fun ds H₁ rs S₁ kp o => o.elim fun hl q => ?_) fun _ _ e => e)
  have hk := push_keep s₁.heap { cls := .type "list", data := .seq vs.toArray }
  have hn := get_size s₁.heap
  have S₂ := S₁.new (t := s₁.toks) (o := .list ds) hk hn ⟨vs, 0, Heap.get?_push_size _ rfl, rs.carry (Kp.new (H := H₁) (o := .list ds) (t := s₁.toks) hk hn).carry⟩
  exact ⟨by rw [rs.length, sizeLine_eq]; lia, _, _, .ref _, S₂, kp.trans (Kp.new hk hn), q _⟩
theorem out_newList {vs : List Value} {ds : List V} {t : Nat} {its : Array Value} (hi : its = vs.toArray) (S : W.St H s) (rs : W.Reps (dom H) s.heap vs ds) (q : ∀ a, Q (.ref a) ((a, .list ds) :: H)) :
    Out W H s Q (.ref s.heap.objs.size) { s with heap := s.heap.push { cls := .type "list", data := .seq its }, toks := t } := by
  subst hi
  have hk := push_keep s.heap { cls := .type "list", data := .seq vs.toArray }
  have hn := get_size s.heap
  have S₂ := S.new (t := t) (o := .list ds) hk hn ⟨vs, 0, Heap.get?_push_size _ rfl, rs.carry (Kp.new (H := H) (o := .list ds) (t := t) hk hn).carry⟩
  exact ⟨_, _, .ref _, S₂, Kp.new hk hn, q _⟩
theorem out_newTup {vs : List Value} {ds : List V} {t : Nat} {its : Array Value} (hi : its = vs.toArray) (S : W.St H s) (rs : W.Reps (dom H) s.heap vs ds) (q : Q (.tup ds) H) :
    Out W H s Q (.ref s.heap.objs.size) { s with heap := s.heap.push { cls := .type "tuple", data := .seq its }, toks := t } := by
  subst hi
  have hk := push_keep s.heap { cls := .type "tuple", data := .seq vs.toArray }
  exact ⟨_, H, .tup (S.fresh (get_size _)) ⟨_, Heap.get?_push_size _ rfl, rfl, 0, rfl⟩ (rs.carry (Kp.grow (H := H) (t := t) hk).carry), S.grow hk, Kp.grow hk, q⟩

theorem EP_sub {value slice : Expr} {pos : Pos} (h : EP W F ρ H (eval value F.env) (fun a H₁ => EP W F ρ H₁ (eval slice F.env) (fun b H₂ => OP2 W F (subscriptTail value slice) a b H₂ Q))) :
    EP W F ρ H (eval (.Subscript value slice pos) F.env) Q := .mk fun s S l n  => Subscript_ (EP.op2 S l n h)
theorem seqIndex_nat {n len : Nat} (h : n < len) : seqIndex? (n : Int) len = some n := by
  unfold seqIndex?
  rw [if_neg (by lia : ¬ ((n : Int) < 0))]
  simp [h]
theorem op_item_tup {value slice : Expr} {ds : List V} {n : Nat} {d : V} (hd : ds[n]? = some d) (hn : n < 1000) (q : Q d H)
    (hs : ∀ t k u, subscripted slice false (.ref t) (.int k u) = operate [.ref t, .int k u] (getItem (.ref t) (.int k u)) := by intro _ _ _; with_unfolding_all rfl) :
    OP2 W F (subscriptTail value slice) (.tup ds) (.int (n : Int)) H Q := .mk fun s v u S r₁ r₂  => by
  refine Rep.tup_elim r₁ (fun a vs na x rs => ?_)
  refine Rep.int_elim r₂ (fun t => ?_)
  obtain ⟨v, hv, rv⟩ := rs.get' hd
  have hlt : n < vs.length := by
    rcases Nat.lt_or_ge n vs.length with h | h
    · exact h
    · rw [List.getElem?_eq_none h] at hv; cases hv
  exact item_tupleT x (by lia) (by lia) (seqIndex_nat hlt) hv (Out.here S rv q) (hs _ _ _)
theorem op_item_list {value slice : Expr} {a : Addr} {l : List V} {n : Nat} {d : V} (hm : (a, O.list l) ∈ H) (hd : l[n]? = some d) (hn : n < 2 ^ 40) (q : Q d H)
    (hs : ∀ t k u, subscripted slice false (.ref t) (.int k u) = operate [.ref t, .int k u] (getItem (.ref t) (.int k u)) := by intro _ _ _; with_unfolding_all rfl) :
    OP2 W F (subscriptTail value slice) (.ref a) (.int (n : Int)) H Q := .mk fun s v u S r₁ r₂  => by
  refine Rep.ref_elim r₁ ?_
  refine Rep.int_elim r₂ (fun t => ?_)
  obtain ⟨vs, k, hl, rs⟩ := (S.rep _ hm).2
  obtain ⟨v, hv, rv⟩ := rs.get' hd
  exact tail_any hl.isList.typeIs slot_list_getitem.lookup (wpAny_getItem_list hl.isList (by lia) (by lia) (x := v) (by simpa using hv) (Out.here S rv q)) (hs _ _ _)
theorem op_item_str {value slice : Expr} {x : Str} {n : Nat} {c : Nat} (hc : x.cps[n]? = some c) (hn : n < 2 ^ 40) (q : Q (.str ⟨#[c]⟩) H)
    (hs : ∀ x' t k u, subscripted slice false (.str x' t) (.int k u) = operate [.str x' t, .int k u] (getItem (.str x' t) (.int k u)) := by intro _ _ _ _; with_unfolding_all rfl) :
    OP2 W F (subscriptTail value slice) (.str x) (.int (n : Int)) H Q := .mk fun s v u S r₁ r₂  => by
  refine Rep.str_elim r₁ (fun t => ?_)
  refine Rep.int_elim r₂ (fun t' => ?_)
  have hlt : n < x.length := by
    rcases Nat.lt_or_ge n x.cps.size with h | h
    · exact h
    · rw [Array.getElem?_eq_none h] at hc; cases hc
  refine tail_any (typeIs_str s x t) PySem.F.slot_str_getitem.lookup (PySem.P.getItem_str (c := c) ?_ ?_ (Out.toks S (.str _ _) q)) (hs _ _ _ _)
  · simp only [Bool.or_eq_false_iff, decide_eq_false_iff_not]; lia
  · rw [seqIndex_nat hlt]; exact hc

theorem EP_attr {o : Expr} {name : Str} {pos : Pos} {x C dx : Addr} {fs : List (Str × V)} {d : V} (wok : W.Ok) (hg : plainGet W.K C name = true) (hh : hasDictIn W.K C = true) (ha : findIn W.K (.ref C) name = some none)
    (h : EP W F ρ H (eval o F.env) (fun a H₁ => a = .ref x ∧ (x, O.inst C dx) ∈ H₁ ∧ (dx, O.ns fs) ∈ H₁ ∧ (name, d) ∈ fs ∧ (∀ i, d ≠ .bi i) ∧ Q d H₁))
    (he : eval (.Attribute o name pos) F.env = (do
      let v ← eval o F.env
      standAt pos.atName
      let r ← holding [v] (getAttr v name true)
      letTemporaryGo o v r
      pure r) := by with_unfolding_all rfl) :
    EP W F ρ H (eval (.Attribute o name pos) F.env) Q := .mk fun s S l n  => by
  refine Attribute_any_ (wpAny_mono (h.go s S l n) (fun v s₁ ⟨a, H₁, r, S₁, kp, e, h1, h2, h3, h4, q⟩ => ?_) fun _ _ e => e) he
  subst e
  exact Rep.ref_elim r (by exact get_at wok S₁ hg hh ha h1 h2 h3 h4 fun v r => (Out.toks S₁ r q).trans kp)

theorem osa_ns {prog : Program} {w : World} {K : Frag} {A : Around} {R : Result → Shared → Prop} {s : Shared} {x C dx : Addr} {od : Obj} {m : Str → Option Value} {name : Str} {tk : Tok} {v : Value} (X : K.In s.heap) (I : InstAt s.heap x (instObj C dx) C (some od)) (hp : plainOver K C = true) (ht : takerIn K C name = some none) (hh : hasDictIn K C = true)
    {k : Nat} (N : s.heap.Ns dx m) (hz : ∃ o es n, s.heap.get? dx = some o ∧ o.data = .dict es n ∧ es.size ≤ k) (hk : k ≤ 1000) (h : ∀ h', h'.Ns dx (fun y => if y = name then some v else m y) → Heap.SameBut dx s.heap h' → (∃ o es n, h'.get? dx = some o ∧ o.data = .dict es n ∧ es.size ≤ k + 1) → R (.ok (.ret .none)) { s with heap := h', toks := s.toks + 1 }) :
    codeAny (model prog w) A (.call (.builtin "object.__setattr__") ⟨[.ref x, .str name tk, v], []⟩) R s := by
  refine osa_open X I hp ht fun b => ?_
  obtain ⟨cd, hc, hd'⟩ := any_some hh
  obtain ⟨hx, hcl, hnn, -⟩ := I
  refine wpAny_bind (wpAny_pure (wpAny_bind (wpAny_bind (wpAny_loadPart hx (wpAny_bind ((looks_clsIn X hc).here ?_))))))
  rw [hd']
  refine wpAny_pure (a := some dx) (wpAny_bind (wpAny_pure (wpAny_bind ?_)))
  refine wpAny_nsSetB N hz fun h' hn' hs' hz' => ?_
  obtain ⟨o', es', n', ho', hd'', hl'⟩ := hz'
  exact wpAny_bind (wpAny_lookBehind ho' (by rw [hd'']; exact pastItsLine_dict (by rw [sizeLine_eq]; lia)) (wpAny_pure (h h' hn' hs' ⟨o', es', n', ho', hd'', hl'⟩)))
theorem set_at {x C dx : Addr} {name : Str} {fs : List (Str × V)} {v : Value} {d : V} {A : Around} {E : Value → Shared → Prop} {P : Unit → Shared → Prop} (wok : W.Ok) (S : W.St H s) (hs : findIn W.K (.ref C) "__setattr__" = some (some (.builtin "object.__setattr__")))
    (hp : plainOver W.K C = true) (ht : takerIn W.K C name = some none) (hh : hasDictIn W.K C = true) (h1 : (x, O.inst C dx) ∈ H) (h2 : (dx, O.ns fs) ∈ H) (hno : name ∉ fs.map (·.1)) (hk : fs.length ≤ 1000) (u : Put dx (.ns (fs ++ [(name, d)])) H H') (r : W.Rep (dom H) s.heap v d)
    (hP : ∀ s', W.St H' s' → Kp H s H' s' → P () s') : wpAny W.M A (setAttr (.ref x) name v) P E s := by
  obtain ⟨od, m, I, hl, N, hv, hn⟩ := inst_at S h1 h2
  have X := wok.k.keeps S.keep
  refine set_plain X I hs (osa_ns (s := { s with toks := s.toks + 1 }) X I hp ht hh N (k := fs.length) (let ⟨_, _, z, _⟩ := (S.rep _ h2).2; z) hk fun h' hn' hs' hz' => ?_)
  have kT : Kp H s H' { s with heap := h', toks := s.toks + 1 + 1 } := (Kp.put (t := s.toks + 1 + 1) hs' u)
  refine hP _ (S.put (t := s.toks + 1 + 1) hs' u ⟨_, hn', by simpa using hz', fun p hp => ?_, fun y hy => ?_⟩) kT
  · rcases List.mem_append.mp hp with hp | hp
    · obtain ⟨v', e, r'⟩ := hv p hp
      refine ⟨v', ?_, r'.carry kT.carry⟩
      rw [if_neg]; exact e
      intro e'; exact hno (e' ▸ List.mem_map_of_mem hp)
    · simp only [List.mem_singleton] at hp; subst hp
      exact ⟨v, if_pos rfl, r.carry kT.carry⟩
  · simp only [List.map_append, List.map_cons, List.map_nil, List.mem_append, List.mem_singleton, not_or] at hy
    rw [if_neg hy.2]; exact hn y hy.1
theorem SP_setattr {o e : Expr} {name : Str} {pos pos' : Pos} {Q : Fl → AHeap → Rho → Prop} {x C dx : Addr} {fs : List (Str × V)} (wok : W.Ok) (hs : findIn W.K (.ref C) "__setattr__" = some (some (.builtin "object.__setattr__")))
    (hp : plainOver W.K C = true) (ht : takerIn W.K C name = some none) (hh : hasDictIn W.K C = true)
    (h : EP W F ρ H (eval e F.env) (fun d H₁ => EP W F ρ H₁ (eval o F.env) (fun a H₂ => a = .ref x ∧ (x, O.inst C dx) ∈ H₂ ∧ (dx, O.ns fs) ∈ H₂ ∧ name ∉ fs.map (·.1) ∧ fs.length ≤ 1000 ∧ ∃ H₃, Put dx (.ns (fs ++ [(name, d)])) H₂ H₃ ∧ Q .next H₃ ρ)))
    (hsw : swapsWith e (some (.Attribute o name pos')) pos.line F.env = pure false := by rfl) : SP W F ρ H (exec (.Assign [.Attribute o name pos'] e pos) F.env) Q := .mk fun s S l n  => by
  refine plainObj_wpAny_Assign_Attribute (wpAny_mono (h.go s S l n) (fun v s₁ o => o.to fun d H₁ r S₁ kp q => wpAny_mono (q.go s₁ S₁ (l.kp n kp) (l.out n kp)) (fun ov s₂ ⟨a, H₂, r₂, S₂, kp₂, ea, h1, h2, h3, h4, H₃, u, q₂⟩ => ?_) fun _ _ e => e) fun _ _ e => e) hsw
  subst ea
  refine Rep.ref_elim r₂ ?_
  have K₂ := kp.trans kp₂
  refine set_at wok S₂ hs hp ht hh h1 h2 h3 h4 u (r.carry kp₂.carry) fun s' S' k' => ⟨_, H₃, ρ, .next, S', (K₂.trans k').toL n, l.kp n (K₂.trans k'), q₂⟩

theorem meth_list {a : Addr} {l : List V} {name : Str} {id : String} (hm : (a, O.list l) ∈ H) (slot : Slot "list" name id) (hty : typeOf (.builtin id) = pure (.type "method_descriptor")) : MethOf W H (.ref a) name id := fun A E s v pl P S r hP => by
  obtain rfl : v = .ref a := r.view
  obtain ⟨vs, k, hl, rs⟩ := (S.rep _ hm).2
  exact getMethod_builtin ⟨_, hl, rfl⟩ PySem.F.plainAttrs_list slot hty (fun a e => by cases e; exact ⟨_, hl, rfl⟩) hP
theorem op_append {a : Addr} {l : List V} {d : V} (hm : (a, O.list l) ∈ H) (hl : l.length ≤ 2 ^ 20) (u : Put a (.list (l ++ [d])) H H') (q : Q .none H') : OPN W F (fun vs => call (.builtin "list.append") vs) [.ref a, d] H Q := .mk fun s vs S rs  => by
  cases rs  with
  | cons r rs =>
  cases rs  with
  | @cons x _ _ _ r' rs =>
  cases rs
  refine Rep.ref_elim r ?_
  obtain ⟨us, k, hu', ru⟩ := (S.rep _ hm).2
  have hu : IsL s.heap a us.toArray k := hu'
  refine call_meets PySem.F.slot_list_append ⟨_, hu, rfl⟩ PySem.F.entry_list_append (PySem.F.args_list_append_2 _ _) (list_append a us.toArray k _ (by rw [List.size_toArray, ru.length, sizeLine_eq]; lia)) ⟨hu, ?_⟩
  have hs : Heap.SameBut a s.heap (s.heap.update a (Obj.mapSeq fun y => y.push x)) := Heap.SameBut.update ..
  have kT := Kp.put (t := s.toks) hs u
  have hI : ∃ n', IsL (s.heap.update a (Obj.mapSeq fun y => y.push x)) a (us ++ [x]).toArray n' := ⟨_, by simpa using IsL.update hu (fun y => y.push x)⟩
  obtain ⟨n', hI⟩ := hI
  exact ⟨.none, H', .none, S.put (t := s.toks) hs u ⟨us ++ [x], n', hI, (ru.append (.cons r' .nil)).carry kT.carry⟩, kT, q⟩
theorem op_len_list {a : Addr} {l : List V} (hm : (a, O.list l) ∈ H) (hl : l.length ≤ 2 ^ 20) (q : Q (.int (l.length : Nat)) H) : OPN W F (fun vs => call (.builtin "len") vs) [.ref a] H Q := .mk fun s vs S rs  => by
  cases rs  with
  | cons r rs =>
  cases rs
  refine Rep.ref_elim r ?_
  obtain ⟨us, k, hu', ru⟩ := (S.rep _ hm).2
  have hu : IsL s.heap a us.toArray k := hu'
  have e : us.toArray.size = l.length := by simpa using ru.length
  exact Calls.call_len_list hu.isList (by lia) (Out.toks S (by rw [e]; exact .int _ _) q)
theorem op_len_tup {l : List V} (hl : l.length ≤ 2 ^ 20) (q : Q (.int (l.length : Nat)) H) : OPN W F (fun vs => call (.builtin "len") vs) [.tup l] H Q := .mk fun s vs S rs  => by
  cases rs  with
  | cons r rs =>
  cases rs
  refine Rep.tup_elim r (fun a us na x ru => ?_)
  have e : us.toArray.size = l.length := by simpa using ru.length
  exact PyProof.Rows.len_tuple x (by lia) (Out.toks S (by rw [e]; exact .int _ _) q)
theorem op_len_str {x : Str} (hl : x.length < 2 ^ 60) (q : Q (.int (x.length : Nat)) H) : OPN W F (fun vs => call (.builtin "len") vs) [.str x] H Q := .mk fun s vs S rs  => by
  cases rs  with
  | cons r rs =>
  cases rs
  (first | refine Rep.int_elim r (fun _ => ?_) | refine Rep.str_elim r (fun _ => ?_) | refine Rep.bool_elim r ?_ | refine Rep.ty_elim r ?_)
  exact PySem.P.len_str (by lia) (Out.toks S (.int _ _) q)
theorem op_pop {a : Addr} {l : List V} {d : V} (hm : (a, O.list (l ++ [d])) ∈ H) (hl : l.length < 2 ^ 20) (u : Put a (.list l) H H') (q : Q d H') : OPN W F (fun vs => call (.builtin "list.pop") vs) [.ref a] H Q := .mk fun s vs S rs  => by
  cases rs  with
  | cons r rs =>
  cases rs
  refine Rep.ref_elim r ?_
  obtain ⟨us, k, hu', ru⟩ := (S.rep _ hm).2
  have hu : IsL s.heap a us.toArray k := hu'
  have e : us.length = l.length + 1 := by simpa using ru.length
  obtain ⟨y, hy, ry⟩ := ru.get' (i := l.length) (d := d) (by simp)
  have hsz : us.toArray.size - 1 = l.length := by simp [e]
  refine call_meets PySem.F.slot_list_pop ⟨_, hu, rfl⟩ PySem.F.entry_list_pop (PySem.F.args_list_pop_1 _) (MeetsSeq.list_pop_last a us.toArray k y (by rw [hsz]; simpa using hy) (by rw [List.size_toArray, e, sizeLine_eq]; lia)) ⟨hu, ?_⟩
  have hs : Heap.SameBut a s.heap (s.heap.update a (Obj.mapSeq fun xs => xs.eraseIdxIfInBounds (us.toArray.size - 1))) := Heap.SameBut.update ..
  have kT := Kp.put (t := s.toks) hs u
  have eT : us.toArray.eraseIdxIfInBounds (us.toArray.size - 1) = (us.take l.length).toArray := by
    rw [hsz]
    apply Array.ext'
    simp only [Array.eraseIdxIfInBounds]
    rw [dif_pos (by simp [e])]
    simp [List.eraseIdx_eq_take_drop_succ, e]
  have ht : W.Reps (dom H) s.heap (us.take l.length) l := by
    have := ru.take l.length
    simpa using this
  have hI : ∃ n', IsL (s.heap.update a (Obj.mapSeq fun xs => xs.eraseIdxIfInBounds (us.toArray.size - 1))) a (us.take l.length).toArray n' := by
    have := IsL.update hu (fun xs => xs.eraseIdxIfInBounds (us.toArray.size - 1))
    rw [eT] at this
    exact ⟨_, this⟩
  obtain ⟨n', hI⟩ := hI
  exact ⟨d, H', ry.carry kT.carry, S.put (t := s.toks) hs u ⟨us.take l.length, n', hI, ht.carry kT.carry⟩, kT, q⟩
theorem op_reverse {a : Addr} {l : List V} (hm : (a, O.list l) ∈ H) (hl : l.length ≤ 2 ^ 20) (u : Put a (.list l.reverse) H H') (q : Q .none H') : OPN W F (fun vs => call (.builtin "list.reverse") vs) [.ref a] H Q := .mk fun s vs S rs  => by
  cases rs  with
  | cons r rs =>
  cases rs
  refine Rep.ref_elim r ?_
  obtain ⟨us, k, hu', ru⟩ := (S.rep _ hm).2
  have hu : IsL s.heap a us.toArray k := hu'
  refine call_meets PySem.F.slot_list_reverse ⟨_, hu, rfl⟩ PySem.F.entry_list_reverse (PySem.F.args_list_reverse_1 _) (AutoSeq1.list_reverse_list_0 a us.toArray k (by rw [List.size_toArray, ru.length, sizeLine_eq]; lia)) ⟨hu, ?_⟩
  have hs : Heap.SameBut a s.heap (s.heap.update a (Obj.mapSeq fun x => x.reverse)) := Heap.SameBut.update ..
  have kT := Kp.put (t := s.toks) hs u
  have hI : ∃ n', IsL (s.heap.update a (Obj.mapSeq fun x => x.reverse)) a us.reverse.toArray n' := ⟨_, by simpa using IsL.update hu (fun x => x.reverse)⟩
  obtain ⟨n', hI⟩ := hI
  exact ⟨.none, H', .none, S.put (t := s.toks) hs u ⟨us.reverse, n', hI, ru.reverse.carry kT.carry⟩, kT, q⟩
end
end Mine
namespace Mine
open PySem PySem.W PyProof.Rows PySem.Calls

section
variable {W : Wd} {F : Fm} {ρ : Rho} {H H' : AHeap} {Q : V → AHeap → Prop} {s : Shared} {k₀ : Nat}

theorem opn1 {t : Value → Sem Value} {d : V} (h : ∀ s v, W.St H s → W.Rep (dom H) s.heap v d → wpAny W.M F.A (t v) (Out W H s Q) F.E s) {f : List Value → Sem Value} (hf : ∀ v, f [v] = t v) : OPN W F f [d] H Q := .mk fun s vs S rs  => by
  cases rs  with
  | cons r rs => cases rs; rw [hf]; exact h s _ S r
theorem opn2 {t : Value → Value → Sem Value} {d e : V} (h : ∀ s v u, W.St H s → W.Rep (dom H) s.heap v d → W.Rep (dom H) s.heap u e → wpAny W.M F.A (t v u) (Out W H s Q) F.E s) {f : List Value → Sem Value} (hf : ∀ v u, f [v, u] = t v u) : OPN W F f [d, e] H Q := .mk fun s vs S rs  => by
  cases rs  with
  | cons r rs => cases rs with | cons r' rs => cases rs; rw [hf]; exact h s _ _ S r r'
theorem opn3 {t : Value → Value → Value → Sem Value} {d e g : V} (h : ∀ s v u x, W.St H s → W.Rep (dom H) s.heap v d → W.Rep (dom H) s.heap u e → W.Rep (dom H) s.heap x g → wpAny W.M F.A (t v u x) (Out W H s Q) F.E s) {f : List Value → Sem Value} (hf : ∀ v u x, f [v, u, x] = t v u x) : OPN W F f [d, e, g] H Q := .mk fun s vs S rs  => by
  cases rs  with
  | cons r rs => cases rs with | cons r' rs => cases rs with | cons r'' rs => cases rs; rw [hf]; exact h s _ _ _ S r r' r''

theorem op_abs {i : Int} (q : Q (.int i.natAbs) H) : OPN W F (fun vs => call (.builtin "abs") vs) [.int i] H Q := opn1 (fun s v S r => by
  (first | refine Rep.int_elim r (fun _ => ?_) | refine Rep.str_elim r (fun _ => ?_) | refine Rep.bool_elim r ?_ | refine Rep.ty_elim r ?_)
  refine PyProof.Rows.call_abs_int fun u tk => ?_
  have e : (if i < 0 then -i else i) = (i.natAbs : Int) := by split <;> lia
  rw [e]; exact Out.toks S (.int _ _) q) fun _ => rfl
theorem op_divmod {a b : Int} (hb : b ≠ 0) (hp : b.natAbs < 2 ^ 70) (q : Q (.tup [.int (a.fdiv b), .int (a.fmod b)]) H) : OPN W F (fun vs => call (.builtin "divmod") vs) [.int a, .int b] H Q := opn2 (fun s v u S r r' => by
  (first | refine Rep.int_elim r (fun _ => ?_) | refine Rep.str_elim r (fun _ => ?_) | refine Rep.bool_elim r ?_ | refine Rep.ty_elim r ?_)
  (first | refine Rep.int_elim r' (fun _ => ?_) | refine Rep.str_elim r' (fun _ => ?_) | refine Rep.bool_elim r' ?_ | refine Rep.ty_elim r' ?_)
  exact PyProof.Rows.divmod_int hb (out_newTup (vs := [.int (a.fdiv b) s.toks, .int (a.fmod b) (s.toks + 1)]) rfl S (.cons (.int _ _) (.cons (.int _ _) .nil)) q) (.inl (noPylong hp))) fun _ _ => rfl
theorem op_ord {c : Nat} (q : Q (.int (c : Nat)) H) : OPN W F (fun vs => call (.builtin "ord") vs) [.str ⟨#[c]⟩] H Q := opn1 (fun s v S r => by
  (first | refine Rep.int_elim r (fun _ => ?_) | refine Rep.str_elim r (fun _ => ?_) | refine Rep.bool_elim r ?_ | refine Rep.ty_elim r ?_)
  exact PySem.P.ord_of_char (Out.toks S (.int _ _) q)) fun _ => rfl
theorem op_chr {c : Nat} (hc : c ≤ 0x10FFFF) (q : Q (.str ⟨#[c]⟩) H) : OPN W F (fun vs => call (.builtin "chr") vs) [.int (c : Nat)] H Q := opn1 (fun s v S r => by
  (first | refine Rep.int_elim r (fun _ => ?_) | refine Rep.str_elim r (fun _ => ?_) | refine Rep.bool_elim r ?_ | refine Rep.ty_elim r ?_)
  refine PySem.P.chr_of_int ?_ (Out.toks S (.str _ _) q)
  simp only [Bool.or_eq_false_iff, decide_eq_false_iff_not]; lia) fun _ => rfl
theorem op_str_int {i : Int} (h : i.natAbs < 2 ^ 1000) (q : Q (.str (Str.ofString (toString i))) H) : OPN W F (fun vs => call (.type "str") vs) [.int i] H Q := opn1 (fun s v S r => by
  (first | refine Rep.int_elim r (fun _ => ?_) | refine Rep.str_elim r (fun _ => ?_) | refine Rep.bool_elim r ?_ | refine Rep.ty_elim r ?_)
  refine PySem.P.str_of_int ?_ (Out.toks S (.str _ _) q)
  by_cases h0 : i.natAbs = 0
  · rw [h0]; decide
  · have := (Nat.log2_lt h0).mpr h; lia) fun _ => rfl
theorem op_range1 {b : Int} (q : Q (.rng 0 b 1) H) : OPN W F (fun vs => call (.type "range") vs) [.int b] H Q := opn1 (fun s v S r => by
  (first | refine Rep.int_elim r (fun _ => ?_) | refine Rep.str_elim r (fun _ => ?_) | refine Rep.bool_elim r ?_ | refine Rep.ty_elim r ?_)
  exact PySem.call_range_1 ⟨_, H, .rng (S.fresh (get_size _)) (IsRange.new ..), S.grow (push_keep _ _), Kp.grow (push_keep _ _), q⟩) fun _ => rfl
theorem op_range2 {a b : Int} (q : Q (.rng a b 1) H) : OPN W F (fun vs => call (.type "range") vs) [.int a, .int b] H Q := opn2 (fun s v u S r r' => by
  (first | refine Rep.int_elim r (fun _ => ?_) | refine Rep.str_elim r (fun _ => ?_) | refine Rep.bool_elim r ?_ | refine Rep.ty_elim r ?_)
  (first | refine Rep.int_elim r' (fun _ => ?_) | refine Rep.str_elim r' (fun _ => ?_) | refine Rep.bool_elim r' ?_ | refine Rep.ty_elim r' ?_)
  exact PySem.call_range_2 ⟨_, H, .rng (S.fresh (get_size _)) (IsRange.new ..), S.grow (push_keep _ _), Kp.grow (push_keep _ _), q⟩) fun _ _ => rfl
theorem op_range3 {a b c : Int} (hc : c ≠ 0) (hc' : c.natAbs < 2 ^ 70) (q : Q (.rng a b c) H) : OPN W F (fun vs => call (.type "range") vs) [.int a, .int b, .int c] H Q := opn3 (fun s v u x S r r' r'' => by
  (first | refine Rep.int_elim r (fun _ => ?_) | refine Rep.str_elim r (fun _ => ?_) | refine Rep.bool_elim r ?_ | refine Rep.ty_elim r ?_)
  (first | refine Rep.int_elim r' (fun _ => ?_) | refine Rep.str_elim r' (fun _ => ?_) | refine Rep.bool_elim r' ?_ | refine Rep.ty_elim r' ?_)
  (first | refine Rep.int_elim r'' (fun _ => ?_) | refine Rep.str_elim r'' (fun _ => ?_) | refine Rep.bool_elim r'' ?_ | refine Rep.ty_elim r'' ?_)
  exact PySem.call_range_3 hc ⟨_, H, .rng (S.fresh (get_size _)) (IsRange.new ..), S.grow (push_keep _ _), Kp.grow (push_keep _ _), q⟩ (.inl (noPylong hc'))) fun _ _ _ => rfl
theorem op_tuple_list {a : Addr} {l : List V} (hm : (a, O.list l) ∈ H) (hl : l.length ≤ 2 ^ 20) (q : Q (.tup l) H) : OPN W F (fun vs => call (.type "tuple") vs) [.ref a] H Q := opn1 (fun s v S r => by
  refine Rep.ref_elim r ?_
  obtain ⟨us, k, hu', ru⟩ := (S.rep _ hm).2
  have hu : IsL s.heap a us.toArray k := hu'
  refine PySem.call_tuple_list hu.isList (fun h' hk => ?_) (by rw [List.size_toArray, ru.length, sizeLine_eq]; lia)
  have S₁ := S.grow (t := s.toks) hk
  have o := out_newTup (Q := Q) (t := s.toks) rfl S₁ (ru.carry (Kp.grow (H := H) (t := s.toks) hk).carry) q
  exact o.trans (Kp.grow hk)) fun _ => rfl

theorem op_isi_int_int {i : Int} (q : Q (.bool true) H) : OPN W F (fun vs => call (.builtin "isinstance") vs) [.int i, .ty "int"] H Q := opn2 (fun s v u S r r' => by
  (first | refine Rep.int_elim r (fun _ => ?_) | refine Rep.str_elim r (fun _ => ?_) | refine Rep.bool_elim r ?_ | refine Rep.ty_elim r ?_)
  (first | refine Rep.int_elim r' (fun _ => ?_) | refine Rep.str_elim r' (fun _ => ?_) | refine Rep.bool_elim r' ?_ | refine Rep.ty_elim r' ?_)
  exact PySem.IsiPair.int_int (Out.here S (.bool _) q)) fun _ _ => rfl
theorem op_isi_int_bool {i : Int} (q : Q (.bool false) H) : OPN W F (fun vs => call (.builtin "isinstance") vs) [.int i, .ty "bool"] H Q := opn2 (fun s v u S r r' => by
  (first | refine Rep.int_elim r (fun _ => ?_) | refine Rep.str_elim r (fun _ => ?_) | refine Rep.bool_elim r ?_ | refine Rep.ty_elim r ?_)
  (first | refine Rep.int_elim r' (fun _ => ?_) | refine Rep.str_elim r' (fun _ => ?_) | refine Rep.bool_elim r' ?_ | refine Rep.ty_elim r' ?_)
  exact PySem.IsiPair.int_bool (Out.toks S (.bool _) q)) fun _ _ => rfl
theorem op_isi_tup_tuple {l : List V} (q : Q (.bool true) H) : OPN W F (fun vs => call (.builtin "isinstance") vs) [.tup l, .ty "tuple"] H Q := opn2 (fun s v u S r r' => by
  cases r with | tup n x rs => cases r'; obtain ⟨o, ho, hc, _⟩ := x; exact PySem.IsiPair.tuple_tuple ho hc (Out.here S (.bool _) q)) fun _ _ => rfl
theorem op_isi_str_str {x : Str} (q : Q (.bool true) H) : OPN W F (fun vs => call (.builtin "isinstance") vs) [.str x, .ty "str"] H Q := opn2 (fun s v u S r r' => by
  (first | refine Rep.int_elim r (fun _ => ?_) | refine Rep.str_elim r (fun _ => ?_) | refine Rep.bool_elim r ?_ | refine Rep.ty_elim r ?_)
  (first | refine Rep.int_elim r' (fun _ => ?_) | refine Rep.str_elim r' (fun _ => ?_) | refine Rep.bool_elim r' ?_ | refine Rep.ty_elim r' ?_)
  exact PySem.IsiPair.str_str (Out.here S (.bool _) q)) fun _ _ => rfl
theorem op_isi_idd_dict {l : List (Int × Int)} (q : Q (.bool true) H) : OPN W F (fun vs => call (.builtin "isinstance") vs) [.idd l, .ty "dict"] H Q := opn2 (fun s v u S r r' => by
  cases r with | idd n m x rs => cases r'; obtain ⟨o, es, ep, ho, hc, _⟩ := x; exact PySem.IsiPair.dict_dict ho hc.1 (Out.here S (.bool _) q)) fun _ _ => rfl
theorem op_isi_tdd_dict {l : List (List Int × Int)} (q : Q (.bool true) H) : OPN W F (fun vs => call (.builtin "isinstance") vs) [.tdd l, .ty "dict"] H Q := opn2 (fun s v u S r r' => by
  cases r with | tdd n m x hk rs => cases r'; obtain ⟨o, es, ep, ho, hc, _⟩ := x; exact PySem.IsiPair.dict_dict ho hc.1 (Out.here S (.bool _) q)) fun _ _ => rfl

theorem meth_str {x : Str} {name : Str} {id : String} (slot : Slot "str" name id) (hty : typeOf (.builtin id) = pure (.type "method_descriptor")) : MethOf W H (.str x) name id := fun A E s v pl P S r hP => by
  obtain ⟨t, rfl⟩ : ∃ t, v = .str x t := r.view
  exact getMethod_builtin (typeIs_str s x t) PySem.F.plainAttrs_str slot hty (fun a e => nomatch e) hP
theorem op_find {x y : Str} (q : Q (.int (Txt.find x y)) H) : OPN W F (fun vs => call (.builtin "str.find") vs) [.str x, .str y] H Q := opn2 (fun s v u S r r' => by
  (first | refine Rep.int_elim r (fun _ => ?_) | refine Rep.str_elim r (fun _ => ?_) | refine Rep.bool_elim r ?_ | refine Rep.ty_elim r ?_)
  (first | refine Rep.int_elim r' (fun _ => ?_) | refine Rep.str_elim r' (fun _ => ?_) | refine Rep.bool_elim r' ?_ | refine Rep.ty_elim r' ?_)
  exact SC.find (Out.toks S (.int _ _) q)) fun _ _ => rfl
theorem op_find3 {x y : Str} {i : Int} (q : Q (.int (Txt.find3 x y i)) H) : OPN W F (fun vs => call (.builtin "str.find") vs) [.str x, .str y, .int i] H Q := opn3 (fun s v u z S r r' r'' => by
  (first | refine Rep.int_elim r (fun _ => ?_) | refine Rep.str_elim r (fun _ => ?_) | refine Rep.bool_elim r ?_ | refine Rep.ty_elim r ?_)
  (first | refine Rep.int_elim r' (fun _ => ?_) | refine Rep.str_elim r' (fun _ => ?_) | refine Rep.bool_elim r' ?_ | refine Rep.ty_elim r' ?_)
  (first | refine Rep.int_elim r'' (fun _ => ?_) | refine Rep.str_elim r'' (fun _ => ?_) | refine Rep.bool_elim r'' ?_ | refine Rep.ty_elim r'' ?_)
  exact SC.find3 (Out.toks S (.int _ _) q)) fun _ _ _ => rfl
theorem op_rfind {x y : Str} (q : Q (.int (Txt.rfind x y)) H) : OPN W F (fun vs => call (.builtin "str.rfind") vs) [.str x, .str y] H Q := opn2 (fun s v u S r r' => by
  (first | refine Rep.int_elim r (fun _ => ?_) | refine Rep.str_elim r (fun _ => ?_) | refine Rep.bool_elim r ?_ | refine Rep.ty_elim r ?_)
  (first | refine Rep.int_elim r' (fun _ => ?_) | refine Rep.str_elim r' (fun _ => ?_) | refine Rep.bool_elim r' ?_ | refine Rep.ty_elim r' ?_)
  exact SC.rfind (Out.toks S (.int _ _) q)) fun _ _ => rfl
theorem op_zfill {x : Str} {i : Int} (hp : PadOk i = true) (q : Q (.str (Txt.zfill x i)) H) : OPN W F (fun vs => call (.builtin "str.zfill") vs) [.str x, .int i] H Q := opn2 (fun s v u S r r' => by
  (first | refine Rep.int_elim r (fun _ => ?_) | refine Rep.str_elim r (fun _ => ?_) | refine Rep.bool_elim r ?_ | refine Rep.ty_elim r ?_)
  (first | refine Rep.int_elim r' (fun _ => ?_) | refine Rep.str_elim r' (fun _ => ?_) | refine Rep.bool_elim r' ?_ | refine Rep.ty_elim r' ?_)
  exact SC.zfill hp fun t' k => Out.toks S (.str _ _) q) fun _ _ => rfl
theorem strs_of {D : List Addr} {h : Heap} : ∀ {us : List Value} {xs : List Str}, Mine.Reps W.prog W.w D h us (xs.map V.str) → ∃ l : List (Str × Tok), us = strValues l ∧ l.map (·.1) = xs
  | us, [], rs => by cases rs; exact ⟨[], rfl, rfl⟩
  | us, x :: xs, rs => by
    cases rs  with
    | cons r rs =>
      refine Rep.str_elim r (fun t => ?_)
      obtain ⟨l, e1, e2⟩ := strs_of rs
      exact ⟨(x, t) :: l, by simp [strValues, e1], by simp [e2]⟩
theorem op_join {x : Str} {a : Addr} {l : List V} {xs : List Str} (hm : (a, O.list l) ∈ H) (hx : l = xs.map V.str) (hok : JoinOk x xs = true) (q : Q (.str (Txt.join x xs)) H) : OPN W F (fun vs => call (.builtin "str.join") vs) [.str x, .ref a] H Q := opn2 (fun s v u S r r' => by
  cases r; cases r' with
  | ref =>
    obtain ⟨us, k, hu', ru⟩ := (S.rep _ hm).2
    have hu : IsL s.heap a us.toArray k := hu'
    subst hx
    obtain ⟨l', e1, e2⟩ := strs_of ru
    subst e1
    exact SC.join hu.isList e2 hok fun t' k => Out.toks S (.str _ _) q) fun _ _ => rfl
theorem reps_strs {D : List Addr} {h : Heap} : ∀ (l : List (Str × Tok)), Mine.Reps W.prog W.w D h (strValues l) ((l.map (·.1)).map V.str)
  | [] => .nil
  | (x, t) :: l => .cons (.str x t) (reps_strs l)
theorem op_split {x y : Str} (hy : (y.length == 0) = false) (hx : x.length ≤ 2 ^ 20) (hn : (Builtin.Str.partsBetween x (Builtin.Str.occurrences x y 0 x.length (x.length + 1)) y.length).length ≤ 2 ^ 21) (q : ∀ a, Q (.ref a) ((a, .list ((Txt.split x y).map V.str)) :: H)) :
    OPN W F (fun vs => call (.builtin "str.split") vs) [.str x, .str y] H Q := opn2 (fun s v u S r r' => by
  refine Rep.str_elim r (fun t => ?_)
  refine Rep.str_elim r' (fun u => ?_)
  have hx' : x.length ≤ sizeLine := by rw [sizeLine_eq]; lia
  have hn' : (Builtin.Str.partsBetween x (Builtin.Str.occurrences x y 0 x.length (x.length + 1)) y.length).length ≤ sizeLine := by rw [sizeLine_eq]; lia
  have fin : ∀ (l : List (Str × Tok)) tk, l.map (·.1) = Txt.split x y → Out W H s Q (.ref s.heap.objs.size) { s with toks := tk, heap := s.heap.push { cls := .type "list", data := .seq (strValues l).toArray } } := fun l tk e =>
    out_newList (Q := Q) (t := tk) rfl S (by rw [← e]; exact reps_strs l) q
  cases h1 : (decide (x.length < y.length) || decide (Builtin.Str.strKind x < Builtin.Str.strKind y))
  · cases hf : (Builtin.Str.occurrences x y 0 x.length (x.length + 1)).isEmpty
    · refine call_meets PySem.F.slot_str_split (typeIs_str _ _ _) PySem.F.entry_str_split (PySem.F.args_str_split_2 _ _) (meets_str_split_sep x y t u h1 hy hf hx' hn') ?_
      show wants _ _ _ { s with toks := _, heap := s.heap.push { cls := .type "list", data := .seq (strsFrom s.toks (Builtin.Str.partsBetween x (Builtin.Str.occurrences x y 0 x.length (x.length + 1)) y.length)).toArray } }
      rw [strsFrom_eq]
      exact fin _ _ ((numbered_texts _ _).trans ((if_neg (ne_true_of_eq_false h1)).trans (if_neg (ne_true_of_eq_false hf))).symm)
    · exact call_meets PySem.F.slot_str_split (typeIs_str _ _ _) PySem.F.entry_str_split (PySem.F.args_str_split_2 _ _) (meets_str_split_not_found x y t u h1 hy hf) (fin [(x, t)] _ ((if_neg (ne_true_of_eq_false h1)).trans (if_pos hf)).symm)
  · exact call_meets PySem.F.slot_str_split (typeIs_str _ _ _) PySem.F.entry_str_split (PySem.F.args_str_split_2 _ _) (meets_str_split_cannot_occur x y t u h1) (fin [(x, t)] _ (if_pos h1).symm)) fun _ _ => rfl

noncomputable def PartV : Option Int → V
  | none => .none
  | some i => .int i
noncomputable def PP (W : Wd) (F : Fm) (ρ : Rho) (H : AHeap) (e : Option Expr) (Q : Option Int → AHeap → Prop) : Prop :=
  EP W F ρ H (evalPart e F.env) (fun d H' => ∃ i, d = PartV i ∧ Q i H')
theorem PP_none {Q : Option Int → AHeap → Prop} (q : Q none H) : PP W F ρ H none Q := .mk fun s S l n  => wpAny_pure (Out.here S .none ⟨none, rfl, q⟩)
theorem PP_some {e : Expr} {Q : Option Int → AHeap → Prop} (h : EP W F ρ H (eval e F.env) (fun d H' => ∃ i, d = .int i ∧ Q (some i) H')) : PP W F ρ H (some e) Q := .mk fun s S l n  => by
  refine wpAny_mono (h.go s S l n) (fun v s₁ o => o.to fun d H₁ r S₁ kp o => ea o fun i e q => ⟨d, H₁, r, S₁, kp, some i, e, q⟩) fun _ _ e => e
theorem part_of {D : List Addr} {h : Heap} {v : Value} {i : Option Int} (r : Mine.Rep W.prog W.w D h v (PartV i)) : ∃ l : Option (Int × Tok), v = partValue l ∧ l.map (·.1) = i := by
  cases i with
  | none => cases r; exact ⟨none, rfl, rfl⟩
  | some i => cases r with | int _ t => exact ⟨some (i, t), rfl, rfl⟩
theorem EP_slice_str {value : Expr} {lo up : Option Expr} {p pos : Pos} (h : EP W F ρ H (eval value F.env) (fun d H₁ => ∃ x, d = .str x ∧ x.length ≤ 2 ^ 20 ∧ PP W F ρ H₁ lo (fun i H₂ => PP W F ρ H₂ up (fun j H₃ => Q (.str (Txt.slice x i j)) H₃)))) :
    EP W F ρ H (eval (.Subscript value (.Slice lo up none p) pos) F.env) Q := .mk fun s S l n  => by
  refine Subscript_ (wpAny_mono (h.go s S l n) (fun v s₁ o => o.to fun d H₁ r S₁ kp o => eaa o fun x e hx q => ?_) fun _ _ e => e)
  subst e
  refine Rep.str_elim r (fun t => ?_)
  have l₁ := l.kp n kp
  have n₁ := l.out n kp
  refine wpAny_Slice (wpAny_mono (q.go s₁ S₁ l₁ n₁) (fun vl s₂ o => o.to fun dl H₂ rl S₂ kp₂ o => ea o fun i ei q₂ => ?_) fun _ _ e => e)
  subst ei
  obtain ⟨pl, rfl, rfl⟩ := part_of rl
  refine wpAny_mono (q₂.go s₂ S₂ (l₁.kp n₁ kp₂) (l₁.out n₁ kp₂)) (fun vu s₃ o => o.to fun du H₃ ru S₃ kp₃ o => ea o fun j ej q₃ => ?_) fun _ _ e => e
  subst ej
  obtain ⟨pu, rfl, rfl⟩ := part_of ru
  refine wpAny_pure ?_
  have hk := push_keep s₃.heap { cls := .type "slice", data := .fields #[partValue pl, partValue pu, .none] }
  have S₄ := S₃.grow (t := s₃.toks) hk
  have K₄ : Kp H₃ s₃ H₃ _ := Kp.grow (t := s₃.toks) hk
  refine tail_any (typeIs_str _ x t) PySem.F.slot_str_getitem.lookup (wpAny_getItem_str_slice (l := pl) (u := pu) (st := none) ⟨_, Heap.get?_push_size _ rfl, rfl, rfl⟩ rfl
    (post_val_or_str ⟨Nat.le_trans (Txt.slice_le x _ _) (by rw [sizeLine_eq]; lia), fun t' k => ?_⟩)) (by with_unfolding_all rfl)
  exact (((Out.toks S₄ (.str _ _) q₃).trans K₄).trans kp₃ |>.trans kp₂).trans kp
end
end Mine
namespace Mine
open PySem PySem.W PyProof.Rows PySem.Calls

noncomputable def dput {K X : Type} [DecidableEq K] (l : List (K × X)) (k : K) (d : X) : List (K × X) := if l.any (fun p => decide (p.1 = k)) then l.map (fun p => if p.1 = k then (p.1, d) else p) else l ++ [(k, d)]

noncomputable def dget {K X : Type} [DecidableEq K] : List (K × X) → K → Option X
  | [], _ => none
  | (k', x) :: l, k => if k' = k then some x else dget l k

section
variable {prog : Program} {w : World} {D : List Addr} {h : Heap} {K : Type} [DecidableEq K]
theorem StrsOf.vals {l : List (Str × Value)} {m : List (Str × Str)} (x : StrsOf l m) : Vals prog w D h l (m.map fun p => (p.1, V.str p.2)) := by
  induction x with
  | nil => exact .nil
  | @cons a b _ _ r _ ih =>
    obtain ⟨k, v⟩ := a
    obtain ⟨k', i⟩ := b
    obtain ⟨e, t, e'⟩ := r
    cases e; cases e'; exact .cons (.str _ _) ih
theorem IntsOf.vals {l : List (K × Value)} {m : List (K × Int)} (x : IntsOf l m) : Vals prog w D h l (m.map fun p => (p.1, V.int p.2)) := by
  induction x with
  | nil => exact .nil
  | @cons a b _ _ r _ ih =>
    obtain ⟨k, v⟩ := a
    obtain ⟨k', i⟩ := b
    obtain ⟨e, t, e'⟩ := r
    cases e; cases e'; exact .cons (.int _ _) ih
theorem dget_map {X Y : Type} {f : X → Y} (k : K) : ∀ l : List (K × X), dget (l.map fun p => (p.1, f p.2)) k = (dget l k).map f
  | [] => rfl
  | (k', x) :: l => by
    simp only [List.map_cons, dget]
    split
    · rfl
    · exact dget_map k l
theorem Vals.look {l : List (K × Value)} {m : List (K × V)} (x : Vals prog w D h l m) (k : K) : (dget m k = none → valueAt l k = none) ∧ ∀ d, dget m k = some d → ∃ v, valueAt l k = some v ∧ Rep prog w D h v d := by
  induction x with
  | nil => exact ⟨fun _ => rfl, fun d e => (nomatch e)⟩
  | @cons k' v d l m r x ih =>
    by_cases e : k' = k
    · subst e
      have e1 : dget ((k', d) :: m) k' = some d := by simp [dget]
      have e2 : valueAt ((k', v) :: l) k' = some v := by simp [valueAt]
      rw [e1, e2]
      exact ⟨fun e => (nomatch e), fun d' e => ⟨v, rfl, by cases e; exact r⟩⟩
    · have e1 : dget ((k', d) :: m) k = dget m k := by simp [dget, e]
      have e2 : valueAt ((k', v) :: l) k = valueAt l k := by simp [valueAt, e]
      rw [e1, e2]; exact ih
theorem Vals.some_iff {l : List (K × Value)} {m : List (K × V)} (x : Vals prog w D h l m) (k : K) : (valueAt l k).isSome = (dget m k).isSome := by
  cases e : dget m k with
  | none => rw [(x.look k).1 e]; rfl
  | some d => obtain ⟨v, e', _⟩ := (x.look k).2 d e; rw [e']; rfl
theorem Vals.any {l : List (K × Value)} {m : List (K × V)} (x : Vals prog w D h l m) (k : K) : l.any (fun p => decide (p.1 = k)) = m.any (fun p => decide (p.1 = k)) := by
  induction x with
  | nil => rfl
  | cons _ _ ih => simp only [List.any_cons, ih]
theorem Vals.stored {l : List (K × Value)} {m : List (K × V)} (x : Vals prog w D h l m) (k : K) {v : Value} {d : V} (r : Rep prog w D h v d) : Vals prog w D h (PySem.stored l k v) (dput m k d) := by
  unfold PySem.stored dput
  rw [x.any k]
  split
  · rename_i hany; clear hany
    induction x with
    | nil => exact .nil
    | @cons k' v' d' l m r' x ih =>
      simp only [List.map_cons]
      split
      · exact .cons r ih
      · exact .cons r' ih
  · exact x.append (.cons r .nil)
theorem atKey_trip {xs : List (K × Addr × Value)} {k : K} : valueAt (xs.map trip) k = (atKey xs k).map (·.2) := by
  unfold valueAt atKey
  induction xs with
  | nil => rfl
  | cons x xs ih =>
    obtain ⟨k', a, v⟩ := x
    by_cases e : k' = k
    · simp [trip, e]
    · simpa [trip, e] using ih
theorem trip_stored {xs : List (K × Addr × Value)} {k : K} {a : Addr} {v : Value} : (storedH xs k a v).map trip = PySem.stored (xs.map trip) k v := by
  unfold storedH PySem.stored
  have e : (xs.map trip).any (fun kv => decide (kv.1 = k)) = (atKey xs k).isSome := by
    unfold atKey
    rw [Option.isSome_map]
    clear a v
    induction xs with
    | nil => rfl
    | cons x xs ih =>
      obtain ⟨k', a, v⟩ := x
      by_cases e : k' = k
      · simp [trip, e]
      · simpa [trip, e] using ih
  rw [e]
  split
  · simp only [List.map_map]
    congr 1
    funext x
    obtain ⟨k', a, v⟩ := x
    by_cases e : k' = k
    · simp [putAt, trip, e]
    · simp [putAt, trip, e]
  · simp [trip]
theorem keys_are {vs : List Value} {ks : List Int} : Mine.Reps prog w D h vs (ks.map V.int) → ItemsAre (intKind prog w) ks vs := by
  induction ks generalizing vs with
  | nil => intro x; cases x; exact .nil
  | cons k ks ih =>
    intro x
    cases x with
    | cons r rs => cases r with | int _ t => exact .cons (intKind_is prog w k t) (ih rs)
theorem Rep.key {v : Value} {ks : List Int} (r : Rep prog w D h v (.tup (ks.map V.int))) : ∃ a, v = .ref a ∧ a ∉ D ∧ IsTupleKey (intKind prog w) h ks a := by
  refine Rep.tup_elim r (fun _ _ n x rs => ?_)
  obtain ⟨o, ho, hc, k, hd⟩ := x
  exact ⟨_, rfl, n, o, _, k, ho, hc, hd, by simpa using keys_are rs⟩
end

section
variable {W : Wd} {F : Fm} {ρ : Rho} {H H' : AHeap} {Q : V → AHeap → Prop} {s : Shared} {k₀ : Nat}

theorem St.notMods (wok : W.Ok) (S : W.St H s) {a : Addr} {o : O} (hm : (a, o) ∈ H) : (a == sysModules) = false := by
  have h := (S.rep _ hm).1
  refine beq_eq_false_iff_ne.mpr fun e => ?_
  obtain ⟨ob, hob⟩ := wok.mods
  rw [show a = sysModules from e] at h
  rw [hob] at h; cases h

theorem op_item_sd {value slice : Expr} {l : List (Str × Str)} {k x : Str} (hl : dget l k = some x) (q : Q (.str x) H)
    (hs : ∀ t u, ∀ v : Value, v = .str k u → subscripted slice false (.ref t) v = operate [.ref t, v] (getItem (.ref t) v) := by intro _ _ _ e; subst e; with_unfolding_all rfl) :
    OP2 W F (subscriptTail value slice) (.sd l) (.str k) H Q := .mk fun s v u S r₁ r₂  => by
  refine Rep.sd_elim r₁ (fun _ _ n m x rs => ?_)
  refine Rep.str_elim r₂ (fun t => ?_)
  have V := rs.vals (prog := W.prog) (w := W.w) (D := dom H) (h := s.heap)
  obtain ⟨v, e, r⟩ := (V.look k).2 (.str _) (by rw [dget_map, hl]; rfl)
  exact tail_any x.typeIs slot_dict_getitem.lookup (wpAny_getItem_of (strKind_is _ _ k t) x.mapOf e (Out.toks S r q)) (hs _ t _ rfl)

theorem op_item_idd {value slice : Expr} {l : List (Int × Int)} {k x : Int} (hl : dget l k = some x) (q : Q (.int x) H)
    (hs : ∀ t u, ∀ v : Value, v = .int k u → subscripted slice false (.ref t) v = operate [.ref t, v] (getItem (.ref t) v) := by intro _ _ _ e; subst e; with_unfolding_all rfl) :
    OP2 W F (subscriptTail value slice) (.idd l) (.int k) H Q := .mk fun s v u S r₁ r₂  => by
  refine Rep.idd_elim r₁ (fun _ _ n m x rs => ?_)
  refine Rep.int_elim r₂ (fun t => ?_)
  have V := rs.vals (prog := W.prog) (w := W.w) (D := dom H) (h := s.heap)
  obtain ⟨v, e, r⟩ := (V.look k).2 (.int _) (by rw [dget_map, hl]; rfl)
  exact tail_any x.typeIs slot_dict_getitem.lookup (wpAny_getItem_of (intKind_is _ _ k t) x.mapOf e (Out.toks S r q)) (hs _ t _ rfl)
theorem op_item_tdd {value slice : Expr} {k₀ : Nat} (ok : F.Ok W k₀) {l : List (List Int × Int)} {k : List Int} {x : Int} {kd : V} (hk : kd = .tup (k.map V.int)) (hl : dget l k = some x) (q : Q (.int x) H)
    (hs : ∀ t u : Addr, subscripted slice false (.ref t) (.ref u) = operate [.ref t, .ref u] (getItem (.ref t) (.ref u)) := by intro _ _; with_unfolding_all rfl) :
    OP2 W F (subscriptTail value slice) (.tdd l) kd H Q := .mk fun s v u S r₁ r₂  => by
  subst hk
  refine Rep.tdd_elim r₁ (fun a xs n m x hD rs => ?_)
  obtain ⟨b, rfl, nb, kb⟩ := r₂.key
  have V := rs.vals (prog := W.prog) (w := W.w) (D := dom H) (h := s.heap)
  obtain ⟨v, e, r⟩ := (V.look k).2 (.int _) (by rw [dget_map, hl]; rfl)
  rw [atKey_trip] at e
  obtain ⟨p, e1, rfl⟩ := Option.map_eq_some_iff.mp e
  have hu : (tupleKind (intKind W.prog W.w)).room F.A.in1 := tupleKind_room_in1 (by have := ok.room.units; lia)
  exact tail_any x.typeIs slot_dict_getitem.lookup (wpAny_getItem_heap hu kb x e1 (Out.toks S r q)) (hs _ _)
theorem op_in_sd {l : List (Str × Str)} {k : Str} (q : Q (.bool (dget l k).isSome) H) : OP2 W F (compareOp .In) (.str k) (.sd l) H Q := .mk fun s v u S r₁ r₂  => by
  refine Rep.sd_elim r₂ (fun _ _ n m x rs => ?_)
  refine Rep.str_elim r₁ (fun t => ?_)
  have V := rs.vals (prog := W.prog) (w := W.w) (D := dom H) (h := s.heap)
  refine wpAny_in_of (strKind_is _ _ k t) m x.mapOf (Out.toks S (.bool _) ?_)
  rw [V.some_iff k, dget_map]; simpa using q
theorem op_notIn_sd {l : List (Str × Str)} {k : Str} (q : Q (.bool (!(dget l k).isSome)) H) : OP2 W F (compareOp .NotIn) (.str k) (.sd l) H Q := .mk fun s v u S r₁ r₂  => by
  refine Rep.sd_elim r₂ (fun _ _ n m x rs => ?_)
  refine Rep.str_elim r₁ (fun t => ?_)
  have V := rs.vals (prog := W.prog) (w := W.w) (D := dom H) (h := s.heap)
  refine wpAny_notIn_of (strKind_is _ _ k t) m x.mapOf (Out.toks S (.bool _) ?_)
  rw [V.some_iff k, dget_map]; simpa using q
theorem op_in_idict (wok : W.Ok) {a : Addr} {l : List (Int × V)} {k : Int} (hm : (a, O.idict l) ∈ H) (q : Q (.bool (dget l k).isSome) H) : OP2 W F (compareOp .In) (.int k) (.ref a) H Q := .mk fun s v u S r₁ r₂  => by
  refine Rep.ref_elim r₂ ?_
  refine Rep.int_elim r₁ (fun t => ?_)
  obtain ⟨kvs, x, V⟩ := (S.rep _ hm).2
  refine wpAny_in_of (intKind_is _ _ k t) (S.notMods wok hm) x.mapOf (Out.toks S (.bool _) ?_)
  rw [V.some_iff k]; exact q
theorem op_in_tdict (wok : W.Ok) (ok : F.Ok W k₀) {a : Addr} {l : List (List Int × V)} {k : List Int} {kd : V} (hk : kd = .tup (k.map V.int)) (hm : (a, O.tdict l) ∈ H) (q : Q (.bool (dget l k).isSome) H) : OP2 W F (compareOp .In) kd (.ref a) H Q := .mk fun s v u S r₁ r₂  => by
  subst hk
  refine Rep.ref_elim r₂ ?_
  obtain ⟨xs, x, hD, V⟩ := (S.rep _ hm).2
  obtain ⟨b, rfl, nb, kb⟩ := r₁.key
  have hu : (tupleKind (intKind W.prog W.w)).room F.A.in1 := tupleKind_room_in1 (by have := ok.room.units; lia)
  refine wpAny_in_heap hu kb (S.notMods wok hm) x (Out.toks S (.bool _) ?_)
  have := V.some_iff k
  rw [atKey_trip, Option.isSome_map] at this
  rw [this]; exact q
theorem meth_sdict {a : Addr} {l : List (Str × V)} {name : Str} {id : String} (hm : (a, O.sdict l) ∈ H) (slot : Slot "dict" name id) (hty : typeOf (.builtin id) = pure (.type "method_descriptor")) : MethOf W H (.ref a) name id := fun A E s v pl P S r hP => by
  obtain rfl : v = .ref a := r.view
  obtain ⟨kvs, x, V⟩ := (S.rep _ hm).2
  exact getMethod_builtin x.typeIs PySem.F.plainAttrs_dict slot hty (fun a e => by cases e; obtain ⟨o, es, ep, ho, hc, _⟩ := x; exact ⟨_, ho, hc.2.1⟩) hP
theorem meth_tdict {a : Addr} {l : List (List Int × V)} {name : Str} {id : String} (hm : (a, O.tdict l) ∈ H) (slot : Slot "dict" name id) (hty : typeOf (.builtin id) = pure (.type "method_descriptor")) : MethOf W H (.ref a) name id := fun A E s v pl P S r hP => by
  obtain rfl : v = .ref a := r.view
  obtain ⟨kvs, x, hD, V⟩ := (S.rep _ hm).2
  exact getMethod_builtin x.typeIs PySem.F.plainAttrs_dict slot hty (fun a e => by cases e; obtain ⟨o, es, ep, ho, hc, _⟩ := x; exact ⟨_, ho, hc.2.1⟩) hP
theorem op_get_sdict (wok : W.Ok) {a : Addr} {l : List (Str × V)} {k : Str} {d : V} (hm : (a, O.sdict l) ∈ H) (q : Q ((dget l k).getD d) H) : OPN W F (fun vs => call (.builtin "dict.get") vs) [.ref a, .str k, d] H Q := opn3 (fun s v u z S r r' r'' => by
  refine Rep.ref_elim r ?_
  refine Rep.str_elim r' (fun t => ?_)
  obtain ⟨kvs, x, V⟩ := (S.rep _ hm).2
  refine call_meetsIn PySem.F.slot_dict_get x.typeIs PySem.F.entry_dict_get (PySem.F.args_dict_get_3 _ _ _) (meets_dict_get_default (strKind W.prog W.w) a (strKind_is _ _ k t) (S.notMods wok hm) _) ⟨_, x.mapOf, ?_⟩
  cases e : dget l k with
  | none => rw [(V.look k).1 e]; rw [e] at q; exact Out.toks S r'' q
  | some d' => obtain ⟨v, e', r⟩ := (V.look k).2 d' e; rw [e']; rw [e] at q; exact Out.toks S r q) fun _ _ _ => rfl
theorem op_get_tdict (wok : W.Ok) (ok : F.Ok W k₀) {a : Addr} {l : List (List Int × V)} {k : List Int} {kd d : V} (hk : kd = .tup (k.map V.int)) (hm : (a, O.tdict l) ∈ H) (q : Q ((dget l k).getD d) H) : OPN W F (fun vs => call (.builtin "dict.get") vs) [.ref a, kd, d] H Q := opn3 (fun s v u z S r r' r'' => by
  subst hk
  refine Rep.ref_elim r ?_
  obtain ⟨xs, x, hD, V⟩ := (S.rep _ hm).2
  obtain ⟨b, rfl, nb, kb⟩ := r'.key
  have hu : (tupleKind (intKind W.prog W.w)).room F.A.in1 := tupleKind_room_in1 (by have := ok.room.units; lia)
  refine call_meetsIn PySem.F.slot_dict_get x.typeIs PySem.F.entry_dict_get (PySem.F.args_dict_get_3 _ _ _) (meetsH_dict_get_default (tupleKind (intKind W.prog W.w)) a b (S.notMods wok hm) _) ⟨hu, k, xs, kb, x, ?_⟩
  have L := V.look k
  rw [atKey_trip] at L
  cases e : dget l k with
  | none => rw [L.1 e]; rw [e] at q; exact Out.toks S r'' q
  | some d' => obtain ⟨v, e', r⟩ := L.2 d' e; rw [e']; rw [e] at q; exact Out.toks S r q) fun _ _ _ => rfl

noncomputable def OPS (W : Wd) (F : Fm) (o i d : V) (H : AHeap) (P : AHeap → Prop) : Prop :=
  ∀ s ov iv v, W.St H s → W.Rep (dom H) s.heap ov o → W.Rep (dom H) s.heap iv i → W.Rep (dom H) s.heap v d → wpAny W.M F.A (setItem ov iv v) (fun _ s' => ∃ H', W.St H' s' ∧ Kp H s H' s' ∧ P H') F.E s
theorem SP_setitem {o i e : Expr} {pos pos' : Pos} {Q : Fl → AHeap → Rho → Prop}
    (h : EP W F ρ H (eval e F.env) (fun d H₁ => EP W F ρ H₁ (eval o F.env) (fun a H₂ => EP W F ρ H₂ (eval i F.env) (fun k H₃ => OPS W F a k d H₃ (fun H₄ => Q .next H₄ ρ)))))
    (hsw : swapsWith e (some (.Subscript o i pos')) pos.line F.env = pure false := by rfl) : SP W F ρ H (exec (.Assign [.Subscript o i pos'] e pos) F.env) Q := .mk fun s S l n  => by
  refine wpAny_Assign_Subscript (wpAny_mono (h.go s S l n) (fun v s₁ o => o.to fun d H₁ r S₁ k₁ q => ?_) fun _ _ e => e) hsw
  have l₁ := l.kp n k₁
  have n₁ := l.out n k₁
  refine wpAny_mono (q.go s₁ S₁ l₁ n₁) (fun ov s₂ o => o.to fun a H₂ r₂ S₂ k₂ q₂ => ?_) fun _ _ e => e
  have l₂ := l₁.kp n₁ k₂
  have n₂ := l₁.out n₁ k₂
  refine wpAny_mono (q₂.go s₂ S₂ l₂ n₂) (fun iv s₃ o => o.to fun kk H₃ r₃ S₃ k₃ q₃ => ?_) fun _ _ e => e
  have l₃ := l₂.kp n₂ k₃
  have n₃ := l₂.out n₂ k₃
  refine wpAny_mono (q₃ s₃ ov iv v S₃ (r₂.carry k₃.carry) r₃ ((r.carry k₂.carry).carry k₃.carry)) (fun _ s₄ ⟨H₄, S₄, k₄, q₄⟩ => ?_) fun _ _ e => e
  exact ⟨_, H₄, ρ, .next, S₄, (((k₁.trans k₂).trans k₃).trans k₄).toL n, l₃.kp n₃ k₄, q₄⟩
theorem ops_sdict {a : Addr} {l : List (Str × V)} {k : Str} {d : V} {P : AHeap → Prop} (hm : (a, O.sdict l) ∈ H) (hl : l.length ≤ 2 ^ 20) (u : Put a (.sdict (dput l k d)) H H') (q : P H') : OPS W F (.ref a) (.str k) d H P := fun s ov iv v S r r' r''  => by
  refine Rep.ref_elim r ?_
  refine Rep.str_elim r' (fun t => ?_)
  obtain ⟨kvs, x, V⟩ := (S.rep _ hm).2
  refine wpAny_setItem_pairs (strKind_is _ _ k t) x (fun h' hd hs => ?_) (by rw [V.length, sizeLine_eq]; lia)
  have kT := Kp.put (t := s.toks + 1) hs u
  exact ⟨H', S.put (t := s.toks + 1) hs u ⟨_, hd, (V.stored k r'').carry kT.carry⟩, kT, q⟩
theorem ops_idict {a : Addr} {l : List (Int × V)} {k : Int} {d : V} {P : AHeap → Prop} (hm : (a, O.idict l) ∈ H) (hl : l.length ≤ 2 ^ 20) (u : Put a (.idict (dput l k d)) H H') (q : P H') : OPS W F (.ref a) (.int k) d H P := fun s ov iv v S r r' r''  => by
  refine Rep.ref_elim r ?_
  refine Rep.int_elim r' (fun t => ?_)
  obtain ⟨kvs, x, V⟩ := (S.rep _ hm).2
  refine wpAny_setItem_pairs (intKind_is _ _ k t) x (fun h' hd hs => ?_) (by rw [V.length, sizeLine_eq]; lia)
  have kT := Kp.put (t := s.toks + 1) hs u
  exact ⟨H', S.put (t := s.toks + 1) hs u ⟨_, hd, (V.stored k r'').carry kT.carry⟩, kT, q⟩
theorem storedH_keys {K : Type} [DecidableEq K] {xs : List (K × Addr × Value)} {k : K} {a : Addr} {v : Value} : ∀ x ∈ storedH xs k a v, x.2.1 = a ∨ ∃ y ∈ xs, y.2.1 = x.2.1 := by
  unfold storedH
  intro x hx
  split at hx
  · obtain ⟨y, hy, rfl⟩ := List.mem_map.mp hx
    refine .inr ⟨y, hy, ?_⟩
    unfold putAt; split <;> rfl
  · rcases List.mem_append.mp hx with hx | hx
    · exact .inr ⟨x, hx, rfl⟩
    · simp only [List.mem_singleton] at hx; subst hx; exact .inl rfl
theorem ops_tdict (ok : F.Ok W k₀) {a : Addr} {l : List (List Int × V)} {k : List Int} {kd d : V} {P : AHeap → Prop} (hk : kd = .tup (k.map V.int)) (hm : (a, O.tdict l) ∈ H) (hl : l.length ≤ 2 ^ 20) (u : Put a (.tdict (dput l k d)) H H') (q : P H') : OPS W F (.ref a) kd d H P := fun s ov iv v S r r' r''  => by
  subst hk
  refine Rep.ref_elim r ?_
  obtain ⟨xs, x, hD, V⟩ := (S.rep _ hm).2
  obtain ⟨b, rfl, nb, kb⟩ := r'.key
  have hu : (tupleKind (intKind W.prog W.w)).room F.A.in1 := tupleKind_room_in1 (by have := ok.room.units; lia)
  refine wpAny_setItem_heap hu kb x (fun h' hd hs => ?_) (by have := V.length; rw [List.length_map] at this; rw [this, sizeLine_eq]; lia)
  have kT := Kp.put (t := s.toks + (tupleKind (intKind W.prog W.w)).draws k) hs u
  refine ⟨H', S.put (t := s.toks + (tupleKind (intKind W.prog W.w)).draws k) hs u ⟨_, hd, fun y hy => ?_, ?_⟩, kT, q⟩
  · rw [u.domEq]
    rcases storedH_keys y hy with e | ⟨z, hz, e⟩
    · rw [e]; exact nb
    · rw [← e]; exact hD z hz
  · rw [trip_stored]
    exact (V.stored k r'').carry kT.carry
end
end Mine
namespace Mine
open PySem PySem.W PyProof.Rows PySem.Calls

section
variable {W : Wd} {F : Fm} {ρ : Rho} {H H' : AHeap} {Q : V → AHeap → Prop} {s : Shared} {k₀ : Nat}

theorem Kp.toPerm {H₁ : AHeap} {s' : Shared} (k : Kp H s H₁ s') {H₂ : AHeap} (u : ∀ a ∈ Mine.dom H₂, a ∈ Mine.dom H₁) : Kp H s H₂ s' := ⟨k.keep, fun b o e hn h => k.dom b o e hn (u b h)⟩
theorem dropHead {W : Wd} {s : Shared} {a : Addr} {o : O} {H : AHeap} (S : W.St ((a, o) :: H) s) : W.St H s ∧ a ∉ dom H ∧ Carry (dom ((a, o) :: H)) s.heap (dom H) s.heap :=
  ⟨St.sub S (List.sublist_cons_self _ _), (List.nodup_cons.mp S.nodup).1, subCarry (List.sublist_cons_self _ _) _⟩
noncomputable def FrozL (Q : V → AHeap → Prop) (d : V) (H' : AHeap) : Prop := ∃ a l H'', d = .ref a ∧ H' = (a, .list l) :: H'' ∧ Q (.fl l) H''
theorem Out.frozL {v : Value} {s' : Shared} (o : Out W H s (FrozL Q) v s') : Out W H s Q v s' := by
  obtain ⟨d, H', r, S, k, a, l, H'', rfl, rfl, q⟩ := o
  refine Rep.ref_elim r ?_
  obtain ⟨vs, n, hl, rs⟩ := (S.rep _ (.head _)).2
  obtain ⟨S', na, C⟩ := dropHead S
  exact ⟨.fl l, H'', .fl na hl (rs.carry C), S', k.toPerm fun b hb => .tail _ hb, q⟩
theorem EP.frozL {t : Sem Value} (h : EP W F ρ H t (FrozL Q)) : EP W F ρ H t Q := .mk fun s S l n  => wpAny_mono (h.go s S l n) (fun _ _ o => o.frozL) fun _ _ e => e
theorem OPN.frozL {t : List Value → Sem Value} {ds : List V} (h : OPN W F t ds H (FrozL Q)) : OPN W F t ds H Q := .mk fun s vs S r  => wpAny_mono (h.go s vs S r) (fun _ _ o => o.frozL) fun _ _ e => e
theorem CallP.frozL {k : Nat} {f : V} {args : List V} (h : CallP W k f args H (FrozL Q)) : CallP W k f args H Q := .mk fun A s fv vs r S rf ra  => codeAny_mono (h.go A s fv vs r S rf ra) fun r s' ⟨v, e, o⟩ => ⟨v, e, o.frozL⟩
theorem intsOf_vals {prog : Program} {w : World} {D : List Addr} {h : Heap} {K : Type} {kvs : List (K × Value)} {l : List (K × Int)} (x : Vals prog w D h kvs (l.map fun p => (p.1, V.int p.2))) : IntsOf kvs l := by
  induction l generalizing kvs with
  | nil => cases x; exact .nil
  | cons p l ih =>
    cases x with
    | cons r x => exact .cons ⟨rfl, Rep.int_elim (P := fun v => ∃ t, v = .int p.2 t) r fun t => ⟨t, rfl⟩⟩ (ih x)
noncomputable def FrozT (Q : V → AHeap → Prop) (d : V) (H' : AHeap) : Prop := ∃ a e H'' n, d = .tup [.ref a, .int n] ∧ H' = (a, e) :: H'' ∧
  ((∃ l : List (Int × Int), e = .idict (l.map fun p => (p.1, V.int p.2)) ∧ Q (.tup [.idd l, .int n]) H'') ∨ (∃ l : List (List Int × Int), e = .tdict (l.map fun p => (p.1, V.int p.2)) ∧ Q (.tup [.tdd l, .int n]) H''))
theorem Out.frozT (wok : W.Ok) {v : Value} {s' : Shared} (o : Out W H s (FrozT Q) v s') : Out W H s Q v s' := by
  obtain ⟨d, H', r, S, k, a, e, H'', n, rfl, rfl, q⟩ := o
  obtain ⟨S', na, C⟩ := dropHead S
  have nm := S.notMods wok (List.mem_cons_self (a := (a, e)) (l := H''))
  have kk : Kp H _ H'' s' := k.toPerm fun b hb => .tail _ hb
  refine Rep.tup_elim r (fun _ _ nt x rs => ?_)
  cases rs  with
  | cons r₁ rs =>
  cases rs  with
  | cons r₂ rs =>
  cases rs
  obtain rfl : _ = Value.ref a := r₁.view
  obtain ⟨t, rfl⟩ : ∃ t, _ = Value.int n t := r₂.view
  have nt' := (C.tup nt x).1
  rcases q with ⟨l, rfl, q⟩ | ⟨l, rfl, q⟩
  · obtain ⟨kvs, hd, V⟩ := (S.rep _ (.head _)).2
    exact ⟨_, H'', .tup nt' x (.cons (.idd na nm hd (intsOf_vals V)) (.cons (.int n t) .nil)), S', kk, q⟩
  · obtain ⟨xs, hd, hD, V⟩ := (S.rep _ (.head _)).2
    exact ⟨_, H'', .tup nt' x (.cons (.tdd na nm hd (fun y hy hn => hD y hy (.tail _ hn)) (intsOf_vals V)) (.cons (.int n t) .nil)), S', kk, q⟩
theorem CallP.frozT (wok : W.Ok) {k : Nat} {f : V} {args : List V} (h : CallP W k f args H (FrozT Q)) : CallP W k f args H Q := .mk fun A s fv vs r S rf ra  => codeAny_mono (h.go A s fv vs r S rf ra) fun r s' ⟨v, e, o⟩ => ⟨v, e, o.frozT wok⟩
theorem SP_frozL {t : Sem Flow} {Q : Fl → AHeap → Rho → Prop} {x : Str} {a : Addr} {l : List V} {H'' : AHeap} (hp : H.Perm ((a, .list l) :: H'')) (hm : (x, some (.ref a)) ∈ ρ) (h : StoreIn ρ x (.fl l) (fun ρ' => SP W F ρ' H'' t Q)) : SP W F ρ H t Q := .mk fun s S lo n  => by
  have S₁ : W.St ((a, .list l) :: H'') s := S.perm hp.symm
  obtain ⟨S', na, C⟩ := dropHead S₁
  obtain ⟨vs, k, hl, rs⟩ := (S₁.rep _ (.head _)).2
  obtain ⟨ρ', u, h⟩ := h
  have hd : ∀ b, b ∈ dom H'' → b ∈ dom H := fun b hb => (hp.map (·.1)).mem_iff.mpr (.tail _ hb)
  have C' : Carry (dom H) s.heap (dom H'') s.heap := fun b o nb e _ => ⟨fun q => nb (hd b q), e⟩
  obtain ⟨⟨m, ns, hv⟩, nd, hloc, hf⟩ := lo
  have lo' : W.Loc (dom H'') F.env ρ' s.heap := by
    refine ⟨⟨m, ns, fun p hp d e => ?_⟩, by rw [u.keys]; exact nd, fun p hp => ?_, hf⟩
    · rcases u.others nd p hp with rfl | ⟨hp, hne⟩
      · cases e
        obtain ⟨v, e1, r⟩ := hv _ hm _ rfl
        obtain rfl : v = .ref a := r.view
        exact ⟨_, e1, .fl na hl (rs.carry C)⟩
      · obtain ⟨v, e1, r⟩ := hv p hp d e
        exact ⟨v, e1, r.carry C'⟩
    · have : p.1 ∈ ρ.map (·.1) := u.keys ▸ List.mem_map_of_mem hp
      obtain ⟨q, hq, e⟩ := List.mem_map.mp this
      exact e ▸ hloc q hq
  refine wpAny_mono (h.go s S' lo' fun q => n (hd _ q)) (fun f s' o => o.to fun fl H₁ ρ₁ r S₁ K l₁ q => ⟨fl, H₁, ρ₁, r, S₁, ⟨fun b o hL hb e => K.keep b o hL (fun q => hb (hd b q)) e, fun b o e hb => K.dom b o e (fun q => hb (hd b q)), K.there⟩, l₁, q⟩) fun _ _ e => e

theorem SP_drop {t : Sem Flow} {Q : Fl → AHeap → Rho → Prop} {H'' : AHeap} (hp : H''.Sublist H) (h : SP W F ρ H'' t Q) : SP W F ρ H t Q := .mk fun s S lo n  => by
  have hd : ∀ b, b ∈ dom H'' → b ∈ dom H := fun b hb => (hp.map (·.1)).subset hb
  refine wpAny_mono (h.go s (St.sub S hp) (lo.carry (subCarry hp _) fun _ e => e) fun q => n (hd _ q)) (fun f s' o => o.to fun fl H₁ ρ₁ r S₁ K l₁ q => ⟨fl, H₁, ρ₁, r, S₁, ⟨fun b o hL hb e => K.keep b o hL (fun q => hb (hd b q)) e, fun b o e hb => K.dom b o e (fun q => hb (hd b q)), K.there⟩, l₁, q⟩) fun _ _ e => e

theorem ItP_fl {A : Around} {l : List V} (hA : A.handled = none) : ItP W A (.fl l) H l := fun E s v S r P h => by
  refine Rep.fl_elim r (fun a k vs n x rs => ?_)
  have hne : a ≠ s.heap.objs.size := Nat.ne_of_lt (Heap.lt_size x)
  have hlen : vs.toArray.size = l.length := by simpa using rs.length
  refine wpAny_pyIter_list (items := vs.toArray) x.isList (h _ _ ⟨_, [s.heap.objs.size, a], [s.heap.objs.size], _, _, rfl, hlen ▸ Walks.list hA _ a hne vs.toArray, ⟨⟨_, Heap.get?_push_size _ rfl, rfl, rfl⟩, ⟨_, push_keep _ _ _ _ x, rfl, k, rfl⟩⟩, fun b hb => ?_, fun b hb => ?_, fun b hb i h st => ?_, fun b hb => ?_, fun i v e => ?_, S.grow (push_keep _ _), Kp.grow (push_keep _ _)⟩)
  · simp only [List.mem_singleton] at hb; subst hb
    refine ⟨get_size _, fun i h ob st e => ?_⟩
    obtain ⟨⟨o', e', c', _⟩, _⟩ := st
    rw [e'] at e; cases e; rw [c']; simp [PureCls]
  · simp only [List.mem_cons, List.not_mem_nil, or_false] at hb
    rcases hb with rfl | rfl
    · exact S.fresh (get_size _)
    · exact n
  · obtain ⟨⟨o', e', c', _⟩, ⟨o'', e'', _⟩⟩ := st
    simp only [List.mem_cons, List.not_mem_nil, or_false] at hb
    rcases hb with rfl | rfl
    · exact ⟨_, e'⟩
    · exact ⟨_, e''⟩
  · simp only [List.mem_cons, List.not_mem_nil, or_false] at hb
    rcases hb with rfl | rfl
    · exact .inl (get_size _)
    · exact .inr ⟨_, x, .inr (.inr (.inr rfl))⟩
  · obtain ⟨d, h1, h2⟩ := rs.get (i := i) (v := v) (by simpa using e)
    exact ⟨d, h1, h2⟩
theorem op_len_fl {l : List V} (hl : l.length ≤ 2 ^ 20) (q : Q (.int (l.length : Nat)) H) : OPN W F (fun vs => call (.builtin "len") vs) [.fl l] H Q := opn1 (fun s v S r => by
  refine Rep.fl_elim r (fun a k us n hu ru => ?_)
  have e : us.toArray.size = l.length := by simpa using ru.length
  exact Calls.call_len_list hu.isList (by lia) (Out.toks S (by rw [e]; exact .int _ _) q)) fun _ => rfl
theorem op_item_fl {value slice : Expr} {l : List V} {n : Nat} {d : V} (hd : l[n]? = some d) (hn : n < 2 ^ 40) (q : Q d H)
    (hs : ∀ t k u, subscripted slice false (.ref t) (.int k u) = operate [.ref t, .int k u] (getItem (.ref t) (.int k u)) := by intro _ _ _; with_unfolding_all rfl) :
    OP2 W F (subscriptTail value slice) (.fl l) (.int (n : Int)) H Q := .mk fun s v u S r₁ r₂  => by
  refine Rep.fl_elim r₁ (fun a k vs na hl rs => ?_)
  refine Rep.int_elim r₂ (fun t => ?_)
  obtain ⟨v, hv, rv⟩ := rs.get' hd
  exact tail_any hl.isList.typeIs slot_list_getitem.lookup (wpAny_getItem_list hl.isList (by lia) (by lia) (x := v) (by simpa using hv) (Out.here S rv q)) (hs _ _ _)
theorem op_add_fl {l m : List V} (hl : l.length + m.length ≤ 2 ^ 20) (q : Q (.fl (l ++ m)) H) : OP2 W F (binaryOp .Add) (.fl l) (.fl m) H Q := .mk fun s v u S r₁ r₂  => by
  refine Rep.fl_elim r₁ (fun a k us na hu ru => ?_)
  refine Rep.fl_elim r₂ (fun b k' vs nb hv rv => ?_)
  refine wpAny_mono (PySem.P.add_list (Q := Out W H s (FrozL Q)) hu hv (out_newList (vs := us ++ vs) (t := s.toks) (by simp) S (ru.append rv) fun a => ⟨a, _, H, rfl, rfl, q⟩) (by simp only [List.size_toArray]; rw [ru.length, rv.length, sizeLine_eq]; lia)) (fun _ _ o => o.frozL) fun _ _ e => e
theorem op_join_fl {x : Str} {l : List V} {xs : List Str} (hx : l = xs.map V.str) (hok : JoinOk x xs = true) (q : Q (.str (Txt.join x xs)) H) : OPN W F (fun vs => call (.builtin "str.join") vs) [.str x, .fl l] H Q := opn2 (fun s v u S r r' => by
  cases r; cases r' with
  | fl na hu ru =>
    subst hx
    obtain ⟨l', e1, e2⟩ := strs_of ru
    subst e1
    exact SC.join hu.isList e2 hok fun t' k => Out.toks S (.str _ _) q) fun _ _ => rfl
noncomputable def pickV (l : List V) : Option Int → Option Int → List V
  | none, none => l
  | none, some j => l.take j.toNat
  | some i, none => l.drop i.toNat
  | some i, some j => (l.take j.toNat).drop i.toNat
noncomputable def PartOk : Option Int → Option Int → Prop
  | none, some j => 0 ≤ j
  | some i, none => 0 ≤ i
  | _, _ => False
theorem slice_fl_at {value slice : Expr} {l : List V} {v : Value} {sl : Addr} {pl pu : Option (Int × Tok)} (S : W.St H s) (r : W.Rep (dom H) s.heap v (.fl l)) (hl : l.length ≤ 2 ^ 20) (hsl : s.heap.IsSliceOf sl (partValue pl) (partValue pu) .none)
    (po : PartOk (pl.map (·.1)) (pu.map (·.1))) (q : Q (.fl (pickV l (pl.map (·.1)) (pu.map (·.1)))) H) (hs : ∀ t u : Addr, ∃ ops, subscripted slice false (.ref t) (.ref u) = operate ops (getItem (.ref t) (.ref u))) :
    wpAny W.M F.A (subscriptTail value slice v (.ref sl)) (Out W H s Q) F.E s := by
  refine Rep.fl_elim r (fun a k us na hu ru => ?_)
  have isP : ∀ l : Option (Int × Tok), IsPart (partValue l) (l.map (·.1)) := fun l => by
    rcases l with _ | ⟨i, t⟩
    · exact .none
    · exact .int i t
  have fin : ∀ (m : List Value) ds, slicePick us.toArray (pl.map (·.1)) (pu.map (·.1)) none = m.toArray → W.Reps (dom H) s.heap m ds → Q (.fl ds) H → Out W H s Q (.ref s.heap.objs.size) { s with heap := s.heap.push { cls := .type "list", data := .seq (slicePick us.toArray (pl.map (·.1)) (pu.map (·.1)) none) } } := fun m ds e rm q => (out_newList (Q := FrozL Q) (t := s.toks) e S rm fun a => ⟨a, _, H, rfl, rfl, q⟩).frozL
  obtain ⟨ops, hs⟩ := hs a sl
  refine tail_any (ops := ops) (IsL.isList hu).typeIs slot_list_getitem.lookup (wpAny_getItem_list_slice (st := none) (IsL.isList hu) hsl (isP pl) (isP pu) .none (by simp) ?_ (by rw [List.size_toArray, ru.length, sizeLine_eq]; lia)) hs
  rcases pl with _ | ⟨i, ti⟩ <;> rcases pu with _ | ⟨j, tj⟩
  · exact po.elim
  · obtain ⟨n, rfl⟩ := Int.eq_ofNat_of_zero_le (show 0 ≤ j from po)
    refine fin (us.take n) (l.take n) ?_ (ru.take _) (by simpa [pickV] using q)
    show slicePick us.toArray none (some (n : Int)) none = _
    rw [slicePick_upto']
  · obtain ⟨n, rfl⟩ := Int.eq_ofNat_of_zero_le (show 0 ≤ i from po)
    refine fin (us.drop n) (l.drop n) ?_ (ru.drop _) (by simpa [pickV] using q)
    show slicePick us.toArray (some (n : Int)) none none = _
    rw [slicePick_from']
  · exact po.elim
theorem EP_slice_fl {value : Expr} {lo up : Option Expr} {p pos : Pos} (h : EP W F ρ H (eval value F.env) (fun d H₁ => ∃ l, d = .fl l ∧ l.length ≤ 2 ^ 20 ∧ PP W F ρ H₁ lo (fun i H₂ => PP W F ρ H₂ up (fun j H₃ => PartOk i j ∧ Q (.fl (pickV l i j)) H₃)))) :
    EP W F ρ H (eval (.Subscript value (.Slice lo up none p) pos) F.env) Q := .mk fun s S l n  => by
  refine Subscript_ (wpAny_mono (h.go s S l n) (fun v s₁ o => o.to fun d H₁ r S₁ kp o => eaa o fun x e hx q => ?_) fun _ _ e => e)
  subst e
  have l₁ := l.kp n kp
  have n₁ := l.out n kp
  refine wpAny_Slice (wpAny_mono (q.go s₁ S₁ l₁ n₁) (fun vl s₂ o => o.to fun dl H₂ rl S₂ kp₂ o => ea o fun i ei q₂ => ?_) fun _ _ e => e)
  subst ei
  obtain ⟨pl, rfl, rfl⟩ := part_of rl
  refine wpAny_mono (q₂.go s₂ S₂ (l₁.kp n₁ kp₂) (l₁.out n₁ kp₂)) (fun vu s₃ o => o.to fun du H₃ rr S₃ kp₃ o => ea o fun j ej q₃ => ?_) fun _ _ e => e
  subst ej
  obtain ⟨pu, rfl, rfl⟩ := part_of rr
  refine wpAny_pure ?_
  have hk := push_keep s₃.heap { cls := .type "slice", data := .fields #[partValue pl, partValue pu, .none] }
  have S₄ := S₃.grow (t := s₃.toks) hk
  have K₄ : Kp H₃ s₃ H₃ _ := Kp.grow (t := s₃.toks) hk
  have r' := r.carry (kp₂.trans (kp₃.trans K₄)).carry
  refine wpAny_mono (slice_fl_at (W := W) (F := F) (Q := Q) S₄ r' hx (Heap.IsSliceOf.new _ _ _ _) q₃.1 q₃.2 (fun _ _ => ⟨_, by with_unfolding_all rfl⟩)) (fun _ _ o => (((o.trans K₄).trans kp₃).trans kp₂).trans kp) fun _ _ e => e
end
noncomputable def Drp (Q : V → AHeap → Prop) (d : V) (H' : AHeap) : Prop := ∃ H'', H''.Sublist H' ∧ Q d H''
theorem CallP.drop {W : Wd} {H : AHeap} {Q : V → AHeap → Prop} {k : Nat} {f : V} {args : List V} (h : CallP W k f args H (Drp Q)) : CallP W k f args H Q := .mk fun A s fv vs r S rf ra  => codeAny_mono (h.go A s fv vs r S rf ra) fun r s' ⟨v, e, d, H', rd, S', k', H'', u, q⟩ =>
  ⟨v, e, d, H'', rd.carry (subCarry u _), St.sub S' u, k'.subOut u, q⟩
end Mine
namespace Mine
open PySem PySem.W PyProof.Rows PySem.Calls

section
variable {W : Wd} {F : Fm} {ρ : Rho} {H H' : AHeap} {Q : V → AHeap → Prop} {s : Shared} {k₀ : Nat}

theorem TP_chain {e₁ e₂ e₃ : Expr} {o₁ o₂ : CmpOp} {pos : Pos} {whole : Sem Value} {Q : Bool → AHeap → Prop}
    (h : EP W F ρ H (eval e₁ F.env) (fun a H₁ => EP W F ρ H₁ (eval e₂ F.env) (fun b H₂ => OP2 W F (compareOp o₁) a b H₂ (fun c H₃ => OT W F c H₃ (fun t H₄ =>
      (t = false → Q false H₄) ∧ (t = true → EP W F ρ H₄ (eval e₃ F.env) (fun d H₅ => OP2 W F (compareOp o₂) b d H₅ (fun c H₆ => OT W F c H₆ Q))))))))
    (hm : lastMarks [o₁, o₂] [e₂, e₃] = false := by with_unfolding_all rfl) :
    TP W F ρ H (isTrue (.Compare e₁ [o₁, o₂] [e₂, e₃] pos) F.env whole) Q := .mk fun s S l n  => by
  refine isTrue_chain (rs := []) (wpAny_mono (h.go s S l n) (fun a s₁ o => o.to fun da H₁ ra S₁ k₁ q => ?_) fun _ _ e => e) hm
  have l₁ := l.kp n k₁
  have n₁ := l.out n k₁
  refine test_link (wpAny_mono (q.go s₁ S₁ l₁ n₁) (fun b s₂ o => o.to fun db H₂ rb S₂ k₂ q₂ => ?_) fun _ _ e => e)
  have l₂ := l₁.kp n₁ k₂
  have n₂ := l₁.out n₁ k₂
  refine wpAny_mono (q₂.go s₂ a b S₂ (ra.carry k₂.carry) rb) (fun c s₃ o => o.to fun dc H₃ rc S₃ k₃ q₃ => ?_) fun _ _ e => e
  have l₃ := l₂.kp n₂ k₃
  have n₃ := l₂.out n₂ k₃
  refine wpAny_mono (q₃.go s₃ c S₃ rc) (fun t s₄ o => o.to fun H₄ S₄ k₄ q₄ => ?_) fun _ _ e => e
  have K := ((k₁.trans k₂).trans k₃).trans k₄
  have l₄ := l₃.kp n₃ k₄
  have n₄ := l₃.out n₃ k₄
  cases t with
  | false => exact ⟨H₄, S₄, K, q₄.1 rfl⟩
  | true =>
    rw [if_pos rfl]
    refine test_last (wpAny_mono ((q₄.2 rfl).go s₄ S₄ l₄ n₄) (fun d s₅ o => o.to fun dd H₅ rd S₅ k₅ q₅ => ?_) fun _ _ e => e)
    refine wpAny_mono (q₅.go s₅ b d S₅ (((rb.carry k₃.carry).carry k₄.carry).carry k₅.carry) rd) (fun c s₆ o => o.to fun dc H₆ rc S₆ k₆ q₆ => ?_) fun _ _ e => e
    exact wpAny_mono (q₆.go s₆ c S₆ rc) (fun _ _ o => ((o.trans k₆).trans k₅).trans K) fun _ _ e => e

theorem op_in_strs {x : Str} {l : List V} {xs : List Str} (hx : l = xs.map V.str) (q : Q (.bool (xs.any (· == x))) H) : OP2 W F (compareOp .In) (.str x) (.tup l) H Q := .mk fun s v u S r₁ r₂  => by
  subst hx
  refine Rep.str_elim r₁ (fun t => ?_)
  refine Rep.tup_elim r₂ (fun _ _ n ht rs => ?_)
  obtain ⟨l', rfl, rfl⟩ := strs_of rs
  refine SeqAt.in_tupleAt (fun y => match y with | .str z _ => z == x | _ => false) ht (fun y hy => ?_) (Out.here S (.bool _) ?_)
  · obtain ⟨z, tz, hz, rfl⟩ : ∃ a b, (a, b) ∈ l' ∧ Value.str a b = y := by simpa [strValues] using hy
    exact (eqGives_str z x tz t).at _ _
  · have e : ∀ m : List (Str × Tok), (strValues m).any (fun y => match y with | .str z _ => z == x | _ => false) = (m.map (·.1)).any (· == x) := by
      intro m
      induction m with
      | nil => rfl
      | cons p m ih => simpa [strValues] using congrArg _ ih
    simpa [e] using q

theorem SP_unpack2 (ok : F.Ok W k₀) {x y : Str} {e : Expr} {k : Nat} {p₁ p₂ tpos pos : Pos} {Q : Fl → AHeap → Rho → Prop} (hx : (x == ("__debug__" : Str)) = false) (hy : (y == ("__debug__" : Str)) = false)
    (h : EP W F ρ H (eval e F.env) (fun d H₁ => ∃ a b, d = .tup [a, b] ∧ StoreIn ρ x a (fun ρ₁ => StoreIn ρ₁ y b (fun ρ₂ => Q .next H₁ ρ₂))))
    (hs : swapsWithSole [.Tuple [.Name x p₁, .Name y p₂] k tpos] e pos.line F.env = pure false := by rfl)
    (hw : swappedStores [.Tuple [.Name x p₁, .Name y p₂] k tpos] e F.env = pure none := by rfl) :
    SP W F ρ H (exec (.Assign [.Tuple [.Name x p₁, .Name y p₂] k tpos] e pos) F.env) Q := .mk fun s S l n  => by
  refine Assign_Tuple (wpAny_mono (h.go s S l n) (fun v s₁ ⟨d, H₁, r, S₁, kp, a, b, e, ρ₁, u₁, ρ₂, u₂, q⟩ => ?_) fun _ _ e => e) hs hw
  subst e
  refine Rep.tup_elim r (fun t vs nt ht rs => ?_)
  cases rs  with
  | @cons va _ _ _ ra rs =>
  cases rs  with
  | @cons vb _ _ _ rb rs =>
  cases rs
  have l₁ := l.kp n kp
  have n₁ := l.out n kp
  refine wpAny_assign_Tuple (items := [va, vb].toArray) ok.room.handled ht rfl rfl fun h' he => ?_
  have hk : ∀ b o, s₁.heap.get? b = some o → h'.get? b = some o := fun b o e => he b o (Nat.ne_of_lt (Heap.lt_size e)) e
  have S₂ := S₁.grow (t := s₁.toks) hk
  have K₂ : Kp H₁ s₁ H₁ { s₁ with heap := h' } := Kp.grow (t := s₁.toks) hk
  have l₂ := l₁.kp n₁ K₂
  show wpAny _ _ (do holding [vb] (assign (.Name x p₁) F.env va); holding [] (assign (.Name y p₂) F.env vb); pure ()) _ _ _
  refine wpAny_bind (wpAny_holding (assign_Name (storeAt ok S₂ l₂ n₁ (ra.carry K₂.carry) u₁ fun s₃ S₃ K₃ l₃ => ?_)))
  have n₃ := l₂.outL n₁ K₃
  refine wpAny_bind (wpAny_holding (assign_Name (storeAt ok S₃ l₃ n₃ ((rb.carry K₂.carry).carry (K₃.carry l₂.frame)) u₂ fun s₄ S₄ K₄ l₄ => ?_)))
  exact wpAny_pure ⟨_, H₁, ρ₂, .next, S₄, (((kp.trans K₂).toL n).trans K₃).trans K₄, l₄, q⟩

theorem out_newObj {o : O} {ob : Obj} {t : Nat} (hf : ob.isFreed = false) (S : W.St H s) (r : RepO W.prog W.w (dom ((s.heap.objs.size, o) :: H)) (s.heap.push ob) s.heap.objs.size o) (q : ∀ a, Q (.ref a) ((a, o) :: H)) :
    Out W H s Q (.ref s.heap.objs.size) { s with heap := s.heap.push ob, toks := t } :=
  ⟨_, _, .ref _, S.new (t := t) (push_keep _ _) (get_size _) r, Kp.new (push_keep _ _) (get_size _), q _⟩
theorem EP_dict0s {pos : Pos} (q : ∀ a, Q (.ref a) ((a, .sdict []) :: H)) : EP W F ρ H (eval (.Dict [] [] pos) F.env) Q := .mk fun s S l n  =>
  wpAny_Dict_empty (out_newObj (o := .sdict []) (t := s.toks) rfl S ⟨[], Heap.DictOf.new _, .nil⟩ q)
theorem EP_dict0i {pos : Pos} (q : ∀ a, Q (.ref a) ((a, .idict []) :: H)) : EP W F ρ H (eval (.Dict [] [] pos) F.env) Q := .mk fun s S l n  =>
  wpAny_Dict_empty (out_newObj (o := .idict []) (t := s.toks) rfl S ⟨[], Heap.DictOf.new _, .nil⟩ q)
theorem DictOfH_new {prog : Program} {w : World} (h : Heap) : (h.push { cls := .type "dict", data := .dict #[] }).DictOfH (tupleKind (intKind prog w)) h.objs.size [] :=
  ⟨_, #[], 0, Heap.get?_push_size _ rfl, ⟨rfl, rfl, rfl⟩, rfl, rfl, fun x hx => (nomatch hx), .nil⟩
theorem EP_dict0t {pos : Pos} (q : ∀ a, Q (.ref a) ((a, .tdict []) :: H)) : EP W F ρ H (eval (.Dict [] [] pos) F.env) Q := .mk fun s S l n  =>
  wpAny_Dict_empty (out_newObj (o := .tdict []) (t := s.toks) rfl S ⟨[], DictOfH_new _, fun x hx => (nomatch hx), .nil⟩ q)

theorem dictSet_idict {a : Addr} {l : List (Int × V)} {k : Int} {t : Tok} {d : V} {v : Value} {A : Around} {E : Value → Shared → Prop} {P : Unit → Shared → Prop} (S : W.St H s) (hm : (a, O.idict l) ∈ H) (hl : l.length ≤ 2 ^ 20) (r : W.Rep (dom H) s.heap v d) (u : Put a (.idict (dput l k d)) H H')
    (h : ∀ s', W.St H' s' → Kp H s H' s' → P () s') : wpAny W.M A (dictSet a (.int k t) v) P E s := by
  obtain ⟨kvs, x, V⟩ := (S.rep _ hm).2
  refine wpAny_dictSet_pairs (intKind_is _ _ k t) x (fun h' hd hs => ?_) (by rw [V.length, sizeLine_eq]; lia)
  have kT := Kp.put (t := s.toks + 1) hs u
  exact h _ (S.put (t := s.toks + 1) hs u ⟨_, hd, (V.stored k r).carry kT.carry⟩) kT
theorem dictSet_tdict {a : Addr} {l : List (List Int × V)} {k : List Int} {d : V} {v key : Value} {A : Around} {E : Value → Shared → Prop} {P : Unit → Shared → Prop} (hu : A.units < cLine) (S : W.St H s) (hm : (a, O.tdict l) ∈ H) (hl : l.length ≤ 2 ^ 20) (rk : W.Rep (dom H) s.heap key (.tup (k.map V.int))) (r : W.Rep (dom H) s.heap v d) (u : Put a (.tdict (dput l k d)) H H')
    (h : ∀ s', W.St H' s' → Kp H s H' s' → P () s') : wpAny W.M A (dictSet a key v) P E s := by
  obtain ⟨xs, x, hD, V⟩ := (S.rep _ hm).2
  obtain ⟨b, rfl, nb, kb⟩ := rk.key
  refine wpAny_dictSet_heap (knd := tupleKind (intKind W.prog W.w)) hu kb x (fun h' hd hs => ?_) (by have := V.length; rw [List.length_map] at this; rw [this, sizeLine_eq]; lia)
  have kT := Kp.put (t := s.toks + (tupleKind (intKind W.prog W.w)).draws k) hs u
  refine h _ (S.put (t := s.toks + (tupleKind (intKind W.prog W.w)).draws k) hs u ⟨_, hd, fun y hy => ?_, ?_⟩) kT
  · rw [u.domEq]
    rcases storedH_keys y hy with e | ⟨z, hz, e⟩
    · rw [e]; exact nb
    · rw [← e]; exact hD z hz
  · rw [trip_stored]
    exact (V.stored k r).carry kT.carry
theorem evalPair2 {e₁ e₂ e₃ e₄ : Expr} {pos : Pos} {P : List (Value × Value) → Shared → Prop} {s : Shared} (S : W.St H s) (l : W.Loc (dom H) F.env ρ s.heap) (n : F.L ∉ dom H)
    (h : EP W F ρ H (eval e₁ F.env) (fun a H₁ => EP W F ρ H₁ (eval e₂ F.env) (fun b H₂ => EP W F ρ H₂ (eval e₃ F.env) (fun c H₃ => EP W F ρ H₃ (eval e₄ F.env) (fun d H₄ =>
      ∀ s' va vb vc vd, Kp H s H₄ s' → W.St H₄ s' → W.Rep (dom H₄) s'.heap va a → W.Rep (dom H₄) s'.heap vb b → W.Rep (dom H₄) s'.heap vc c → W.Rep (dom H₄) s'.heap vd d → P [(va, vb), (vc, vd)] s'))))) :
    wpAny W.M F.A (evalPairs (pairTrees [some e₁, some e₃] [e₂, e₄] F.env pos)) P F.E s := by
  refine pairTrees_cons_walk (wpAny_mono (h.go s S l n) (fun va s₁ o => o.to fun a H₁ ra S₁ k₁ q₁ => ?_) fun _ _ e => e)
  have l₁ := l.kp n k₁
  have n₁ := l.out n k₁
  refine wpAny_mono (q₁.go s₁ S₁ l₁ n₁) (fun vb s₂ o => o.to fun b H₂ rb S₂ k₂ q₂ => ?_) fun _ _ e => e
  have l₂ := l₁.kp n₁ k₂
  have n₂ := l₁.out n₁ k₂
  refine pairTrees_cons_walk (wpAny_mono (q₂.go s₂ S₂ l₂ n₂) (fun vc s₃ o => o.to fun c H₃ rc S₃ k₃ q₃ => ?_) fun _ _ e => e)
  have l₃ := l₂.kp n₂ k₃
  have n₃ := l₂.out n₂ k₃
  refine wpAny_mono (q₃.go s₃ S₃ l₃ n₃) (fun vd s₄ o => o.to fun d H₄ rd S₄ k₄ q₄ => ?_) fun _ _ e => e
  exact pairTrees_nil_walk (q₄ s₄ va vb vc vd (((k₁.trans k₂).trans k₃).trans k₄) S₄ (((ra.carry k₂.carry).carry k₃.carry).carry k₄.carry) ((rb.carry k₃.carry).carry k₄.carry) (rc.carry k₄.carry) rd)
theorem EP_dict2i (wok : W.Ok) {e₁ e₂ e₃ e₄ : Expr} {pos : Pos}
    (h : ∀ D, EP W F ρ ((D, .idict []) :: H) (eval e₁ F.env) (fun a H₁ => EP W F ρ H₁ (eval e₂ F.env) (fun b H₂ => EP W F ρ H₂ (eval e₃ F.env) (fun c H₃ => EP W F ρ H₃ (eval e₄ F.env) (fun d H₄ =>
      ∃ i j x y H₅, a = .int i ∧ b = .int x ∧ c = .int j ∧ d = .int y ∧ H₄ = (D, .idict []) :: H₅ ∧ Q (.idd (dput [(i, x)] j y)) H₅))))) :
    EP W F ρ H (eval (.Dict [some e₁, some e₃] [e₂, e₄] pos) F.env) Q := .mk fun s S l n  => by
  refine wpAny_Dict_any rfl rfl (by simp) (by simp) ?_
  have hk := push_keep s.heap { cls := .type "dict", data := .dict #[] }
  have S₀ : W.St ((s.heap.objs.size, .idict []) :: H) { s with heap := s.heap.push { cls := .type "dict", data := .dict #[] } } := S.new (t := s.toks) hk (get_size _) ⟨[], Heap.DictOf.new _, .nil⟩
  have K₀ : Kp H s ((s.heap.objs.size, .idict []) :: H) { s with heap := s.heap.push { cls := .type "dict", data := .dict #[] } } := Kp.new (t := s.toks) hk (get_size _)
  refine evalPair2 S₀ (l.kp n K₀) (l.out n K₀) (EP.mono (h _) fun a H₁ h₁ => EP.mono h₁ fun b H₂ h₂ => EP.mono h₂ fun c H₃ h₃ => EP.mono h₃ fun d H₄ h₄ s' va vb vc vd K S' ra rb rc rd => ?_)
  obtain ⟨i, j, x, y, H₅, rfl, rfl, rfl, rfl, rfl, q⟩ := h₄
  refine Rep.int_elim ra (fun ti => ?_)
  refine Rep.int_elim rc (fun tj => ?_)
  show wpAny _ _ (storeAll s.heap.objs.size [(.int i ti, vb), (.int j tj, vd)]) _ _ _
  unfold storeAll
  rw [List.forIn_cons]
  refine wpAny_bind (wpAny_bind (dictSet_idict S' (.head _) (by simp) rb .here fun s₁ S₁ K₁ => wpAny_pure ?_))
  show wpAny _ _ (forIn [(Value.int j tj, vd)] _ _) _ _ _
  rw [List.forIn_cons]
  refine wpAny_bind (wpAny_bind (dictSet_idict S₁ (.head _) (by simp [dput]) (rd.carry K₁.carry) .here fun s₂ S₂ K₂ => wpAny_pure ?_))
  show wpAny _ _ (forIn [] _ _) _ _ _
  rw [List.forIn_nil]
  refine wpAny_pure ?_
  obtain ⟨kvs, hd, vals⟩ := (S₂.rep _ (.head _)).2
  have nm := S₂.notMods wok (.head _)
  obtain ⟨S₃, na, C⟩ := dropHead S₂
  have e : dput (dput [] i (V.int x)) j (V.int y) = (dput [(i, x)] j y).map fun p => (p.1, V.int p.2) := by
    simp only [dput, List.any_nil, List.nil_append, List.any_cons, Bool.or_false, Bool.false_eq_true, if_false]
    by_cases e : i = j
    · simp [e]
    · simp [e]
  rw [e] at vals
  exact ⟨_, H₅, .idd na nm hd (intsOf_vals vals), S₃, (((K₀.trans K).trans K₁).trans K₂).toPerm fun b hb => .tail _ hb, q⟩
theorem EP_dict2t (wok : W.Ok) (ok : F.Ok W k₀) {e₁ e₂ e₃ e₄ : Expr} {pos : Pos}
    (h : ∀ D, EP W F ρ ((D, .tdict []) :: H) (eval e₁ F.env) (fun a H₁ => EP W F ρ H₁ (eval e₂ F.env) (fun b H₂ => EP W F ρ H₂ (eval e₃ F.env) (fun c H₃ => EP W F ρ H₃ (eval e₄ F.env) (fun d H₄ =>
      ∃ i j x y H₅, a = .tup (i.map V.int) ∧ b = .int x ∧ c = .tup (j.map V.int) ∧ d = .int y ∧ H₄ = (D, .tdict []) :: H₅ ∧ Q (.tdd (dput [(i, x)] j y)) H₅))))) :
    EP W F ρ H (eval (.Dict [some e₁, some e₃] [e₂, e₄] pos) F.env) Q := .mk fun s S l n  => by
  refine wpAny_Dict_any rfl rfl (by simp) (by simp) ?_
  have hu : F.A.units < cLine := by have := ok.room.units; lia
  have hk := push_keep s.heap { cls := .type "dict", data := .dict #[] }
  have S₀ : W.St ((s.heap.objs.size, .tdict []) :: H) { s with heap := s.heap.push { cls := .type "dict", data := .dict #[] } } := S.new (t := s.toks) hk (get_size _) ⟨[], DictOfH_new _, fun x hx => (nomatch hx), .nil⟩
  have K₀ : Kp H s ((s.heap.objs.size, .tdict []) :: H) { s with heap := s.heap.push { cls := .type "dict", data := .dict #[] } } := Kp.new (t := s.toks) hk (get_size _)
  refine evalPair2 S₀ (l.kp n K₀) (l.out n K₀) (EP.mono (h _) fun a H₁ h₁ => EP.mono h₁ fun b H₂ h₂ => EP.mono h₂ fun c H₃ h₃ => EP.mono h₃ fun d H₄ h₄ s' va vb vc vd K S' ra rb rc rd => ?_)
  obtain ⟨i, j, x, y, H₅, rfl, rfl, rfl, rfl, rfl, q⟩ := h₄
  show wpAny _ _ (storeAll s.heap.objs.size [(va, vb), (vc, vd)]) _ _ _
  unfold storeAll
  rw [List.forIn_cons]
  refine wpAny_bind (wpAny_bind (dictSet_tdict hu S' (.head _) (by simp) ra rb .here fun s₁ S₁ K₁ => wpAny_pure ?_))
  show wpAny _ _ (forIn [(vc, vd)] _ _) _ _ _
  rw [List.forIn_cons]
  refine wpAny_bind (wpAny_bind (dictSet_tdict hu S₁ (.head _) (by simp [dput]) (rc.carry K₁.carry) (rd.carry K₁.carry) .here fun s₂ S₂ K₂ => wpAny_pure ?_))
  show wpAny _ _ (forIn [] _ _) _ _ _
  rw [List.forIn_nil]
  refine wpAny_pure ?_
  obtain ⟨xs, hd, hD, vals⟩ := (S₂.rep _ (.head _)).2
  have nm := S₂.notMods wok (.head _)
  obtain ⟨S₃, na, C⟩ := dropHead S₂
  have e : dput (dput [] i (V.int x)) j (V.int y) = (dput [(i, x)] j y).map fun p => (p.1, V.int p.2) := by
    simp only [dput, List.any_nil, List.nil_append, List.any_cons, Bool.or_false, Bool.false_eq_true, if_false]
    by_cases e : i = j
    · simp [e]
    · simp [e]
  rw [e] at vals
  exact ⟨_, H₅, .tdd na nm hd (fun y hy hn => hD y hy (.tail _ hn)) (intsOf_vals vals), S₃, (((K₀.trans K).trans K₁).trans K₂).toPerm fun b hb => .tail _ hb, q⟩
end
end Mine
namespace Mine
open PySem PySem.W PyProof.Rows PySem.Calls
theorem here_ {α : Type} {a : α} {l : List α} : a ∈ a :: l := .head _
theorem there_ {α : Type} {a b : α} {l : List α} (h : a ∈ l) : a ∈ b :: l := .tail _ h
theorem st_ {ρ ρ' : Rho} {x : Str} {d : V} {P : Rho → Prop} (u : Put x (some d) ρ ρ') (h : P ρ') : StoreIn ρ x d P := ⟨_, u, h⟩
theorem StI_here {l : Rho} {x : Str} {y : Option V} {d : V} {P : Rho → Prop} (h : P ((x, some d) :: l)) : StoreIn ((x, y) :: l) x d P := ⟨_, .here, h⟩
theorem StI_there {l : Rho} {x : Str} {p : Str × Option V} {d : V} {P : Rho → Prop} (h : StoreIn l x d (fun l' => P (p :: l'))) : StoreIn (p :: l) x d P := let ⟨l', u, h⟩ := h; ⟨_, .there u, h⟩
theorem StI0 {l : Rho} {x : Str} {y : Option V} {d : V} {P : Rho → Prop} (h : P ((x, some d) :: l)) : StoreIn ((x, y) :: l) x d P := ⟨_, .here, h⟩
theorem mem0 {α : Type} {a : α} {l : List α} : a ∈ a :: l := .head _
theorem StI1 {l : Rho} {x : Str} {y : Option V} {d : V} {p0 : Str × Option V} {P : Rho → Prop} (h : P (p0 :: (x, some d) :: l)) : StoreIn (p0 :: (x, y) :: l) x d P := ⟨_, .there .here, h⟩
theorem mem1 {α : Type} {a : α} {l : List α} {p0 : α} : a ∈ p0 :: a :: l := .tail _ (.head _)
theorem StI2 {l : Rho} {x : Str} {y : Option V} {d : V} {p0 p1 : Str × Option V} {P : Rho → Prop} (h : P (p0 :: p1 :: (x, some d) :: l)) : StoreIn (p0 :: p1 :: (x, y) :: l) x d P := ⟨_, .there (.there .here), h⟩
theorem mem2 {α : Type} {a : α} {l : List α} {p0 p1 : α} : a ∈ p0 :: p1 :: a :: l := .tail _ (.tail _ (.head _))
theorem StI3 {l : Rho} {x : Str} {y : Option V} {d : V} {p0 p1 p2 : Str × Option V} {P : Rho → Prop} (h : P (p0 :: p1 :: p2 :: (x, some d) :: l)) : StoreIn (p0 :: p1 :: p2 :: (x, y) :: l) x d P := ⟨_, .there (.there (.there .here)), h⟩
theorem mem3 {α : Type} {a : α} {l : List α} {p0 p1 p2 : α} : a ∈ p0 :: p1 :: p2 :: a :: l := .tail _ (.tail _ (.tail _ (.head _)))
theorem StI4 {l : Rho} {x : Str} {y : Option V} {d : V} {p0 p1 p2 p3 : Str × Option V} {P : Rho → Prop} (h : P (p0 :: p1 :: p2 :: p3 :: (x, some d) :: l)) : StoreIn (p0 :: p1 :: p2 :: p3 :: (x, y) :: l) x d P := ⟨_, .there (.there (.there (.there .here))), h⟩
theorem mem4 {α : Type} {a : α} {l : List α} {p0 p1 p2 p3 : α} : a ∈ p0 :: p1 :: p2 :: p3 :: a :: l := .tail _ (.tail _ (.tail _ (.tail _ (.head _))))
theorem StI5 {l : Rho} {x : Str} {y : Option V} {d : V} {p0 p1 p2 p3 p4 : Str × Option V} {P : Rho → Prop} (h : P (p0 :: p1 :: p2 :: p3 :: p4 :: (x, some d) :: l)) : StoreIn (p0 :: p1 :: p2 :: p3 :: p4 :: (x, y) :: l) x d P := ⟨_, .there (.there (.there (.there (.there .here)))), h⟩
theorem mem5 {α : Type} {a : α} {l : List α} {p0 p1 p2 p3 p4 : α} : a ∈ p0 :: p1 :: p2 :: p3 :: p4 :: a :: l := .tail _ (.tail _ (.tail _ (.tail _ (.tail _ (.head _)))))
theorem StI6 {l : Rho} {x : Str} {y : Option V} {d : V} {p0 p1 p2 p3 p4 p5 : Str × Option V} {P : Rho → Prop} (h : P (p0 :: p1 :: p2 :: p3 :: p4 :: p5 :: (x, some d) :: l)) : StoreIn (p0 :: p1 :: p2 :: p3 :: p4 :: p5 :: (x, y) :: l) x d P := ⟨_, .there (.there (.there (.there (.there (.there .here))))), h⟩
theorem mem6 {α : Type} {a : α} {l : List α} {p0 p1 p2 p3 p4 p5 : α} : a ∈ p0 :: p1 :: p2 :: p3 :: p4 :: p5 :: a :: l := .tail _ (.tail _ (.tail _ (.tail _ (.tail _ (.tail _ (.head _))))))
theorem StI7 {l : Rho} {x : Str} {y : Option V} {d : V} {p0 p1 p2 p3 p4 p5 p6 : Str × Option V} {P : Rho → Prop} (h : P (p0 :: p1 :: p2 :: p3 :: p4 :: p5 :: p6 :: (x, some d) :: l)) : StoreIn (p0 :: p1 :: p2 :: p3 :: p4 :: p5 :: p6 :: (x, y) :: l) x d P := ⟨_, .there (.there (.there (.there (.there (.there (.there .here)))))), h⟩
theorem mem7 {α : Type} {a : α} {l : List α} {p0 p1 p2 p3 p4 p5 p6 : α} : a ∈ p0 :: p1 :: p2 :: p3 :: p4 :: p5 :: p6 :: a :: l := .tail _ (.tail _ (.tail _ (.tail _ (.tail _ (.tail _ (.tail _ (.head _)))))))
theorem StI8 {l : Rho} {x : Str} {y : Option V} {d : V} {p0 p1 p2 p3 p4 p5 p6 p7 : Str × Option V} {P : Rho → Prop} (h : P (p0 :: p1 :: p2 :: p3 :: p4 :: p5 :: p6 :: p7 :: (x, some d) :: l)) : StoreIn (p0 :: p1 :: p2 :: p3 :: p4 :: p5 :: p6 :: p7 :: (x, y) :: l) x d P := ⟨_, .there (.there (.there (.there (.there (.there (.there (.there .here))))))), h⟩
theorem mem8 {α : Type} {a : α} {l : List α} {p0 p1 p2 p3 p4 p5 p6 p7 : α} : a ∈ p0 :: p1 :: p2 :: p3 :: p4 :: p5 :: p6 :: p7 :: a :: l := .tail _ (.tail _ (.tail _ (.tail _ (.tail _ (.tail _ (.tail _ (.tail _ (.head _))))))))
theorem StI9 {l : Rho} {x : Str} {y : Option V} {d : V} {p0 p1 p2 p3 p4 p5 p6 p7 p8 : Str × Option V} {P : Rho → Prop} (h : P (p0 :: p1 :: p2 :: p3 :: p4 :: p5 :: p6 :: p7 :: p8 :: (x, some d) :: l)) : StoreIn (p0 :: p1 :: p2 :: p3 :: p4 :: p5 :: p6 :: p7 :: p8 :: (x, y) :: l) x d P := ⟨_, .there (.there (.there (.there (.there (.there (.there (.there (.there .here)))))))), h⟩
theorem mem9 {α : Type} {a : α} {l : List α} {p0 p1 p2 p3 p4 p5 p6 p7 p8 : α} : a ∈ p0 :: p1 :: p2 :: p3 :: p4 :: p5 :: p6 :: p7 :: p8 :: a :: l := .tail _ (.tail _ (.tail _ (.tail _ (.tail _ (.tail _ (.tail _ (.tail _ (.tail _ (.head _)))))))))
theorem StI10 {l : Rho} {x : Str} {y : Option V} {d : V} {p0 p1 p2 p3 p4 p5 p6 p7 p8 p9 : Str × Option V} {P : Rho → Prop} (h : P (p0 :: p1 :: p2 :: p3 :: p4 :: p5 :: p6 :: p7 :: p8 :: p9 :: (x, some d) :: l)) : StoreIn (p0 :: p1 :: p2 :: p3 :: p4 :: p5 :: p6 :: p7 :: p8 :: p9 :: (x, y) :: l) x d P := ⟨_, .there (.there (.there (.there (.there (.there (.there (.there (.there (.there .here))))))))), h⟩
theorem mem10 {α : Type} {a : α} {l : List α} {p0 p1 p2 p3 p4 p5 p6 p7 p8 p9 : α} : a ∈ p0 :: p1 :: p2 :: p3 :: p4 :: p5 :: p6 :: p7 :: p8 :: p9 :: a :: l := .tail _ (.tail _ (.tail _ (.tail _ (.tail _ (.tail _ (.tail _ (.tail _ (.tail _ (.tail _ (.head _))))))))))
theorem StI11 {l : Rho} {x : Str} {y : Option V} {d : V} {p0 p1 p2 p3 p4 p5 p6 p7 p8 p9 p10 : Str × Option V} {P : Rho → Prop} (h : P (p0 :: p1 :: p2 :: p3 :: p4 :: p5 :: p6 :: p7 :: p8 :: p9 :: p10 :: (x, some d) :: l)) : StoreIn (p0 :: p1 :: p2 :: p3 :: p4 :: p5 :: p6 :: p7 :: p8 :: p9 :: p10 :: (x, y) :: l) x d P := ⟨_, .there (.there (.there (.there (.there (.there (.there (.there (.there (.there (.there .here)))))))))), h⟩
theorem mem11 {α : Type} {a : α} {l : List α} {p0 p1 p2 p3 p4 p5 p6 p7 p8 p9 p10 : α} : a ∈ p0 :: p1 :: p2 :: p3 :: p4 :: p5 :: p6 :: p7 :: p8 :: p9 :: p10 :: a :: l := .tail _ (.tail _ (.tail _ (.tail _ (.tail _ (.tail _ (.tail _ (.tail _ (.tail _ (.tail _ (.tail _ (.head _)))))))))))
theorem StI12 {l : Rho} {x : Str} {y : Option V} {d : V} {p0 p1 p2 p3 p4 p5 p6 p7 p8 p9 p10 p11 : Str × Option V} {P : Rho → Prop} (h : P (p0 :: p1 :: p2 :: p3 :: p4 :: p5 :: p6 :: p7 :: p8 :: p9 :: p10 :: p11 :: (x, some d) :: l)) : StoreIn (p0 :: p1 :: p2 :: p3 :: p4 :: p5 :: p6 :: p7 :: p8 :: p9 :: p10 :: p11 :: (x, y) :: l) x d P := ⟨_, .there (.there (.there (.there (.there (.there (.there (.there (.there (.there (.there (.there .here))))))))))), h⟩
theorem mem12 {α : Type} {a : α} {l : List α} {p0 p1 p2 p3 p4 p5 p6 p7 p8 p9 p10 p11 : α} : a ∈ p0 :: p1 :: p2 :: p3 :: p4 :: p5 :: p6 :: p7 :: p8 :: p9 :: p10 :: p11 :: a :: l := .tail _ (.tail _ (.tail _ (.tail _ (.tail _ (.tail _ (.tail _ (.tail _ (.tail _ (.tail _ (.tail _ (.tail _ (.head _))))))))))))
theorem StI13 {l : Rho} {x : Str} {y : Option V} {d : V} {p0 p1 p2 p3 p4 p5 p6 p7 p8 p9 p10 p11 p12 : Str × Option V} {P : Rho → Prop} (h : P (p0 :: p1 :: p2 :: p3 :: p4 :: p5 :: p6 :: p7 :: p8 :: p9 :: p10 :: p11 :: p12 :: (x, some d) :: l)) : StoreIn (p0 :: p1 :: p2 :: p3 :: p4 :: p5 :: p6 :: p7 :: p8 :: p9 :: p10 :: p11 :: p12 :: (x, y) :: l) x d P := ⟨_, .there (.there (.there (.there (.there (.there (.there (.there (.there (.there (.there (.there (.there .here)))))))))))), h⟩
theorem mem13 {α : Type} {a : α} {l : List α} {p0 p1 p2 p3 p4 p5 p6 p7 p8 p9 p10 p11 p12 : α} : a ∈ p0 :: p1 :: p2 :: p3 :: p4 :: p5 :: p6 :: p7 :: p8 :: p9 :: p10 :: p11 :: p12 :: a :: l := .tail _ (.tail _ (.tail _ (.tail _ (.tail _ (.tail _ (.tail _ (.tail _ (.tail _ (.tail _ (.tail _ (.tail _ (.tail _ (.head _)))))))))))))
@[reducible] def Thn (W : Wd) (F : Fm) (rest : List Stmt) (Q : Fl → AHeap → Rho → Prop) : Fl → AHeap → Rho → Prop := fun f H₁ ρ₁ => match f with | .next => SP W F ρ₁ H₁ (execs rest F.env) Q | f => Q f H₁ ρ₁
section
variable {W : Wd} {F : Fm} {ρ : Rho} {H H' : AHeap} {s : Shared} {k₀ : Nat}
theorem SPc {Q : Fl → AHeap → Rho → Prop} {st : Stmt} {rest : List Stmt} (h : SP W F ρ H (exec st F.env) (Thn W F rest Q)) : SP W F ρ H (execs (st :: rest) F.env) Q := SP_cons h
theorem Thn_next {rest : List Stmt} {Q : Fl → AHeap → Rho → Prop} (h : SP W F ρ H (execs rest F.env) Q) : Thn W F rest Q .next H ρ := h
theorem Thn_ret {rest : List Stmt} {Q : Fl → AHeap → Rho → Prop} {d : V} (h : Q (.ret d) H ρ) : Thn W F rest Q (.ret d) H ρ := h
theorem Thn_brk {rest : List Stmt} {Q : Fl → AHeap → Rho → Prop} (h : Q .brk H ρ) : Thn W F rest Q .brk H ρ := h
theorem Thn_cont {rest : List Stmt} {Q : Fl → AHeap → Rho → Prop} (h : Q .cont H ρ) : Thn W F rest Q .cont H ρ := h
theorem LpQ_next {J : AHeap → Rho → Prop} {Q : Fl → AHeap → Rho → Prop} (h : J H ρ) : LpQ J Q .next H ρ := h
theorem LpQ_cont {J : AHeap → Rho → Prop} {Q : Fl → AHeap → Rho → Prop} (h : J H ρ) : LpQ J Q .cont H ρ := h
theorem LpQ_brk {J : AHeap → Rho → Prop} {Q : Fl → AHeap → Rho → Prop} (h : Q .next H ρ) : LpQ J Q .brk H ρ := h
theorem LpQ_ret {J : AHeap → Rho → Prop} {Q : Fl → AHeap → Rho → Prop} {d : V} (h : Q (.ret d) H ρ) : LpQ J Q (.ret d) H ρ := h
theorem bodyQ_ret {Q : V → AHeap → Prop} {d : V} (h : Q d H) : bodyQ Q (.ret d) H ρ := h
theorem bodyQ_next {Q : V → AHeap → Prop} (h : Q .none H) : bodyQ Q .next H ρ := h
theorem SPfor {Q : Fl → AHeap → Rho → Prop} {x : Str} {xpos pos : Pos} {iter : Expr} {body : List Stmt} (ok : F.Ok W k₀) (J : Nat → AHeap → Rho → Prop) (xs : List V)
    (h : EP W F ρ H (eval iter F.env) (fun d H₁ => ItP W F.A d H₁ xs ∧ J 0 H₁ ρ))
    (turn : ∀ i d H₁ ρ₁, xs[i]? = some d → J i H₁ ρ₁ → StoreIn ρ₁ x d (fun ρ₂ => SP W (F.inn W) ρ₂ H₁ (execs body F.env) (LpQ (J (i + 1)) Q)))
    (fin : ∀ H₁ ρ₁, J xs.length H₁ ρ₁ → Q .next H₁ ρ₁)
    (hs : ∀ x, foldedSetIterable iter F.env x = pure x := by intro _; rfl) :
    SP W F ρ H (exec (.For (.Name x xpos) iter body [] pos) F.env) Q :=
  SP_forX ok (EP.mono h fun d H₁ o => ⟨J, xs, o.1, o.2, turn, fin⟩) hs
theorem SPwhile {Q : Fl → AHeap → Rho → Prop} {t : Expr} {body : List Stmt} {pos : Pos} (I : Nat → AHeap → Rho → Prop) (n₀ : Nat) (h0 : I n₀ H ρ)
    (turn : ∀ n H₁ ρ₁, I n H₁ ρ₁ → TP W (F.inn W) ρ₁ H₁ (isTrue t F.env (eval t F.env)) (fun b H₂ => (b = true → SP W (F.inn W) ρ₁ H₂ (execs body F.env) (LpQ (fun H₃ ρ₃ => ∃ m, m < n ∧ I m H₃ ρ₃) Q)) ∧ (b = false → Q .next H₂ ρ₁))) :
    SP W F ρ H (exec (.While t body [] pos) F.env) Q := SP_while I n₀ h0 turn

variable {Q : V → AHeap → Prop}
theorem EPbool {op : BoolOp} {es : List Expr} {pos : Pos} (h : EP W F ρ H (boolOp pos op (evalEach es F.env)) Q) : EP W F ρ H (eval (.BoolOp op es pos) F.env) Q := h
theorem EPand {e e' : Expr} {rest : List Expr} {pos : Pos} (h : EP W F ρ H (eval e F.env) (fun d H₁ => OT W F d H₁ (fun b H₂ => (b = true → EP W F ρ H₂ (boolOp pos .And (evalEach (e' :: rest) F.env)) Q) ∧ (b = false → Q d H₂)))) :
    EP W F ρ H (boolOp pos .And (evalEach (e :: e' :: rest) F.env)) Q := EP_and_more h
theorem EPor {e e' : Expr} {rest : List Expr} {pos : Pos} (h : EP W F ρ H (eval e F.env) (fun d H₁ => OT W F d H₁ (fun b H₂ => (b = false → EP W F ρ H₂ (boolOp pos .Or (evalEach (e' :: rest) F.env)) Q) ∧ (b = true → Q d H₂)))) :
    EP W F ρ H (boolOp pos .Or (evalEach (e :: e' :: rest) F.env)) Q := EP_or_more h
theorem EPlast {op : BoolOp} {e : Expr} {pos : Pos} (h : EP W F ρ H (eval e F.env) Q) : EP W F ρ H (boolOp pos op (evalEach [e] F.env)) Q := h
end
noncomputable def exq : Expr → Const × List Expr × Nat × Pos
  | .Constant c k p => (c, [], k, p)
  | .Tuple es k p => (.none, es, k, p)
  | .UnaryOp _ e p => (.none, [e], 0, p)
  | e => (.none, [], 0, e.pos)
noncomputable def cstr : Const → Str
  | .str x => x
  | _ => Str.ofString ""
noncomputable def cint : Const → Int
  | .int n => n
  | _ => 0
theorem br_t {p q A B : Prop} (n : ¬ q) (h : A) : (p → A) ∧ (q → B) := ⟨fun _ => h, fun x => absurd x n⟩
theorem br_f {p q A B : Prop} (n : ¬ p) (h : B) : (p → A) ∧ (q → B) := ⟨fun x => absurd x n, fun _ => h⟩
section
variable {W : Wd} {F : Fm} {ρ : Rho} {H : AHeap} {k₀ j : Nat} {x y : Str} {a b : Int} {u v : Str} {p₁ p₂ p₃ : Pos} {whole : Sem Value} {Q : Bool → AHeap → Prop}
theorem TP_cmpL {op : CmpOp} {e₂ : Expr} {d : V} (ok : F.Ok W k₀) (hm : (x, some d) ∈ ρ) (h : EP W F ρ H (eval e₂ F.env) (fun b H₂ => OP2 W F (compareOp op) d b H₂ (fun d H₃ => OT W F d H₃ Q))) (hs : behindInMarks op e₂ = false := by with_unfolding_all rfl) :
    TP W F ρ H (isTrue (.Compare (.Name x p₁) [op] [e₂] p₂) F.env whole) Q := TP_cmp (EP_local ok hm h) hs
theorem TP_eqLS (ok : F.Ok W k₀) (hm : (x, some (.str u)) ∈ ρ) (q : Q (u == v) H) : TP W F ρ H (isTrue (.Compare (.Name x p₁) [.Eq] [.Constant (.str v) j p₂] p₃) F.env whole) Q := TP_cmpL ok hm (EP_str (op_eq_str (ot_bool q)))
theorem TP_neLS (ok : F.Ok W k₀) (hm : (x, some (.str u)) ∈ ρ) (q : Q (u != v) H) : TP W F ρ H (isTrue (.Compare (.Name x p₁) [.NotEq] [.Constant (.str v) j p₂] p₃) F.env whole) Q := TP_cmpL ok hm (EP_str (op_ne_str (ot_bool q)))
theorem TP_eqLI (ok : F.Ok W k₀) (hm : (x, some (.int a)) ∈ ρ) (q : Q (a == b) H) : TP W F ρ H (isTrue (.Compare (.Name x p₁) [.Eq] [.Constant (.int b) j p₂] p₃) F.env whole) Q := TP_cmpL ok hm (EP_int (op_eq_int (ot_bool q)))
theorem TP_ltLI (ok : F.Ok W k₀) (hm : (x, some (.int a)) ∈ ρ) (q : Q (decide (a < b)) H) : TP W F ρ H (isTrue (.Compare (.Name x p₁) [.Lt] [.Constant (.int b) j p₂] p₃) F.env whole) Q := TP_cmpL ok hm (EP_int (op_lt_int (ot_bool q)))
theorem TP_gtLI (ok : F.Ok W k₀) (hm : (x, some (.int a)) ∈ ρ) (q : Q (decide (b < a)) H) : TP W F ρ H (isTrue (.Compare (.Name x p₁) [.Gt] [.Constant (.int b) j p₂] p₃) F.env whole) Q := TP_cmpL ok hm (EP_int (op_gt_int (ot_bool q)))
theorem TP_geLI (ok : F.Ok W k₀) (hm : (x, some (.int a)) ∈ ρ) (q : Q (decide (b ≤ a)) H) : TP W F ρ H (isTrue (.Compare (.Name x p₁) [.GtE] [.Constant (.int b) j p₂] p₃) F.env whole) Q := TP_cmpL ok hm (EP_int (op_ge_int (ot_bool q)))
theorem TP_eqIL (ok : F.Ok W k₀) (hm : (y, some (.int b)) ∈ ρ) (q : Q (decide (a ≤ b)) H) : TP W F ρ H (isTrue (.Compare (.Constant (.int a) j p₁) [.LtE] [.Name y p₂] p₃) F.env whole) Q := TP_cmp (EP_int (EP_local ok hm (op_le_int (ot_bool q))))
theorem SP_ifc {t : Expr} {body orelse rest : List Stmt} {pos : Pos} {Q : Fl → AHeap → Rho → Prop}
    (h : TP W F ρ H (isTrue t F.env (eval t F.env)) (fun b H' => (b = true → SP W F ρ H' (execs body F.env) (Thn W F rest Q)) ∧ (b = false → SP W F ρ H' (execs orelse F.env) (Thn W F rest Q)))) :
    SP W F ρ H (execs (.If t body orelse pos :: rest) F.env) Q := SPc (SP_if h)
theorem NP_loc {rest : List Expr} {pos : Pos} {d : V} {Q : List V → AHeap → Prop} (ok : F.Ok W k₀) (hm : (x, some d) ∈ ρ) (h : NP W F ρ H (spliced (backTo pos (starEach rest F.env))) (fun ds H₂ => Q (d :: ds) H₂)) :
    NP W F ρ H (spliced (backTo pos (starEach (.Name x p₁ :: rest) F.env))) Q := NP_cons (EP_local ok hm h) rfl
theorem SP_eqT {body orelse rest : List Stmt} {pos : Pos} {Q : Fl → AHeap → Rho → Prop} (ok : F.Ok W k₀) (hm : (x, some (.str u)) ∈ ρ) (h : (u == v) = true) (q : SP W F ρ H (execs body F.env) (Thn W F rest Q)) :
    SP W F ρ H (execs (.If (.Compare (.Name x p₁) [.Eq] [.Constant (.str v) j p₂] p₃) body orelse pos :: rest) F.env) Q := SP_ifc (TP_eqLS ok hm ⟨fun _ => q, fun e => absurd (h.symm.trans e) (by decide)⟩)
theorem SP_eqF {body orelse rest : List Stmt} {pos : Pos} {Q : Fl → AHeap → Rho → Prop} (ok : F.Ok W k₀) (hm : (x, some (.str u)) ∈ ρ) (h : (u == v) = false) (q : SP W F ρ H (execs orelse F.env) (Thn W F rest Q)) :
    SP W F ρ H (execs (.If (.Compare (.Name x p₁) [.Eq] [.Constant (.str v) j p₂] p₃) body orelse pos :: rest) F.env) Q := SP_ifc (TP_eqLS ok hm ⟨fun e => absurd (h.symm.trans e) (by decide), fun _ => q⟩)
theorem SP_eqF0 {body rest : List Stmt} {pos : Pos} {Q : Fl → AHeap → Rho → Prop} (ok : F.Ok W k₀) (hm : (x, some (.str u)) ∈ ρ) (h : (u == v) = false) (q : SP W F ρ H (execs rest F.env) Q) :
    SP W F ρ H (execs (.If (.Compare (.Name x p₁) [.Eq] [.Constant (.str v) j p₂] p₃) body [] pos :: rest) F.env) Q := SP_eqF ok hm h (SP_nil q)
section
variable {v₁ v₂ v₃ : Str} {j₁ j₂ j₃ : Nat} {q₁ q₂ q₃ q₄ q₅ q₆ q₇ q₈ q₉ pos : Pos} {body orelse rest : List Stmt} {Q : Fl → AHeap → Rho → Prop}
theorem SP_or2T (ok : F.Ok W k₀) (hm : (x, some (.str u)) ∈ ρ) (h : ((u == v₁) || (u == v₂)) = true) (q : SP W F ρ H (execs body F.env) (Thn W F rest Q)) :
    SP W F ρ H (execs (.If (.BoolOp .Or [(.Compare (.Name x q₁) [.Eq] [.Constant (.str v₁) j₁ q₂] q₃), (.Compare (.Name x q₄) [.Eq] [.Constant (.str v₂) j₂ q₅] q₆)] p₁) body orelse pos :: rest) F.env) Q :=
  SP_ifc (TP_boolop (TP_or_cons (TP_eqLS ok hm ⟨fun _ => br_t (by decide) q, fun e => TP_or_cons (TP_eqLS ok hm ⟨fun _ => br_t (by decide) q, fun e' => by rw [e, e'] at h; cases h⟩)⟩)))
theorem SP_or2F (ok : F.Ok W k₀) (hm : (x, some (.str u)) ∈ ρ) (h : ((u == v₁) || (u == v₂)) = false) (q : SP W F ρ H (execs orelse F.env) (Thn W F rest Q)) :
    SP W F ρ H (execs (.If (.BoolOp .Or [(.Compare (.Name x q₁) [.Eq] [.Constant (.str v₁) j₁ q₂] q₃), (.Compare (.Name x q₄) [.Eq] [.Constant (.str v₂) j₂ q₅] q₆)] p₁) body orelse pos :: rest) F.env) Q :=
  have h := Bool.or_eq_false_iff.mp h
  SP_ifc (TP_boolop (TP_or_cons (TP_eqLS ok hm ⟨fun e => absurd (h.1.symm.trans e) (by decide), fun _ => TP_or_cons (TP_eqLS ok hm ⟨fun e => absurd (h.2.symm.trans e) (by decide), fun _ => TP_or_nil (br_f (by decide) q)⟩)⟩)))
theorem SP_or3T (ok : F.Ok W k₀) (hm : (x, some (.str u)) ∈ ρ) (h : ((u == v₁) || ((u == v₂) || (u == v₃))) = true) (q : SP W F ρ H (execs body F.env) (Thn W F rest Q)) :
    SP W F ρ H (execs (.If (.BoolOp .Or [(.Compare (.Name x q₁) [.Eq] [.Constant (.str v₁) j₁ q₂] q₃), (.Compare (.Name x q₄) [.Eq] [.Constant (.str v₂) j₂ q₅] q₆), (.Compare (.Name x q₇) [.Eq] [.Constant (.str v₃) j₃ q₈] q₉)] p₁) body orelse pos :: rest) F.env) Q :=
  SP_ifc (TP_boolop (TP_or_cons (TP_eqLS ok hm ⟨fun _ => br_t (by decide) q, fun e => TP_or_cons (TP_eqLS ok hm ⟨fun _ => br_t (by decide) q, fun e' => TP_or_cons (TP_eqLS ok hm ⟨fun _ => br_t (by decide) q, fun e'' => by rw [e, e', e''] at h; cases h⟩)⟩)⟩)))
theorem SP_or3F (ok : F.Ok W k₀) (hm : (x, some (.str u)) ∈ ρ) (h : ((u == v₁) || ((u == v₂) || (u == v₃))) = false) (q : SP W F ρ H (execs orelse F.env) (Thn W F rest Q)) :
    SP W F ρ H (execs (.If (.BoolOp .Or [(.Compare (.Name x q₁) [.Eq] [.Constant (.str v₁) j₁ q₂] q₃), (.Compare (.Name x q₄) [.Eq] [.Constant (.str v₂) j₂ q₅] q₆), (.Compare (.Name x q₇) [.Eq] [.Constant (.str v₃) j₃ q₈] q₉)] p₁) body orelse pos :: rest) F.env) Q :=
  have h := Bool.or_eq_false_iff.mp h
  have h' := Bool.or_eq_false_iff.mp h.2
  SP_ifc (TP_boolop (TP_or_cons (TP_eqLS ok hm ⟨fun e => absurd (h.1.symm.trans e) (by decide), fun _ => TP_or_cons (TP_eqLS ok hm ⟨fun e => absurd (h'.1.symm.trans e) (by decide), fun _ => TP_or_cons (TP_eqLS ok hm ⟨fun e => absurd (h'.2.symm.trans e) (by decide), fun _ => TP_or_nil (br_f (by decide) q)⟩)⟩)⟩)))
end
theorem SP_ieqB {body rest : List Stmt} {pos : Pos} {Q : Fl → AHeap → Rho → Prop} (ok : F.Ok W k₀) (hm : (x, some (.int a)) ∈ ρ) (h : SP W F ρ H (execs body F.env) (Thn W F rest Q)) (q : SP W F ρ H (execs rest F.env) Q) :
    SP W F ρ H (execs (.If (.Compare (.Name x p₁) [.Eq] [.Constant (.int b) j p₂] p₃) body [] pos :: rest) F.env) Q := SP_ifc (TP_eqLI ok hm ⟨fun _ => h, fun _ => SP_nil q⟩)
theorem SP_app {c : Addr} {l : List V} {e : Expr} {rest : List Stmt} {pos : Pos} {Q : Fl → AHeap → Rho → Prop} (ok : F.Ok W k₀) (hm : (x, some (.ref c)) ∈ ρ) (ha : (c, O.list l) ∈ H)
    (h : EP W F ρ H (eval e F.env) (fun d H₁ => ∃ l', (c, O.list l') ∈ H₁ ∧ l'.length ≤ 2 ^ 20 ∧ ∃ H', Put c (.list (l' ++ [d])) H₁ H' ∧ SP W F ρ H' (execs rest F.env) Q))
    (he : starEach [e] F.env = (false, eval e F.env) :: starEach [] F.env := by rfl) {pl : Sem Bool}
    (hc : eval (.Call (.Attribute (.Name x p₁) (Str.ofString "append") p₂) [e] [] p₃) F.env = (do
      let ov ← eval (.Name x p₁) F.env
      standAt p₂.atName
      let (f, first) ← holding [ov] (getMethod ov (Str.ofString "append") pl)
      callWith p₃ f first (backTo p₃ (starEach [e] F.env)) []) := by rfl) :
    SP W F ρ H (execs (.Expr (.Call (.Attribute (.Name x p₁) (Str.ofString "append") p₂) [e] [] p₃) pos :: rest) F.env) Q :=
  SPc (SP_expr ok (EP_meth (id := "list.append") (EP_local ok hm ⟨meth_list ha PySem.F.slot_list_append PySem.F.type_list_append, NP_cons (EP.mono h fun d H₁ o => eaa o fun l' h1 h2 o => ea o fun H' u q => NP_nil (op_append h1 h2 u ⟨trivial, q⟩)) he⟩) hc he rfl) rfl)
end
end Mine
namespace Mine
open PySem PySem.W PyProof.Rows PySem.Calls

noncomputable def RawAt (h : Heap) (d : Addr) (es : Array DictEntry) (ep : Nat) : Prop := ∃ o, h.get? d = some o ∧ o.cls = .type "dict" ∧ o.data = .dict es ep
theorem RawAt.at_ {h h' : Heap} {d : Addr} {es : Array DictEntry} {ep : Nat} (x : RawAt h d es ep) (e : ∀ o, h.get? d = some o → h'.get? d = some o) : RawAt h' d es ep := let ⟨o, ho, r⟩ := x; ⟨o, e _ ho, r⟩
section
variable {prog : Program} {w : World} {A : Around} {E : Value → Shared → Prop} {s : Shared}
theorem iter_raw {d : Addr} {es : Array DictEntry} {ep : Nat} {Q : Value → Shared → Prop} (hd : (d == sysModules) = false) (hm : RawAt s.heap d es ep)
    (hQ : Q (.ref s.heap.objs.size) { s with heap := s.heap.push { cls := .type "dict_keyiterator", data := .fields #[.ref d, .int 0 0, .int es.size 0, .int ep 0] } }) : wpAny (model prog w) A (pyIter (.ref d)) Q E s := by
  obtain ⟨o, ho, hc, hdat⟩ := id hm
  have hT : s.TypeIs (.ref d) "dict" := ⟨o, ho, hc⟩
  refine wpAny_pyIter_slot hT PySem.F.slot_dict_iter (wpAny_call_entry PySem.F.slot_dict_iter hT PySem.F.entry_dict_iter ?_ (PySem.F.args_dict_iter_1 _))
  unfold Builtin.«dict.__iter__»
  refine wpAny_bind ?_
  unfold Builtin.Dict.dictSlotNone
  refine wpAny_bind (wpAny_notOrdered_dict hT ?_)
  show wpAny _ _ (pure (Value.ref d)) _ _ s
  refine wpAny_pure ?_
  show wpAny _ _ (Builtin.Dict.showsAll d >>= _) _ _ s
  unfold Builtin.Dict.showsAll
  rw [if_neg (by rw [hd]; exact Bool.false_ne_true)]
  refine wpAny_bind (wpAny_pure ?_)
  refine wpAny_bind (wpAny_dictEntries ho hdat ?_)
  refine wpAny_bind (wpAny_dictEpoch ho hdat ?_)
  refine wpAny_bind (wpAny_newObj_type (wpAny_pure ⟨_, rfl, "dict_keyiterator", _, ⟨_, Heap.get?_push_size _ rfl, rfl⟩, PySem.F.slot_dict_keyiterator_next.lookup, ?_⟩))
  simpa [rawInt] using hQ
theorem next_raw {it d : Addr} {i ep : Nat} {es : Array DictEntry} {e : DictEntry} {Q : Option Value → Shared → Prop} (hit : s.heap.IsKeyIter it d i es.size ep) (hm : RawAt s.heap d es ep) (hx : es[i]? = some e)
    (hQ : ∀ h', h'.IsKeyIter it d (i + 1) es.size ep → Heap.SameBut it s.heap h' → Q (some e.key) { s with heap := h' }) : wpAny (model prog w) A (pyNext (.ref it)) Q E s := by
  obtain ⟨o, ho, hc, hd⟩ := id hit
  obtain ⟨od, hod, hcd, hdd⟩ := id hm
  unfold pyNext
  refine wpAny_bind (wpAny_attempt (wpAny_callSpecial?_slot (name := Str.ofString "__next__") hit.typeIs PySem.F.slot_dict_keyiterator_next
    (wpAny_call_entry PySem.F.slot_dict_keyiterator_next hit.typeIs PySem.F.entry_dict_keyiterator_next ?_ (PySem.F.args_dict_keyiterator_next_1 _))))
  refine wpAny_bind (wpAny_pure ?_)
  refine wpAny_bind ?_
  refine wpAny_bind ?_
  first | refine wpAny_bind (wpAny_typeNameOfWhole_keyiter hit.typeIs (wpAny_pure ?_)) | refine wpAny_bind (wpAny_typeNameOf_keyiter hit.typeIs (wpAny_pure ?_))
  refine wpAny_bind (wpAny_fieldsOf ho hd ?_)
  have hown : Builtin.Dict_items.ownsTuple "dict_keyiterator" = false := by decide
  rw [hown, if_neg Bool.false_ne_true]
  show wpAny _ _ (if (Value.ref d == Value.none) = true then _ else _) _ _ s
  rw [if_neg (show ¬ ((Value.ref d == Value.none) = true) from Bool.false_ne_true)]
  refine wpAny_bind (wpAny_pure ?_)
  refine wpAny_bind (wpAny_dictEntries hod hdd ?_)
  rw [if_neg (by simp)]
  refine wpAny_bind (wpAny_pure ?_)
  refine wpAny_bind (wpAny_dictEpoch hod hdd ?_)
  rw [if_neg (by simp)]
  refine wpAny_pure ?_
  conv => arg 3; whnf
  rw [if_neg (show ¬ ((i : Int) < 0) from by lia), Int.toNat_natCast, hx]
  refine wpAny_bind ?_
  first | refine wpAny_bind (wpAny_typeNameOfWhole_keyiter hit.typeIs (wpAny_pure ?_)) | refine wpAny_bind (wpAny_typeNameOf_keyiter hit.typeIs (wpAny_pure ?_))
  refine wpAny_bind (wpAny_isOneOf_keyiter hit.typeIs ?_)
  show wpAny _ _ (setField (.ref it) 1 (rawInt ((i : Int) + 1)) >>= _) _ _ s
  refine wpAny_bind (wpAny_setField ho hd (by simp) ?_)
  have hit' : (s.heap.update it (Obj.mapFields (·.setIfInBounds 1 (rawInt ((i : Int) + 1))))).IsKeyIter it d (i + 1) es.size ep :=
    ⟨_, Heap.get?_update_self _ ho (Obj.isFreed_of_fields (Obj.data_mapFields hd _)), (Obj.cls_mapFields ..).trans hc, by rw [Obj.data_mapFields hd]; simp [rawInt]⟩
  refine wpAny_bind (wpAny_holding ?_)
  refine wpAny_bind (wpAny_isOneOf_keyiter (s := { s with heap := s.heap.update it (Obj.mapFields (·.setIfInBounds 1 (rawInt ((i : Int) + 1)))) }) hit'.typeIs ?_)
  show wpAny _ _ (pure e.key) _ _ _
  exact wpAny_pure (wpAny_pure ⟨_, rfl, wpAny_pure (hQ _ hit' (Heap.SameBut.update ..))⟩)
theorem end_raw {it d : Addr} {ep : Nat} {es : Array DictEntry} {Q : Option Value → Shared → Prop} (hh : A.handled = none) (hit : s.heap.IsKeyIter it d es.size es.size ep) (hm : RawAt s.heap d es ep)
    (hQ : ∀ h', Heap.ExtBut it s.heap h' → Q none { s with heap := h' }) : wpAny (model prog w) A (pyNext (.ref it)) Q E s := by
  obtain ⟨o, ho, hc, hd⟩ := id hit
  obtain ⟨od, hod, hcd, hdd⟩ := id hm
  unfold pyNext
  refine wpAny_bind (wpAny_attempt (wpAny_callSpecial?_slot (name := Str.ofString "__next__") hit.typeIs PySem.F.slot_dict_keyiterator_next
    (wpAny_call_entry PySem.F.slot_dict_keyiterator_next hit.typeIs PySem.F.entry_dict_keyiterator_next ?_ (PySem.F.args_dict_keyiterator_next_1 _))))
  refine wpAny_bind (wpAny_pure ?_)
  refine wpAny_bind ?_
  refine wpAny_bind ?_
  first | refine wpAny_bind (wpAny_typeNameOfWhole_keyiter hit.typeIs (wpAny_pure ?_)) | refine wpAny_bind (wpAny_typeNameOf_keyiter hit.typeIs (wpAny_pure ?_))
  refine wpAny_bind (wpAny_fieldsOf ho hd ?_)
  have hown : Builtin.Dict_items.ownsTuple "dict_keyiterator" = false := by decide
  rw [hown, if_neg Bool.false_ne_true]
  show wpAny _ _ (if (Value.ref d == Value.none) = true then _ else _) _ _ s
  rw [if_neg (show ¬ ((Value.ref d == Value.none) = true) from Bool.false_ne_true)]
  refine wpAny_bind (wpAny_pure ?_)
  refine wpAny_bind (wpAny_dictEntries hod hdd ?_)
  rw [if_neg (by simp)]
  refine wpAny_bind (wpAny_pure ?_)
  refine wpAny_bind (wpAny_dictEpoch hod hdd ?_)
  rw [if_neg (by simp)]
  refine wpAny_pure ?_
  conv => arg 3; whnf
  rw [if_neg (show ¬ ((es.size : Int) < 0) from by lia), Int.toNat_natCast, Array.getElem?_eq_none (Nat.le_refl es.size)]
  refine wpAny_bind ?_
  first | refine wpAny_bind (wpAny_typeNameOfWhole_keyiter hit.typeIs (wpAny_pure ?_)) | refine wpAny_bind (wpAny_typeNameOf_keyiter hit.typeIs (wpAny_pure ?_))
  show wpAny _ _ (setField (.ref it) 0 .none >>= _) _ _ s
  refine wpAny_bind (wpAny_setField ho hd (by simp) ?_)
  show wpAny _ _ (newExc (.type "StopIteration") [] >>= _) _ _ _
  refine wpAny_bind ?_
  unfold newExc newTuple
  refine wpAny_bind (wpAny_newObj_type ?_ (by size_fits))
  refine wpAny_bind (m := firstArgMember _ _) (wpAny_of_eq (a := Value.none) (by first | rfl | (simp only [firstArgMember]; rfl)) ?_)
  refine wpAny_newObj_type ?_ (by size_fits)
  unfold raiseNew
  refine wpAny_bind (wpAny_handled ?_)
  rw [show A.in1.handled = none from hh]
  refine wpAny_bind (wpAny_pure (wpAny_throw ?_))
  refine wpAny_bind (wpAny_isInstance (T := "StopIteration") (b := true) ⟨_, Heap.get?_push_size _ rfl, rfl⟩ isSubtype_stop ?_)
  exact wpAny_pure (hQ _ (((Heap.SameBut.update ..).extBut.push _).push _))
theorem Walks.raw (hh : A.handled = none) (I d : Addr) (hne : d ≠ I) (es : Array DictEntry) (ep : Nat) :
    Walks prog w A I [I, d] [I] es.size (fun i v => ∃ e, es[i]? = some e ∧ v = e.key) (fun i h => h.IsKeyIter I d i es.size ep ∧ RawAt h d es ep) where
  sub := fun b hb => by simp at hb; simp [hb]
  frame := fun _ _ _ st hk => ⟨st.1.at fun o e => hk I (by simp) o e, st.2.at_ fun o e => hk d (by simp) o e⟩
  item := fun i s Q E hi st hQ => by
    refine next_raw st.1 st.2 (e := es[i]) (by simp [hi]) fun h' hit' hs' => ?_
    exact hQ _ h' s.toks ⟨_, by simp [hi], rfl⟩ ⟨hit', st.2.at_ fun o e => (hs'.2 d hne).trans e⟩ fun b o hb e => hs'.extBut b o (fun h => hb (by simp [h])) e
  done := fun s Q E st hQ  => end_raw hh st.1 st.2 fun h' he' => hQ h' s.toks fun b o hb e => he' b o (fun h => hb (by simp [h])) e
  self := fun _ _ _ _ st hQ => wpAny_pyIter_keyiter st.1 hQ
end
section
variable {W : Wd} {A : Around} {H : AHeap} {s : Shared}
theorem itRaw {a : Addr} {es : Array DictEntry} {ep : Nat} {xs : List V} {P : Value → Shared → Prop} {E : Value → Shared → Prop} (hA : A.handled = none) (S : W.St H s) (n : a ∉ dom H) (nm : (a == sysModules) = false) (x : RawAt s.heap a es ep) (hlen : es.size = xs.length)
    (hP : ∀ (i : Nat) (e : DictEntry), es[i]? = some e → ∃ d, xs[i]? = some d ∧ W.Rep (dom H) s.heap e.key d) (h : ∀ it s₂, WalkD W A H s xs it s₂ → P it s₂) : wpAny W.M A (pyIter (.ref a)) P E s := by
  obtain ⟨o, ho, hc, hd⟩ := id x
  have hne : a ≠ s.heap.objs.size := Nat.ne_of_lt (Heap.lt_size ho)
  refine iter_raw nm x (h _ _ ⟨_, [s.heap.objs.size, a], [s.heap.objs.size], (fun i v => ∃ e : DictEntry, es[i]? = some e ∧ v = e.key), (fun i h => h.IsKeyIter s.heap.objs.size a i xs.length ep ∧ RawAt h a es ep), rfl, hlen ▸ Walks.raw hA _ a hne es ep, ⟨⟨_, Heap.get?_push_size _ rfl, rfl, by rw [hlen]; rfl⟩, x.at_ fun o e => push_keep _ _ _ _ e⟩, fun b hb => ?_, fun b hb => ?_, fun b hb i h st => ?_, fun b hb => ?_, fun i v ⟨e, he, hv⟩ => ?_, S.grow (push_keep _ _), Kp.grow (push_keep _ _)⟩)
  · simp only [List.mem_singleton] at hb; subst hb
    refine ⟨get_size _, fun i h ob st e => ?_⟩
    obtain ⟨⟨o', e', c', _⟩, _⟩ := st
    rw [e'] at e; cases e; rw [c']; simp [PureCls]
  · simp only [List.mem_cons, List.not_mem_nil, or_false] at hb
    rcases hb with rfl | rfl
    · exact S.fresh (get_size _)
    · exact n
  · obtain ⟨⟨o', e', c', _⟩, ⟨o'', e'', _⟩⟩ := st
    simp only [List.mem_cons, List.not_mem_nil, or_false] at hb
    rcases hb with rfl | rfl
    · exact ⟨_, e'⟩
    · exact ⟨_, e''⟩
  · simp only [List.mem_cons, List.not_mem_nil, or_false] at hb
    rcases hb with rfl | rfl
    · exact .inl (get_size _)
    · exact .inr ⟨_, ho, .inr (.inl hc)⟩
  · obtain ⟨d, h1, h2⟩ := hP i e he
    exact ⟨d, h1, hv ▸ h2⟩
theorem IntsOf.get {K : Type} {kvs : List (K × Value)} {l : List (K × Int)} (x : IntsOf kvs l) {i : Nat} {p : K × Value} (e : kvs[i]? = some p) : ∃ x, l[i]? = some (p.1, x) :=
  (All2.get x e).elim fun b o => ⟨b.2, o.2.1 ▸ o.1⟩
theorem IntsOf.length {K : Type} {kvs : List (K × Value)} {l : List (K × Int)} (x : IntsOf kvs l) : kvs.length = l.length := All2.length x
theorem ItP_idd {l : List (Int × Int)} (hA : A.handled = none) : ItP W A (.idd l) H (l.map fun p => V.int p.1) := fun E s v S r P h => by
  refine Rep.idd_elim r (fun _ _ n nm x rs => ?_)
  obtain ⟨o, es, ep, ho, hc, hd, hk, hp, hn⟩ := x
  have hl := hp.length
  rw [Array.length_toList] at hl
  refine itRaw hA S n nm ⟨o, ho, hc.1, hd⟩ (by rw [hl, rs.length, List.length_map]) (fun i e he => ?_) h
  have hi : i < es.size := by
    rcases Nat.lt_or_ge i es.size with h | h
    · exact h
    · rw [Array.getElem?_eq_none h] at he; cases he
  obtain ⟨kv, hkv⟩ : ∃ kv, (_ : List (Int × Value))[i]? = some kv := ⟨_, List.getElem?_eq_getElem (by rw [← hl]; exact hi)⟩
  obtain ⟨h1, h2⟩ := hp.get? (e := e) (by rw [Array.getElem?_toList]; exact he) hkv
  obtain ⟨x, hx⟩ := rs.get hkv
  obtain ⟨t, ht⟩ : ∃ t, e.key = .int kv.1 t := by
    have h1' : Value.isInt kv.1 e.key = true := h1
    cases hk : e.key <;> rw [hk] at h1' <;> simp [Value.isInt] at h1'
    subst h1'; exact ⟨_, rfl⟩
  exact ⟨.int kv.1, by rw [List.getElem?_map, hx]; rfl, ht ▸ Mine.Rep.int _ _⟩
theorem key_rep {D : List Addr} {h : Heap} {ks : List Int} {a : Addr} (n : a ∉ D) (x : IsTupleKey (intKind W.prog W.w) h ks a) : W.Rep D h (.ref a) (.tup (ks.map V.int)) := by
  obtain ⟨o, items, m, ho, hc, hd, hi⟩ := x
  have : ∀ {ks : List Int} {vs : List Value}, ItemsAre (intKind W.prog W.w) ks vs → W.Reps D h vs (ks.map V.int) := by
    intro ks vs x
    induction x with
    | nil => exact .nil
    | @cons k v ks vs h1 _ ih =>
      have h1' : Value.isInt k v = true := h1
      cases v <;> simp [Value.isInt] at h1'
      subst h1'
      exact .cons (.int _ _) ih
  exact .tup (vs := items.toList) n ⟨o, ho, hc, m, by rw [hd]⟩ (this hi)
theorem ItP_tdd {l : List (List Int × Int)} (hA : A.handled = none) : ItP W A (.tdd l) H (l.map fun p => V.tup (p.1.map V.int)) := fun E s v S r P h => by
  refine Rep.tdd_elim r (fun a xs n nm x hk rs => ?_)
  obtain ⟨o, es, ep, ho, hc, hd, he, his, hn⟩ := x
  have hl : es.size = xs.length := by rw [← Array.length_toList, he, List.length_map]
  have hl2 := rs.length
  rw [List.length_map] at hl2
  refine itRaw hA S n nm ⟨o, ho, hc.1, hd⟩ (by rw [hl, hl2, List.length_map]) (fun i e hie => ?_) h
  rw [← Array.getElem?_toList, he, List.getElem?_map] at hie
  cases hx : xs[i]? with
  | none => rw [hx] at hie; cases hie
  | some y =>
    rw [hx] at hie; cases hie
    have hm := List.mem_of_getElem? hx
    obtain ⟨z, hz⟩ := rs.get (i := i) (p := trip y) (by rw [List.getElem?_map, hx]; rfl)
    exact ⟨_, by rw [List.getElem?_map, hz]; rfl, key_rep (hk y hm) (his y hm)⟩
end
end Mine
namespace Mine
open PySem PySem.W PyProof.Rows PySem.Calls
open Builtin Builtin.ObjectAttr

theorem Rm.under {k : Nat} {A : Around} {C : Addr} {args : List Value} (r : Rm (k + 1) A) : Rm k (A.under (.builtin "type.__call__" ⟨.ref C :: args, []⟩)) := by
  refine ⟨?_, ?_, r.handled⟩
  · have := r.units
    show A.units + 1 + 20 * k + 100 < cLine
    lia
  · have := r.depth
    rw [depth_under_make]; lia

section
variable {prog : Program} {w : World} {A : Around} {E : Value → Shared → Prop} {h : Heap} {g : Array GenState} {d : Drawn} {t : Nat} {os : OsState}
variable {nm q : Str} {C N : Addr} {bs bm bmB : List Value} {hdct : Bool} {sn : List Str} {sub : List Value} {ab : Bool} {col : Option Bool} {dd : Option Addr} {k0 k1 k2 k3 k5 : Option Value} {B newId initId : String}
theorem exc_type_call (F : ExcBaseFacts B newId initId bmB) (T : OwnTail h bmB bm) {mN : Str → Option Value} {rest : List Value} {fI : Addr} {oI : Obj} {Q : Fin → Shared → Prop}
    (hC : h.get? C = some (excClassObj nm q C N bs bm hdct sn sub ab col dd k0 k1 k2 k3 k5 newId)) (hn : h.Ns N mN) (hi : mN "__init__" = some (.ref fI)) (hfI : h.get? fI = some oI) (hfc : oI.cls = .type "function")
    (hq : ∀ h' e, Heap.MadeExcOf h h' e (.ref C) rest → wpAny (model prog w) A (call (.ref fI) (.ref e :: rest)) (fun r s' => r = .none ∧ Q (.done (.ret (.ref e))) s') E ⟨h', g, d, t, os⟩) (hrest : rest.length ≤ sizeLine) :
    wpAny (model prog w) A (Builtin.«type.__call__» ⟨.ref C :: rest, []⟩) Q E ⟨h, g, d, t, os⟩ := by
  repeat (first | with_reducible refine wpAny_loadPart_at hC ?_ | with_reducible refine wpAny_madeBy_exc hC ?_ | wp_step)
  refine codeAny_call_builtin_code (Code.quiet_builtin _ F.quiet) (wpAny_check_new_subT F T hC ?_)
  refine codeAny_exc_new_subT F T hC ?_ hrest
  show wpAny _ _ _ _ _ _
  have up : ∀ b o, h.get? b = some o → ((h.push { cls := .type "tuple", data := .seq rest.toArray }).push { cls := .ref C, data := .fields #[.ref h.objs.size, .none, .none, .none, .bool false, .none] }).get? b = some o :=
    fun b o e => Heap.get?_push_of_some _ (Heap.get?_push_of_some _ e)
  have hC₁ := up _ _ hC
  have hget : ((h.push { cls := .type "tuple", data := .seq rest.toArray }).push { cls := .ref C, data := .fields #[.ref h.objs.size, .none, .none, .none, .bool false, .none] }).get? (h.objs.size + 1) = some
      { cls := .ref C, data := .fields #[.ref h.objs.size, .none, .none, .none, .bool false, .none] } := by heap_get
  have hcC : (Value.ref C :: bm).contains (.ref C) = true := by simp
  unfold isInstance
  repeat (first | with_reducible refine wpAny_loadPart_at hget ?_ | (with_reducible refine wpAny_isSubtype_exc hC₁ ?_; rw [hcC]) | wp_step)
  show wpAny _ _ (typeLookup (.ref C) _) _ _ _
  refine wpAny_typeLookup_tail hC₁ (hn.keeps up) (T.keeps up) F.mroIs F.init.lookup ?_
  rw [hi]
  refine wpAny_holding (wpAny_bind ?_)
  unfold bindSpecial
  refine wpAny_bind (wpAny_typeOf (T := "function") ⟨_, up _ _ hfI, hfc⟩ ?_)
  rw [if_pos (by decide)]
  refine wpAny_pure (wpAny_bind (wpAny_mono (hq _ (h.objs.size + 1) ⟨up, Heap.get?_none_of_le (Nat.le_succ _), h.objs.size, hget, Heap.get?_none_of_le (Nat.le_refl _), ?_⟩) (fun r s' hr => ?_) fun _ _ x => x))
  · exact Heap.get?_push_of_some _ (Heap.get?_push_at rfl rfl)
  · obtain ⟨rfl, hQ⟩ := hr
    wp_walk
    exact hQ
theorem exc_call (F : ExcBaseFacts B newId initId bmB) (T : OwnTail h bmB bm) {mN : Str → Option Value} {rest : List Value} {fI : Addr} {oI : Obj} {R : Result → Shared → Prop}
    (hC : h.get? C = some (excClassObj nm q C N bs bm hdct sn sub ab col dd k0 k1 k2 k3 k5 newId)) (hn : h.Ns N mN) (hi : mN "__init__" = some (.ref fI)) (hfI : h.get? fI = some oI) (hfc : oI.cls = .type "function")
    (hq : ∀ h' e, Heap.MadeExcOf h h' e (.ref C) rest → wpAny (model prog w) (A.under (.builtin "type.__call__" ⟨.ref C :: rest, []⟩)) (call (.ref fI) (.ref e :: rest)) (fun r s' => r = .none ∧ R (.ok (.ret (.ref e))) s') (fun e s' => R (.error e) s') ⟨h', g, d, t, os⟩) (hrest : rest.length ≤ sizeLine) :
    codeAny (model prog w) A (.call (.ref C) ⟨rest, []⟩) R ⟨h, g, d, t, os⟩ := by
  have f1 := tc_lookup
  have f2 := PySem.tc_bind (.ref C)
  have hT : (⟨h, g, d, t, os⟩ : Shared).TypeIs (.ref C) "type" := ⟨_, hC, rfl⟩
  refine codeAny_of_tree ?_
  show wpAny _ _ (callAny (.ref C) _) _ _ _
  repeat (any_goals (first | assumption | with_reducible refine wpAny_loadPart_at hC ?_ | wp_step))
  refine ⟨rfl, ?_⟩
  exact codeAny_call_builtin_at (Code.quiet_builtin _ (by decide +kernel)) entry_typeCall (wpAny_check_type_call_sub hC (exc_type_call F T hC hn hi hfI hfc hq hrest))
theorem exc_raise {env : Env} {x : Sem Value} {Q : Flow → Shared → Prop} {s : Shared} (hbase : bm.contains (.type "BaseException") = true) (hh : A.handled = none)
    (hx : wpAny (model prog w) A x (fun v s₁ => ∃ e oe vs, v = .ref e ∧ s₁.heap.get? C = some (excClassObj nm q C N bs bm hdct sn sub ab col dd k0 k1 k2 k3 k5 newId) ∧
      s₁.heap.get? e = some oe ∧ oe.cls = .ref C ∧ oe.data = .fields vs ∧ vs[1]? = some .none ∧ E (.ref e) s₁) E s) :
    wpAny (model prog w) A (raiseStmt env (some x) none) Q E s := by
  have hcB : (Value.ref C :: bm).contains (.type "BaseException") = true := by rw [List.contains_cons, hbase, Bool.or_true]
  unfold raiseStmt
  refine wpAny_bind (wpAny_mono hx (fun v s₁ h₁ => ?_) fun _ _ x => x)
  obtain ⟨e, oe, vs, rfl, hC, he, hc, hd, h1, hE⟩ := h₁
  obtain ⟨oc, od, odt, osl⟩ := oe
  dsimp only at hc hd
  subst hc hd
  obtain ⟨hp, g, d, tk, os⟩ := s₁
  repeat (first | with_reducible refine wpAny_loadPart_at he ?_ | with_reducible refine wpAny_loadPart_at hC ?_ | (with_reducible refine wpAny_isSubtype_exc hC ?_; rw [hcB]) | wp_step)
  rw [h1]
  refine wpAny_pure ?_
  rw [if_neg (by decide)]
  exact wpAny_pure (wpAny_raiseNew_none hh hE)
end
end Mine
namespace Mine
open PySem PySem.W PyProof.Rows PySem.Calls
open Builtin Builtin.ObjectAttr

theorem osa_exc {prog : Program} {w : World} {K : Frag} {A : Around} {R : Result → Shared → Prop} {s : Shared} {C x : Addr} {cd : ClassData} {oe : Obj} {vs : Array Value} {name : Str} {tk : Tok} {v : Value}
    (X : K.In s.heap) (hx : s.heap.get? x = some oe) (hcl : oe.cls = .ref C) (hdat : oe.data = .fields vs) (hdn : oe.dict = none)
    (hc : clsIn K C = some cd) (hd : cd.hasDict = true) (href : refuseLoop (.ref x) "__setattr__" cd.mro = pure ()) (hobj : mroIn K C (.type "object") = some true) (ht : takerIn K C name = some none)
    (h : ∀ h' tk', (∃ o', h'.get? x = some o' ∧ o'.cls = .ref C ∧ o'.data = .fields vs) → (∀ b o, b ≠ x → s.heap.get? b = some o → h'.get? b = some o) → R (.ok (.ret .none)) { s with heap := h', toks := tk' }) :
    codeAny (model prog w) A (.call (.builtin "object.__setattr__") ⟨[.ref x, .str name tk, v], []⟩) R s := by
  have SF := PySem.F.store_object
  obtain ⟨oc, od, odt, osl⟩ := oe
  dsimp only at hcl hdat hdn
  subst hcl hdat hdn
  have I : InstAt s.heap x ⟨.ref C, none, .fields vs, osl⟩ C none := ⟨hx, rfl, rfl, trivial⟩
  have sub : Looks (model prog w) s.heap (isInstance (.ref x) (.type "object")) true := I.type.andThen (looks_mroIn X hobj)
  refine codeAny_call_builtin SF.slot.plain SF.entry (@check_slot (model prog w) _ _ s "object.__setattr__" "object" "__setattr__" (.ref x) [.str name tk, v] [] _ SF.kind SF.split sub (SF.args (.ref x) (.str name tk) v) ?_)
  obtain ⟨attr, ha, hr⟩ := Option.bind_eq_some_iff.mp ht
  have hm : Looks (model prog w) s.heap (mroOf (.ref C)) cd.mro := (looks_clsIn X hc).andThen .now
  have L3 : Looks (model prog w) s.heap (storeTaker? attr) none := by
    cases attr with
    | none => exact .now
    | some a =>
      obtain ⟨b, hb, e⟩ := Option.map_eq_some_iff.mp hr
      refine (looks_takesIn X hb).andThen ?_
      cases b
      · exact .now
      · cases e
  rw [osa_eq, refuse_eq]
  refine wpAny_bind (wpAny_bind (I.type.here (wpAny_bind (hm.here ?_))))
  rw [href]
  refine wpAny_pure (wpAny_bind (I.type.here (wpAny_bind ((looks_findIn X ha).here (wpAny_bind (L3.here ?_))))))
  refine wpAny_bind (wpAny_pure (wpAny_bind (wpAny_bind (wpAny_loadPart hx (wpAny_bind ((looks_clsIn X hc).here ?_))))))
  rw [hd]
  have hxs : x ≠ s.heap.objs.size := Nat.ne_of_lt (Heap.lt_size hx)
  have hx₁ : (s.heap.push { cls := .type "dict", data := .dict #[] }).get? x = some ⟨.ref C, none, .fields vs, osl⟩ := Heap.get?_push_of_some _ hx
  obtain ⟨hh, g, d, t, os⟩ := s
  refine wpAny_bind (wpAny_alloc' (wpAny_bind (wpAny_update' hx₁ (wpAny_pure ?_))))
  show wpAny _ _ (storeInDict hh.objs.size (.str name tk) name v) _ _ _
  unfold storeInDict newKeyGuard
  refine wpAny_bind (wpAny_pure (wpAny_bind ?_))
  have hgd : ((hh.push { cls := .type "dict", data := .dict #[] }).update x fun o => { cls := o.cls, dict := some hh.objs.size, data := o.data, slots := o.slots }).get? hh.objs.size
      = some { cls := .type "dict", data := .dict #[] } :=
    (Heap.get?_update_ne _ _ _ _ (Ne.symm hxs)).trans (Heap.get?_push_at rfl rfl)
  have hnd : ((hh.push { cls := .type "dict", data := .dict #[] }).update x fun o => { cls := o.cls, dict := some hh.objs.size, data := o.data, slots := o.slots }).Ns hh.objs.size (fun _ => none) :=
    ⟨_, #[], _, hgd, rfl, fun e he => absurd he (by simp), fun _ => rfl⟩
  refine wpAny_nsSetB hnd (k := 0) ⟨_, _, _, hgd, rfl, Nat.zero_le _⟩ fun h' hn' hs' hz' => ?_
  obtain ⟨o', es', n', ho', hd'', hl'⟩ := hz'
  refine wpAny_bind (wpAny_lookBehind ho' (by rw [hd'']; exact pastItsLine_dict (by rw [sizeLine_eq]; lia)) (wpAny_pure (h h' _ ?_ fun b ob hbx hb => ?_)))
  · refine ⟨⟨.ref C, some hh.objs.size, .fields vs, osl⟩, (hs'.2 x hxs).trans (Heap.get?_update_self _ hx₁ rfl), rfl, rfl⟩
  · exact (hs'.2 b (Nat.ne_of_lt (Heap.lt_size hb))).trans ((Heap.get?_update_ne _ _ _ _ hbx).trans (Heap.get?_push_of_some _ hb))
structure ExcCls (K : Frag) (C : Addr) (name : Str) : Prop where
  cls : ∃ cd l, clsIn K C = some cd ∧ cd.hasDict = true ∧ cd.mro = l ++ [.type "Exception", .type "BaseException", .type "object"] ∧ ∀ v ∈ l, ∃ a, v = .ref a
  obj : mroIn K C (.type "object") = some true
  take : takerIn K C name = some none
  set : findIn K (.ref C) "__setattr__" = some (some (.builtin "object.__setattr__"))
theorem refuse_refs (self : Value) {m : List Value} (hm : refuseLoop self "__setattr__" m = pure ()) : ∀ l : List Value, (∀ v ∈ l, ∃ a, v = .ref a) → refuseLoop self "__setattr__" (l ++ m) = pure ()
  | [], _ => hm
  | v :: l, h => by
    obtain ⟨a, rfl⟩ := h v (.head _)
    rw [List.cons_append, refuseLoop_ref]; exact refuse_refs self hm l fun v hv => h v (.tail _ hv)
theorem ExcCls.refuse {K : Frag} {C : Addr} {name : Str} (x : ExcCls K C name) : ∃ cd, clsIn K C = some cd ∧ cd.hasDict = true ∧ ∀ self, refuseLoop self "__setattr__" cd.mro = pure () := by
  obtain ⟨cd, l, h1, h2, h3, h4⟩ := x.cls
  exact ⟨cd, h1, h2, fun self => by rw [h3]; exact refuse_refs self (PySem.F.store_Exception.passes self) l h4⟩

section
variable {W : Wd} {F : Fm} {ρ : Rho} {H H' : AHeap} {s : Shared} {k₀ : Nat}
theorem set_exc {x C : Addr} {name : Str} {v : Value} {A : Around} {E : Value → Shared → Prop} {P : Unit → Shared → Prop} (wok : W.Ok) (S : W.St H s) (xc : ExcCls W.K C name) (hm : (x, O.exc C false) ∈ H) (u : Put x (.exc C true) H H')
    (hP : ∀ s', W.St H' s' → Kp H s H' s' → P () s') : wpAny W.M A (setAttr (.ref x) name v) P E s := by
  obtain ⟨oe, vs, a0, he, hc, hd, h0, h1, hn⟩ := (S.rep _ hm).2
  obtain ⟨cd, hcd, hdict, href⟩ := xc.refuse
  have X := wok.k.keeps S.keep
  have I : InstAt s.heap x oe C none := by
    refine ⟨he, hc, by unfold notCls; rw [hd], ?_⟩
    rw [hn rfl]; trivial
  refine set_plain X I xc.set (osa_exc (s := { s with toks := s.toks + 1 }) X he hc hd (hn rfl) hcd hdict (href _) xc.obj xc.take fun h' tk' hx' hk => ?_)
  obtain ⟨o', ho', hc', hd'⟩ := hx'
  have hB := (S.rep _ hm).1
  have C' : Carry (dom H) s.heap (dom H') h' := fun a o n e c => ⟨fun q => n (u.domEq ▸ q), hk a o (fun q => n (q ▸ List.mem_map_of_mem hm)) e⟩
  refine hP _ ⟨fun b ob e => hk b ob (fun q => by rw [q, hB] at e; cases e) (S.keep b ob e), S.gens, S.os, by rw [u.domEq]; exact S.nodup, fun p hp => ?_⟩ ⟨fun b ob hb e => hk b ob (fun q => hb (q ▸ List.mem_map_of_mem hm)) e, fun b _ _ hb q => hb (u.domEq ▸ q)⟩
  rcases u.others S.nodup p hp with rfl | ⟨hp, hne⟩
  · exact ⟨hB, o', vs, a0, ho', hc', hd', h0, h1, fun q => (nomatch q)⟩
  · exact ⟨(S.rep p hp).1, (S.rep p hp).2.carry C' fun ob e => hk _ ob hne e⟩
theorem SP_setexc {o e : Expr} {name : Str} {pos pos' : Pos} {Q : Fl → AHeap → Rho → Prop} {x C : Addr} (wok : W.Ok) (xc : ExcCls W.K C name)
    (h : EP W F ρ H (eval e F.env) (fun d H₁ => EP W F ρ H₁ (eval o F.env) (fun a H₂ => a = .ref x ∧ (x, O.exc C false) ∈ H₂ ∧ ∃ H₃, Put x (.exc C true) H₂ H₃ ∧ Q .next H₃ ρ)))
    (hsw : swapsWith e (some (.Attribute o name pos')) pos.line F.env = pure false := by rfl) : SP W F ρ H (exec (.Assign [.Attribute o name pos'] e pos) F.env) Q := .mk fun s S l n  => by
  refine plainObj_wpAny_Assign_Attribute (wpAny_mono (h.go s S l n) (fun v s₁ o => o.to fun d H₁ r S₁ kp q => wpAny_mono (q.go s₁ S₁ (l.kp n kp) (l.out n kp)) (fun ov s₂ ⟨a, H₂, r₂, S₂, kp₂, ea, h1, H₃, u, q₂⟩ => ?_) fun _ _ e => e) fun _ _ e => e) hsw
  subst ea
  refine Rep.ref_elim r₂ ?_
  have K₂ := kp.trans kp₂
  exact set_exc wok S₂ xc h1 u fun s' S' k' => ⟨_, H₃, ρ, .next, S', (K₂.trans k').toL n, l.kp n (K₂.trans k'), q₂⟩
theorem SP_raise {e : Expr} {pos : Pos} {Q : Fl → AHeap → Rho → Prop} {C N : Addr} {nm q : Str} {bs bm : List Value} {hdct : Bool} {sn : List Str} {sub : List Value} {ab : Bool} {col : Option Bool} {dd : Option Addr} {k0 k1 k2 k3 k5 : Option Value} {newId : String} (ok : F.Ok W k₀) (wok : W.Ok)
    (hC : W.K.lookup C = some (excClassObj nm q C N bs bm hdct sn sub ab col dd k0 k1 k2 k3 k5 newId)) (hbase : bm.contains (.type "BaseException") = true)
    (h : EP W F ρ H (eval e F.env) (fun d H₁ => ∃ x, d = .ref x ∧ (x, O.exc C true) ∈ H₁ ∧ ∀ s, W.St H₁ s → W.Loc (dom H₁) F.env ρ s.heap → F.L ∉ dom H₁ → F.E (.ref x) s)) :
    SP W F ρ H (exec (.Raise (some e) none pos) F.env) Q := .mk fun s S l n  => by
  rw [arm_exec_Raise]
  refine wpAny_bind (wpAny_standAt (exc_raise (C := C) (nm := nm) (q := q) (N := N) (bs := bs) (bm := bm) (hdct := hdct) (sn := sn) (sub := sub) (ab := ab) (col := col) (dd := dd) (k0 := k0) (k1 := k1) (k2 := k2) (k3 := k3) (k5 := k5) (newId := newId) hbase ok.room.handled (wpAny_bind (wpAny_mono (h.go s S l n) (fun v s₁ ⟨d, H₁, r, S₁, kp, x, hd, hm, q⟩ => wpAny_bind (wpAny_standAt (wpAny_pure ?_))) fun _ _ y => y))))
  subst hd
  refine Rep.ref_elim r ?_
  obtain ⟨oe, vs, a0, he, hc, hd, h0, h1, hn⟩ := (S₁.rep _ hm).2
  exact ⟨x, oe, vs, rfl, wok.k.keeps S₁.keep _ _ hC, he, hc, hd, h1, q s₁ S₁ (l.kp n kp) (l.out n kp)⟩
theorem CallP_exc {Q : V → AHeap → Prop} {k : Nat} {C N fI : Addr} {nm q : Str} {bs bm bmB : List Value} {hdct : Bool} {sn : List Str} {sub : List Value} {ab : Bool} {col : Option Bool} {dd : Option Addr} {k0 k1 k2 k3 k5 : Option Value} {newId initId B : String} {oI : Obj} {ds : List V} (wok : W.Ok)
    (FB : ExcBaseFacts B newId initId bmB) (T : ∀ h : Heap, W.K.In h → OwnTail h bmB bm)
    (hC : W.K.lookup C = some (excClassObj nm q C N bs bm hdct sn sub ab col dd k0 k1 k2 k3 k5 newId)) (hN : ∀ h : Heap, W.K.In h → ∃ mN, h.Ns N mN ∧ mN "__init__" = some (.ref fI)) (hfI : W.K.lookup fI = some oI) (hfc : oI.cls = .type "function") (hl : ds.length ≤ 1000)
    (h : ∀ x, CallP W k (.ref fI) (.ref x :: ds) ((x, .exc C false) :: H) (fun d H' => d = .none ∧ Q (.ref x) H')) : CallP W (k + 1) (.ref C) ds H Q := .mk fun A s fv vs r S rf ra  => by
  refine Rep.ref_elim rf ?_
  have X := wok.k.keeps S.keep
  obtain ⟨mN, n1, n2⟩ := hN _ X
  obtain ⟨hh, g, d, t, os⟩ := s
  refine exc_call (oI := oI) FB (T _ X) (X _ _ hC) n1 n2 (X _ _ hfI) hfc (fun h' e M => ?_) (by rw [ra.length, sizeLine_eq]; lia)
  obtain ⟨ta, he, _, _⟩ := M.there
  have S' : W.St ((e, .exc C false) :: H) ⟨h', g, d, t, os⟩ := S.new (t := t) M.keeps M.new ⟨_, _, _, he, rfl, rfl, rfl, rfl, fun _ => rfl⟩
  have K' : Kp H ⟨hh, g, d, t, os⟩ ((e, .exc C false) :: H) ⟨h', g, d, t, os⟩ := Kp.new (s := ⟨hh, g, d, t, os⟩) (t := t) M.keeps M.new
  refine wpAny_mono ((h e).run r.under S' (.ref fI) (.cons (.ref e) (ra.carry K'.carry))) (fun v s₂ o => o.to fun d₂ H₂ r₂ S₂ k₂ o => o.elim fun hd q₂ => ?_) fun _ _ y => y
  subst hd
  refine Rep.none_elim r₂ ?_
  exact ⟨rfl, _, rfl, _, H₂, .ref e, S₂, K'.trans k₂, q₂⟩
end
end Mine
namespace Mine
open PySem PySem.W PyProof.Rows PySem.Calls

theorem CallP_make {W : Wd} {H : AHeap} {Q : V → AHeap → Prop} {k : Nat} {C fI : Addr} {ds : List V} (wok : W.Ok) (hm : makesIn W.K C = true) (hi : findIn W.K (.ref C) "__init__" = some (some (.ref fI))) (hf : isFn W.K (.ref fI) = true)
    (h : ∀ x dx, CallP W k (.ref fI) (.ref x :: ds) ((x, .inst C dx) :: (dx, .ns []) :: H) (fun d H' => d = .none ∧ Q (.ref x) H')) : CallP W (k + 1) (.ref C) ds H Q := .mk fun A s fv vs r S rf ra  => by
  refine Rep.ref_elim rf ?_
  have X := wok.k.keeps S.keep
  obtain ⟨hh, g, d, t, os⟩ := s
  refine make_core (makes_of X hm) (looks_findIn X hi) (fun self => bind_fn X self (beq_iff_eq.mp hf)) (.inl rfl) ?_
  have k1 := push_keep hh emptyDict
  have n1 := get_size hh
  have S₁ : W.St ((hh.objs.size, .ns []) :: H) ⟨hh.push emptyDict, g, d, t, os⟩ := S.new (t := t) k1 n1
    ⟨fun _ => none, ⟨_, #[], 0, Heap.get?_push_size _ rfl, rfl, fun e he => absurd he (by simp), fun _ => rfl⟩, ⟨_, _, _, Heap.get?_push_size _ rfl, rfl, Nat.zero_le _⟩, fun p hp => (nomatch hp), fun _ _ => rfl⟩
  have K₁ : Kp H ⟨hh, g, d, t, os⟩ ((hh.objs.size, .ns []) :: H) ⟨hh.push emptyDict, g, d, t, os⟩ := Kp.new (s := ⟨hh, g, d, t, os⟩) (t := t) k1 n1
  have hsz : (hh.push emptyDict).objs.size = hh.objs.size + 1 := Heap.size_push ..
  have k2 := push_keep (hh.push emptyDict) (instObj C hh.objs.size)
  have n2 : (hh.push emptyDict).get? (hh.objs.size + 1) = none := hsz ▸ get_size _
  have S₂ : W.St ((hh.objs.size + 1, .inst C hh.objs.size) :: (hh.objs.size, .ns []) :: H) ⟨(hh.push emptyDict).push (instObj C hh.objs.size), g, d, t, os⟩ :=
    S₁.new (t := t) k2 n2 (Heap.get?_push_at (by rw [hsz]) rfl)
  have K₂ := K₁.trans (Kp.new (s := ⟨hh.push emptyDict, g, d, t, os⟩) (t := t) (o := .inst C hh.objs.size) k2 n2)
  refine codeAny_mono ((h (hh.objs.size + 1) hh.objs.size).go _ _ _ _ r.under S₂ (.ref fI) (.cons (.ref _) (ra.carry K₂.carry))) fun res s' ⟨v, e, d₂, H₂, r₂, S', k', hd, q⟩ => ?_
  subst e
  subst hd
  refine Rep.none_elim r₂ ?_
  exact ⟨rfl, _, rfl, _, H₂, .ref _, S', K₂.trans k', q⟩

section
variable {prog : Program} {w : World} {A : Around} {E : Value → Shared → Prop} {s : Shared}
theorem same_raw {nm : String} {a b : Addr} {es es' : Array DictEntry} {ep ep' : Nat} {Q : Bool → Shared → Prop} (ha : (a == sysModules) = false) (hb : (b == sysModules) = false)
    (x : RawAt s.heap a es ep) (y : RawAt s.heap b es' ep') (hsz : es.size = es'.size)
    (find : ∀ (i : Nat) (e : DictEntry), es[i]? = some e → ∀ P : Option Nat → Shared → Prop, P (some i) s → wpAny (model prog w) A (dictFind b e.key e.hash) P E s)
    (val : ∀ (i : Nat) (e e' : DictEntry), es[i]? = some e → es'[i]? = some e' → ∀ P : Bool → Shared → Prop, P true s → wpAny (model prog w) A (eqBool e.val e'.val) P E s)
    (h : Q true s) : wpAny (model prog w) A (Builtin.Dict.samePairs nm a b) Q E s := by
  obtain ⟨oa, hoa, _, hda⟩ := x
  obtain ⟨ob, hob, _, hdb⟩ := y
  unfold Builtin.Dict.samePairs Builtin.Dict.showsAll
  rw [if_neg (show ¬ (a == sysModules) = true by rw [ha]; exact Bool.false_ne_true), if_neg (show ¬ (b == sysModules) = true by rw [hb]; exact Bool.false_ne_true)]
  refine wpAny_bind (wpAny_pure (wpAny_bind (wpAny_pure ?_)))
  refine wpAny_bind (wpAny_dictEntries hoa hda ?_)
  dsimp only
  refine wpAny_bind (wpAny_dictEntries hob hdb ?_)
  rw [if_neg (by rw [hsz]; simp)]
  refine wpAny_bind (wpAny_dictEpoch hoa hda ?_)
  refine wpAny_bind ?_
  rw [Std.Legacy.Range.forIn_eq_forIn_range']
  simp only [Std.Legacy.Range.size, Nat.sub_zero, Nat.add_sub_cancel, Nat.div_one]
  refine wpAny_forIn_list _ (fun rest q s' => s' = s ∧ q = (none, ()) ∧ ∃ i, rest = List.range' i (es.size - i) ∧ i ≤ es.size) _ ?_ ?_ _ _ ⟨rfl, rfl, 0, by simp, Nat.zero_le _⟩
  · rintro x rest q s' ⟨rfl, rfl, i, hr, hi⟩
    have hlt : i < es.size := by
      rcases Nat.lt_or_ge i es.size with h | h
      · exact h
      · rw [Nat.sub_eq_zero_of_le h] at hr; simp at hr
    obtain ⟨rfl, hrest⟩ : x = i ∧ rest = List.range' (i + 1) (es.size - (i + 1)) := by
      have e : es.size - i = (es.size - (i + 1)) + 1 := by lia
      rw [e, List.range'_succ] at hr
      injection hr with h1 h2
      exact ⟨h1, h2⟩
    refine wpAny_bind (wpAny_dictEntries hoa hda ?_)
    have e1 : es[x]? = some es[x] := Array.getElem?_eq_getElem hlt
    have hlt' : x < es'.size := hsz ▸ hlt
    have e2 : es'[x]? = some es'[x] := Array.getElem?_eq_getElem hlt'
    rw [e1]
    refine wpAny_bind (wpAny_holding (wpAny_bind (find x _ e1 _ ?_)))
    refine wpAny_bind (wpAny_dictEntries hob hdb ?_)
    rw [e2]
    refine wpAny_holding (val x _ _ e1 e2 _ ?_)
    show wpAny _ _ (if (!true) = true then _ else _) _ _ _
    rw [if_neg (by decide)]
    refine wpAny_bind (wpAny_dictEpoch hoa hda ?_)
    rw [if_neg (by simp)]
    exact wpAny_pure ⟨rfl, rfl, x + 1, hrest, hlt⟩
  · rintro q s' ⟨rfl, rfl, i, hr, hi⟩
    exact wpAny_pure h
theorem eq_raw {a b : Addr} {es es' : Array DictEntry} {ep ep' : Nat} {Q : Value → Shared → Prop} (ha : (a == sysModules) = false) (hb : (b == sysModules) = false)
    (x : RawAt s.heap a es ep) (y : RawAt s.heap b es' ep') (hsz : es.size = es'.size) (hu : A.units < cLine)
    (find : ∀ (i : Nat) (e : DictEntry), es[i]? = some e → ∀ (E : Value → Shared → Prop) (P : Option Nat → Shared → Prop), P (some i) s → wpAny (model prog w) A.in1 (dictFind b e.key e.hash) P E s)
    (val : ∀ (i : Nat) (e e' : DictEntry), es[i]? = some e → es'[i]? = some e' → ∀ (E : Value → Shared → Prop) (P : Bool → Shared → Prop), P true s → wpAny (model prog w) A.in1 (eqBool e.val e'.val) P E s)
    (h : Q (.bool true) s) : wpAny (model prog w) A (richCompare .Eq (.ref a) (.ref b)) Q E s := by
  have ta : s.TypeIs (.ref a) "dict" := x.elim fun o r => ⟨o, r.1, r.2.1⟩
  have tb : s.TypeIs (.ref b) "dict" := y.elim fun o r => ⟨o, r.1, r.2.1⟩
  refine wpAny_richCompare_same_room (op := .Eq) ta tb PySem.F.slot_dict_eq (wpAny_call_entry PySem.F.slot_dict_eq ta PySem.F.entry_dict_eq ?_ (PySem.F.args_dict_eq_2 _ _)) hu
  show wpAny _ _ (Builtin.Dict.dictSlotArgs "__eq__" ⟨[.ref a, .ref b], []⟩ >>= _) _ _ s
  refine wpAny_bind ?_
  unfold Builtin.Dict.dictSlotArgs
  refine wpAny_bind (wpAny_notOrdered_dict ta ?_)
  show wpAny _ _ (pure (Value.ref a, Value.ref b)) _ _ s
  refine wpAny_pure ?_
  refine wpAny_bind (wpAny_isInstance (T := "dict") tb PySem.F.sub_dict_dict ?_)
  simp only [Bool.not_true, Bool.false_eq_true, if_false]
  refine wpAny_bind (wpAny_pure (wpAny_bind (wpAny_pure ?_)))
  refine wpAny_bind (same_raw ha hb x y hsz (fun i e he P => find i e he _ P) (fun i e e' he he' P => val i e e' he he' _ P) ?_)
  exact wpAny_pure ⟨_, rfl, (fun x => nomatch x), h⟩
end

noncomputable def EqV (W : Wd) (n : Nat) (d : V) : Prop := ∀ (D : List Addr) (s : Shared) (A : Around) (v u : Value), A.units + n < cLine → W.Rep D s.heap v d → W.Rep D s.heap u d → SeqAt.EqAt A s v u true
section
variable {W : Wd}
theorem EqV.le {n m : Nat} {d : V} (h : EqV W n d) (hn : n ≤ m) : EqV W m d := fun D s A v u hu r r' => h D s A v u (by lia) r r'
theorem EqV_int {n : Nat} {i : Int} : EqV W n (.int i) := fun D s A v u hu r r' => by
  refine Rep.int_elim r fun t => ?_
  refine Rep.int_elim r' fun t' => ?_
  have := SeqAt.EqAt.int_int (A := A) (s := s) i t i t'
  rwa [beq_self_eq_true] at this
theorem EqV_str {n : Nat} {x : Str} : EqV W n (.str x) := fun D s A v u hu r r' => by
  refine Rep.str_elim r fun t => ?_
  refine Rep.str_elim r' fun t' => ?_
  have := (eqGives_str x x t t').at A s
  rwa [beq_self_eq_true] at this
theorem isTuple_of {h : Heap} {a : Addr} {xs : Array Value} (x : IsTup h a xs) : h.IsTuple a xs := x
theorem EqV_items {n : Nat} {ds : List V} (hd : ∀ d ∈ ds, EqV W n d) {D : List Addr} {s : Shared} {A : Around} {vs us : List Value} (hu : A.units + n < cLine) (r : W.Reps D s.heap vs ds) (r' : W.Reps D s.heap us ds)
    (j : Nat) (h1 : j < vs.toArray.size) (h2 : j < us.toArray.size) : SeqAt.EqAt A s vs.toArray[j] us.toArray[j] true := by
  obtain ⟨d, e1, r1⟩ := r.get (i := j) (v := vs.toArray[j]) (by simp)
  obtain ⟨d', e2, r2⟩ := r'.get (i := j) (v := us.toArray[j]) (by simp)
  rw [e1] at e2; cases e2
  exact hd d (List.mem_of_getElem? e1) D s A _ _ hu r1 r2
theorem EqV_tup {n : Nat} {ds : List V} (hd : ∀ d ∈ ds, EqV W n d) : EqV W (n + 1) (.tup ds) := fun D s A v u hu r r' => by
  refine Rep.tup_elim r fun a vs na x rs => ?_
  refine Rep.tup_elim r' fun b us nb y rs' => ?_
  by_cases e : a = b
  · subst e; exact SeqAt.EqAt.same _
  · refine SeqAt.EqAt.of_refs e ?_
    have := SeqAt.RcAt.tuples (A := A) (e := fun _ => true) (isTuple_of x) (isTuple_of y) (by lia) fun j h1 h2 => EqV_items hd (A := A.in1) (by show A.units + 1 + n < cLine; lia) rs rs' j h1 h2
    have hsz : vs.toArray.size = us.toArray.size := by simp [rs.length, rs'.length]
    have ht : ((List.range (min vs.toArray.size us.toArray.size)).all (fun _ => true) && vs.toArray.size == us.toArray.size) = true := by
      rw [List.all_eq_true.mpr (fun _ _ => rfl), hsz]; simp
    rwa [ht] at this
theorem IntsOf.at_eq {K : Type} {kvs kvs' : List (K × Value)} {l : List (K × Int)} (x : IntsOf kvs l) (y : IntsOf kvs' l) {i : Nat} {p p' : K × Value} (e : kvs[i]? = some p) (e' : kvs'[i]? = some p') : p.1 = p'.1 ∧ ∃ x t t', p.2 = .int x t ∧ p'.2 = .int x t' := by
  obtain ⟨b, h1, h2, t, h3⟩ := All2.get x e
  obtain ⟨c, h4, h5, t', h6⟩ := All2.get y e'
  rw [h1] at h4; cases h4
  exact ⟨h2.trans h5.symm, _, t, t', h3, h6⟩
theorem dictOf_raw {prog : Program} {w : World} {h : Heap} {a : Addr} {kvs : List (Int × Value)} (x : h.DictOf (intKind prog w) a kvs) :
    ∃ es ep, RawAt h a es ep ∧ es.size = kvs.length ∧ (∀ (i : Nat) (e : DictEntry), es[i]? = some e → ∃ p t, kvs[i]? = some p ∧ e.key = .int p.1 t ∧ e.val = p.2 ∧ e.hash = hashInt p.1) ∧ (kvs.map (·.1)).Nodup ∧ KeysOf (intKind prog w) es := by
  obtain ⟨o, es, ep, ho, hc, hd, hk, hp, hn⟩ := x
  have hl := hp.length
  rw [Array.length_toList] at hl
  refine ⟨es, ep, ⟨o, ho, hc.1, hd⟩, hl, fun i e he => ?_, hn, hk⟩
  have hi : i < es.size := by
    rcases Nat.lt_or_ge i es.size with h | h
    · exact h
    · rw [Array.getElem?_eq_none h] at he; cases he
  obtain ⟨kv, hkv⟩ : ∃ kv, kvs[i]? = some kv := ⟨_, List.getElem?_eq_getElem (hl ▸ hi)⟩
  obtain ⟨h1, h2⟩ := hp.get? (e := e) (by rw [Array.getElem?_toList]; exact he) hkv
  obtain ⟨t, ht⟩ := Value.isInt_shape (show Value.isInt kv.1 e.key = true from h1)
  obtain ⟨k', hk', hh⟩ := hk e (Array.mem_of_getElem? he)
  have : k' = kv.1 := Value.isInt_inj _ _ _ hk' h1
  subst this
  exact ⟨kv, t, hkv, ht, h2, hh⟩
theorem EqV_idd {n : Nat} {l : List (Int × Int)} : EqV W (n + 1) (.idd l) := fun D s A v u hu r r' => by
  refine Rep.idd_elim r fun a kvs na nm x rs => ?_
  refine Rep.idd_elim r' fun b kvs' nb nm' y rs' => ?_
  by_cases e : a = b
  · subst e; exact SeqAt.EqAt.same _
  refine SeqAt.EqAt.of_refs e fun prog w E Q q => ?_
  obtain ⟨es, ep, rw1, sz1, at1, _, _⟩ := dictOf_raw x
  obtain ⟨es', ep', rw2, sz2, at2, nd2, ks2⟩ := dictOf_raw y
  refine eq_raw nm nm' rw1 rw2 (by rw [sz1, sz2, rs.length, rs'.length]) (by lia) (fun i en hen E P hP => ?_) (fun i en en' hen hen' E P hP => ?_) q
  · obtain ⟨p, t, h1, h2, h3, h4⟩ := at1 i en hen
    obtain ⟨o, ho, hc, hd⟩ := rw2
    rw [h2, h4]
    refine wpAny_dictFind_of (knd := intKind prog w) (k := p.1) (by simp [intKind, Value.isInt]) ho hd ks2 ?_
    have hlen : kvs'.length = kvs.length := by rw [rs.length, rs'.length]
    have hi : i < kvs.length := by
      rcases Nat.lt_or_ge i kvs.length with h | h
      · exact h
      · rw [List.getElem?_eq_none h] at h1; cases h1
    obtain ⟨p', hp'⟩ : ∃ p', kvs'[i]? = some p' := ⟨_, List.getElem?_eq_getElem (by lia)⟩
    have hk := (rs.at_eq rs' h1 hp').1
    have hidx : (es'.findIdx? fun e => (intKind prog w).is p.1 e.key) = some i := by
      have hies : i < es'.size := by rw [sz2]; lia
      rw [Array.findIdx?_eq_some_iff_getElem]
      obtain ⟨q1, t1, g1, g2, _⟩ := at2 i es'[i] (Array.getElem?_eq_getElem hies)
      rw [hp'] at g1; cases g1
      refine ⟨hies, by rw [g2, hk]; simp [intKind, Value.isInt], fun j hj => ?_⟩
      obtain ⟨q2, t2, g3, g4, _⟩ := at2 j es'[j] (Array.getElem?_eq_getElem (by lia))
      rw [g4, hk]
      have hne : q2.1 ≠ p'.1 := by
        have hj' : j < (kvs'.map (·.1)).length := by rw [List.length_map]; lia
        have hi' : i < (kvs'.map (·.1)).length := by rw [List.length_map]; lia
        have := List.pairwise_iff_getElem.mp nd2 j i hj' hi' hj
        rw [List.getElem_map, List.getElem_map] at this
        rw [List.getElem?_eq_getElem (by lia)] at g3 hp'
        rw [Option.some.inj g3, Option.some.inj hp'] at this
        exact this
      simp [intKind, Value.isInt, hne]
    rw [hidx]; exact hP
  · obtain ⟨p, t, h1, h2, h3, h4⟩ := at1 i en hen
    obtain ⟨p', t', g1, g2, g3, g4⟩ := at2 i en' hen'
    obtain ⟨_, z, t1, t2, e1, e2⟩ := rs.at_eq rs' h1 g1
    rw [h3, g3, e1, e2]
    have := SeqAt.EqAt.int_int (A := A.in1) (s := s) z t1 z t2
    rw [beq_self_eq_true] at this
    exact this prog w E P hP
theorem key_any {p p' : Program} {w w' : World} {h : Heap} {ks : List Int} {a : Addr} (x : IsTupleKey (intKind p w) h ks a) : IsTupleKey (intKind p' w') h ks a := by
  obtain ⟨o, items, m, ho, hc, hd, hi⟩ := x
  refine ⟨o, items, m, ho, hc, hd, ?_⟩
  have : ∀ {ks : List Int} {vs : List Value}, ItemsAre (intKind p w) ks vs → ItemsAre (intKind p' w') ks vs := fun x => by
    induction x with
    | nil => exact .nil
    | cons h _ ih => exact .cons h ih
  exact this hi
theorem EqV_tdd {n : Nat} {l : List (List Int × Int)} : EqV W (n + 2) (.tdd l) := fun D s A v u hu r r' => by
  refine Rep.tdd_elim r fun a xs na nm x hk rs => ?_
  refine Rep.tdd_elim r' fun b xs' nb nm' y hk' rs' => ?_
  by_cases e : a = b
  · subst e; exact SeqAt.EqAt.same _
  refine SeqAt.EqAt.of_refs e fun prog w E Q q => ?_
  obtain ⟨o, es, ep, ho, hc, hd, he, his, hn⟩ := x
  obtain ⟨o', es', ep', ho', hc', hd', he', his', hn'⟩ := y
  have sz1 : es.size = xs.length := by rw [← Array.length_toList, he, List.length_map]
  have sz2 : es'.size = xs'.length := by rw [← Array.length_toList, he', List.length_map]
  have l1 := rs.length
  have l2 := rs'.length
  rw [List.length_map] at l1 l2
  have at1 : ∀ (i : Nat) (en : DictEntry), es[i]? = some en → ∃ p, xs[i]? = some p ∧ en = entryOfKey (tupleKind (intKind W.prog W.w)) p := fun i en hen => by
    rw [← Array.getElem?_toList, he, List.getElem?_map] at hen
    cases hx : xs[i]? with
    | none => rw [hx] at hen; cases hen
    | some p => rw [hx] at hen; cases hen; exact ⟨p, rfl, rfl⟩
  have at2 : ∀ (i : Nat) (en : DictEntry), es'[i]? = some en → ∃ p, xs'[i]? = some p ∧ en = entryOfKey (tupleKind (intKind W.prog W.w)) p := fun i en hen => by
    rw [← Array.getElem?_toList, he', List.getElem?_map] at hen
    cases hx : xs'[i]? with
    | none => rw [hx] at hen; cases hen
    | some p => rw [hx] at hen; cases hen; exact ⟨p, rfl, rfl⟩
  have same : ∀ {i : Nat} {p p' : List Int × Addr × Value}, xs[i]? = some p → xs'[i]? = some p' → p.1 = p'.1 ∧ ∃ x t t', p.2.2 = .int x t ∧ p'.2.2 = .int x t' := fun {i p p'} h1 h2 =>
    rs.at_eq rs' (i := i) (p := trip p) (p' := trip p') (by rw [List.getElem?_map, h1]; rfl) (by rw [List.getElem?_map, h2]; rfl)
  refine eq_raw nm nm' ⟨o, ho, hc.1, hd⟩ ⟨o', ho', hc'.1, hd'⟩ (by rw [sz1, sz2, l1, l2]) (by lia) (fun i en hen E P hP => ?_) (fun i en en' hen hen' E P hP => ?_) q
  · obtain ⟨p, h1, rfl⟩ := at1 i en hen
    have hi : i < xs.length := by
      rcases Nat.lt_or_ge i xs.length with h | h
      · exact h
      · rw [List.getElem?_eq_none h] at h1; cases h1
    obtain ⟨p', hp'⟩ : ∃ p', xs'[i]? = some p' := ⟨_, List.getElem?_eq_getElem (by lia)⟩
    have hk := (same h1 hp').1
    refine wpAny_dictFind_heap (knd := tupleKind (intKind prog w)) (k := p.1) (xs := xs') (by show A.units + 1 < cLine; lia) (key_any (his p (List.mem_of_getElem? h1))) ho' hd' he' (fun x hx => key_any (his' x hx)) hn' (fun hno => absurd hp' (by
      have := hno i p'.2
      rw [hk] at this
      exact this)) fun j z hj => ?_
    have hji : j = i := idxH_unique hn' hj (show xs'[i]? = some (p.1, p'.2) by rw [hp', hk])
    rw [hji]; exact hP
  · obtain ⟨p, h1, rfl⟩ := at1 i en hen
    obtain ⟨p', g1, rfl⟩ := at2 i en' hen'
    obtain ⟨_, z, t1, t2, e1, e2⟩ := same h1 g1
    show wpAny _ _ (eqBool p.2.2 p'.2.2) _ _ _
    rw [e1, e2]
    have := SeqAt.EqAt.int_int (A := A.in1) (s := s) z t1 z t2
    rw [beq_self_eq_true] at this
    exact this prog w E P hP
theorem op_ne_fl {F : Fm} {H : AHeap} {Q : V → AHeap → Prop} {k₀ : Nat} (ok : F.Ok W k₀) {l : List V} (hd : ∀ d ∈ l, EqV W 10 d) (q : Q (.bool false) H) : OP2 W F (compareOp .NotEq) (.fl l) (.fl l) H Q := .mk fun s v u S r₁ r₂  => by
  refine Rep.fl_elim r₁ fun a n vs na x rs => ?_
  refine Rep.fl_elim r₂ fun b m us nb y rs' => ?_
  have hu := ok.room.units
  refine cmp_ofNotEq (SeqAt.RcNeAt.lists (e := fun _ => true) (IsL.isList x) (IsL.isList y) (by simp [rs.length, rs'.length]) (by lia) (fun j h1 h2 => EqV_items hd (A := F.A.in1) (by show F.A.units + 1 + 10 < cLine; lia) rs rs' j h1 h2) W.prog W.w F.E _ ?_)
  have : (!((List.range vs.toArray.size).all fun _ => true)) = false := by rw [List.all_eq_true.mpr (fun _ _ => rfl)]; rfl
  rw [this]
  exact Out.here S (.bool _) q
end
end Mine
namespace Mine
open PySem PySem.W PyProof.Rows PySem.Calls

section
variable {W : Wd} {F : Fm} {ρ : Rho} {H : AHeap} {Q : V → AHeap → Prop} {k₀ : Nat}
theorem EP_callX {f e : Expr} {rest : List Expr} {pos : Pos} {a : Addr} (wok : W.Ok) (hkeep : keepIn W.K (.ref a) = true)
    (h : EP W F ρ H (eval f F.env) (fun d H₁ => d = .ref a ∧ NP W F ρ H₁ (spliced (backTo pos (starEach (e :: rest) F.env))) (fun ds H₂ => ∀ s vs, W.St H₂ s → W.Loc (dom H₂) F.env ρ s.heap → W.Reps (dom H₂) s.heap vs ds →
      codeAny W.M F.A (.call (.ref a) ⟨vs, []⟩) (fun r s' => ∃ x, r = .error x ∧ F.E x s') s)))
    (hc : eval (.Call f (e :: rest) [] pos) F.env = (do callWith pos (← eval f F.env) [] (backTo pos (starEach (e :: rest) F.env)) []) := by rfl)
    (he : starEach (e :: rest) F.env = (false, eval e F.env) :: starEach rest F.env := by rfl) (hplain : (backTo pos (starEach rest F.env)).any (·.1) = false := by rfl) :
    EP W F ρ H (eval (.Call f (e :: rest) [] pos) F.env) Q := .mk fun s S l n  => by
  rw [hc]
  refine wpAny_bind (wpAny_mono (h.go s S l n) (fun fv s₁ o => o.to fun d H₁ r S₁ kp o => o.elim fun hd q => ?_) fun _ _ e => e)
  subst hd
  refine Rep.ref_elim r ?_
  refine callWith_K (first := []) (wok.k.keeps S₁.keep) hkeep ?_ he hplain
  have l₁ := l.kp n kp
  have n₁ := l.out n kp
  refine wpAny_mono (q.go s₁ S₁ l₁ n₁) (fun vs s₂ o => o.to fun ds H₂ rs S₂ kp₂ q₂ => ⟨wok.k.keeps S₂.keep, ?_⟩) fun _ _ e => e
  exact wpAny_call (codeAny_mono (q₂ s₂ vs S₂ (l₁.kp n₁ kp₂) rs) fun r s' ⟨x, e, hx⟩ => by subst e; exact hx)
end

noncomputable abbrev Fm.on (F : Fm) (E : Value → Shared → Prop) : Fm := ⟨F.A, E, F.nm, F.sc, F.L, F.a, F.cd⟩
theorem Fm.Ok.on {W : Wd} {F : Fm} {k : Nat} (ok : F.Ok W k) (E : Value → Shared → Prop) : (F.on E).Ok W k := ⟨ok.kind, ok.nodup, ok.nodebug, ok.base, ok.room⟩
theorem SP.only {W : Wd} {F : Fm} {ρ : Rho} {H : AHeap} {t : Sem Flow} {Ex : Value → Shared → Prop} {Qn : Flow → Shared → Prop} {Qf : Fl → AHeap → Rho → Prop} {s : Shared} (S : W.St H s) (l : W.Loc (dom H) F.env ρ s.heap) (n : F.L ∉ dom H) (no : ∀ f H ρ, Qf f H ρ → False)
    (h : ∀ E : Value → Shared → Prop, E = Ex → SP W (F.on E) ρ H t Qf) : wpAny W.M F.A t Qn Ex s :=
  wpAny_mono ((h Ex rfl).go s S l n) (fun f s₁ x => x.elim fun f x => x.elim fun H x => x.elim fun ρ x => (no f H ρ x.2.2.2.2).elim) fun _ _ x => x

noncomputable def Wd.on (W : Wd) (H : AHeap) (s : Shared) : Wd := { W with B := { s with heap := hideAll s.heap (dom H) } }
section
variable {W : Wd} {H : AHeap} {s : Shared}
theorem on_keep (S : W.St H s) : ∀ b o, W.B.heap.get? b = some o → (W.on H s).B.heap.get? b = some o := fun b o e =>
  hideAll_get _ (S.keep b o e) fun hm => by
    obtain ⟨p, hp, rfl⟩ := List.mem_map.mp hm
    rw [(S.rep p hp).1] at e; cases e
theorem on_ok (wok : W.Ok) (S : W.St H s) : (W.on H s).Ok where
  g := wok.g.keeps (on_keep S)
  b := wok.b.keeps (on_keep S)
  nolimit := wok.nolimit.keeps (on_keep S)
  nodigits := wok.nodigits.elim fun mc x => ⟨mc, x.1.keeps (on_keep S), x.2⟩
  blt := wok.blt
  k := wok.k.keeps (on_keep S)
  gens := S.gens.trans wok.gens
  mods := wok.mods.elim fun o x => ⟨o, on_keep S _ _ x⟩
theorem on_st (S : W.St H s) : (W.on H s).St H s := ⟨fun b o e => of_hideAll _ e, rfl, rfl, S.nodup, fun p hp => ⟨hideAll_none _ (List.mem_map_of_mem hp), (S.rep p hp).2⟩⟩
theorem on_off {H' : AHeap} {s' : Shared} (S : W.St H s) (S' : (W.on H s).St H' s') : W.St H' s' ∧ Kp H s H' s' := by
  refine ⟨⟨fun b o e => S'.keep b o (on_keep S b o e), S'.gens.trans S.gens, S'.os.trans S.os, S'.nodup, fun p hp => ⟨?_, (S'.rep p hp).2⟩⟩, fun b o hb e => S'.keep b o (hideAll_get _ e hb), fun b o e hb hm => ?_⟩
  · cases e : W.B.heap.get? p.1 with
    | none => rfl
    | some o => have := on_keep S _ _ e; rw [(S'.rep p hp).1] at this; cases this
  · obtain ⟨p, hp, rfl⟩ := List.mem_map.mp hm
    have : (W.on H s).B.heap.get? p.1 = some o := hideAll_get _ e hb
    rw [(S'.rep p hp).1] at this; cases this
end

noncomputable def FrsAt (h : Heap) (l : List Env) : Prop := ∀ env ∈ l, env.scope.kind ≠ .module ∧ ∃ L, env.frame = some L ∧ ∃ o, h.get? L = some o ∧ ∀ vs, o.data ≠ .fields vs
theorem frs_fun {h : Heap} {as : List Addr} : ∀ {l : List Env}, FrsAt h l → (∀ env ∈ l, ∀ a, env.frame = some a → a ∈ as) → h.FunFrames (hideAll h as) l
  | [], _, _ => trivial
  | env :: l, x, y => by
    obtain ⟨hk, L, hf, o, ho, hd⟩ := x env (.head _)
    exact ⟨hk, ⟨L, o, hf, hideAll_none _ (y env (.head _) L hf), ho, hd⟩, frs_fun (fun e he => x e (.tail _ he)) fun e he => y e (.tail _ he)⟩
theorem Loc.frame_of {prog : Program} {w : World} {D : List Addr} {env : Env} {ρ : Rho} {h : Heap} (l : Mine.Loc prog w D env ρ h) : ∃ o, h.get? env.locals = some o ∧ o.cls = .type "frame" ∧ ∀ vs, o.data ≠ .fields vs := by
  obtain ⟨m, ⟨o, es, ep, ho, hd, _⟩, _⟩ := l.ns
  obtain ⟨o', ho', hc⟩ := l.frame
  rw [ho] at ho'; cases ho'
  exact ⟨o, ho, hc, fun vs e => by rw [hd] at e; cases e⟩
theorem St.slots {prog : Program} {w : World} {B : Shared} {H : AHeap} {s s' : Shared} {as : List Addr} (S : Mine.St prog w B H s) (hB : ∀ a ∈ as, B.heap.get? a = none) (hn : ∀ a ∈ as, a ∉ dom H)
    (hc : ∀ a ∈ as, ∃ o, s.heap.get? a = some o ∧ ¬ PureCls o.cls) (stay : (hideAll s.heap as).StaysIn s'.heap) (hg : s'.gens = s.gens) (ho : s'.os = s.os) : Mine.St prog w B H s' := by
  have C : Carry (dom H) s.heap (dom H) s'.heap := fun a o n e c => ⟨n, stay _ _ (hideAll_get _ e fun hm => by
    obtain ⟨o', e', c'⟩ := hc a hm
    rw [e] at e'; cases e'; exact c' c)⟩
  exact ⟨fun b o e => stay _ _ (hideAll_get _ (S.keep b o e) fun hm => by rw [hB b hm] at e; cases e), hg.trans S.gens, ho.trans S.os, S.nodup, fun p hp => ⟨(S.rep p hp).1, (S.rep p hp).2.carry C fun ob e =>
    stay _ _ (hideAll_get _ e fun hm => hn _ hm (List.mem_map_of_mem hp))⟩⟩
section
variable {M : Model} {A : Around} {E : Value → Shared → Prop} {s : Shared}
theorem leave_exc {env : Env} {outer : List Env} {L e : Addr} {oe : Obj} {vs : Array Value} {a0 : Value} {as : List Addr} {Q : Unit → Shared → Prop} (hfr : A.frames = some (env :: outer)) (hf : env.frame = some L) (hl : FrsAt s.heap (env :: outer))
    (he : s.heap.get? e = some oe) (hd : oe.data = .fields vs) (h0 : vs[0]? = some a0) (h1 : vs[1]? = some .none) (has : ∀ x ∈ env :: outer, ∀ a, x.frame = some a → a ∈ as) (hea : e ∈ as)
    (h : ∀ h', Heap.FlyingW (hideAll s.heap as) outer e oe.cls a0 h' → (∀ b o, b ∉ as → s.heap.get? b = some o → h'.get? b = some o) → s.heap.UpToSlots h' → Q () { s with heap := h' }) : wpAny M A (leaving env (.ref e)) Q E s := by
  refine wpAny_leaving_firstW (base := hideAll s.heap as) hfr (frs_fun hl has) hf he (fun b o q => of_hideAll _ q) (hideAll_none _ hea) hd h1 h0 fun h' x => ?_
  obtain ⟨k1, ⟨_, _, k2⟩, k3, k4⟩ := x
  exact h h' ⟨k1, hideAll_none _ hea, k2, k3⟩ (fun b o hb q => k1 b o (hideAll_get _ q hb)) k4
end
section
variable {prog : Program} {w : World} {A : Around} {E : Value → Shared → Prop} {s : Shared} {env : Env} {outer : List Env} {L e C N : Addr} {a0 : Value} {base : Heap} {t : Expr} {b₀ : Stmt} {suite : List Stmt} {pos : Pos} {rest : List ExceptHandler} {Q : Flow → Shared → Prop}
variable {nm q : Str} {bs bm : List Value} {hdct : Bool} {sn : List Str} {sub : List Value} {ab : Bool} {col : Option Bool} {dd : Option Addr} {k0 k1 k2 k3 k5 : Option Value} {newId : String}
theorem catch_exc (hfr : A.frames = some (env :: outer)) (hf : env.frame = some L) (hfl : Heap.FlyingW base (env :: outer) e (.ref C) a0 s.heap) (hC : base.get? C = some (excClassObj nm q C N bs bm hdct sn sub ab col dd k0 k1 k2 k3 k5 newId)) (hbase : bm.contains (.type "BaseException") = true)
    (ht : ∀ (E' : Value → Shared → Prop) (h' : Heap) (P : Value → Shared → Prop), base.StaysIn h' → P (.ref C) { s with heap := h' } → wpAny (model prog w) (A.mark (some (.ref e))) (eval t env) P E' { s with heap := h' })
    (h : ∀ (E' : Value → Shared → Prop) (h' : Heap), base.StaysIn h' → s.heap.UpToSlots h' → wpAny (model prog w) (A.mark (some (.ref e))) (execs (b₀ :: suite) env) Q E' { s with heap := h' }) :
    wpAny (model prog w) A (noteFrame (.ref e) env) (fun _ s₂ => wpAny (model prog w) A (setFlight (.ref e) none) (fun _ s₃ => wpAny (model prog w) A (handleBy (.ref e) env (.ExceptHandler (some t) none (b₀ :: suite) pos :: rest)) Q E s₃) E s₂) E s := by
  refine wpAny_looks_onW hfr hf hfl fun h₄ hheld₄ sm₄ => ?_
  refine wpAny_landsW hheld₄ fun h₅ hfl₅ sm₅ => ?_
  refine wpAny_handleBy_cons (codeAny_handlers_test (ht _ h₅ _ hfl₅.1 ?_)) (by intro q; cases q)
  obtain ⟨oe, hoe, hoc⟩ := hfl₅.there
  obtain ⟨hh, g, d, tk, os⟩ := s
  refine wpAny_excMatches_sub_self (hfl₅.1 _ _ hC) hoe hoc hbase (codeAny_handlers_suite ?_)
  refine lands_againW hfl₅ fun h₆ hfl₆ sm₆ => ?_
  exact h _ h₆ hfl₆.1 ((sm₄.trans sm₅).trans sm₆)
end
end Mine
namespace Mine
open PySem PySem.W PyProof.Rows PySem.Calls

theorem Loc.slots {prog : Program} {w : World} {D D' : List Addr} {env : Env} {ρ : Rho} {h h' : Heap} (x : Mine.Loc prog w D env ρ h) (k : Carry D h D' h') (kL : ∀ o, h.get? env.locals = some o → ∃ sl, h'.get? env.locals = some { o with slots := sl }) : Mine.Loc prog w D' env ρ h' := by
  obtain ⟨⟨m, ⟨o, es, ep, ho, r⟩, hv⟩, n, l, o', ho', hc⟩ := x
  obtain ⟨sl, e⟩ := kL _ ho
  obtain ⟨sl', e'⟩ := kL _ ho'
  exact ⟨⟨m, ⟨_, es, ep, e, r⟩, fun y hy d e => let ⟨v, a, b⟩ := hv y hy d e; ⟨v, a, b.carry k⟩⟩, n, l, _, e', hc⟩
noncomputable def Refused (W : Wd) (H : AHeap) (L₀ : Addr) (s : Shared) (res : Result) (s' : Shared) : Prop :=
  res = .ok (.ret (.bool true)) ∧ W.St H s' ∧ (∀ b o, b ≠ L₀ → b ∉ dom H → s.heap.get? b = some o → s'.heap.get? b = some o) ∧ ∀ o, s.heap.get? L₀ = some o → ∃ sl, s'.heap.get? L₀ = some { o with slots := sl }
noncomputable def ETrue (W : Wd) (F : Fm) (ρ : Rho) (H : AHeap) (t : Sem Value) : Prop :=
  ∀ s, W.St H s → W.Loc (dom H) F.env ρ s.heap → F.L ∉ dom H → wpAny W.M F.A t (fun v s' => v = .bool true ∧ W.St H s' ∧ KpL F.L H s H s' ∧ W.Loc (dom H) F.env ρ s'.heap) F.E s
section
variable {W : Wd} {F : Fm} {ρ : Rho} {H : AHeap} {Q : Fl → AHeap → Rho → Prop}
theorem ETrue_call {f e : Expr} {rest : List Expr} {pos : Pos} {a : Addr} (wok : W.Ok) (hkeep : keepIn W.K (.ref a) = true)
    (h : EP W F ρ H (eval f F.env) (fun d H₁ => d = .ref a ∧ NP W F ρ H₁ (spliced (backTo pos (starEach (e :: rest) F.env))) (fun ds H₂ => H₂ = H ∧ ∀ s vs, W.St H s → W.Loc (dom H) F.env ρ s.heap → F.L ∉ dom H → W.Reps (dom H) s.heap vs ds →
      codeAny W.M F.A (.call (.ref a) ⟨vs, []⟩) (Refused W H F.L s) s)))
    (hc : eval (.Call f (e :: rest) [] pos) F.env = (do callWith pos (← eval f F.env) [] (backTo pos (starEach (e :: rest) F.env)) []) := by rfl)
    (he : starEach (e :: rest) F.env = (false, eval e F.env) :: starEach rest F.env := by rfl) (hplain : (backTo pos (starEach rest F.env)).any (·.1) = false := by rfl) :
    ETrue W F ρ H (eval (.Call f (e :: rest) [] pos) F.env) := fun s S l n  => by
  rw [hc]
  refine wpAny_bind (wpAny_mono (h.go s S l n) (fun fv s₁ o => o.to fun d H₁ r S₁ kp o => o.elim fun hd q => ?_) fun _ _ e => e)
  subst hd
  refine Rep.ref_elim r ?_
  refine callWith_K (first := []) (wok.k.keeps S₁.keep) hkeep ?_ he hplain
  have l₁ := l.kp n kp
  have n₁ := l.out n kp
  refine wpAny_mono (q.go s₁ S₁ l₁ n₁) (fun vs s₂ o => o.to fun ds H₂ rs S₂ kp₂ o => o.elim fun eH q₂ => ⟨wok.k.keeps S₂.keep, ?_⟩) fun _ _ e => e
  subst eH
  have l₂ := l₁.kp n₁ kp₂
  refine wpAny_call (codeAny_mono (q₂ s₂ vs S₂ l₂ n rs) fun r s' ⟨e, S', k1, k2⟩ => ?_)
  subst e
  have K : KpL F.L H₂ s₂ H₂ s' := ⟨k1, fun b o _ hb => hb, fun o e => let ⟨sl, e'⟩ := k2 o e; ⟨_, e'⟩⟩
  exact ⟨rfl, S', ((kp.trans kp₂).toL n).trans K, l₂.slots (K.carry l₂.frame) k2⟩
theorem SP_unless {e₁ e₂ : Expr} {p₁ p₂ p₃ pos : Pos} {body : List Stmt} (h₁ : ETrue W F ρ H (eval e₁ F.env)) (h₂ : ETrue W F ρ H (eval e₂ F.env)) (q : Q .next H ρ)
    (w₁ : isTrue e₁ F.env (eval e₁ F.env) = (do let v ← eval e₁ F.env; standAt e₁.pos; holding [v] (truthy v)) := by rfl) (w₂ : isTrue e₂ F.env (eval e₂ F.env) = (do let v ← eval e₂ F.env; standAt e₂.pos; holding [v] (truthy v)) := by rfl) :
    SP W F ρ H (exec (.If (.BoolOp .Or [.UnaryOp .Not e₁ p₁, .UnaryOp .Not e₂ p₂] p₃) body [] pos) F.env) Q := .mk fun s S l n  => by
  refine wpAny_If (wpAny_isTrue_BoolOp (wpAny_allTrue_Or_cons (wpAny_isTrue_Not (wpAny_isTrue_value ?_ w₁))))
  refine wpAny_mono (h₁ s S l n) (fun v s₁ ⟨e, S₁, k₁, l₁⟩ => ?_) fun _ _ e => e
  subst e
  refine wpAny_truthy_bool (wpAny_allTrue_Or_cons (wpAny_isTrue_Not (wpAny_isTrue_value ?_ w₂)))
  refine wpAny_mono (h₂ s₁ S₁ l₁ n) (fun v s₂ ⟨e, S₂, k₂, l₂⟩ => ?_) fun _ _ e => e
  subst e
  exact wpAny_truthy_bool (wpAny_allTrue_Or_nil (wpAny_execs_nil ⟨_, H, ρ, .next, S₂, k₁.trans k₂, l₂, q⟩))
theorem SP_returnL {e : Expr} {pos : Pos} (h : ETrue W F ρ H (eval e F.env)) (q : Q (.ret (.bool true)) H ρ) : SP W F ρ H (exec (.Return (some e) pos) F.env) Q :=
  .mk fun s S l n  => wpAny_Return_some (wpAny_mono (h s S l n) (fun v s₁ ⟨e, S₁, k, l₁⟩ => ⟨_, H, ρ, e ▸ .ret (.bool _), S₁, k, l₁, q⟩) fun _ _ e => e)
end
end Mine
namespace Mine
open PySem PySem.W PyProof.Rows PySem.Calls

section
variable {W : Wd} {F : Fm} {ρ : Rho} {H : AHeap} {k₀ : Nat}
theorem SP.perm {H' : AHeap} {t : Sem Flow} {Q : Fl → AHeap → Rho → Prop} (hp : H'.Perm H) (h : SP W F ρ H' t Q) : SP W F ρ H t Q := .mk fun s S l n  => by
  have hm : ∀ a, a ∈ dom H' ↔ a ∈ dom H := fun a => (hp.map _).mem_iff
  refine wpAny_mono (h.go s (S.perm hp) (l.carry (fun a o na e _ => ⟨fun q => na ((hm a).mp q), e⟩) fun o e => e) fun q => n ((hm _).mp q)) (fun f s₁ o => o.to fun fl H₁ ρ₁ r S₁ k l₁ q => ⟨fl, H₁, ρ₁, r, S₁, ⟨fun b o hL hb e => k.keep b o hL (fun q => hb ((hm b).mp q)) e, fun b o e hb => k.dom b o e fun q => hb ((hm b).mp q), k.there⟩, l₁, q⟩) fun _ _ e => e

inductive Lit where
  | s (x : Str) (k : Nat) (p : Pos)
  | i (n : Int) (k : Nat) (p : Pos)
  | m (n : Int) (k : Nat) (p q : Pos)
noncomputable def Lit.E : Lit → Expr
  | .s x k p => .Constant (.str x) k p
  | .i n k p => .Constant (.int n) k p
  | .m n k p q => .UnaryOp .USub (.Constant (.int n) k p) q
noncomputable def Lit.val : Lit → V
  | .s x _ _ => .str x
  | .i n _ _ => .int n
  | .m n _ _ _ => .int (-n)
noncomputable def un1 (e : Expr) : Lit := match (exq e).2.1 with
  | [a] => .m (cint (exq a).1) (exq a).2.2.1 (exq a).2.2.2 (exq e).2.2.2
  | _ => match (exq e).1 with
    | .str x => .s x (exq e).2.2.1 (exq e).2.2.2
    | c => .i (cint c) (exq e).2.2.1 (exq e).2.2.2
structure LitT where
  l : List Lit
  k : Nat
  p : Pos
noncomputable def LitT.E (t : LitT) : Expr := .Tuple (t.l.map Lit.E) t.k t.p
noncomputable def LitT.val (t : LitT) : V := .tup (t.l.map Lit.val)
noncomputable def un2 (e : Expr) : LitT := ⟨(exq e).2.1.map un1, (exq e).2.2.1, (exq e).2.2.2⟩
theorem NP_map {L : Type} {mk : L → Expr} {val : L → V} {pos : Pos} {ls : List L} (h : ∀ l ∈ ls, ∀ Q : V → AHeap → Prop, Q (val l) H → EP W F ρ H (eval (mk l) F.env) Q) (hs : ∀ l rest, starEach (mk l :: rest) F.env = (false, eval (mk l) F.env) :: starEach rest F.env) :
    ∀ {Q : List V → AHeap → Prop}, Q (ls.map val) H → NP W F ρ H (spliced (backTo pos (starEach (ls.map mk) F.env))) Q := by
  induction ls with
  | nil => exact fun q => NP_nil q
  | cons l ls ih => exact fun q => NP_cons (h l (.head _) _ (ih (fun x hx => h x (.tail _ hx)) q)) (hs l _)
theorem Lit.star (l : Lit) (rest : List Expr) : starEach (l.E :: rest) F.env = (false, eval l.E F.env) :: starEach rest F.env := by cases l <;> rfl
theorem Lit.eval (l : Lit) {Q : V → AHeap → Prop} (q : Q l.val H) : EP W F ρ H (eval l.E F.env) Q := by
  cases l with
  | s => exact EP_str q
  | i => exact EP_int q
  | m => exact EP_un (EP_int (op_neg_int q))
theorem NP_lit1 {es : List Expr} {ds : List V} {pos : Pos} {Q : List V → AHeap → Prop} (he : (es.map un1).map Lit.E = es) (hd : (es.map un1).map Lit.val = ds) (q : Q ds H) : NP W F ρ H (spliced (backTo pos (starEach es F.env))) Q := by
  rw [← he]
  exact NP_map (fun l _ _ q => l.eval q) Lit.star (hd ▸ q)
theorem NP_lit2 {es : List Expr} {ds : List V} {pos : Pos} {Q : List V → AHeap → Prop} (he : (es.map un2).map LitT.E = es) (hl : ∀ t ∈ es.map un2, t.l.length ≤ 1000) (hd : (es.map un2).map LitT.val = ds) (q : Q ds H) : NP W F ρ H (spliced (backTo pos (starEach es F.env))) Q := by
  rw [← he]
  exact NP_map (fun t ht _ q => EP_tuple (NP_map (fun l _ _ q => l.eval q) Lit.star ⟨by rw [List.length_map]; exact hl t ht, q⟩)) (fun _ _ => rfl) (hd ▸ q)
theorem EP_pick {elts : List Expr} {e : Expr} {p pos : Pos} {ds : List V} {Q : V → AHeap → Prop} (hN : ∀ Q : List V → AHeap → Prop, Q ds H → NP W F ρ H (spliced (backTo p (starEach elts F.env))) Q) (hz : ds.length ≤ 1000)
    (h : ∀ a, EP W F ρ ((a, .list ds) :: H) (eval e F.env) (fun i H₂ => ∃ (n : Nat) (d : V) (H' : AHeap), i = .int n ∧ H₂ = (a, .list ds) :: H' ∧ ds[n]? = some d ∧ n < 2 ^ 40 ∧ Q d H'))
    (hs : ∀ t k u, subscripted e false (.ref t) (.int k u) = operate [.ref t, .int k u] (getItem (.ref t) (.int k u)) := by intro _ _ _; with_unfolding_all rfl) :
    EP W F ρ H (eval (.Subscript (.List elts p) e pos) F.env) Q := by
  have key : EP W F ρ H (eval (.Subscript (.List elts p) e pos) F.env) (fun d H₂ => ∃ a H', H₂ = (a, .list ds) :: H' ∧ Q d H') :=
    EP_sub (EP_list (hN _ ⟨hz, fun a => EP.mono (h a) fun i H₂ ⟨n, d, H', e1, e2, e3, hn, q⟩ => by
      subst e1 e2
      exact op_item_list (.head _) e3 hn ⟨a, H', rfl, q⟩ hs⟩))
  exact .mk fun s S l n => wpAny_mono (key.go s S l n) (fun v s₁ ⟨d, H₂, r, S₂, k, a, H', e, q⟩ => by
    subst e
    have u : H'.Sublist ((a, O.list ds) :: H') := .cons _ (.refl _)
    exact ⟨d, H', r.carry (subCarry u _), St.sub S₂ u, k.subOut u, q⟩) fun _ _ e => e

theorem slice_at {Q : V → AHeap → Prop} {s : Shared} {value slice : Expr} {l : List V} {v : Value} {sl : Addr} {pl pu : Option (Int × Tok)} (S : W.St H s) (r : W.Rep (dom H) s.heap v (.fl l)) (hl : l.length ≤ 2 ^ 20) (hsl : s.heap.IsSliceOf sl (partValue pl) (partValue pu) .none)
    (po : PartOk (pl.map (·.1)) (pu.map (·.1))) (q : ∀ a, Q (.ref a) ((a, .list (pickV l (pl.map (·.1)) (pu.map (·.1)))) :: H)) (hs : ∀ t u : Addr, ∃ ops, subscripted slice false (.ref t) (.ref u) = operate ops (getItem (.ref t) (.ref u))) :
    wpAny W.M F.A (subscriptTail value slice v (.ref sl)) (Out W H s Q) F.E s := by
  refine Rep.fl_elim r (fun a k us na hu ru => ?_)
  have isP : ∀ l : Option (Int × Tok), IsPart (partValue l) (l.map (·.1)) := fun l => by
    rcases l with _ | ⟨i, t⟩
    · exact .none
    · exact .int i t
  have fin : ∀ (m : List Value) ds, slicePick us.toArray (pl.map (·.1)) (pu.map (·.1)) none = m.toArray → W.Reps (dom H) s.heap m ds → (∀ a, Q (.ref a) ((a, .list ds) :: H)) → Out W H s Q (.ref s.heap.objs.size) { s with heap := s.heap.push { cls := .type "list", data := .seq (slicePick us.toArray (pl.map (·.1)) (pu.map (·.1)) none) } } := fun m ds e rm q => out_newList (t := s.toks) e S rm q
  obtain ⟨ops, hs⟩ := hs a sl
  refine tail_any (ops := ops) (IsL.isList hu).typeIs slot_list_getitem.lookup (wpAny_getItem_list_slice (st := none) (IsL.isList hu) hsl (isP pl) (isP pu) .none (by simp) ?_ (by rw [List.size_toArray, ru.length, sizeLine_eq]; lia)) hs
  rcases pl with _ | ⟨i, ti⟩ <;> rcases pu with _ | ⟨j, tj⟩
  · exact po.elim
  · obtain ⟨n, rfl⟩ := Int.eq_ofNat_of_zero_le (show 0 ≤ j from po)
    refine fin (us.take n) (l.take n) ?_ (ru.take _) (by simpa [pickV] using q)
    show slicePick us.toArray none (some (n : Int)) none = _
    rw [slicePick_upto']
  · obtain ⟨n, rfl⟩ := Int.eq_ofNat_of_zero_le (show 0 ≤ i from po)
    refine fin (us.drop n) (l.drop n) ?_ (ru.drop _) (by simpa [pickV] using q)
    show slicePick us.toArray (some (n : Int)) none none = _
    rw [slicePick_from']
  · exact po.elim
theorem EP_slice_new {Q : V → AHeap → Prop} {value : Expr} {lo up : Option Expr} {p pos : Pos} (h : EP W F ρ H (eval value F.env) (fun d H₁ => ∃ l, d = .fl l ∧ l.length ≤ 2 ^ 20 ∧ PP W F ρ H₁ lo (fun i H₂ => PP W F ρ H₂ up (fun j H₃ => PartOk i j ∧ ∀ a, Q (.ref a) ((a, .list (pickV l i j)) :: H₃))))) :
    EP W F ρ H (eval (.Subscript value (.Slice lo up none p) pos) F.env) Q := .mk fun s S l n  => by
  refine Subscript_ (wpAny_mono (h.go s S l n) (fun v s₁ o => o.to fun d H₁ r S₁ kp o => eaa o fun x e hx q => ?_) fun _ _ e => e)
  subst e
  have l₁ := l.kp n kp
  have n₁ := l.out n kp
  refine wpAny_Slice (wpAny_mono (q.go s₁ S₁ l₁ n₁) (fun vl s₂ o => o.to fun dl H₂ rl S₂ kp₂ o => ea o fun i ei q₂ => ?_) fun _ _ e => e)
  subst ei
  obtain ⟨pl, rfl, rfl⟩ := part_of rl
  refine wpAny_mono (q₂.go s₂ S₂ (l₁.kp n₁ kp₂) (l₁.out n₁ kp₂)) (fun vu s₃ o => o.to fun du H₃ rr S₃ kp₃ o => ea o fun j ej q₃ => ?_) fun _ _ e => e
  subst ej
  obtain ⟨pu, rfl, rfl⟩ := part_of rr
  refine wpAny_pure ?_
  have hk := push_keep s₃.heap { cls := .type "slice", data := .fields #[partValue pl, partValue pu, .none] }
  have S₄ := S₃.grow (t := s₃.toks) hk
  have K₄ : Kp H₃ s₃ H₃ _ := Kp.grow (t := s₃.toks) hk
  have r' := r.carry (kp₂.trans (kp₃.trans K₄)).carry
  refine wpAny_mono (slice_at (W := W) (F := F) (Q := Q) S₄ r' hx (Heap.IsSliceOf.new _ _ _ _) q₃.1 q₃.2 (fun _ _ => ⟨_, by with_unfolding_all rfl⟩)) (fun _ _ o => (((o.trans K₄).trans kp₃).trans kp₂).trans kp) fun _ _ e => e

theorem op_eq_nil {Q : V → AHeap → Prop} {a b : Addr} {l : List V} (ok : F.Ok W k₀) (hm : (a, O.list l) ∈ H) (hb : (b, O.list []) ∈ H) (q : Q (.bool l.isEmpty) H) : OP2 W F (compareOp .Eq) (.ref a) (.ref b) H Q := .mk fun s v u S r₁ r₂  => by
  refine Rep.ref_elim r₁ ?_
  refine Rep.ref_elim r₂ ?_
  obtain ⟨vs, k, hl, rl⟩ := (S.rep _ hm).2
  obtain ⟨us, j, hu, ru⟩ := (S.rep _ hb).2
  have hu0 := ok.room.units
  have e0 : us = [] := List.length_eq_zero_iff.mp ru.length
  subst e0
  refine cmp_ofEq ?_
  cases l with
  | nil =>
    have e0 : vs = [] := List.length_eq_zero_iff.mp rl.length
    subst e0
    exact SeqAt.RcAt.lists (e := fun _ => true) (IsL.isList hl) (IsL.isList hu) rfl (by lia) (fun j h1 _ => absurd h1 (by simp)) W.prog W.w F.E _ (Out.here S (.bool _) q)
  | cons d ds =>
    exact SeqAt.RcAt.lists_lengths (IsL.isList hl) (IsL.isList hu) (by simp [rl.length]) (by lia) W.prog W.w F.E _ (Out.here S (.bool _) q)
end
end Mine
namespace Mine
open PySem PyProof.Rows
noncomputable def S (l : List Nat) : Str := ⟨l.toArray⟩
theorem S_toList (l : List Nat) : (S l).cps.toList = l := by simp [S]
theorem S_eta (x : Str) : S x.cps.toList = x := by cases x; simp [S]
theorem S_inj {a b : List Nat} (h : S a = S b) : a = b := by rw [← S_toList a, h, S_toList]
theorem S_len (l : List Nat) : (S l).length = l.length := by simp [S, Str.length]
theorem S_one (c : Nat) : (⟨#[c]⟩ : Str) = S [c] := rfl
theorem S_append (a b : List Nat) : S a ++ S b = S (a ++ b) := by
  show (⟨(S a).cps ++ (S b).cps⟩ : Str) = _
  simp [S]
theorem S_get (l : List Nat) (n : Nat) : (S l).cps[n]? = l[n]? := by simp [S]
theorem S_beq (a b : List Nat) : (S a == S b) = (a == b) := by
  by_cases h : a = b
  · subst h; simp
  · rw [beq_eq_false_iff_ne.mpr h, beq_eq_false_iff_ne.mpr fun e => h (S_inj e)]
noncomputable def joinL (sep : List Nat) : List (List Nat) → List Nat
  | [] => []
  | [x] => x
  | x :: y :: r => x ++ sep ++ joinL sep (y :: r)
theorem S_join (sep : List Nat) : ∀ xs : List (List Nat), Txt.join (S sep) (xs.map S) = S (joinL sep xs)
  | [] => by show Builtin.Str.glued _ _ = _; rw [StrLaws.glued_eq_join]; rfl
  | [x] => by show Builtin.Str.glued _ _ = _; rw [StrLaws.glued_eq_join]; rfl
  | x :: y :: r => by
    have h := S_join sep (y :: r)
    have h' : Builtin.Str.glued (S sep) ((y :: r).map S) = S (joinL sep (y :: r)) := h
    rw [StrLaws.glued_eq_join] at h'
    show Builtin.Str.glued _ _ = _
    rw [StrLaws.glued_eq_join]
    show S x ++ S sep ++ Str.join (S sep) ((y :: r).map S) = _
    rw [h', S_append, S_append]
    rfl
theorem joinL_nil : ∀ xs : List (List Nat), joinL [] xs = xs.flatten
  | [] => rfl
  | [x] => by simp [joinL]
  | x :: y :: r => by
    have := joinL_nil (y :: r)
    simp only [joinL, List.append_nil] at this ⊢
    rw [this]; simp
theorem joinOk_S {sep : List Nat} {xs : List (List Nat)} (h : (xs.map (·.length)).sum + xs.length * sep.length ≤ 2 ^ 20) : JoinOk (S sep) (xs.map S) = true := by
  refine joinOk_of ?_
  rw [List.map_map, List.length_map, S_len]
  have e : (xs.map ((·.length) ∘ S)) = xs.map (·.length) := by
    refine List.map_congr_left fun l _ => ?_
    exact S_len l
  rw [e]; lia
end Mine
namespace Mine
open PySem PySem.W PyProof.Rows PySem.Calls Builtin Builtin.Str
theorem nolen_lri : typeLookup (.type "list_reverseiterator") "__len__" = pure none := by rw [typeLookup_type, builtinLookup_eq_fast]; kernel_rfl
theorem hint_lri : typeLookup (.type "list_reverseiterator") "__length_hint__" = pure (some (.builtin "list_reverseiterator.__length_hint__")) := by rw [typeLookup_type, builtinLookup_eq_fast]; kernel_rfl
section
variable {prog : Program} {w : World} {A : Around} {E : Value → Shared → Prop} {s : Shared} {I : Addr} {fp wr : List Addr} {G : Array GenState → Array GenState → Prop} {n : Nat} {P : Nat → Value → Prop} {St : Nat → Shared → Prop}
theorem collect_rev {Q : List Value → Shared → Prop} (W : WalksS prog w A.in1 I fp wr G n P St) (hT : ∀ i s, St i s → s.TypeIs (.ref I) "list_reverseiterator") (hst : St 0 s) (hfp : ∀ b ∈ fp, b < s.heap.objs.size) (hI : I ∈ fp)
    (hQ : ∀ s' acc, Moved wr G s s' → ItemsOf P acc n → Q acc.toList s') (hn : n ≤ sizeLine := by size_fits) : wpAny (model prog w) A (collect (.ref I)) Q E s := by
  have hSf : s.heap.objs.size ∉ fp := fun hm => Nat.lt_irrefl _ (hfp _ hm)
  have hSI : s.heap.objs.size ≠ I := fun e => hSf (e ▸ hI)
  unfold collect
  refine wpAny_bind (wpAny_runValue (codeAny_builtin PySem.F.entry_proto_collect ?_))
  rw [Around.under_plainId PySem.F.plain_proto_collect _]
  show wpAny _ A.in1 (newList [] >>= fun l => again (.builtin "list.__iadd__" ⟨[l, .ref I], []⟩)) _ _ s
  refine wpAny_bind (wpAny_newObj_type ?_)
  refine wpAny_pure ⟨plainId_quiet PySem.F.plain_list_iadd _, codeAny_builtin PySem.F.entry_list_iadd ?_⟩
  rw [Around.under_plainId PySem.F.plain_list_iadd _]
  have hst₁ := W.frame 0 s (s.heap.push { cls := .type "list", data := .seq ([] : List Value).toArray }) s.toks hst (Nat.le_refl _) fun b _ o e => Heap.get?_push_of_some _ e
  have hS₁ : (s.heap.push { cls := .type "list", data := .seq ([] : List Value).toArray }).get? s.heap.objs.size = some { cls := .type "list", data := .seq ([] : List Value).toArray } := Heap.get?_push_size _ rfl
  have h1 : Builtin.List.listSameRef (.ref s.heap.objs.size) (.ref I) = false := by simp [Builtin.List.listSameRef, hSI]
  show wpAny _ A.in1 (Builtin.List.listExtendWith (.ref s.heap.objs.size) (.ref I) (.ref s.heap.objs.size)) _ _ _
  unfold Builtin.List.listExtendWith
  refine wpAny_bind (wpAny_typeOf (hT 0 _ hst₁) ?_)
  rw [if_neg (by rw [h1]; decide)]
  refine wpAny_bind (W.self 0 _ _ _ hst₁ ?_)
  refine wpAny_bind (wpAny_holding ?_)
  unfold Builtin.List.listLengthHint
  refine wpAny_bind (wpAny_specialOf (hT 0 _ hst₁) nolen_lri ?_)
  show wpAny _ A.in1 (specialOf (Value.ref I) (Str.ofString "__length_hint__") >>= _) _ _ _
  refine wpAny_bind (wpAny_specialOf (hT 0 _ hst₁) hint_lri ?_)
  generalize hid : ("list_reverseiterator.__length_hint__" : String) = id0
  wp_delta
  rw [show splitId id0 = some ("list_reverseiterator", "__length_hint__") from by subst hid; decide +kernel]
  subst hid
  refine wpAny_bind (wpAny_isInstance (b := true) (hT 0 _ hst₁) (by rw [isSubtype_type]; kernel_rfl) ?_)
  refine wpAny_pure ?_
  rw [if_neg (by decide)]
  refine wpAny_pure ⟨plainId_quiet PySem.F.plain_extend_loop _, codeAny_extend_loopS W hn _ hSf _ n 0 _ _ _ rfl (Nat.zero_le _) hst₁ hS₁ (ItemsOf.nil P) fun s' acc' c' hm hS' hacc => ?_⟩
  show wpAny _ A (load s.heap.objs.size >>= _) _ _ s'
  refine wpAny_bind (wpAny_load hS' ?_)
  exact wpAny_pure (hQ s' acc' (Moved.drop_new (o := { cls := .type "list", data := .seq ([] : List Value).toArray }) (tk := s.toks) hm (Nat.le_refl _)) hacc)
theorem join_rev {x : Str} {t : Tok} {Q : Value → Shared → Prop} (W : WalksS prog w A.in1.in1 I fp wr G n P St) (hT : ∀ i s, St i s → s.TypeIs (.ref I) "list_reverseiterator") (hst : St 0 s) (hfp : ∀ b ∈ fp, b < s.heap.objs.size) (hI : I ∈ fp)
    (hstr : ∀ i v, P i v → ∃ y u, v = Value.str y u)
    (hq : ∀ s' (l : List (Str × Tok)), Moved wr G s s' → ItemsOf P (strValues l).toArray n → JoinOk x (l.map (·.1)) = true ∧ ∀ t' k, Q (.str (Txt.join x (l.map (·.1))) t') { s' with toks := k })
    (hsz : n ≤ sizeLine := by size_fits) :
    wpAny (model prog w) A (call (.builtin "str.join") [.str x t, .ref I]) Q E s := by
  refine wpAny_call (codeAny_call_builtin PySem.F.slot_str_join.plain PySem.F.entry_str_join (PySem.F.slot_str_join.check _ _ _ _ _ _ _ _ (typeIs_str _ _ _) (PySem.F.args_str_join_2 _ _) ?_))
  rw [join_tree_other]
  refine wpAny_bind (wpAny_typeOf (hT 0 s hst) ?_)
  show wpAny _ A.in1 ((pyIter (.ref I)).tryCatch _ >>= fun it => collect it >>= fun items => joinTail x items) _ _ s
  refine wpAny_bind (wpAny_tryCatch (W.of_in1.self 0 s _ _ hst ?_))
  refine wpAny_bind (collect_rev W hT hst hfp hI (fun s' acc hm hacc => ?_) hsz)
  obtain ⟨l, hl⟩ := exists_strValues acc.toList fun v hv => by
    obtain ⟨j, hj, rfl⟩ := Array.mem_iff_getElem.mp (Array.mem_toList_iff.mp hv)
    exact hstr j _ (hacc.2 j _ (Array.getElem?_eq_getElem hj))
  rw [← hl]
  have hacc' : ItemsOf P (strValues l).toArray n := by rw [hl]; simpa using hacc
  obtain ⟨hok, hpost⟩ := hq s' l hm hacc'
  unfold JoinOk at hok
  rw [Bool.not_eq_true'] at hok
  have g : Gives (joinTail x (strValues l)) (joinMade x l) := by
    have g0 := gives_joinTail x l hok
    cases l with
    | nil => exact g0
    | cons p r => cases r with
      | nil => exact g0
      | cons q r' => exact g0
  exact g prog w A (wants Q E) s' (post_join l ⟨joinFit_length hok, hpost⟩)
end
section
variable {W : Wd} {F : Fm} {ρ : Rho} {H H' : AHeap} {Q : V → AHeap → Prop} {s : Shared} {k₀ : Nat}
theorem itemsOf_rev {vs : List Value} {l : List (Str × Tok)} (h : ItemsOf (fun i v => vs.toArray[vs.toArray.size - 1 - i]? = some v) (strValues l).toArray vs.toArray.size) : strValues l = vs.reverse := by
  have hl : (strValues l).length = vs.length := by simpa using h.1
  apply List.ext_getElem?
  intro i
  by_cases hi : i < vs.length
  · obtain ⟨v, hv⟩ : ∃ v, (strValues l)[i]? = some v := ⟨_, List.getElem?_eq_getElem (by lia)⟩
    have := h.2 i v (by simpa using hv)
    rw [hv, List.getElem?_reverse hi]
    simpa using this.symm
  · rw [List.getElem?_eq_none (by lia), List.getElem?_eq_none (by simp; lia)]
theorem EP_join_rev {sepE argE : Expr} {x : Str} {apos pos p p2 : Pos} {pl : Sem Bool} (ok : F.Ok W k₀)
    (hrev : ∀ (ρ : Rho) (H : AHeap) (Q : V → AHeap → Prop), Q (.ty "reversed") H → EP W F ρ H (eval (.Name (Str.ofString "reversed") p) F.env) Q)
    (h : EP W F ρ H (eval sepE F.env) (fun d H₁ => d = .str x ∧ EP W F ρ H₁ (eval argE F.env) (fun e H₂ => ∃ (a : Addr) (xs : List Str), e = .ref a ∧ (a, O.list (xs.map V.str)) ∈ H₂ ∧ xs.length ≤ 2 ^ 20 ∧ JoinOk x xs.reverse = true ∧ Q (.str (Txt.join x xs.reverse)) H₂)))
    (hm : eval (.Call (.Attribute sepE (Str.ofString "join") apos) [.Call (.Name (Str.ofString "reversed") p) [argE] [] p2] [] pos) F.env = (do
      let ov ← eval sepE F.env
      standAt apos.atName
      let (f, first) ← holding [ov] (getMethod ov (Str.ofString "join") pl)
      callWith pos f first (backTo pos (starEach [.Call (.Name (Str.ofString "reversed") p) [argE] [] p2] F.env)) []) := by rfl)
    (he : starEach [argE] F.env = (false, eval argE F.env) :: starEach [] F.env := by rfl) :
    EP W F ρ H (eval (.Call (.Attribute sepE (Str.ofString "join") apos) [.Call (.Name (Str.ofString "reversed") p) [argE] [] p2] [] pos) F.env) Q := .mk fun s S l n  => by
  refine MethodCall_ (pl := pl) (wpAny_mono (h.go s S l n) (fun v s₁ o => o.to fun d H₁ r S₁ kp o => o.elim fun hd q => ?_) fun _ _ e => e) hm
  subst hd
  have l₁ := l.kp n kp
  have n₁ := l.out n kp
  refine meth_str PySem.F.slot_str_join PySem.F.type_str_join _ _ _ _ _ _ S₁ r ?_
  cases r with
  | str _ t =>
  refine callWith_method1 (first := [.str x t]) (spliced_more ?_) (by rfl) (by rfl)
  show wpAny _ _ (do callWith p2 (← eval (.Name (Str.ofString "reversed") p) F.env) [] (backTo p2 (starEach [argE] F.env)) []) _ _ _
  refine wpAny_bind (wpAny_mono ((hrev ρ H₁ (fun d H' => d = .ty "reversed" ∧ H' = H₁) ⟨rfl, rfl⟩).go s₁ S₁ l₁ n₁) (fun fv s₂ o => o.to fun d H₂ r₂ S₂ k₂ o => o.elim fun e1 e2 => ?_) fun _ _ e => e)
  subst e1; subst e2
  cases r₂ with
  | ty =>
  have l₂ := l₁.kp n₁ k₂
  refine PyProof.Rows.callWith_type1 (spliced_more (wpAny_mono (q.go s₂ S₂ l₂ n₁) (fun av s₃ ⟨d₃, H₃, r₃, S₃, k₃, a, xs, e3, hmem, hlen, hok, hq⟩ => ?_) fun _ _ e => e) he) he rfl
  subst e3
  cases r₃ with
  | ref =>
  obtain ⟨us, k, hu', ru⟩ := (S₃.rep _ hmem).2
  have hu : IsL s₃.heap a us.toArray k := hu'
  refine spliced_none ?_
  refine call_reversed_list hu.isList ?_
  refine spliced_none ?_
  have hk := push_keep s₃.heap (revObj a ((us.toArray.size : Int) - 1))
  have S₄ := S₃.grow (t := s₃.toks) hk
  have K₄ : Kp H₃ s₃ H₃ { s₃ with heap := s₃.heap.push (revObj a ((us.toArray.size : Int) - 1)) } := Kp.grow (t := s₃.toks) hk
  have hne : a ≠ s₃.heap.objs.size := Nat.ne_of_lt (Heap.lt_size hu)
  have hu₄ := IsL.push hu (revObj a ((us.toArray.size : Int) - 1))
  refine join_rev (s := { s₃ with heap := s₃.heap.push (revObj a ((us.toArray.size : Int) - 1)) }) ((Walks.listRev (by exact ok.room.handled) s₃.heap.objs.size a hne us.toArray).toS) (fun i s st => st.2.1.typeIs) ⟨Nat.zero_le _, ⟨_, Heap.get?_push_size _ rfl, rfl, by simp [revObj]⟩, hu₄.isList⟩ (fun b hb => ?_) (by simp) (fun i v hv => ?_) (fun s' l' hmv hit => ?_) (by rw [List.size_toArray, ru.length, List.length_map, sizeLine_eq]; lia)
  · simp only [List.mem_cons, List.not_mem_nil, or_false] at hb
    rcases hb with rfl | rfl
    · simp [Heap.size_push]
    · exact Heap.lt_size hu₄
  · obtain ⟨d, h1, h2⟩ := ru.get (i := us.toArray.size - 1 - i) (v := v) (by simpa using hv)
    rw [List.getElem?_map] at h1
    cases hx : xs[us.toArray.size - 1 - i]? with
    | none => rw [hx] at h1; cases h1
    | some y =>
      rw [hx] at h1; cases h1
      cases h2 with
      | str _ u => exact ⟨y, u, rfl⟩
  · have e := itemsOf_rev hit
    obtain ⟨l₀, rfl, e2⟩ := strs_of ru
    have e3 : l'.map (·.1) = xs.reverse := by
      have : l' = l₀.reverse := by
        have inj : ∀ (p q : List (Str × Tok)), strValues p = strValues q → p = q := by
          intro p
          induction p with
          | nil => intro q h; cases q with
            | nil => rfl
            | cons _ _ => simp [strValues] at h
          | cons b p ih => intro q h; cases q with
            | nil => simp [strValues] at h
            | cons c q =>
              simp only [strValues, List.map_cons, List.cons.injEq, Value.str.injEq] at h
              obtain ⟨⟨h1, h2⟩, h3⟩ := h
              rw [ih q h3]; congr 1; exact Prod.ext h1 h2
        exact inj _ _ (by rw [e]; simp [strValues])
      rw [this, List.map_reverse, e2]
    refine ⟨by rw [e3]; exact hok, fun t' k => ?_⟩
    rw [e3]
    have hs' : s' = { s₃ with heap := s'.heap, toks := s'.toks, gens := s'.gens, drawn := s'.drawn, os := s'.os } := rfl
    have hg : s'.gens = s₃.gens := hmv.gens
    have hos : s'.os = s₃.os := hmv.os
    have hkeep : ∀ b o, s₃.heap.get? b = some o → s'.heap.get? b = some o := fun b o e => hmv.heap b o (by simp; exact Nat.ne_of_lt (Heap.lt_size e)) (hk b o e)
    have G₁ := S₃.grow (t := s'.toks) hkeep
    have S' : W.St H₃ { s' with toks := k } := ⟨G₁.keep, hg.trans S₃.gens, hos.trans S₃.os, G₁.nodup, G₁.rep⟩
    have K' : Kp H₃ s₃ H₃ { s' with toks := k } := ⟨fun b o _ e => hkeep b o e, fun _ _ _ e => e⟩
    have O' : Out W H₃ s₃ Q (.str (Txt.join x xs.reverse) t') { s' with toks := k } := ⟨_, H₃, .str _ _, S', K', hq⟩
    exact Out.trans kp (Out.trans k₂ (Out.trans k₃ O'))
end
end Mine
namespace Mine
open PySem PyProof.Rows
noncomputable def decL (m : Nat) : List Nat := (Nat.toDigits 10 m).map Char.toNat
theorem decS (m : Nat) : Str.ofString (toString (m : Int)) = S (decL m) := by
  rw [← S_eta (Str.ofString (toString (m : Int)))]
  congr 1
  exact PySem.W.KIN.signs_num m
theorem decL_small {d : Nat} (h : d < 10) : decL d = [48 + d] := by
  have : ∀ d < 10, decL d = [48 + d] := by decide
  exact this d h
theorem decL_step {n d : Nat} (hn : 0 < n) (hd : d < 10) : decL (10 * n + d) = decL n ++ [48 + d] := by
  have e := Nat.toDigits_append_toDigits (b := 10) (by decide) hn hd
  rw [← decL_small hd]
  unfold decL
  rw [← e, List.map_append]
noncomputable def padL : Nat → Nat → List Nat
  | 0, _ => []
  | k + 1, b => padL k (b / 10) ++ [48 + b % 10]
theorem padL_len : ∀ (k b : Nat), (padL k b).length = k
  | 0, _ => rfl
  | k + 1, b => by simp [padL, padL_len k]
theorem decL_split {a : Nat} (ha : 0 < a) : ∀ (k b : Nat), b < 10 ^ k → decL (a * 10 ^ k + b) = decL a ++ padL k b
  | 0, b, hb => by
    have : b = 0 := by simpa using hb
    subst this; simp [padL]
  | k + 1, b, hb => by
    have h1 : b / 10 < 10 ^ k := by rw [Nat.pow_succ] at hb; lia
    have ih := decL_split ha k (b / 10) h1
    have e : a * 10 ^ (k + 1) + b = 10 * (a * 10 ^ k + b / 10) + b % 10 := by
      rw [Nat.pow_succ]
      have : a * (10 ^ k * 10) = 10 * (a * 10 ^ k) := by rw [← Nat.mul_assoc, Nat.mul_comm]
      lia
    rw [e, decL_step (by have := Nat.mul_pos ha (Nat.pow_pos (a := 10) (n := k) (by decide)); lia) (Nat.mod_lt _ (by decide)), ih]
    simp [padL]
theorem decL_pos (m : Nat) : 0 < (decL m).length := by
  induction m using Nat.strongRecOn with
  | _ m ih =>
    by_cases h : m < 10
    · rw [decL_small h]; simp
    · have : m = 10 * (m / 10) + m % 10 := by lia
      rw [this, decL_step (by lia) (by lia)]; simp
theorem decL_len {m : Nat} : ∀ {k : Nat}, 0 < k → m < 10 ^ k → (decL m).length ≤ k := by
  induction m using Nat.strongRecOn with
  | _ m ih =>
    intro k hk h
    by_cases hm : m < 10
    · rw [decL_small hm]; exact hk
    · have e : m = 10 * (m / 10) + m % 10 := by lia
      cases k with
      | zero => lia
      | succ k =>
        cases k with
        | zero => simp at h; lia
        | succ k =>
          have := ih (m / 10) (by lia) (k := k + 1) (by lia) (by rw [Nat.pow_succ] at h; lia)
          rw [e, decL_step (by lia) (by lia)]
          simp; lia
theorem padL_zero : ∀ k, padL k 0 = List.replicate k 48
  | 0 => rfl
  | k + 1 => by rw [padL, Nat.zero_div, padL_zero k, List.replicate_succ']
theorem padL_dec : ∀ (k b : Nat), b < 10 ^ k → 0 < k → padL k b = List.replicate (k - (decL b).length) 48 ++ decL b
  | 0, _, _, h => absurd h (Nat.lt_irrefl _)
  | k + 1, b, hb, _ => by
    by_cases h : b < 10
    · rw [padL, decL_small h, show b / 10 = 0 from by lia, padL_zero, Nat.mod_eq_of_lt h]; simp
    · have e : b = 10 * (b / 10) + b % 10 := by lia
      have hk : 0 < k := by
        rcases Nat.eq_zero_or_pos k with rfl | h'
        · simp at hb; lia
        · exact h'
      have ih := padL_dec k (b / 10) (by rw [Nat.pow_succ] at hb; lia) hk
      have e2 : decL b = decL (b / 10) ++ [48 + b % 10] := by
        conv => lhs; rw [e]
        exact decL_step (by lia) (by lia)
      rw [padL, ih, e2]
      simp
theorem decL_figs (m : Nat) : ∀ c ∈ decL m, 48 ≤ c ∧ c ≤ 57 := by
  induction m using Nat.strongRecOn with
  | _ m ih =>
    by_cases h : m < 10
    · rw [decL_small h]; simp; lia
    · have e : m = 10 * (m / 10) + m % 10 := by lia
      rw [e, decL_step (by lia) (by lia)]
      intro c hc
      rcases List.mem_append.mp hc with hc | hc
      · exact ih (m / 10) (by lia) c hc
      · simp at hc; lia
theorem decL_head (m : Nat) : ∃ c r, decL m = c :: r ∧ (c = 48 → m = 0) := by
  induction m using Nat.strongRecOn with
  | _ m ih =>
    by_cases h : m < 10
    · exact ⟨_, _, decL_small h, by lia⟩
    · have e : m = 10 * (m / 10) + m % 10 := by lia
      obtain ⟨c, r, h1, h2⟩ := ih (m / 10) (by lia)
      refine ⟨c, r ++ [48 + m % 10], ?_, fun hc => by have := h2 hc; lia⟩
      conv => lhs; rw [e]
      rw [decL_step (by lia) (by lia), h1]; rfl
theorem zfill_dec {b : Nat} (hb : b < 10 ^ 18) : Txt.zfill (S (decL b)) 18 = S (padL 18 b) := by
  have hl := decL_len (m := b) (k := 18) (by decide) hb
  rw [padL_dec 18 b hb (by decide)]
  unfold Txt.zfill
  rw [S_len]
  split
  · rename_i h
    have : (decL b).length = 18 := by lia
    rw [this]; simp
  · rename_i h
    unfold zfilled
    obtain ⟨c, r, hc, _⟩ := decL_head b
    have hf := decL_figs b c (by rw [hc]; exact .head _)
    have e0 : (S (decL b)).cps[0]? = some c := by rw [S_get, hc]; rfl
    rw [e0]
    have hne : (some c : Option Nat) ≠ some 43 ∧ (some c : Option Nat) ≠ some 45 := ⟨by simp; lia, by simp; lia⟩
    split
    · rename_i h'; exact absurd h' hne.1
    · rename_i h'; exact absurd h' hne.2
    · show (⟨Array.replicate _ 48 ++ (S (decL b)).cps ++ Array.replicate 0 48⟩ : Str) = _
      simp only [S]
      congr 1
      apply Array.ext'
      simp
noncomputable def numL (i : Int) : List Nat := (if i < 0 then [45] else []) ++ decL i.natAbs
end Mine
namespace Mine
open PySem PySem.W PyProof.Rows PySem.Calls
section
variable {prog : Program} {w : World} {K : Type} [DecidableEq K] {knd : KeyKind prog w K} {A : Around} {E : Value → Shared → Prop} {s : Shared}
theorem dictPut_pairs {d : Addr} {kvs : List (K × Value)} {k : K} {key v : Value} {Q : Unit → Shared → Prop} (hkey : knd.is k key = true) (hm : s.heap.DictOf knd d kvs)
    (hQ : ∀ h', h'.DictOf knd d (stored kvs k v) → Heap.SameBut d s.heap h' → Q () { s with heap := h' }) (hsz : kvs.length ≤ sizeLine) :
    wpAny (model prog w) A (dictPut d (knd.hash k) key v) Q E s := by
  obtain ⟨o, es, ep, ho, hc, hd, hk, hp, hn⟩ := hm
  have hes : es.size ≤ sizeLine := by have e1 := hp.length; have e2 : es.toList.length = es.size := by simp
                                      lia
  unfold dictPut
  refine wpAny_bind (wpAny_dictFind_of hkey ho hd hk ?_)
  have hidx : (es.findIdx? fun e => knd.is k e.key) = kvs.findIdx? fun kv => decide (kv.1 = k) := by
    rw [← hp.findIdx k]; obtain ⟨l⟩ := es; simp
  cases hi : es.findIdx? fun e => knd.is k e.key with
  | some i =>
    refine wpAny_updateDict ho hd (hQ _ ⟨_, _, ep, Heap.get?_update_self _ ho (Obj.isFreed_of_dict (Obj.data_mapDict hd _)),
      hc.mapDict _, Obj.data_mapDict hd _, hk.modify _ _, ?_, ?_⟩ (Heap.SameBut.update ..))
    · rw [stored, if_pos (any_of_findIdx_some (hidx ▸ hi))]
      have hl : (es.toList.findIdx? fun e => knd.is k e.key) = some i := by rw [← hi]; obtain ⟨l⟩ := es; simp
      have := hp.modify hn hl v
      obtain ⟨l⟩ := es
      simpa using this
    · rw [stored, if_pos (any_of_findIdx_some (hidx ▸ hi)), keys_map_store]; exact hn
  | none =>
    have hnot : k ∉ kvs.map (·.1) := not_mem_of_findIdx_none (hidx ▸ hi)
    have hany : ¬ (kvs.any fun kv => decide (kv.1 = k)) = true := by
      rw [List.any_eq_true]; rintro ⟨kv, hkv, he⟩
      exact hnot (List.mem_map.mpr ⟨kv, hkv, of_decide_eq_true he⟩)
    refine wpAny_updateDictKeys (hz := hes) ho hd (hQ _ ⟨_, _, ep + 1, Heap.get?_update_self _ ho (Obj.isFreed_of_dict (Obj.data_mapDictKeys hd _)),
      hc.mapDictKeys _, Obj.data_mapDictKeys hd _, hk.push hkey _, ?_, ?_⟩ (Heap.SameBut.update ..))
    · rw [stored, if_neg hany]
      have := hp.append hkey (knd.hash k) v
      obtain ⟨l⟩ := es
      simpa using this
    · rw [stored, if_neg hany, List.map_append, List.nodup_append]
      refine ⟨hn, by simp, ?_⟩
      intro x hx y hy
      simp at hy; subst hy
      rintro rfl; exact hnot hx
theorem stored_len {kvs : List (K × Value)} {k : K} {v : Value} : (stored kvs k v).length ≤ kvs.length + 1 := by
  unfold stored; split <;> simp
noncomputable def mergeL (kvs : List (K × Value)) (l : List (K × Value)) : List (K × Value) := l.foldl (fun m p => stored m p.1 p.2) kvs
theorem merge_pairs {d a : Addr} {kvs kva : List (K × Value)} {Q : Unit → Shared → Prop} (ha : (a == sysModules) = false) (hda : d ≠ a) (hd : s.heap.DictOf knd d kvs) (hva : s.heap.DictOf knd a kva) (hne : kvs ≠ []) (hsz : kvs.length + kva.length ≤ sizeLine)
    (hQ : ∀ h', h'.DictOf knd d (mergeL kvs kva) → Heap.SameBut d s.heap h' → Q () { s with heap := h' }) : wpAny (model prog w) A (mergeMapping d (.ref a) false) Q E s := by
  have hT : s.TypeIs (.ref a) "dict" := hva.typeIs
  obtain ⟨oa, es, ep, hoa, hca, hda', hka, hpa, hna⟩ := id hva
  obtain ⟨od, esd, epd, hod, hcd, hdd, hkd, hpd, hnd⟩ := id hd
  unfold mergeMapping
  refine wpAny_bind (m := isInstance (Value.ref a) (.type "dict")) (wpAny_isInstance (T := "dict") (b := true) hT (by rw [isSubtype_type]; kernel_rfl) ?_)
  rw [if_pos rfl]
  refine wpAny_bind (wpAny_specialOf hT PySem.F.slot_dict_iter.lookup (wpAny_bind (wpAny_pure ?_)))
  rw [show ((some (Value.builtin "dict.__iter__")) == some (Value.builtin "dict.__iter__")) = true from by simp]
  dsimp only
  rw [if_neg (by rw [ha]; exact Bool.false_ne_true)]
  refine wpAny_bind (wpAny_dictEntries hod hdd ?_)
  have hnz : esd.isEmpty = false := by
    have := hpd.length
    rw [Array.length_toList] at this
    cases hk : kvs with
    | nil => exact absurd hk hne
    | cons p r => rw [hk] at this; simp [Array.isEmpty, this]
  rw [if_neg (by rw [hnz]; exact Bool.false_ne_true)]
  refine wpAny_bind (wpAny_dictEntries hoa hda' ?_)
  refine wpAny_bind (wpAny_dictEpoch hoa hda' ?_)
  have hesz : es.size = kva.length := by rw [← hpa.length]; simp
  refine wpAny_bind ?_
  refine wpAny_forIn_list _ (fun rest _ s' => ∃ i h', rest = (List.range es.size).drop i ∧ i ≤ es.size ∧ s' = { s with heap := h' } ∧ h'.DictOf knd d (mergeL kvs (kva.take i)) ∧ Heap.SameBut d s.heap h') _ ?_ ?_ _ _ ⟨0, s.heap, by simp, Nat.zero_le _, rfl, by simpa [mergeL] using hd, Heap.SameBut.refl ..⟩
  · rintro x rest _ s' ⟨i, h', hr, hi, rfl, hdh, hsb⟩
    have hlt : i < es.size := by
      rcases Nat.lt_or_ge i es.size with h | h
      · exact h
      · rw [List.drop_eq_nil_of_le (by simpa using h)] at hr; cases hr
    rw [List.drop_eq_getElem_cons (by simpa using hlt)] at hr
    obtain ⟨rfl, rfl⟩ := List.cons.inj hr
    rw [List.getElem_range]
    have hoa' : h'.get? a = some oa := (hsb.2 a hda.symm).trans hoa
    refine wpAny_bind (wpAny_dictEntries (s := { s with heap := h' }) hoa' hda' ?_)
    rw [Array.getElem?_eq_getElem hlt]
    obtain ⟨kv, hkv⟩ : ∃ kv, kva[i]? = some kv := ⟨_, List.getElem?_eq_getElem (by lia)⟩
    obtain ⟨h1, h2⟩ := hpa.get? (i := i) (e := es[i]) (k := kv.1) (v := kv.2) (by simp [hlt]) hkv
    obtain ⟨k', hk1, hk2⟩ := hka es[i] (Array.getElem_mem hlt)
    have hkk : k' = kv.1 := knd.inj _ _ _ hk1 h1
    subst hkk
    refine wpAny_bind (wpAny_holding ?_)
    rw [if_neg Bool.false_ne_true]
    rw [hk2]
    have hml : ∀ (l m : List (K × Value)), (mergeL m l).length ≤ m.length + l.length := by
      intro l
      induction l with
      | nil => intro m; exact Nat.le_refl _
      | cons p l ih =>
        intro m
        have h1 := ih (stored m p.1 p.2)
        have h2 := stored_len (kvs := m) (k := p.1) (v := p.2)
        show (mergeL (stored m p.1 p.2) l).length ≤ _
        simp only [List.length_cons]; lia
    refine dictPut_pairs (s := { s with heap := h' }) hk1 hdh (fun h'' hdh' hsb' => ?_) (by
      have := hml (kva.take i) kvs
      have : (kva.take i).length ≤ kva.length := by simp; lia
      lia)
    have hoa'' : h''.get? a = some oa := (hsb'.2 a hda.symm).trans hoa'
    refine wpAny_bind (wpAny_dictEpoch (s := { s with heap := h'' }) hoa'' hda' ?_)
    rw [if_neg (by simp)]
    refine wpAny_pure ⟨i + 1, h'', rfl, hlt, rfl, ?_, hsb.trans hsb'⟩
    have e : mergeL kvs (kva.take (i + 1)) = stored (mergeL kvs (kva.take i)) kv.1 es[i].val := by
      rw [List.take_add_one, hkv, h2]; simp [mergeL]
    rw [e]; exact hdh'
  · rintro _ s' ⟨i, h', hr, hi, rfl, hdh, hsb⟩
    have hie : i = es.size := by
      rcases Nat.lt_or_ge i es.size with h | h
      · rw [List.drop_eq_getElem_cons (by simpa using h)] at hr; cases hr
      · lia
    subst hie
    rw [show kva.take es.size = kva from by rw [hesz]; simp] at hdh
    first
    | exact hQ h' hdh hsb
    | exact wpAny_pure (hQ h' hdh hsb)
end
end Mine
namespace Mine
open PySem PySem.W PyProof.Rows PySem.Calls
noncomputable def StrSem (M : Model) (A : Around) (t : Sem Value) (x : Str) : Prop := ∀ (E : Value → Shared → Prop) (s : Shared) (Q : Value → Shared → Prop), (∀ tk t', Q (.str x t') { s with toks := tk }) → wpAny M A t Q E s
theorem stored_new {K : Type} [DecidableEq K] {kvs : List (K × Value)} {k : K} {v : Value} (h : k ∉ kvs.map (·.1)) : stored kvs k v = kvs ++ [(k, v)] := by
  unfold stored
  rw [if_neg]
  rw [List.any_eq_true]; rintro ⟨kv, hkv, he⟩
  exact h (List.mem_map.mpr ⟨kv, hkv, of_decide_eq_true he⟩)
theorem mergeL_new {K : Type} [DecidableEq K] : ∀ (l kvs : List (K × Value)), ((kvs ++ l).map (·.1)).Nodup → mergeL kvs l = kvs ++ l
  | [], kvs, _ => by simp [mergeL]
  | p :: l, kvs, h => by
    have hn : p.1 ∉ kvs.map (·.1) := by
      intro hm
      rw [List.map_append, List.nodup_append] at h
      exact h.2.2 _ hm _ (by simp) rfl
    show mergeL (stored kvs p.1 p.2) l = _
    rw [stored_new hn, mergeL_new l (kvs ++ [(p.1, p.2)]) (by simpa using h)]
    simp
theorem StrsOf.append {l l' : List (Str × Value)} {m m' : List (Str × Str)} (x : StrsOf l m) (y : StrsOf l' m') : StrsOf (l ++ l') (m ++ m') := All2.append x y
theorem StrsOf.keys {l : List (Str × Value)} {m : List (Str × Str)} (x : StrsOf l m) : l.map (·.1) = m.map (·.1) := by
  induction x with
  | nil => rfl
  | cons r _ ih => rw [List.map_cons, List.map_cons, ih, r.1]
theorem StrsOf.len {l : List (Str × Value)} {m : List (Str × Str)} (x : StrsOf l m) : l.length = m.length := All2.length x
noncomputable abbrev PS := List ((Sem Value × Sem Value) × (Str × Str))
noncomputable def PsOk (M : Model) (A : Around) (ps : PS) : Prop := ∀ p ∈ ps, StrSem M A p.1.1 p.2.1 ∧ StrSem M A p.1.2 p.2.2
section
variable {prog : Program} {w : World} {A : Around} {E : Value → Shared → Prop} {s : Shared}
noncomputable def Tab (prog : Program) (w : World) (h₀ : Heap) (d : Addr) (l : List (Str × Str)) (h : Heap) : Prop := h₀.get? d = none ∧ (∀ b o, h₀.get? b = some o → h.get? b = some o) ∧ ∃ kvs, h.DictOf (PySem.strKind prog w) d kvs ∧ StrsOf kvs l
theorem store_str {h₀ : Heap} {d : Addr} {l : List (Str × Str)} {k v : Str} {t t' : Tok} {Q : Unit → Shared → Prop} (x : Tab prog w h₀ d l s.heap) (hn : k ∉ l.map (·.1)) (hl : l.length ≤ 10000)
    (hQ : ∀ h' tk, Tab prog w h₀ d (l ++ [(k, v)]) h' → Q () { s with heap := h', toks := tk }) : wpAny (model prog w) A (dictSet d (.str k t) (.str v t')) Q E s := by
  obtain ⟨x1, x2, kvs, hd, hs⟩ := x
  refine wpAny_dictSet_pairs (strKind_is _ _ k t) hd (fun h' hd' hsb => hQ h' _ ⟨x1, fun b o e => ?_, _, hd', ?_⟩) (by rw [hs.len, sizeLine_eq]; lia)
  · exact (hsb.2 b (fun q => by subst q; rw [x1] at e; cases e)).trans (x2 b o e)
  · rw [stored_new (by rw [hs.keys]; exact hn)]
    exact hs.append (.cons ⟨rfl, _, rfl⟩ .nil)
theorem evalPairs_strs : ∀ (ps : PS) {s : Shared} {Q : List (Value × Value) → Shared → Prop}, PsOk (model prog w) A ps → (∀ vs tk, vs.length = ps.length → (∀ (i : Nat) p, ps[i]? = some p → ∃ t t' : Tok, vs[i]? = some (Value.str p.2.1 t, Value.str p.2.2 t')) → Q vs { s with toks := tk }) → wpAny (model prog w) A (evalPairs (ps.map (·.1))) Q E s
  | [], s, Q, _, hQ => wpAny_pure (hQ [] s.toks rfl (by simp))
  | p :: ps, s, Q, h, hQ => by
    obtain ⟨h1, h2⟩ := h p (.head _)
    show wpAny _ _ (do
      let kv ← p.1.1
      let vv ← holding [kv] p.1.2
      return (kv, vv) :: (← holding [kv, vv] (evalPairs (ps.map (·.1))))) _ _ _
    refine wpAny_bind (h1 _ _ _ fun tk t => wpAny_bind (wpAny_holding (h2 _ _ _ fun tk' t' => wpAny_bind (wpAny_holding (evalPairs_strs ps (fun q hq => h q (.tail _ hq)) fun vs tk'' hl hv => wpAny_pure (hQ _ _ (by simp [hl]) ?_))))))
    intro i q hq
    cases i with
    | zero => simp at hq; subst hq; exact ⟨t, t', by simp⟩
    | succ i => simpa using hv i q (by simpa using hq)
theorem storeAll_strs {h₀ : Heap} {d : Addr} : ∀ (ps : PS) (vs : List (Value × Value)) {l : List (Str × Str)} {s : Shared} {Q : PUnit → Shared → Prop}, vs.length = ps.length → (∀ (i : Nat) p, ps[i]? = some p → ∃ t t' : Tok, vs[i]? = some (Value.str p.2.1 t, Value.str p.2.2 t')) → Tab prog w h₀ d l s.heap → ((l ++ ps.map (·.2)).map (·.1)).Nodup → l.length + ps.length ≤ 10000 →
    (∀ h' tk, Tab prog w h₀ d (l ++ ps.map (·.2)) h' → Q ⟨⟩ { s with heap := h', toks := tk }) → wpAny (model prog w) A (storeAll d vs) Q E s
  | [], [], l, s, Q, _, _, x, _, _, hQ => by
    unfold storeAll; rw [List.forIn_nil]; exact wpAny_pure (hQ s.heap s.toks (by simpa using x))
  | [], _ :: _, _, _, _, h, _, _, _, _, _ => by simp at h
  | _ :: _, [], _, _, _, h, _, _, _, _, _ => by simp at h
  | p :: ps, v :: vs, l, s, Q, hl, hv, x, hn, hz, hQ => by
    obtain ⟨t, t', e⟩ := hv 0 p (by simp)
    simp at e; subst e
    unfold storeAll
    rw [List.forIn_cons]
    have hnk : p.2.1 ∉ l.map (·.1) := by
      intro hm
      rw [List.map_append, List.nodup_append] at hn
      exact hn.2.2 _ hm _ (by simp) rfl
    refine wpAny_bind (wpAny_bind (store_str x hnk (by simp at hz; lia) fun h' tk x' => wpAny_pure ?_))
    exact storeAll_strs ps vs (by simpa using hl) (fun i q hq => by simpa using hv (i + 1) q (by simpa using hq)) x' (by simpa using hn) (by simp at hz ⊢; lia) fun h'' tk' x'' => hQ _ _ (by simpa using x'')
theorem subDict_strs {ps : PS} {Q : Addr → Shared → Prop} (h : PsOk (model prog w) A ps) (hn : ((ps.map (·.2)).map (·.1)).Nodup) (hz : ps.length ≤ 10000)
    (hQ : ∀ d h' tk, Tab prog w s.heap d (ps.map (·.2)) h' → Q d { s with heap := h', toks := tk }) : wpAny (model prog w) A (subDict (ps.map (·.1))) Q E s := by
  have x₀ : Tab prog w s.heap s.heap.objs.size [] (s.heap.push { cls := .type "dict", data := .dict #[] }) := ⟨get_size _, push_keep _ _, [], Heap.DictOf.new _, .nil⟩
  unfold subDict
  refine wpAny_bind (wpAny_alloc (wpAny_bind (wpAny_holding ?_)))
  by_cases hlen : (ps.map (·.1)).length ≤ 15
  · rw [if_pos hlen]
    refine wpAny_bind (evalPairs_strs ps h fun vs tk hl hv => wpAny_holding ?_)
    refine wpAny_bind ?_
    show wpAny _ _ (storeAll s.heap.objs.size vs) _ _ _
    exact storeAll_strs (h₀ := s.heap) (l := []) ps vs hl hv x₀ (by simpa using hn) (by simp; lia) fun h' tk' x' => wpAny_pure (wpAny_pure (hQ _ _ _ (by simpa using x')))
  · rw [if_neg hlen]
    refine wpAny_bind (wpAny_rule (wpAny_bind ?_))
    refine wpAny_forIn_list _ (fun rest _ s' => ∃ i h' tk, rest = (ps.map (·.1)).drop i ∧ i ≤ ps.length ∧ s' = { s with heap := h', toks := tk } ∧ Tab prog w s.heap s.heap.objs.size ((ps.map (·.2)).take i) h') _ ?_ ?_ _ _ ⟨0, _, s.toks, by simp, Nat.zero_le _, rfl, by simpa using x₀⟩
    · rintro x rest _ s' ⟨i, h', tk, hr, hi, rfl, xt⟩
      have hlt : i < ps.length := by
        rcases Nat.lt_or_ge i ps.length with h | h
        · exact h
        · rw [List.drop_eq_nil_of_le (by simpa using h)] at hr; cases hr
      rw [List.drop_eq_getElem_cons (by simpa using hlt)] at hr
      obtain ⟨rfl, rfl⟩ := List.cons.inj hr
      rw [List.getElem_map]
      obtain ⟨h1, h2⟩ := h ps[i] (List.getElem_mem _)
      have hnk : (ps[i]).2.1 ∉ ((ps.map (·.2)).take i).map (·.1) := by
        intro hm
        have e : (ps.map (·.2)) = (ps.map (·.2)).take i ++ (ps[i]).2 :: (ps.map (·.2)).drop (i + 1) := by
          conv => lhs; rw [← List.take_append_drop i (ps.map (·.2))]
          rw [List.drop_eq_getElem_cons (by simpa using hlt)]; simp
        rw [e, List.map_append, List.nodup_append] at hn
        exact hn.2.2 _ hm _ (by simp) rfl
      refine wpAny_bind (h1 _ _ _ fun tk1 t1 => wpAny_bind (wpAny_holding (h2 _ _ _ fun tk2 t2 => wpAny_bind (wpAny_holding (store_str (s := { s with heap := h', toks := tk2 }) xt hnk (by simp; lia) fun h'' tk3 x' => wpAny_pure ⟨i + 1, h'', tk3, rfl, hlt, rfl, ?_⟩)))))
      rw [List.take_add_one]
      simpa [hlt] using x'
    · rintro _ s' ⟨i, h', tk, hr, hi, rfl, xt⟩
      have hie : i = ps.length := by
        rcases Nat.lt_or_ge i ps.length with h | h
        · rw [List.drop_eq_getElem_cons (by simpa using h)] at hr; cases hr
        · lia
      subst hie
      rw [show (ps.map (·.2)).take ps.length = ps.map (·.2) from by rw [← List.length_map (f := (·.2)) (as := ps), List.take_length]] at xt
      first
      | exact wpAny_pure (hQ _ _ _ xt)
      | exact wpAny_pure (wpAny_pure (hQ _ _ _ xt))
end
end Mine
namespace Mine
open PySem PySem.W PyProof.Rows PySem.Calls
section
variable {prog : Program} {w : World} {A : Around} {E : Value → Shared → Prop} {s : Shared}
noncomputable def AtRun (prog : Program) (w : World) (s : Shared) (ps : PS) (i : Nat) (main : Option Addr) (run : List (Sem Value × Sem Value)) (s' : Shared) : Prop :=
  ∃ j h' tk, j ≤ i ∧ i ≤ ps.length ∧ s' = { s with heap := h', toks := tk } ∧ run = ((ps.take i).drop j).map (·.1) ∧ (∀ b o, s.heap.get? b = some o → h'.get? b = some o) ∧
    ((j = 0 ∧ main = none) ∨ (0 < j ∧ ∃ d, main = some d ∧ Tab prog w s.heap d ((ps.map (·.2)).take j) h'))
theorem flush_at {ps : PS} {i j : Nat} {d : Addr} {h' : Heap} {Q : Unit → Shared → Prop} {sub : Addr} {h'' : Heap} {tk' : Nat} (wm : ∃ o, s.heap.get? sysModules = some o) (hj : 0 < j) (hji : j ≤ i) (hi : i ≤ ps.length) (hz : ps.length ≤ 1000) (hn : ((ps.map (·.2)).map (·.1)).Nodup)
    (x : Tab prog w s.heap d ((ps.map (·.2)).take j) h') (y : Tab prog w h' sub (((ps.take i).drop j).map (·.2)) h'')
    (hQ : ∀ h₃, Tab prog w s.heap d ((ps.map (·.2)).take i) h₃ → Q () { s with heap := h₃, toks := tk' }) : wpAny (model prog w) A (mergeMapping d (.ref sub) false) Q E { s with heap := h'', toks := tk' } := by
  obtain ⟨x1, x2, kvs, x3, x4⟩ := x
  obtain ⟨y1, y2, kva, y3, y4⟩ := y
  have hd'' : h''.DictOf (PySem.strKind prog w) d kvs := by
    obtain ⟨o, es, ep, ho, r⟩ := x3
    exact ⟨o, es, ep, y2 _ _ ho, r⟩
  have hne : d ≠ sub := by
    rintro rfl
    obtain ⟨o, es, ep, ho, r⟩ := x3
    rw [y1] at ho; cases ho
  have hsm : (sub == sysModules) = false := by
    refine beq_eq_false_iff_ne.mpr ?_
    rintro rfl
    obtain ⟨o, ho⟩ := wm
    have := x2 _ _ ho
    rw [y1] at this; cases this
  have hsplit : (ps.map (·.2)).take i = (ps.map (·.2)).take j ++ ((ps.take i).drop j).map (·.2) := by
    rw [List.map_drop, List.map_take]
    conv => lhs; rw [← List.take_append_drop j ((ps.map (·.2)).take i)]
    rw [List.take_take, Nat.min_eq_left hji]
  have hall : ((kvs ++ kva).map (·.1)).Nodup := by
    rw [List.map_append, x4.keys, y4.keys, ← List.map_append, ← hsplit]
    rw [List.map_take]
    exact hn.sublist (List.take_sublist _ _)
  refine merge_pairs (s := { s with heap := h'', toks := tk' }) hsm hne hd'' y3 ?_ ?_ fun h₃ hd₃ hsb => hQ h₃ ⟨x1, fun b o e => (hsb.2 b (fun q => by subst q; rw [x1] at e; cases e)).trans (y2 b o (x2 b o e)), _, hd₃, ?_⟩
  · intro e
    have := x4.len
    rw [e] at this
    simp at this
    lia
  · rw [x4.len, y4.len, sizeLine_eq]; simp; lia
  · rw [mergeL_new _ _ hall, hsplit]
    exact x4.append y4
theorem display_strs {ps : PS} {Q : Value → Shared → Prop} (h : PsOk (model prog w) A ps) (hn : ((ps.map (·.2)).map (·.1)).Nodup) (hz : ps.length ≤ 1000) (h0 : ps ≠ []) (wm : ∃ o, s.heap.get? sysModules = some o)
    (hQ : ∀ d h' tk, Tab prog w s.heap d (ps.map (·.2)) h' → Q (.ref d) { s with heap := h', toks := tk }) : wpAny (model prog w) A (dictDisplay (ps.map fun p => (some p.1.1, p.1.2))) Q E s := by
  have sub_ok : ∀ i j, PsOk (model prog w) A ((ps.take i).drop j) := fun i j p hp => h p (List.mem_of_mem_take (List.mem_of_mem_drop hp))
  have sub_n : ∀ i j, ((((ps.take i).drop j).map (·.2)).map (·.1)).Nodup := fun i j => by
    refine hn.sublist ?_
    exact (((List.drop_sublist _ _).trans (List.take_sublist _ _)).map _).map _
  unfold dictDisplay
  dsimp only
  refine wpAny_bind ?_
  refine wpAny_forIn_list _ (fun rest b s' => ∃ i, rest = (ps.map fun p => (some p.1.1, p.1.2)).drop i ∧ AtRun prog w s ps i b.1 b.2 s') _ ?_ ?_ _ _ ⟨0, by simp, 0, s.heap, s.toks, Nat.le_refl _, Nat.zero_le _, rfl, by simp, fun _ _ e => e, .inl ⟨rfl, rfl⟩⟩
  · rintro x rest ⟨main, run⟩ s' ⟨i, hr, j, h', tk, hji, hi, rfl, hrun, hk, hm⟩
    dsimp only at hrun hm
    have hlt : i < ps.length := by
      rcases Nat.lt_or_ge i ps.length with h | h
      · exact h
      · rw [List.drop_eq_nil_of_le (by simpa using h)] at hr; cases hr
    rw [List.drop_eq_getElem_cons (by simpa using hlt)] at hr
    obtain ⟨rfl, rfl⟩ := List.cons.inj hr
    rw [List.getElem_map]
    dsimp only
    have hrun' : run ++ [((ps[i]).1.1, (ps[i]).1.2)] = ((ps.take (i + 1)).drop j).map (·.1) := by
      rw [hrun, List.take_add_one, List.getElem?_eq_getElem hlt, List.drop_append_of_le_length (by simp; lia)]; simp
    rw [hrun']
    by_cases h17 : ((((ps.take (i + 1)).drop j).map (·.1)).length == 17) = true
    · rw [if_pos h17]
      have hne : ((((ps.take (i + 1)).drop j).map (·.1)).isEmpty) = false := by
        rw [List.isEmpty_eq_false_iff]; intro e; rw [e] at h17; simp at h17
      rw [if_neg (by rw [hne]; exact Bool.false_ne_true)]
      rcases hm with ⟨rfl, rfl⟩ | ⟨hj0, d, rfl, xt⟩
      · refine wpAny_bind (wpAny_bind (subDict_strs (s := { s with heap := h', toks := tk }) (sub_ok _ _) (sub_n _ _) (by simp; lia) fun d h₂ tk₂ y => wpAny_pure (wpAny_pure ⟨i + 1, rfl, i + 1, h₂, tk₂, Nat.le_refl _, hlt, rfl, by simp, fun b o e => y.2.1 b o (hk b o e), .inr ⟨Nat.succ_pos _, d, rfl, ?_⟩⟩)))
        obtain ⟨y1, y2, y3⟩ := y
        refine ⟨?_, fun b o e => y2 b o (hk b o e), ?_⟩
        · cases e : s.heap.get? d with
          | none => rfl
          | some o => have := hk _ _ e; rw [y1] at this; cases this
        · simpa [List.map_take] using y3
      · refine wpAny_bind (wpAny_bind (wpAny_holding (subDict_strs (s := { s with heap := h', toks := tk }) (sub_ok _ _) (sub_n _ _) (by simp; lia) fun d₂ h₂ tk₂ y => wpAny_bind (wpAny_onRaise (wpAny_mono (wpAny_holding (flush_at (s := s) (E := fun _ _ => False) (i := i + 1) wm hj0 (by lia) hlt hz hn xt y fun h₃ z => ?_)) (fun _ _ q => q) (fun _ _ e => e.elim))))))
        exact wpAny_pure (wpAny_pure ⟨i + 1, rfl, i + 1, h₃, tk₂, Nat.le_refl _, hlt, rfl, by simp, z.2.1, .inr ⟨Nat.succ_pos _, d, rfl, z⟩⟩)
    · rw [if_neg h17]
      exact wpAny_pure ⟨i + 1, rfl, j, h', tk, by lia, hlt, rfl, rfl, hk, hm⟩
  · rintro ⟨main, run⟩ s' ⟨i, hr, j, h', tk, hji, hi, rfl, hrun, hk, hm⟩
    dsimp only at hrun hm
    have hie : i = ps.length := by
      rcases Nat.lt_or_ge i ps.length with h | h
      · rw [List.drop_eq_getElem_cons (by simpa using h)] at hr; cases hr
      · lia
    subst hie
    dsimp only
    have hta : (ps.map (·.2)).take ps.length = ps.map (·.2) := by rw [← List.length_map (f := (·.2)) (as := ps), List.take_length]
    by_cases hne : run.isEmpty = true
    · rw [if_pos hne]
      rcases hm with ⟨rfl, rfl⟩ | ⟨hj0, d, rfl, xt⟩
      · rw [hrun] at hne
        simp at hne
        exact absurd hne h0
      · have hj : j = ps.length := by
          rw [hrun] at hne
          simp at hne; lia
        subst hj
        rw [hta] at xt
        exact wpAny_bind (wpAny_pure (wpAny_pure (hQ _ _ _ xt)))
    · rw [if_neg hne, hrun]
      rcases hm with ⟨rfl, rfl⟩ | ⟨hj0, d, rfl, xt⟩
      · refine wpAny_bind (wpAny_bind (subDict_strs (s := { s with heap := h', toks := tk }) (sub_ok _ _) (sub_n _ _) (by simp; lia) fun d h₂ tk₂ y => wpAny_pure (wpAny_pure (hQ _ _ _ ?_))))
        obtain ⟨y1, y2, y3⟩ := y
        refine ⟨?_, fun b o e => y2 b o (hk b o e), ?_⟩
        · cases e : s.heap.get? d with
          | none => rfl
          | some o => have := hk _ _ e; rw [y1] at this; cases this
        · simpa using y3
      · refine wpAny_bind (wpAny_bind (wpAny_holding (subDict_strs (s := { s with heap := h', toks := tk }) (sub_ok _ _) (sub_n _ _) (by simp; lia) fun d₂ h₂ tk₂ y => wpAny_bind (wpAny_onRaise (wpAny_mono (wpAny_holding (flush_at (s := s) (E := fun _ _ => False) (i := ps.length) wm hj0 (by lia) (Nat.le_refl _) hz hn xt y fun h₃ z => ?_)) (fun _ _ q => q) (fun _ _ e => e.elim))))))
        rw [hta] at z
        exact wpAny_pure (wpAny_pure (hQ _ _ _ z))
end
end Mine
namespace Mine
open PySem PySem.W PyProof.Rows PySem.Calls
structure LitS where
  x : Str
  k : Nat
  p : Pos
noncomputable def LitS.E (l : LitS) : Expr := .Constant (.str l.x) l.k l.p
noncomputable def unS (e : Expr) : LitS := ⟨cstr (exq e).1, (exq e).2.2.1, (exq e).2.2.2⟩
noncomputable def unD (ks : List (Option Expr)) (vs : List Expr) : List (LitS × LitS) := (ks.zip vs).map fun p => (unS (p.1.getD p.2), unS p.2)
noncomputable def pairsS (ks : List (Option Expr)) (vs : List Expr) : List (Str × Str) := (unD ks vs).map fun p => (p.1.x, p.2.x)
structure AllStr (ks : List (Option Expr)) (vs : List Expr) : Prop where
  hk : (unD ks vs).map (fun p => some p.1.E) = ks
  hv : (unD ks vs).map (fun p => p.2.E) = vs
section
variable {A : Around}
theorem LitS.sem {M : Model} {env : Env} (l : LitS) : StrSem M A (eval l.E env) l.x := fun E s Q hQ => wpAny_Constant_str (k := l.k) (pos := l.p) (env := env) (hQ _ _)
theorem ps_of {M : Model} {env : Env} {pos : Pos} (ls : List (LitS × LitS)) : ∃ ps : PS, ps.map (·.1) = pairTrees (ls.map fun p => some p.1.E) (ls.map fun p => p.2.E) env pos ∧ ps.map (·.2) = ls.map (fun p => (p.1.x, p.2.x)) ∧ PsOk M A ps := by
  induction ls with
  | nil => exact ⟨[], rfl, rfl, fun _ h => nomatch h⟩
  | cons l ls ih => exact ih.elim fun ps o => ⟨((eval l.1.E env, do let x ← eval l.2.E env; standAt pos; pure x), (l.1.x, l.2.x)) :: ps, by rw [List.map_cons, o.1]; rfl, by rw [List.map_cons, o.2.1]; rfl, fun p hp => by
      rcases List.mem_cons.mp hp with rfl | hp
      · exact ⟨l.1.sem (env := env), fun E s Q hQ => wpAny_bind (l.2.sem (env := env) E s _ fun tk t => wpAny_bind (wpAny_standAt (wpAny_pure (hQ tk t))))⟩
      · exact o.2.2 p hp⟩
end
section
variable {W : Wd} {F : Fm} {ρ : Rho} {H : AHeap} {Q : V → AHeap → Prop}
theorem EP_dict_strs (wok : W.Ok) {ks : List (Option Expr)} {vs : List Expr} {pos : Pos} (h : AllStr ks vs) (hn : ((pairsS ks vs).map (·.1)).Nodup) (hz : ks.length ≤ 1000) (h0 : ks ≠ []) (q : Q (.sd (pairsS ks vs)) H) :
    EP W F ρ H (eval (.Dict ks vs pos) F.env) Q := .mk fun s S l n  => by
  obtain ⟨ps, e1, e2, hok⟩ := ps_of (M := W.M) (A := F.A) (env := F.env) (pos := pos) (unD ks vs)
  rw [h.hk, h.hv] at e1
  have hall : ks.all (·.isSome) = true := h.hk ▸ (by simp)
  have hl : ks.length = vs.length := by
    have a := congrArg List.length h.hk
    have b := congrArg List.length h.hv
    rw [List.length_map] at a b
    exact a.symm.trans b
  have hpl : ps.length = ks.length := by
    rw [← List.length_map (f := (·.1)) (as := ps), e1]; exact pairTrees_length ks vs F.env pos hall hl
  have wm : ∃ o, s.heap.get? sysModules = some o := let ⟨o, e⟩ := wok.mods; ⟨o, S.keep _ _ e⟩
  rw [arm_eval_Dict, zip_pairTrees ks vs F.env pos hall hl, ← e1, List.map_map]
  refine wpAny_bind (wpAny_standAt ?_)
  refine display_strs hok (by rw [e2]; exact hn) (by lia) (by rintro rfl; exact h0 (List.length_eq_zero_iff.mp hpl.symm)) wm fun d h' tk ⟨x1, x2, kvs, x3, x4⟩ => ?_
  rw [e2] at x4
  have nm : (d == sysModules) = false := by
    refine beq_eq_false_iff_ne.mpr ?_
    rintro rfl
    obtain ⟨o, ho⟩ := wm
    rw [x1] at ho; cases ho
  exact ⟨.sd (pairsS ks vs), H, .sd (S.fresh x1) nm x3 x4, S.grow x2, Kp.grow x2, q⟩
end
end Mine
namespace Mine
open PySem
theorem S_slice {l : List Nat} {a b : Nat} (hab : a ≤ b) (ha : a ≤ l.length) : Txt.slice (S l) (some (a : Int)) (some (b : Int)) = S ((l.drop a).take (b - a)) := by
  by_cases hb : b ≤ l.length
  · have := StrLaws.sliceText_nat (S l) hab (by rw [S_len]; exact hb)
    rw [S_toList] at this
    exact this
  · have e : Builtin.Str.strSliceIndices (some (a : Int)) (some (b : Int)) 1 (S l).length = Builtin.Str.strSliceIndices (some (a : Int)) (some (((S l).length : Nat) : Int)) 1 (S l).length := by
      have h1 : ¬ ((b : Int) < 0) := by lia
      have h2 : ¬ (((S l).length : Int) < 0) := by lia
      have h3 : min (b : Int) ((S l).length : Int) = ((S l).length : Int) := by rw [S_len]; lia
      have h4 : min ((S l).length : Int) ((S l).length : Int) = ((S l).length : Int) := by lia
      simp [Builtin.Str.strSliceIndices, h1, h2, h3, h4]
    have e2 : Txt.slice (S l) (some (a : Int)) (some (b : Int)) = StrLaws.sliceText (S l) (some (a : Int)) (some (((S l).length : Nat) : Int)) := by
      unfold Txt.slice StrLaws.sliceText
      rw [e]
    rw [e2, StrLaws.sliceText_nat (S l) (by rw [S_len]; exact ha) (Nat.le_refl _), S_toList, S_len]
    rw [List.take_of_length_le (by simp), List.take_of_length_le (by simp; lia)]
    rfl
theorem S_slice_from {l : List Nat} {a : Nat} (ha : a ≤ l.length) : Txt.slice (S l) (some (a : Int)) none = S (l.drop a) := by
  have e2 : Txt.slice (S l) (some (a : Int)) none = StrLaws.sliceText (S l) (some (a : Int)) (some (((S l).length : Nat) : Int)) := by
    unfold Txt.slice StrLaws.sliceText
    rw [StrLaws.sliceIdx_none_hi]
  rw [e2, StrLaws.sliceText_nat (S l) (by rw [S_len]; exact ha) (Nat.le_refl _), S_toList, S_len, List.take_of_length_le (by simp)]
  rfl
theorem S_slice_to {l : List Nat} {b : Nat} (hb : b ≤ l.length) : Txt.slice (S l) none (some (b : Int)) = S (l.take b) := by
  have e2 : Txt.slice (S l) none (some (b : Int)) = StrLaws.sliceText (S l) (some ((0 : Nat) : Int)) (some (b : Int)) := by
    unfold Txt.slice StrLaws.sliceText
    rw [StrLaws.sliceIdx_none_lo]; rfl
  rw [e2, StrLaws.sliceText_nat (S l) (Nat.zero_le _) (by rw [S_len]; exact hb), S_toList]
  simp [S]
end Mine
namespace Mine
open PySem PySem.W PyProof.Rows PySem.Calls PySem.NumText
theorem digitsVal_go (b : List Nat) : ∀ acc, b.foldl (fun acc c => acc * 10 + (c - 48)) acc = acc * 10 ^ b.length + digitsVal b := by
  induction b with
  | nil => intro acc; simp [digitsVal]
  | cons c b ih =>
    intro acc
    show b.foldl _ (acc * 10 + (c - 48)) = _
    have h2 : digitsVal (c :: b) = (c - 48) * 10 ^ b.length + digitsVal b := by
      show b.foldl _ (0 * 10 + (c - 48)) = _
      rw [ih]; simp
    rw [ih, h2, List.length_cons, Nat.pow_succ, Nat.add_mul, Nat.add_assoc]
    congr 1
    rw [Nat.mul_assoc, Nat.mul_comm 10]
theorem digitsVal_app (a b : List Nat) : digitsVal (a ++ b) = digitsVal a * 10 ^ b.length + digitsVal b := by
  show (a ++ b).foldl _ 0 = _
  rw [List.foldl_append, digitsVal_go]; rfl
theorem digitsVal_dec (m : Nat) : digitsVal (decL m) = m := PySem.W.KIN.val_back m
section
variable {W : Wd} {F : Fm} {H : AHeap} {Q : V → AHeap → Prop}
theorem op_int_str {l : List Nat} (h : AllDigits l) (h0 : l ≠ []) (hl : l.length ≤ 600) (q : Q (.int (digitsVal l : Nat)) H) : OPN W F (fun vs => call (.type "int") vs) [.str (S l)] H Q := opn1 (fun s v S' r => by
  cases r
  have hx : PySem.intText? (S l) = some ((digitsVal l : Nat) : Int) := by
    have := intText_digits (x := S l) (by rw [S_toList]; exact h) (by rw [S_toList]; exact h0) (by rw [S_len]; lia)
    rwa [S_toList] at this
  exact PySem.W.KIN.call_text hx (by rw [S_len]; lia) (Out.toks S' (.int _ _) q)) fun _ => rfl
theorem size_18 (n : Nat) : Builtin.Range.rangeSize 0 (n : Int) 18 = ((n + 17) / 18 : Nat) := by
  unfold Builtin.Range.rangeSize
  rw [if_pos (by decide)]
  split
  · lia
  · lia
theorem fitsLong {z : Int} (h : -9000000000000000000 ≤ z) (h' : z < 9000000000000000000) : Builtin.Range.rangeFitsLong z = true := by
  have e : (2 : Int) ^ 63 = 9223372036854775808 := by decide +kernel
  unfold Builtin.Range.rangeFitsLong
  rw [e, Bool.and_eq_true, decide_eq_true_eq, decide_eq_true_eq]
  lia
theorem small_18 {n : Nat} (hn : n ≤ 1000000000000) : Builtin.Range.small 0 (n : Int) 18 = true := by
  unfold Builtin.Range.small
  rw [size_18 n, fitsLong (by lia) (by lia), fitsLong (by lia) (by lia), fitsLong (by lia) (by lia), fitsLong (by lia) (by lia), if_pos (by decide), fitsLong (by lia) (by lia), Bool.or_true]
  rfl
end
end Mine
namespace Mine
open PySem PySem.Builtin PySem.Builtin.Str PySem.StrLaws
theorem occ_one {x y : Str} (hy : y.length = 1) (lim : Nat) : ∀ (k a : Nat) (st : Array Nat × Nat), st.fst.size ≤ a → st.snd ≤ a → a + k ≤ lim →
    (forIn (m := Id) (List.range' a k) st (occBody x y x.length lim)).run.fst.toList = st.fst.toList ++ (List.range' a k).filter (fun i => decide (i + 1 ≤ x.length) && subAt x y i)
  | 0, a, st, h1, h2, h3 => by simp
  | k + 1, a, st, h1, h2, h3 => by
    rw [List.range'_succ, List.forIn_cons, List.filter_cons]
    unfold occBody
    split
    · rename_i hc
      have ih := occ_one (x := x) hy lim k (a + 1) (st.fst.push a, a + y.length) (by simp; lia) (by simp; lia) (by lia)
      have hd : (decide (a + 1 ≤ x.length) && subAt x y a) = true := by
        have h4 := hc.1.2; rw [hy] at h4
        simp [h4, hc.2]
      rw [if_pos hd]
      refine Eq.trans ih ?_
      simp
    · rename_i hc
      have ih := occ_one (x := x) hy lim k (a + 1) st (by lia) (by lia) (by lia)
      have hd : ¬ (decide (a + 1 ≤ x.length) && subAt x y a) = true := by
        intro h
        simp only [Bool.and_eq_true, decide_eq_true_eq] at h
        exact hc ⟨⟨⟨by lia, h2⟩, by rw [hy]; exact h.1⟩, h.2⟩
      rw [if_neg hd]
      exact ih
noncomputable def isAt (l : List Nat) (c i : Nat) : Bool := l[i]? == some c
theorem at_sub (l : List Nat) (c i : Nat) : (decide (i + 1 ≤ (S l).length) && subAt (S l) (S [c]) i) = isAt l c i := by
  rw [subAt_eq, S_toList, S_toList, S_len, S_len, isAt]
  by_cases h : i < l.length
  · have e : (l.drop i).take 1 = [l[i]] := by
      rw [List.drop_eq_getElem_cons h]; rfl
    rw [List.getElem?_eq_getElem h, show ([c] : List Nat).length = 1 from rfl, e, decide_eq_true (show i + 1 ≤ l.length from h), Bool.true_and]
    simp
  · rw [decide_eq_false (show ¬ i + 1 ≤ l.length by lia), List.getElem?_eq_none (by lia)]
    rfl
theorem occ_list (l : List Nat) (c : Nat) : occurrences (S l) (S [c]) 0 (S l).length ((S l).length + 1) = (List.range' 0 (l.length + 1)).filter (isAt l c) := by
  rw [occ_eq]
  refine Eq.trans (occ_one (by rw [S_len]; rfl) _ _ 0 (#[], 0) (Nat.le_refl _) (Nat.le_refl _) (by lia)) ?_
  rw [S_len]
  simp only [List.nil_append, Nat.sub_zero]
  refine congrArg (fun p => List.filter p _) (funext fun i => ?_)
  have := at_sub l c i
  rw [S_len] at this
  exact this
theorem none_at {l : List Nat} {c : Nat} : ∀ (k a : Nat), (∀ i, a ≤ i → i < a + k → l[i]? ≠ some c) → (List.range' a k).filter (isAt l c) = []
  | 0, _, _ => rfl
  | k + 1, a, h => by
    rw [List.range'_succ, List.filter_cons, if_neg (by simp [isAt]; exact h a (Nat.le_refl _) (by lia))]
    exact none_at k (a + 1) fun i h1 h2 => h i (by lia) (by lia)
theorem strSub_S (l : List Nat) (i j : Nat) : strSub (S l) i j = S ((l.drop i).take (j - i)) := by
  rw [← S_eta (strSub (S l) i j), strSub_toList, S_toList]
theorem parts_join {l : List Nat} {c : Nat} : ∀ (ws : List (List Nat)) (pre : List Nat), ws ≠ [] → l = pre ++ joinL [c] ws → (∀ w ∈ ws, c ∉ w) →
    partsFrom (S l) 1 pre.length ((List.range' pre.length (l.length + 1 - pre.length)).filter (isAt l c)) = ws.map S
  | [], _, h, _, _ => absurd rfl h
  | [w], pre, _, hl, hn => by
    have hl' : l = pre ++ w := hl
    rw [none_at]
    · show [strSub (S l) pre.length (S l).length] = [S w]
      rw [strSub_S, S_len, hl']
      simp
    · intro i h1 h2 h3
      rw [hl', List.getElem?_append_right h1] at h3
      exact hn w (.head _) (List.mem_of_getElem? h3)
  | w :: w' :: r, pre, _, hl, hn => by
    have hl' : l = (pre ++ w ++ [c]) ++ joinL [c] (w' :: r) := by rw [hl]; simp [joinL]
    have ih := parts_join (w' :: r) (pre ++ w ++ [c]) (by simp) hl' fun x hx => hn x (.tail _ hx)
    have hlen : l.length = pre.length + w.length + 1 + (joinL [c] (w' :: r)).length := by rw [hl']; simp; lia
    have e : l.length + 1 - pre.length = w.length + (1 + (l.length + 1 - (pre ++ w ++ [c]).length)) := by simp; lia
    rw [e, ← List.range'_append_1, List.filter_append, none_at, List.nil_append, ← List.range'_append_1, List.filter_append]
    · have h1 : (List.range' (pre.length + w.length) 1).filter (isAt l c) = [pre.length + w.length] := by
        show List.filter _ [pre.length + w.length] = _
        rw [List.filter_cons, if_pos]
        · rfl
        · rw [isAt, hl']; simp
      rw [h1, List.singleton_append]
      show strSub (S l) pre.length (pre.length + w.length) :: _ = _
      have h2 : (pre ++ w ++ [c]).length = pre.length + w.length + 1 := by simp; lia
      rw [h2] at ih
      rw [strSub_S, h2, ih, hl]
      simp [joinL]
    · intro i h1 h2 h3
      rw [hl', List.append_assoc, List.append_assoc, List.getElem?_append_right h1, List.getElem?_append_left (by lia)] at h3
      exact hn w (.head _) (List.mem_of_getElem? h3)
theorem kind_low {c : Nat} (hc : c < 256) (l : List Nat) : ¬ strKind (S l) < strKind (S [c]) := by
  have : strKind (S [c]) = 1 := by simp [Builtin.Str.strKind, S, hc]
  rw [this]
  unfold Builtin.Str.strKind
  split
  · lia
  · split <;> lia
theorem split_joinL {c : Nat} {ws : List (List Nat)} (hc : c < 256) (h : ws ≠ []) (hn : ∀ w ∈ ws, c ∉ w) : Txt.split (S (joinL [c] ws)) (S [c]) = ws.map S := by
  have P := parts_join (l := joinL [c] ws) ws [] h rfl hn
  have one : ∀ x : Str, strSub x 0 x.length = x := fun x => by
    obtain ⟨a⟩ := x
    simp [strSub, Str.length]
  unfold Txt.split
  rw [occ_list, partsBetween_eq, show (S [c]).length = 1 from rfl]
  simp only [List.length_nil, Nat.sub_zero] at P
  split
  · rename_i h1
    have h2 : (joinL [c] ws).length = 0 := by
      rcases Bool.or_eq_true_iff.mp h1 with h1 | h1
      · have := of_decide_eq_true h1; rw [S_len] at this; lia
      · exact absurd (of_decide_eq_true h1) (kind_low hc _)
    have h3 := List.length_eq_zero_iff.mp h2
    rw [← P, h3]
    show [S []] = partsFrom (S []) 1 0 []
    rfl
  · split
    · rename_i h1
      rw [List.isEmpty_iff] at h1
      rw [← P, h1]
      show _ = [strSub _ 0 _]
      rw [one]
    · exact P
end Mine
namespace Mine
open PySem PySem.Builtin PySem.Builtin.Str PySem.StrLaws
theorem At_iff {l : List Nat} {c i : Nat} : At (S l) (S [c]) (S l).length i ↔ l[i]? = some c := by
  have h := at_sub l c i
  unfold At
  rw [show (S [c]).length = 1 from rfl]
  constructor
  · rintro ⟨h1, h2⟩
    rw [decide_eq_true h1, h2] at h
    exact eq_of_beq h.symm
  · intro h1
    rw [show isAt l c i = true from by rw [isAt, h1]; simp, Bool.and_eq_true, decide_eq_true_eq] at h
    exact h
theorem rfind_last {a b : List Nat} {c : Nat} (h : c ∉ b) : Txt.rfind (S (a ++ c :: b)) (S [c]) = (a.length : Nat) := by
  unfold Txt.rfind
  rcases last_spec (S (a ++ c :: b)) (S [c]) with ⟨_, h2⟩ | ⟨i, h1, h2, h3⟩
  · exact absurd (At_iff.mpr (by simp)) (h2 a.length)
  · rw [h1]
    have h4 := At_iff.mp h2
    have h5 : ¬ i < a.length := fun hi => h3 a.length hi (At_iff.mpr (by simp))
    rcases Nat.lt_or_ge a.length i with h6 | h6
    · rw [List.getElem?_append_right (by lia), show i - a.length = (i - a.length - 1) + 1 from by lia, List.getElem?_cons_succ] at h4
      exact absurd (List.mem_of_getElem? h4) h
    · have : i = a.length := by lia
      rw [this]
theorem occ_from {a b r : List Nat} {c : Nat} (h : c ∉ b) : ∃ t, occurrences (S (a ++ (b ++ c :: r))) (S [c]) a.length (S (a ++ (b ++ c :: r))).length 1 = (a.length + b.length) :: t := by
  rw [occ_eq]
  generalize hl : a ++ (b ++ c :: r) = l
  have hlen : l.length = a.length + (b.length + (r.length + 1)) := by rw [← hl]; simp
  have at1 : l[a.length + b.length]? = some c := by
    rw [← hl, List.getElem?_append_right (by lia), List.getElem?_append_right (by lia)]
    simp
  rcases occ_first (S l) (S [c]) (S l).length 1 (Nat.le_refl _) (List.range' a.length ((S l).length + 1 - a.length)) a.length (fun i hi => (List.mem_range'_1.mp hi).1) with ⟨_, h2⟩ | ⟨pre, d, post, e, h0, h1, h2⟩
  · refine absurd (At_iff.mpr at1) (h2 _ (List.mem_range'_1.mpr ⟨by lia, ?_⟩))
    rw [S_len]; lia
  · have hd : a.length ≤ d := (List.mem_range'_1.mp (e ▸ List.mem_append_right _ (.head _))).1
    have h4 := At_iff.mp h1
    have h5 : d = a.length + b.length := by
      rcases Nat.lt_trichotomy d (a.length + b.length) with h6 | h6 | h6
      · rw [← hl, List.getElem?_append_right hd, List.getElem?_append_left (by lia)] at h4
        exact absurd (List.mem_of_getElem? h4) h
      · exact h6
      · have hp : a.length + b.length ∈ pre := by
          have h7 : (List.range' a.length ((S l).length + 1 - a.length)).Pairwise (· < ·) := List.pairwise_lt_range'
          have h8 : a.length + b.length ∈ List.range' a.length ((S l).length + 1 - a.length) := List.mem_range'_1.mpr ⟨by lia, by rw [S_len]; lia⟩
          rw [e] at h7 h8
          rcases List.mem_append.mp h8 with h9 | h9
          · exact h9
          · rcases List.mem_cons.mp h9 with h9 | h9
            · lia
            · have := (List.pairwise_cons.mp (List.pairwise_append.mp h7).2.1).1 _ h9
              lia
        exact absurd (At_iff.mpr at1) (h2 _ hp)
    subst h5
    generalize (forIn (m := Id) (List.range' a.length ((S l).length + 1 - a.length)) (#[], a.length) (occBody (S l) (S [c]) (S l).length 1)).run.fst = z at h0 ⊢
    obtain ⟨z⟩ := z
    cases z with
    | nil => simp at h0
    | cons x t => simp at h0; exact ⟨t, by rw [h0]⟩
theorem find3_first {a b r : List Nat} {c : Nat} (h : c ∉ b) : Txt.find3 (S (a ++ (b ++ c :: r))) (S [c]) (a.length : Nat) = ((a.length + b.length : Nat) : Int) := by
  unfold Txt.find3
  have hf : fromIndex (S (a ++ (b ++ c :: r))).length ((a.length : Nat) : Int) = a.length := by
    unfold fromIndex
    rw [if_neg (by lia)]
    lia
  rw [hf]
  obtain ⟨t, e⟩ := occ_from (a := a) (r := r) h
  rw [e]
theorem find_first {b r : List Nat} {c : Nat} (h : c ∉ b) : Txt.find (S (b ++ c :: r)) (S [c]) = ((b.length : Nat) : Int) := by
  unfold Txt.find
  obtain ⟨t, e⟩ := occ_from (a := []) (r := r) h
  simp only [List.nil_append, List.length_nil, Nat.zero_add] at e
  rw [e]
end Mine
namespace Mine
open PySem PySem.W PyProof.Rows PySem.Calls
structure Gd (W : Wd) : Prop where
  wok : W.Ok
  hK : W.K = KK W.w.params
noncomputable def namesOk (sc : Scope) (ps more : List Str) : Bool := sc.kind == .function && !sc.isGenerator && !sc.isCoroutine && sc.names.all (fun x => x.2 != .cell) && decide (sc.names.map (·.1)).Nodup &&
  sc.names.all (fun x => !(x.1 == ("__debug__" : Str))) && decide (ps ++ more).Nodup && (ps ++ more).all (fun x => sc.names.lookup x == some .local)
theorem names_of {sc : Scope} {ps more : List Str} (h : namesOk sc ps more = true) : Names sc ps more := by
  unfold namesOk at h
  simp only [Bool.and_eq_true, Bool.not_eq_true', decide_eq_true_eq, List.all_eq_true, beq_iff_eq, bne_iff_ne, ne_eq] at h
  obtain ⟨⟨⟨⟨⟨⟨⟨a, b⟩, c⟩, d⟩, e⟩, f⟩, g⟩, i⟩ := h
  exact ⟨a, b, c, d, e, f, g, i⟩
noncomputable abbrev EG (W : Wd) (x : Str) (d : V) : Prop := ∀ {F : Fm} {k₀ : Nat} {sc : Scope} {ρ : Rho} {H : AHeap} {Q : V → AHeap → Prop} {pos : Pos}, F.Ok W k₀ → F.sc = sc → sc.names.lookup x = some .globalImplicit → Q d H → EP W F ρ H (eval (.Name x pos) F.env) Q
noncomputable abbrev EC (W : Wd) (x : Str) (a : Addr) : Prop := ∀ {F : Fm} {k₀ : Nat} {sc : Scope} {ρ : Rho} {H : AHeap} {Q : V → AHeap → Prop} {p pos : Pos} {e : Expr} {rest : List Expr}, F.Ok W k₀ → F.sc = sc → sc.names.lookup x = some .globalImplicit → NP W F ρ H (spliced (backTo pos (starEach (e :: rest) F.env))) (fun ds H₂ => CallP W k₀ (.ref a) ds H₂ Q) →
  (he : starEach (e :: rest) F.env = (false, eval e F.env) :: starEach rest F.env := by rfl) → (hplain : (backTo pos (starEach rest F.env)).any (·.1) = false := by rfl) → EP W F ρ H (eval (.Call (.Name x p) (e :: rest) [] pos) F.env) Q
noncomputable abbrev EB (W : Wd) (x : Str) (b : Value) : Prop := ∀ {F : Fm} {k₀ : Nat} {sc : Scope} {ρ : Rho} {H : AHeap} {Q : V → AHeap → Prop} {p pos : Pos} {e : Expr} {rest : List Expr}, F.Ok W k₀ → F.sc = sc → sc.names.lookup x = some .globalImplicit → NP W F ρ H (spliced (backTo pos (starEach (e :: rest) F.env))) (fun ds H₂ => OPN W F (fun vs => call b vs) ds H₂ Q) →
  (he : starEach (e :: rest) F.env = (false, eval e F.env) :: starEach rest F.env := by rfl) → (hplain : (backTo pos (starEach rest F.env)).any (·.1) = false := by rfl) → EP W F ρ H (eval (.Call (.Name x p) (e :: rest) [] pos) F.env) Q
section
variable {W : Wd} {x : Str} {v : Value} {d : V} {a : Addr} {b : String}
theorem EG.of (G : Gd W) (hv : W.mg x = some v) (r : ∀ D h, W.Rep D h v d) : EG W x d := fun ok hsc hm q => EP_global ok G.wok (hsc ▸ mem_of_lookup hm) hv r q
theorem EG.ofB (G : Gd W) (hv : W.mg x = none) (hb : bootBuiltins x = some v) (hx : x ≠ "__name__") (r : ∀ D h, W.Rep D h v d) : EG W x d := fun ok hsc hm q => EP_builtin ok G.wok (hsc ▸ mem_of_lookup hm) hv hb hx r q
theorem EC.of (G : Gd W) (hk : keepIn W.K (.ref a) = true) (g : EG W x (.ref a)) : EC W x a := fun ok hsc hm h he hplain => EP_call ok G.wok (Nat.le_refl _) hk (g ok hsc hm ⟨rfl, h⟩) rfl he hplain
theorem EB.bi (g : EG W x (.bi b)) : EB W x (.builtin b) := fun ok hsc hm h he hplain => EP_bi (g ok hsc hm ⟨rfl, h⟩) rfl he hplain
theorem EB.ty (g : EG W x (.ty b)) : EB W x (.type b) := fun ok hsc hm h he hplain => EP_ty (g ok hsc hm ⟨rfl, h⟩) rfl he hplain
end
theorem len0 {P : List Value → Prop} (h : P []) {vs : List Value} (e : vs.length = 0) : P vs := by rw [List.eq_nil_of_length_eq_zero e]; exact h
theorem lenS {P : List Value → Prop} {n : Nat} (h : ∀ v us, us.length = n → P (v :: us)) {vs : List Value} (e : vs.length = n + 1) : P vs := by
  cases vs with
  | nil => exact absurd e.symm (Nat.succ_ne_zero n)
  | cons v us => exact h v us (Nat.succ.inj e)
theorem len1 {P : List Value → Prop} (h : ∀ a, P [a]) {vs : List Value} (e : vs.length = 1) : P vs := lenS (fun a _ e => len0 (P := fun us => P (a :: us)) (h a) e) e
theorem len2 {P : List Value → Prop} (h : ∀ a b, P [a, b]) {vs : List Value} (e : vs.length = 2) : P vs := lenS (fun a _ e => len1 (P := fun us => P (a :: us)) (h a) e) e
theorem len3 {P : List Value → Prop} (h : ∀ a b c, P [a, b, c]) {vs : List Value} (e : vs.length = 3) : P vs := lenS (fun a _ e => len2 (P := fun us => P (a :: us)) (h a) e) e
theorem len4 {P : List Value → Prop} (h : ∀ a b c d, P [a, b, c, d]) {vs : List Value} (e : vs.length = 4) : P vs := lenS (fun a _ e => len3 (P := fun us => P (a :: us)) (h a) e) e
theorem bd1 {s : Shared} {fd : FuncData} {ps : List Str} (h : ∀ v0, BindsTo s fd ⟨[v0], []⟩ (ps.zip [v0])) {vs : List Value} (e : vs.length = 1) : BindsTo s fd ⟨vs, []⟩ (ps.zip vs) := len1 (P := fun vs => BindsTo s fd ⟨vs, []⟩ (ps.zip vs)) h e
theorem bd2 {s : Shared} {fd : FuncData} {ps : List Str} (h : ∀ v0 v1, BindsTo s fd ⟨[v0, v1], []⟩ (ps.zip [v0, v1])) {vs : List Value} (e : vs.length = 2) : BindsTo s fd ⟨vs, []⟩ (ps.zip vs) := len2 (P := fun vs => BindsTo s fd ⟨vs, []⟩ (ps.zip vs)) h e
theorem bd3 {s : Shared} {fd : FuncData} {ps : List Str} (h : ∀ v0 v1 v2, BindsTo s fd ⟨[v0, v1, v2], []⟩ (ps.zip [v0, v1, v2])) {vs : List Value} (e : vs.length = 3) : BindsTo s fd ⟨vs, []⟩ (ps.zip vs) := len3 (P := fun vs => BindsTo s fd ⟨vs, []⟩ (ps.zip vs)) h e
theorem bd4 {s : Shared} {fd : FuncData} {ps : List Str} (h : ∀ v0 v1 v2 v3, BindsTo s fd ⟨[v0, v1, v2, v3], []⟩ (ps.zip [v0, v1, v2, v3])) {vs : List Value} (e : vs.length = 4) : BindsTo s fd ⟨vs, []⟩ (ps.zip vs) := len4 (P := fun vs => BindsTo s fd ⟨vs, []⟩ (ps.zip vs)) h e
section
variable {W : Wd}

theorem gn_CON (G : Gd W) : W.mg (Str.ofString "CON") = some (.int 4 374) := mg_of G.wok.k G.wok.g (by rw [G.hK]; kernel_rfl)
theorem eg_CON (G : Gd W) : EG W (Str.ofString "CON") (.int 4) := EG.of G (gn_CON G) fun _ _ => .int _ _
theorem gn_INT (G : Gd W) : W.mg (Str.ofString "INT") = some (.int 5 376) := mg_of G.wok.k G.wok.g (by rw [G.hK]; kernel_rfl)
theorem eg_INT (G : Gd W) : EG W (Str.ofString "INT") (.int 5) := EG.of G (gn_INT G) fun _ _ => .int _ _
theorem gn_LinkFault (G : Gd W) : W.mg (Str.ofString "LinkFault") = some (.ref 52) := mg_of G.wok.k G.wok.g (by rw [G.hK]; kernel_rfl)
theorem eg_LinkFault (G : Gd W) : EG W (Str.ofString "LinkFault") (.ref 52) := EG.of G (gn_LinkFault G) fun _ _ => .ref _
theorem gn_Symbols (G : Gd W) : W.mg (Str.ofString "Symbols") = some (.ref 155) := mg_of G.wok.k G.wok.g (by rw [G.hK]; kernel_rfl)
theorem eg_Symbols (G : Gd W) : EG W (Str.ofString "Symbols") (.ref 155) := EG.of G (gn_Symbols G) fun _ _ => .ref _
theorem gn__law_constant (G : Gd W) : W.mg (Str.ofString "_law_constant") = some (.ref 433) := mg_of G.wok.k G.wok.g (by rw [G.hK]; kernel_rfl)
theorem eg__law_constant (G : Gd W) : EG W (Str.ofString "_law_constant") (.ref 433) := EG.of G (gn__law_constant G) fun _ _ => .ref _
theorem gn__law_draw (G : Gd W) : W.mg (Str.ofString "_law_draw") = some (.ref 419) := mg_of G.wok.k G.wok.g (by rw [G.hK]; kernel_rfl)
theorem eg__law_draw (G : Gd W) : EG W (Str.ofString "_law_draw") (.ref 419) := EG.of G (gn__law_draw G) fun _ _ => .ref _
theorem gn__law_figures (G : Gd W) : W.mg (Str.ofString "_law_figures") = some (.ref 412) := mg_of G.wok.k G.wok.g (by rw [G.hK]; kernel_rfl)
theorem eg__law_figures (G : Gd W) : EG W (Str.ofString "_law_figures") (.ref 412) := EG.of G (gn__law_figures G) fun _ _ => .ref _
theorem gn__law_name (G : Gd W) : W.mg (Str.ofString "_law_name") = some (.ref 426) := mg_of G.wok.k G.wok.g (by rw [G.hK]; kernel_rfl)
theorem eg__law_name (G : Gd W) : EG W (Str.ofString "_law_name") (.ref 426) := EG.of G (gn__law_name G) fun _ _ => .ref _
theorem gn__law_refused (G : Gd W) : W.mg (Str.ofString "_law_refused") = some (.ref 447) := mg_of G.wok.k G.wok.g (by rw [G.hK]; kernel_rfl)
theorem eg__law_refused (G : Gd W) : EG W (Str.ofString "_law_refused") (.ref 447) := EG.of G (gn__law_refused G) fun _ _ => .ref _
theorem gn__law_row_drawn (G : Gd W) : W.mg (Str.ofString "_law_row_drawn") = some (.ref 440) := mg_of G.wok.k G.wok.g (by rw [G.hK]; kernel_rfl)
theorem eg__law_row_drawn (G : Gd W) : EG W (Str.ofString "_law_row_drawn") (.ref 440) := EG.of G (gn__law_row_drawn G) fun _ _ => .ref _
theorem gn_abs (G : Gd W) : W.mg (Str.ofString "abs") = none := mg_none_of G.wok.k G.wok.g (by rw [G.hK]; kernel_rfl)
theorem bn_abs : bootBuiltins (Str.ofString "abs") = some (.builtin "abs") := by kernel_rfl
theorem nn_abs : (Str.ofString "abs") ≠ "__name__" := by decide +kernel
theorem eg_abs (G : Gd W) : EG W (Str.ofString "abs") (.bi "abs") := EG.ofB G (gn_abs G) bn_abs nn_abs fun _ _ => .bi _
theorem gn_bool (G : Gd W) : W.mg (Str.ofString "bool") = none := mg_none_of G.wok.k G.wok.g (by rw [G.hK]; kernel_rfl)
theorem bn_bool : bootBuiltins (Str.ofString "bool") = some (.type "bool") := by kernel_rfl
theorem nn_bool : (Str.ofString "bool") ≠ "__name__" := by decide +kernel
theorem eg_bool (G : Gd W) : EG W (Str.ofString "bool") (.ty "bool") := EG.ofB G (gn_bool G) bn_bool nn_bool fun _ _ => .ty _
theorem gn_check_row (G : Gd W) : W.mg (Str.ofString "check_row") = some (.ref 278) := mg_of G.wok.k G.wok.g (by rw [G.hK]; kernel_rfl)
theorem eg_check_row (G : Gd W) : EG W (Str.ofString "check_row") (.ref 278) := EG.of G (gn_check_row G) fun _ _ => .ref _
theorem gn_chr (G : Gd W) : W.mg (Str.ofString "chr") = none := mg_none_of G.wok.k G.wok.g (by rw [G.hK]; kernel_rfl)
theorem bn_chr : bootBuiltins (Str.ofString "chr") = some (.builtin "chr") := by kernel_rfl
theorem nn_chr : (Str.ofString "chr") ≠ "__name__" := by decide +kernel
theorem eg_chr (G : Gd W) : EG W (Str.ofString "chr") (.bi "chr") := EG.ofB G (gn_chr G) bn_chr nn_chr fun _ _ => .bi _
theorem gn_code_digits (G : Gd W) : W.mg (Str.ofString "code_digits") = some (.ref 285) := mg_of G.wok.k G.wok.g (by rw [G.hK]; kernel_rfl)
theorem eg_code_digits (G : Gd W) : EG W (Str.ofString "code_digits") (.ref 285) := EG.of G (gn_code_digits G) fun _ _ => .ref _
theorem gn_constant_text (G : Gd W) : W.mg (Str.ofString "constant_text") = some (.ref 313) := mg_of G.wok.k G.wok.g (by rw [G.hK]; kernel_rfl)
theorem eg_constant_text (G : Gd W) : EG W (Str.ofString "constant_text") (.ref 313) := EG.of G (gn_constant_text G) fun _ _ => .ref _
theorem gn_dict (G : Gd W) : W.mg (Str.ofString "dict") = none := mg_none_of G.wok.k G.wok.g (by rw [G.hK]; kernel_rfl)
theorem bn_dict : bootBuiltins (Str.ofString "dict") = some (.type "dict") := by kernel_rfl
theorem nn_dict : (Str.ofString "dict") ≠ "__name__" := by decide +kernel
theorem eg_dict (G : Gd W) : EG W (Str.ofString "dict") (.ty "dict") := EG.ofB G (gn_dict G) bn_dict nn_dict fun _ _ => .ty _
theorem gn_divmod (G : Gd W) : W.mg (Str.ofString "divmod") = none := mg_none_of G.wok.k G.wok.g (by rw [G.hK]; kernel_rfl)
theorem bn_divmod : bootBuiltins (Str.ofString "divmod") = some (.builtin "divmod") := by kernel_rfl
theorem nn_divmod : (Str.ofString "divmod") ≠ "__name__" := by decide +kernel
theorem eg_divmod (G : Gd W) : EG W (Str.ofString "divmod") (.bi "divmod") := EG.ofB G (gn_divmod G) bn_divmod nn_divmod fun _ _ => .bi _
theorem gn_fixed_atoms (G : Gd W) : W.mg (Str.ofString "fixed_atoms") = some (.ref 61) := mg_of G.wok.k G.wok.g (by rw [G.hK]; kernel_rfl)
theorem eg_fixed_atoms (G : Gd W) : EG W (Str.ofString "fixed_atoms") (.ref 61) := EG.of G (gn_fixed_atoms G) fun _ _ => .ref _
theorem gn_fixed_functors (G : Gd W) : W.mg (Str.ofString "fixed_functors") = some (.ref 68) := mg_of G.wok.k G.wok.g (by rw [G.hK]; kernel_rfl)
theorem eg_fixed_functors (G : Gd W) : EG W (Str.ofString "fixed_functors") (.ref 68) := EG.of G (gn_fixed_functors G) fun _ _ => .ref _
theorem gn_functor_text (G : Gd W) : W.mg (Str.ofString "functor_text") = some (.ref 320) := mg_of G.wok.k G.wok.g (by rw [G.hK]; kernel_rfl)
theorem eg_functor_text (G : Gd W) : EG W (Str.ofString "functor_text") (.ref 320) := EG.of G (gn_functor_text G) fun _ _ => .ref _
theorem gn_instruction_words (G : Gd W) : W.mg (Str.ofString "instruction_words") = some (.ref 334) := mg_of G.wok.k G.wok.g (by rw [G.hK]; kernel_rfl)
theorem eg_instruction_words (G : Gd W) : EG W (Str.ofString "instruction_words") (.ref 334) := EG.of G (gn_instruction_words G) fun _ _ => .ref _
theorem gn_int (G : Gd W) : W.mg (Str.ofString "int") = none := mg_none_of G.wok.k G.wok.g (by rw [G.hK]; kernel_rfl)
theorem bn_int : bootBuiltins (Str.ofString "int") = some (.type "int") := by kernel_rfl
theorem nn_int : (Str.ofString "int") ≠ "__name__" := by decide +kernel
theorem eg_int (G : Gd W) : EG W (Str.ofString "int") (.ty "int") := EG.ofB G (gn_int G) bn_int nn_int fun _ _ => .ty _
theorem gn_is_alnum (G : Gd W) : W.mg (Str.ofString "is_alnum") = some (.ref 187) := mg_of G.wok.k G.wok.g (by rw [G.hK]; kernel_rfl)
theorem eg_is_alnum (G : Gd W) : EG W (Str.ofString "is_alnum") (.ref 187) := EG.of G (gn_is_alnum G) fun _ _ => .ref _
theorem gn_is_alnum_name (G : Gd W) : W.mg (Str.ofString "is_alnum_name") = some (.ref 201) := mg_of G.wok.k G.wok.g (by rw [G.hK]; kernel_rfl)
theorem eg_is_alnum_name (G : Gd W) : EG W (Str.ofString "is_alnum_name") (.ref 201) := EG.of G (gn_is_alnum_name G) fun _ _ => .ref _
theorem gn_is_capital (G : Gd W) : W.mg (Str.ofString "is_capital") = some (.ref 180) := mg_of G.wok.k G.wok.g (by rw [G.hK]; kernel_rfl)
theorem eg_is_capital (G : Gd W) : EG W (Str.ofString "is_capital") (.ref 180) := EG.of G (gn_is_capital G) fun _ _ => .ref _
theorem gn_is_constant (G : Gd W) : W.mg (Str.ofString "is_constant") = some (.ref 236) := mg_of G.wok.k G.wok.g (by rw [G.hK]; kernel_rfl)
theorem eg_is_constant (G : Gd W) : EG W (Str.ofString "is_constant") (.ref 236) := EG.of G (gn_is_constant G) fun _ _ => .ref _
theorem gn_is_digit (G : Gd W) : W.mg (Str.ofString "is_digit") = some (.ref 166) := mg_of G.wok.k G.wok.g (by rw [G.hK]; kernel_rfl)
theorem eg_is_digit (G : Gd W) : EG W (Str.ofString "is_digit") (.ref 166) := EG.of G (gn_is_digit G) fun _ _ => .ref _
theorem gn_is_functor (G : Gd W) : W.mg (Str.ofString "is_functor") = some (.ref 243) := mg_of G.wok.k G.wok.g (by rw [G.hK]; kernel_rfl)
theorem eg_is_functor (G : Gd W) : EG W (Str.ofString "is_functor") (.ref 243) := EG.of G (gn_is_functor G) fun _ _ => .ref _
theorem gn_is_key (G : Gd W) : W.mg (Str.ofString "is_key") = some (.ref 257) := mg_of G.wok.k G.wok.g (by rw [G.hK]; kernel_rfl)
theorem eg_is_key (G : Gd W) : EG W (Str.ofString "is_key") (.ref 257) := EG.of G (gn_is_key G) fun _ _ => .ref _
theorem gn_is_operand (G : Gd W) : W.mg (Str.ofString "is_operand") = some (.ref 271) := mg_of G.wok.k G.wok.g (by rw [G.hK]; kernel_rfl)
theorem eg_is_operand (G : Gd W) : EG W (Str.ofString "is_operand") (.ref 271) := EG.of G (gn_is_operand G) fun _ _ => .ref _
theorem gn_is_pair (G : Gd W) : W.mg (Str.ofString "is_pair") = some (.ref 222) := mg_of G.wok.k G.wok.g (by rw [G.hK]; kernel_rfl)
theorem eg_is_pair (G : Gd W) : EG W (Str.ofString "is_pair") (.ref 222) := EG.of G (gn_is_pair G) fun _ _ => .ref _
theorem gn_is_register (G : Gd W) : W.mg (Str.ofString "is_register") = some (.ref 229) := mg_of G.wok.k G.wok.g (by rw [G.hK]; kernel_rfl)
theorem eg_is_register (G : Gd W) : EG W (Str.ofString "is_register") (.ref 229) := EG.of G (gn_is_register G) fun _ _ => .ref _
theorem gn_is_small (G : Gd W) : W.mg (Str.ofString "is_small") = some (.ref 173) := mg_of G.wok.k G.wok.g (by rw [G.hK]; kernel_rfl)
theorem eg_is_small (G : Gd W) : EG W (Str.ofString "is_small") (.ref 173) := EG.of G (gn_is_small G) fun _ _ => .ref _
theorem gn_is_table (G : Gd W) : W.mg (Str.ofString "is_table") = some (.ref 264) := mg_of G.wok.k G.wok.g (by rw [G.hK]; kernel_rfl)
theorem eg_is_table (G : Gd W) : EG W (Str.ofString "is_table") (.ref 264) := EG.of G (gn_is_table G) fun _ _ => .ref _
theorem gn_is_target (G : Gd W) : W.mg (Str.ofString "is_target") = some (.ref 250) := mg_of G.wok.k G.wok.g (by rw [G.hK]; kernel_rfl)
theorem eg_is_target (G : Gd W) : EG W (Str.ofString "is_target") (.ref 250) := EG.of G (gn_is_target G) fun _ _ => .ref _
theorem gn_is_whole (G : Gd W) : W.mg (Str.ofString "is_whole") = some (.ref 215) := mg_of G.wok.k G.wok.g (by rw [G.hK]; kernel_rfl)
theorem eg_is_whole (G : Gd W) : EG W (Str.ofString "is_whole") (.ref 215) := EG.of G (gn_is_whole G) fun _ _ => .ref _
theorem gn_isinstance (G : Gd W) : W.mg (Str.ofString "isinstance") = none := mg_none_of G.wok.k G.wok.g (by rw [G.hK]; kernel_rfl)
theorem bn_isinstance : bootBuiltins (Str.ofString "isinstance") = some (.builtin "isinstance") := by kernel_rfl
theorem nn_isinstance : (Str.ofString "isinstance") ≠ "__name__" := by decide +kernel
theorem eg_isinstance (G : Gd W) : EG W (Str.ofString "isinstance") (.bi "isinstance") := EG.ofB G (gn_isinstance G) bn_isinstance nn_isinstance fun _ _ => .bi _
theorem gn_len (G : Gd W) : W.mg (Str.ofString "len") = none := mg_none_of G.wok.k G.wok.g (by rw [G.hK]; kernel_rfl)
theorem bn_len : bootBuiltins (Str.ofString "len") = some (.builtin "len") := by kernel_rfl
theorem nn_len : (Str.ofString "len") ≠ "__name__" := by decide +kernel
theorem eg_len (G : Gd W) : EG W (Str.ofString "len") (.bi "len") := EG.ofB G (gn_len G) bn_len nn_len fun _ _ => .bi _
theorem gn_listing (G : Gd W) : W.mg (Str.ofString "listing") = some (.ref 342) := mg_of G.wok.k G.wok.g (by rw [G.hK]; kernel_rfl)
theorem eg_listing (G : Gd W) : EG W (Str.ofString "listing") (.ref 342) := EG.of G (gn_listing G) fun _ _ => .ref _
theorem gn_number_text (G : Gd W) : W.mg (Str.ofString "number_text") = some (.ref 194) := mg_of G.wok.k G.wok.g (by rw [G.hK]; kernel_rfl)
theorem eg_number_text (G : Gd W) : EG W (Str.ofString "number_text") (.ref 194) := EG.of G (gn_number_text G) fun _ _ => .ref _
theorem gn_ord (G : Gd W) : W.mg (Str.ofString "ord") = none := mg_none_of G.wok.k G.wok.g (by rw [G.hK]; kernel_rfl)
theorem bn_ord : bootBuiltins (Str.ofString "ord") = some (.builtin "ord") := by kernel_rfl
theorem nn_ord : (Str.ofString "ord") ≠ "__name__" := by decide +kernel
theorem eg_ord (G : Gd W) : EG W (Str.ofString "ord") (.bi "ord") := EG.ofB G (gn_ord G) bn_ord nn_ord fun _ _ => .bi _
theorem gn_quoted_name (G : Gd W) : W.mg (Str.ofString "quoted_name") = some (.ref 292) := mg_of G.wok.k G.wok.g (by rw [G.hK]; kernel_rfl)
theorem eg_quoted_name (G : Gd W) : EG W (Str.ofString "quoted_name") (.ref 292) := EG.of G (gn_quoted_name G) fun _ _ => .ref _
theorem gn_range (G : Gd W) : W.mg (Str.ofString "range") = none := mg_none_of G.wok.k G.wok.g (by rw [G.hK]; kernel_rfl)
theorem bn_range : bootBuiltins (Str.ofString "range") = some (.type "range") := by kernel_rfl
theorem nn_range : (Str.ofString "range") ≠ "__name__" := by decide +kernel
theorem eg_range (G : Gd W) : EG W (Str.ofString "range") (.ty "range") := EG.ofB G (gn_range G) bn_range nn_range fun _ _ => .ty _
theorem gn_read_code (G : Gd W) : W.mg (Str.ofString "read_code") = some (.ref 299) := mg_of G.wok.k G.wok.g (by rw [G.hK]; kernel_rfl)
theorem eg_read_code (G : Gd W) : EG W (Str.ofString "read_code") (.ref 299) := EG.of G (gn_read_code G) fun _ _ => .ref _
theorem gn_read_constant (G : Gd W) : W.mg (Str.ofString "read_constant") = some (.ref 363) := mg_of G.wok.k G.wok.g (by rw [G.hK]; kernel_rfl)
theorem eg_read_constant (G : Gd W) : EG W (Str.ofString "read_constant") (.ref 363) := EG.of G (gn_read_constant G) fun _ _ => .ref _
theorem gn_read_count (G : Gd W) : W.mg (Str.ofString "read_count") = some (.ref 356) := mg_of G.wok.k G.wok.g (by rw [G.hK]; kernel_rfl)
theorem eg_read_count (G : Gd W) : EG W (Str.ofString "read_count") (.ref 356) := EG.of G (gn_read_count G) fun _ _ => .ref _
theorem gn_read_functor (G : Gd W) : W.mg (Str.ofString "read_functor") = some (.ref 370) := mg_of G.wok.k G.wok.g (by rw [G.hK]; kernel_rfl)
theorem eg_read_functor (G : Gd W) : EG W (Str.ofString "read_functor") (.ref 370) := EG.of G (gn_read_functor G) fun _ _ => .ref _
theorem gn_read_instruction (G : Gd W) : W.mg (Str.ofString "read_instruction") = some (.ref 398) := mg_of G.wok.k G.wok.g (by rw [G.hK]; kernel_rfl)
theorem eg_read_instruction (G : Gd W) : EG W (Str.ofString "read_instruction") (.ref 398) := EG.of G (gn_read_instruction G) fun _ _ => .ref _
theorem gn_read_listing (G : Gd W) : W.mg (Str.ofString "read_listing") = some (.ref 405) := mg_of G.wok.k G.wok.g (by rw [G.hK]; kernel_rfl)
theorem eg_read_listing (G : Gd W) : EG W (Str.ofString "read_listing") (.ref 405) := EG.of G (gn_read_listing G) fun _ _ => .ref _
theorem gn_read_operand (G : Gd W) : W.mg (Str.ofString "read_operand") = some (.ref 391) := mg_of G.wok.k G.wok.g (by rw [G.hK]; kernel_rfl)
theorem eg_read_operand (G : Gd W) : EG W (Str.ofString "read_operand") (.ref 391) := EG.of G (gn_read_operand G) fun _ _ => .ref _
theorem gn_read_register (G : Gd W) : W.mg (Str.ofString "read_register") = some (.ref 377) := mg_of G.wok.k G.wok.g (by rw [G.hK]; kernel_rfl)
theorem eg_read_register (G : Gd W) : EG W (Str.ofString "read_register") (.ref 377) := EG.of G (gn_read_register G) fun _ _ => .ref _
theorem gn_read_table (G : Gd W) : W.mg (Str.ofString "read_table") = some (.ref 384) := mg_of G.wok.k G.wok.g (by rw [G.hK]; kernel_rfl)
theorem eg_read_table (G : Gd W) : EG W (Str.ofString "read_table") (.ref 384) := EG.of G (gn_read_table G) fun _ _ => .ref _
theorem gn_reversed (G : Gd W) : W.mg (Str.ofString "reversed") = none := mg_none_of G.wok.k G.wok.g (by rw [G.hK]; kernel_rfl)
theorem bn_reversed : bootBuiltins (Str.ofString "reversed") = some (.type "reversed") := by kernel_rfl
theorem nn_reversed : (Str.ofString "reversed") ≠ "__name__" := by decide +kernel
theorem eg_reversed (G : Gd W) : EG W (Str.ofString "reversed") (.ty "reversed") := EG.ofB G (gn_reversed G) bn_reversed nn_reversed fun _ _ => .ty _
theorem gn_shapes (G : Gd W) : W.mg (Str.ofString "shapes") = some (.ref 208) := mg_of G.wok.k G.wok.g (by rw [G.hK]; kernel_rfl)
theorem eg_shapes (G : Gd W) : EG W (Str.ofString "shapes") (.ref 208) := EG.of G (gn_shapes G) fun _ _ => .ref _
theorem gn_split_row (G : Gd W) : W.mg (Str.ofString "split_row") = some (.ref 349) := mg_of G.wok.k G.wok.g (by rw [G.hK]; kernel_rfl)
theorem eg_split_row (G : Gd W) : EG W (Str.ofString "split_row") (.ref 349) := EG.of G (gn_split_row G) fun _ _ => .ref _
theorem gn_str (G : Gd W) : W.mg (Str.ofString "str") = none := mg_none_of G.wok.k G.wok.g (by rw [G.hK]; kernel_rfl)
theorem bn_str : bootBuiltins (Str.ofString "str") = some (.type "str") := by kernel_rfl
theorem nn_str : (Str.ofString "str") ≠ "__name__" := by decide +kernel
theorem eg_str (G : Gd W) : EG W (Str.ofString "str") (.ty "str") := EG.ofB G (gn_str G) bn_str nn_str fun _ _ => .ty _
theorem gn_table_words (G : Gd W) : W.mg (Str.ofString "table_words") = some (.ref 327) := mg_of G.wok.k G.wok.g (by rw [G.hK]; kernel_rfl)
theorem eg_table_words (G : Gd W) : EG W (Str.ofString "table_words") (.ref 327) := EG.of G (gn_table_words G) fun _ _ => .ref _
theorem gn_tuple (G : Gd W) : W.mg (Str.ofString "tuple") = none := mg_none_of G.wok.k G.wok.g (by rw [G.hK]; kernel_rfl)
theorem bn_tuple : bootBuiltins (Str.ofString "tuple") = some (.type "tuple") := by kernel_rfl
theorem nn_tuple : (Str.ofString "tuple") ≠ "__name__" := by decide +kernel
theorem eg_tuple (G : Gd W) : EG W (Str.ofString "tuple") (.ty "tuple") := EG.ofB G (gn_tuple G) bn_tuple nn_tuple fun _ _ => .ty _
theorem gn_unquoted_name (G : Gd W) : W.mg (Str.ofString "unquoted_name") = some (.ref 306) := mg_of G.wok.k G.wok.g (by rw [G.hK]; kernel_rfl)
theorem eg_unquoted_name (G : Gd W) : EG W (Str.ofString "unquoted_name") (.ref 306) := EG.of G (gn_unquoted_name G) fun _ _ => .ref _
theorem kp_LinkFault___init__ (G : Gd W) : keepIn W.K (.ref 49) = true := by rw [G.hK]; kernel_rfl
theorem nm_LinkFault___init__ : Names (scopeOf (methAt 3 0)) [Str.ofString "self", Str.ofString "what"] [] := names_of (by kernel_rfl)
theorem en_LinkFault___init__ (G : Gd W) {k : Nat} {d0 d1 : V} {H : AHeap} {Q : V → AHeap → Prop}
    (h : ∀ F : Fm, F.sc = scopeOf (methAt 3 0) → F.Ok W k → SP W F [(Str.ofString "self", some d0), (Str.ofString "what", some d1)] H (execs (bodyOf (methAt 3 0)) F.env) (bodyQ Q)) : CallP W (k + 1) (.ref 49) [d0, d1] H Q :=
  CallP.enter G.wok nm_LinkFault___init__ ((congrArg (·.lookup 49) G.hK).trans (lk49 _)) (by rw [G.hK]; kernel_rfl) rfl
    (fun s vs X hv => bd2 (fun _ _ => BindsTo.of_defaults (T := 42) (n := 0) rfl (X 42 _ ((congrArg (·.lookup 42) G.hK).trans (lk42 _))) rfl rfl rfl) hv) (ps := [Str.ofString "self", Str.ofString "what"]) (more := []) (fun F _ e ok => @h F e ok)
theorem kp_fixed_atoms (G : Gd W) : keepIn W.K (.ref 61) = true := by rw [G.hK]; kernel_rfl
theorem nm_fixed_atoms : Names (scopeOf (defAt 4)) [] [] := names_of (by kernel_rfl)
theorem en_fixed_atoms (G : Gd W) {k : Nat}  {H : AHeap} {Q : V → AHeap → Prop}
    (h : ∀ F : Fm, F.sc = scopeOf (defAt 4) → F.Ok W k → SP W F [] H (execs (bodyOf (defAt 4)) F.env) (bodyQ Q)) : CallP W (k + 1) (.ref 61) [] H Q :=
  CallP.enter G.wok nm_fixed_atoms ((congrArg (·.lookup 61) G.hK).trans (lk61 _)) (by rw [G.hK]; kernel_rfl) rfl
    (fun s vs X hv => by obtain rfl : vs = [] := List.length_eq_zero_iff.mp hv; exact BindsTo.of_eq (by kernel_rfl)) (ps := []) (more := []) (fun F _ e ok => @h F e ok)
theorem kp_fixed_functors (G : Gd W) : keepIn W.K (.ref 68) = true := by rw [G.hK]; kernel_rfl
theorem nm_fixed_functors : Names (scopeOf (defAt 5)) [] [] := names_of (by kernel_rfl)
theorem en_fixed_functors (G : Gd W) {k : Nat}  {H : AHeap} {Q : V → AHeap → Prop}
    (h : ∀ F : Fm, F.sc = scopeOf (defAt 5) → F.Ok W k → SP W F [] H (execs (bodyOf (defAt 5)) F.env) (bodyQ Q)) : CallP W (k + 1) (.ref 68) [] H Q :=
  CallP.enter G.wok nm_fixed_functors ((congrArg (·.lookup 68) G.hK).trans (lk68 _)) (by rw [G.hK]; kernel_rfl) rfl
    (fun s vs X hv => by obtain rfl : vs = [] := List.length_eq_zero_iff.mp hv; exact BindsTo.of_eq (by kernel_rfl)) (ps := []) (more := []) (fun F _ e ok => @h F e ok)
theorem gm_Symbols___init___fixed_atoms : (scopeOf (methAt 6 0)).names.lookup (Str.ofString "fixed_atoms") = some .globalImplicit := by kernel_rfl
theorem gm_Symbols___init___fixed_functors : (scopeOf (methAt 6 0)).names.lookup (Str.ofString "fixed_functors") = some .globalImplicit := by kernel_rfl
theorem kp_Symbols___init__ (G : Gd W) : keepIn W.K (.ref 82) = true := by rw [G.hK]; kernel_rfl
theorem nm_Symbols___init__ : Names (scopeOf (methAt 6 0)) [Str.ofString "self"] [Str.ofString "text", Str.ofString "row"] := names_of (by kernel_rfl)
theorem en_Symbols___init__ (G : Gd W) {k : Nat} {d0 : V} {H : AHeap} {Q : V → AHeap → Prop}
    (h : ∀ F : Fm, F.sc = scopeOf (methAt 6 0) → F.Ok W k → SP W F [(Str.ofString "self", some d0), (Str.ofString "text", none), (Str.ofString "row", none)] H (execs (bodyOf (methAt 6 0)) F.env) (bodyQ Q)) : CallP W (k + 1) (.ref 82) [d0] H Q :=
  CallP.enter G.wok nm_Symbols___init__ ((congrArg (·.lookup 82) G.hK).trans (lk82 _)) (by rw [G.hK]; kernel_rfl) rfl
    (fun s vs X hv => bd1 (fun _ => BindsTo.of_eq (by kernel_rfl)) hv) (ps := [Str.ofString "self"]) (more := [Str.ofString "text", Str.ofString "row"]) (fun F _ e ok => @h F e ok)
theorem gm_Symbols_atom_len : (scopeOf (methAt 6 1)).names.lookup (Str.ofString "len") = some .globalImplicit := by kernel_rfl
theorem kp_Symbols_atom (G : Gd W) : keepIn W.K (.ref 89) = true := by rw [G.hK]; kernel_rfl
theorem nm_Symbols_atom : Names (scopeOf (methAt 6 1)) [Str.ofString "self", Str.ofString "text"] [Str.ofString "found", Str.ofString "number"] := names_of (by kernel_rfl)
theorem en_Symbols_atom (G : Gd W) {k : Nat} {d0 d1 : V} {H : AHeap} {Q : V → AHeap → Prop}
    (h : ∀ F : Fm, F.sc = scopeOf (methAt 6 1) → F.Ok W k → SP W F [(Str.ofString "self", some d0), (Str.ofString "text", some d1), (Str.ofString "found", none), (Str.ofString "number", none)] H (execs (bodyOf (methAt 6 1)) F.env) (bodyQ Q)) : CallP W (k + 1) (.ref 89) [d0, d1] H Q :=
  CallP.enter G.wok nm_Symbols_atom ((congrArg (·.lookup 89) G.hK).trans (lk89 _)) (by rw [G.hK]; kernel_rfl) rfl
    (fun s vs X hv => bd2 (fun _ _ => BindsTo.of_eq (by kernel_rfl)) hv) (ps := [Str.ofString "self", Str.ofString "text"]) (more := [Str.ofString "found", Str.ofString "number"]) (fun F _ e ok => @h F e ok)
theorem kp_Symbols_text (G : Gd W) : keepIn W.K (.ref 96) = true := by rw [G.hK]; kernel_rfl
theorem nm_Symbols_text : Names (scopeOf (methAt 6 2)) [Str.ofString "self", Str.ofString "number"] [] := names_of (by kernel_rfl)
theorem en_Symbols_text (G : Gd W) {k : Nat} {d0 d1 : V} {H : AHeap} {Q : V → AHeap → Prop}
    (h : ∀ F : Fm, F.sc = scopeOf (methAt 6 2) → F.Ok W k → SP W F [(Str.ofString "self", some d0), (Str.ofString "number", some d1)] H (execs (bodyOf (methAt 6 2)) F.env) (bodyQ Q)) : CallP W (k + 1) (.ref 96) [d0, d1] H Q :=
  CallP.enter G.wok nm_Symbols_text ((congrArg (·.lookup 96) G.hK).trans (lk96 _)) (by rw [G.hK]; kernel_rfl) rfl
    (fun s vs X hv => bd2 (fun _ _ => BindsTo.of_eq (by kernel_rfl)) hv) (ps := [Str.ofString "self", Str.ofString "number"]) (more := []) (fun F _ e ok => @h F e ok)
theorem gm_Symbols_functor_len : (scopeOf (methAt 6 3)).names.lookup (Str.ofString "len") = some .globalImplicit := by kernel_rfl
theorem kp_Symbols_functor (G : Gd W) : keepIn W.K (.ref 103) = true := by rw [G.hK]; kernel_rfl
theorem nm_Symbols_functor : Names (scopeOf (methAt 6 3)) [Str.ofString "self", Str.ofString "atom", Str.ofString "arity"] [Str.ofString "key", Str.ofString "found", Str.ofString "number"] := names_of (by kernel_rfl)
theorem en_Symbols_functor (G : Gd W) {k : Nat} {d0 d1 d2 : V} {H : AHeap} {Q : V → AHeap → Prop}
    (h : ∀ F : Fm, F.sc = scopeOf (methAt 6 3) → F.Ok W k → SP W F [(Str.ofString "self", some d0), (Str.ofString "atom", some d1), (Str.ofString "arity", some d2), (Str.ofString "key", none), (Str.ofString "found", none), (Str.ofString "number", none)] H (execs (bodyOf (methAt 6 3)) F.env) (bodyQ Q)) : CallP W (k + 1) (.ref 103) [d0, d1, d2] H Q :=
  CallP.enter G.wok nm_Symbols_functor ((congrArg (·.lookup 103) G.hK).trans (lk103 _)) (by rw [G.hK]; kernel_rfl) rfl
    (fun s vs X hv => bd3 (fun _ _ _ => BindsTo.of_eq (by kernel_rfl)) hv) (ps := [Str.ofString "self", Str.ofString "atom", Str.ofString "arity"]) (more := [Str.ofString "key", Str.ofString "found", Str.ofString "number"]) (fun F _ e ok => @h F e ok)
theorem kp_Symbols_func (G : Gd W) : keepIn W.K (.ref 110) = true := by rw [G.hK]; kernel_rfl
theorem nm_Symbols_func : Names (scopeOf (methAt 6 4)) [Str.ofString "self", Str.ofString "text", Str.ofString "arity"] [] := names_of (by kernel_rfl)
theorem en_Symbols_func (G : Gd W) {k : Nat} {d0 d1 d2 : V} {H : AHeap} {Q : V → AHeap → Prop}
    (h : ∀ F : Fm, F.sc = scopeOf (methAt 6 4) → F.Ok W k → SP W F [(Str.ofString "self", some d0), (Str.ofString "text", some d1), (Str.ofString "arity", some d2)] H (execs (bodyOf (methAt 6 4)) F.env) (bodyQ Q)) : CallP W (k + 1) (.ref 110) [d0, d1, d2] H Q :=
  CallP.enter G.wok nm_Symbols_func ((congrArg (·.lookup 110) G.hK).trans (lk110 _)) (by rw [G.hK]; kernel_rfl) rfl
    (fun s vs X hv => bd3 (fun _ _ _ => BindsTo.of_eq (by kernel_rfl)) hv) (ps := [Str.ofString "self", Str.ofString "text", Str.ofString "arity"]) (more := []) (fun F _ e ok => @h F e ok)
theorem kp_Symbols_name (G : Gd W) : keepIn W.K (.ref 117) = true := by rw [G.hK]; kernel_rfl
theorem nm_Symbols_name : Names (scopeOf (methAt 6 5)) [Str.ofString "self", Str.ofString "functor"] [] := names_of (by kernel_rfl)
theorem en_Symbols_name (G : Gd W) {k : Nat} {d0 d1 : V} {H : AHeap} {Q : V → AHeap → Prop}
    (h : ∀ F : Fm, F.sc = scopeOf (methAt 6 5) → F.Ok W k → SP W F [(Str.ofString "self", some d0), (Str.ofString "functor", some d1)] H (execs (bodyOf (methAt 6 5)) F.env) (bodyQ Q)) : CallP W (k + 1) (.ref 117) [d0, d1] H Q :=
  CallP.enter G.wok nm_Symbols_name ((congrArg (·.lookup 117) G.hK).trans (lk117 _)) (by rw [G.hK]; kernel_rfl) rfl
    (fun s vs X hv => bd2 (fun _ _ => BindsTo.of_eq (by kernel_rfl)) hv) (ps := [Str.ofString "self", Str.ofString "functor"]) (more := []) (fun F _ e ok => @h F e ok)
theorem kp_Symbols_arity (G : Gd W) : keepIn W.K (.ref 124) = true := by rw [G.hK]; kernel_rfl
theorem nm_Symbols_arity : Names (scopeOf (methAt 6 6)) [Str.ofString "self", Str.ofString "functor"] [] := names_of (by kernel_rfl)
theorem en_Symbols_arity (G : Gd W) {k : Nat} {d0 d1 : V} {H : AHeap} {Q : V → AHeap → Prop}
    (h : ∀ F : Fm, F.sc = scopeOf (methAt 6 6) → F.Ok W k → SP W F [(Str.ofString "self", some d0), (Str.ofString "functor", some d1)] H (execs (bodyOf (methAt 6 6)) F.env) (bodyQ Q)) : CallP W (k + 1) (.ref 124) [d0, d1] H Q :=
  CallP.enter G.wok nm_Symbols_arity ((congrArg (·.lookup 124) G.hK).trans (lk124 _)) (by rw [G.hK]; kernel_rfl) rfl
    (fun s vs X hv => bd2 (fun _ _ => BindsTo.of_eq (by kernel_rfl)) hv) (ps := [Str.ofString "self", Str.ofString "functor"]) (more := []) (fun F _ e ok => @h F e ok)
theorem gm_Symbols_count_len : (scopeOf (methAt 6 8)).names.lookup (Str.ofString "len") = some .globalImplicit := by kernel_rfl
theorem kp_Symbols_count (G : Gd W) : keepIn W.K (.ref 138) = true := by rw [G.hK]; kernel_rfl
theorem nm_Symbols_count : Names (scopeOf (methAt 6 8)) [Str.ofString "self"] [] := names_of (by kernel_rfl)
theorem en_Symbols_count (G : Gd W) {k : Nat} {d0 : V} {H : AHeap} {Q : V → AHeap → Prop}
    (h : ∀ F : Fm, F.sc = scopeOf (methAt 6 8) → F.Ok W k → SP W F [(Str.ofString "self", some d0)] H (execs (bodyOf (methAt 6 8)) F.env) (bodyQ Q)) : CallP W (k + 1) (.ref 138) [d0] H Q :=
  CallP.enter G.wok nm_Symbols_count ((congrArg (·.lookup 138) G.hK).trans (lk138 _)) (by rw [G.hK]; kernel_rfl) rfl
    (fun s vs X hv => bd1 (fun _ => BindsTo.of_eq (by kernel_rfl)) hv) (ps := [Str.ofString "self"]) (more := []) (fun F _ e ok => @h F e ok)
theorem gm_Symbols_functor_count_len : (scopeOf (methAt 6 9)).names.lookup (Str.ofString "len") = some .globalImplicit := by kernel_rfl
theorem kp_Symbols_functor_count (G : Gd W) : keepIn W.K (.ref 145) = true := by rw [G.hK]; kernel_rfl
theorem nm_Symbols_functor_count : Names (scopeOf (methAt 6 9)) [Str.ofString "self"] [] := names_of (by kernel_rfl)
theorem en_Symbols_functor_count (G : Gd W) {k : Nat} {d0 : V} {H : AHeap} {Q : V → AHeap → Prop}
    (h : ∀ F : Fm, F.sc = scopeOf (methAt 6 9) → F.Ok W k → SP W F [(Str.ofString "self", some d0)] H (execs (bodyOf (methAt 6 9)) F.env) (bodyQ Q)) : CallP W (k + 1) (.ref 145) [d0] H Q :=
  CallP.enter G.wok nm_Symbols_functor_count ((congrArg (·.lookup 145) G.hK).trans (lk145 _)) (by rw [G.hK]; kernel_rfl) rfl
    (fun s vs X hv => bd1 (fun _ => BindsTo.of_eq (by kernel_rfl)) hv) (ps := [Str.ofString "self"]) (more := []) (fun F _ e ok => @h F e ok)
theorem kp_is_digit (G : Gd W) : keepIn W.K (.ref 166) = true := by rw [G.hK]; kernel_rfl
theorem nm_is_digit : Names (scopeOf (defAt 10)) [Str.ofString "code"] [] := names_of (by kernel_rfl)
theorem en_is_digit (G : Gd W) {k : Nat} {d0 : V} {H : AHeap} {Q : V → AHeap → Prop}
    (h : ∀ F : Fm, F.sc = scopeOf (defAt 10) → F.Ok W k → SP W F [(Str.ofString "code", some d0)] H (execs (bodyOf (defAt 10)) F.env) (bodyQ Q)) : CallP W (k + 1) (.ref 166) [d0] H Q :=
  CallP.enter G.wok nm_is_digit ((congrArg (·.lookup 166) G.hK).trans (lk166 _)) (by rw [G.hK]; kernel_rfl) rfl
    (fun s vs X hv => bd1 (fun _ => BindsTo.of_eq (by kernel_rfl)) hv) (ps := [Str.ofString "code"]) (more := []) (fun F _ e ok => @h F e ok)
theorem kp_is_small (G : Gd W) : keepIn W.K (.ref 173) = true := by rw [G.hK]; kernel_rfl
theorem nm_is_small : Names (scopeOf (defAt 11)) [Str.ofString "code"] [] := names_of (by kernel_rfl)
theorem en_is_small (G : Gd W) {k : Nat} {d0 : V} {H : AHeap} {Q : V → AHeap → Prop}
    (h : ∀ F : Fm, F.sc = scopeOf (defAt 11) → F.Ok W k → SP W F [(Str.ofString "code", some d0)] H (execs (bodyOf (defAt 11)) F.env) (bodyQ Q)) : CallP W (k + 1) (.ref 173) [d0] H Q :=
  CallP.enter G.wok nm_is_small ((congrArg (·.lookup 173) G.hK).trans (lk173 _)) (by rw [G.hK]; kernel_rfl) rfl
    (fun s vs X hv => bd1 (fun _ => BindsTo.of_eq (by kernel_rfl)) hv) (ps := [Str.ofString "code"]) (more := []) (fun F _ e ok => @h F e ok)
theorem kp_is_capital (G : Gd W) : keepIn W.K (.ref 180) = true := by rw [G.hK]; kernel_rfl
theorem nm_is_capital : Names (scopeOf (defAt 12)) [Str.ofString "code"] [] := names_of (by kernel_rfl)
theorem en_is_capital (G : Gd W) {k : Nat} {d0 : V} {H : AHeap} {Q : V → AHeap → Prop}
    (h : ∀ F : Fm, F.sc = scopeOf (defAt 12) → F.Ok W k → SP W F [(Str.ofString "code", some d0)] H (execs (bodyOf (defAt 12)) F.env) (bodyQ Q)) : CallP W (k + 1) (.ref 180) [d0] H Q :=
  CallP.enter G.wok nm_is_capital ((congrArg (·.lookup 180) G.hK).trans (lk180 _)) (by rw [G.hK]; kernel_rfl) rfl
    (fun s vs X hv => bd1 (fun _ => BindsTo.of_eq (by kernel_rfl)) hv) (ps := [Str.ofString "code"]) (more := []) (fun F _ e ok => @h F e ok)
theorem gm_is_alnum_is_small : (scopeOf (defAt 13)).names.lookup (Str.ofString "is_small") = some .globalImplicit := by kernel_rfl
theorem gm_is_alnum_is_capital : (scopeOf (defAt 13)).names.lookup (Str.ofString "is_capital") = some .globalImplicit := by kernel_rfl
theorem gm_is_alnum_is_digit : (scopeOf (defAt 13)).names.lookup (Str.ofString "is_digit") = some .globalImplicit := by kernel_rfl
theorem kp_is_alnum (G : Gd W) : keepIn W.K (.ref 187) = true := by rw [G.hK]; kernel_rfl
theorem nm_is_alnum : Names (scopeOf (defAt 13)) [Str.ofString "code"] [] := names_of (by kernel_rfl)
theorem en_is_alnum (G : Gd W) {k : Nat} {d0 : V} {H : AHeap} {Q : V → AHeap → Prop}
    (h : ∀ F : Fm, F.sc = scopeOf (defAt 13) → F.Ok W k → SP W F [(Str.ofString "code", some d0)] H (execs (bodyOf (defAt 13)) F.env) (bodyQ Q)) : CallP W (k + 1) (.ref 187) [d0] H Q :=
  CallP.enter G.wok nm_is_alnum ((congrArg (·.lookup 187) G.hK).trans (lk187 _)) (by rw [G.hK]; kernel_rfl) rfl
    (fun s vs X hv => bd1 (fun _ => BindsTo.of_eq (by kernel_rfl)) hv) (ps := [Str.ofString "code"]) (more := []) (fun F _ e ok => @h F e ok)
theorem gm_number_text_abs : (scopeOf (defAt 14)).names.lookup (Str.ofString "abs") = some .globalImplicit := by kernel_rfl
theorem gm_number_text_divmod : (scopeOf (defAt 14)).names.lookup (Str.ofString "divmod") = some .globalImplicit := by kernel_rfl
theorem gm_number_text_str : (scopeOf (defAt 14)).names.lookup (Str.ofString "str") = some .globalImplicit := by kernel_rfl
theorem gm_number_text_reversed : (scopeOf (defAt 14)).names.lookup (Str.ofString "reversed") = some .globalImplicit := by kernel_rfl
theorem kp_number_text (G : Gd W) : keepIn W.K (.ref 194) = true := by rw [G.hK]; kernel_rfl
theorem nm_number_text : Names (scopeOf (defAt 14)) [Str.ofString "value"] [Str.ofString "rest", Str.ofString "pieces", Str.ofString "piece"] := names_of (by kernel_rfl)
theorem en_number_text (G : Gd W) {k : Nat} {d0 : V} {H : AHeap} {Q : V → AHeap → Prop}
    (h : ∀ F : Fm, F.sc = scopeOf (defAt 14) → F.Ok W k → SP W F [(Str.ofString "value", some d0), (Str.ofString "rest", none), (Str.ofString "pieces", none), (Str.ofString "piece", none)] H (execs (bodyOf (defAt 14)) F.env) (bodyQ Q)) : CallP W (k + 1) (.ref 194) [d0] H Q :=
  CallP.enter G.wok nm_number_text ((congrArg (·.lookup 194) G.hK).trans (lk194 _)) (by rw [G.hK]; kernel_rfl) rfl
    (fun s vs X hv => bd1 (fun _ => BindsTo.of_eq (by kernel_rfl)) hv) (ps := [Str.ofString "value"]) (more := [Str.ofString "rest", Str.ofString "pieces", Str.ofString "piece"]) (fun F _ e ok => @h F e ok)
theorem gm_is_alnum_name_is_small : (scopeOf (defAt 15)).names.lookup (Str.ofString "is_small") = some .globalImplicit := by kernel_rfl
theorem gm_is_alnum_name_ord : (scopeOf (defAt 15)).names.lookup (Str.ofString "ord") = some .globalImplicit := by kernel_rfl
theorem gm_is_alnum_name_is_alnum : (scopeOf (defAt 15)).names.lookup (Str.ofString "is_alnum") = some .globalImplicit := by kernel_rfl
theorem kp_is_alnum_name (G : Gd W) : keepIn W.K (.ref 201) = true := by rw [G.hK]; kernel_rfl
theorem nm_is_alnum_name : Names (scopeOf (defAt 15)) [Str.ofString "text"] [Str.ofString "char"] := names_of (by kernel_rfl)
theorem en_is_alnum_name (G : Gd W) {k : Nat} {d0 : V} {H : AHeap} {Q : V → AHeap → Prop}
    (h : ∀ F : Fm, F.sc = scopeOf (defAt 15) → F.Ok W k → SP W F [(Str.ofString "text", some d0), (Str.ofString "char", none)] H (execs (bodyOf (defAt 15)) F.env) (bodyQ Q)) : CallP W (k + 1) (.ref 201) [d0] H Q :=
  CallP.enter G.wok nm_is_alnum_name ((congrArg (·.lookup 201) G.hK).trans (lk201 _)) (by rw [G.hK]; kernel_rfl) rfl
    (fun s vs X hv => bd1 (fun _ => BindsTo.of_eq (by kernel_rfl)) hv) (ps := [Str.ofString "text"]) (more := [Str.ofString "char"]) (fun F _ e ok => @h F e ok)
theorem kp_shapes (G : Gd W) : keepIn W.K (.ref 208) = true := by rw [G.hK]; kernel_rfl
theorem nm_shapes : Names (scopeOf (defAt 17)) [] [] := names_of (by kernel_rfl)
theorem en_shapes (G : Gd W) {k : Nat}  {H : AHeap} {Q : V → AHeap → Prop}
    (h : ∀ F : Fm, F.sc = scopeOf (defAt 17) → F.Ok W k → SP W F [] H (execs (bodyOf (defAt 17)) F.env) (bodyQ Q)) : CallP W (k + 1) (.ref 208) [] H Q :=
  CallP.enter G.wok nm_shapes ((congrArg (·.lookup 208) G.hK).trans (lk208 _)) (by rw [G.hK]; kernel_rfl) rfl
    (fun s vs X hv => by obtain rfl : vs = [] := List.length_eq_zero_iff.mp hv; exact BindsTo.of_eq (by kernel_rfl)) (ps := []) (more := []) (fun F _ e ok => @h F e ok)
theorem gm_is_whole_isinstance : (scopeOf (defAt 18)).names.lookup (Str.ofString "isinstance") = some .globalImplicit := by kernel_rfl
theorem gm_is_whole_int : (scopeOf (defAt 18)).names.lookup (Str.ofString "int") = some .globalImplicit := by kernel_rfl
theorem gm_is_whole_bool : (scopeOf (defAt 18)).names.lookup (Str.ofString "bool") = some .globalImplicit := by kernel_rfl
theorem kp_is_whole (G : Gd W) : keepIn W.K (.ref 215) = true := by rw [G.hK]; kernel_rfl
theorem nm_is_whole : Names (scopeOf (defAt 18)) [Str.ofString "value"] [] := names_of (by kernel_rfl)
theorem en_is_whole (G : Gd W) {k : Nat} {d0 : V} {H : AHeap} {Q : V → AHeap → Prop}
    (h : ∀ F : Fm, F.sc = scopeOf (defAt 18) → F.Ok W k → SP W F [(Str.ofString "value", some d0)] H (execs (bodyOf (defAt 18)) F.env) (bodyQ Q)) : CallP W (k + 1) (.ref 215) [d0] H Q :=
  CallP.enter G.wok nm_is_whole ((congrArg (·.lookup 215) G.hK).trans (lk215 _)) (by rw [G.hK]; kernel_rfl) rfl
    (fun s vs X hv => bd1 (fun _ => BindsTo.of_eq (by kernel_rfl)) hv) (ps := [Str.ofString "value"]) (more := []) (fun F _ e ok => @h F e ok)
theorem gm_is_pair_isinstance : (scopeOf (defAt 19)).names.lookup (Str.ofString "isinstance") = some .globalImplicit := by kernel_rfl
theorem gm_is_pair_tuple : (scopeOf (defAt 19)).names.lookup (Str.ofString "tuple") = some .globalImplicit := by kernel_rfl
theorem gm_is_pair_len : (scopeOf (defAt 19)).names.lookup (Str.ofString "len") = some .globalImplicit := by kernel_rfl
theorem kp_is_pair (G : Gd W) : keepIn W.K (.ref 222) = true := by rw [G.hK]; kernel_rfl
theorem nm_is_pair : Names (scopeOf (defAt 19)) [Str.ofString "value"] [] := names_of (by kernel_rfl)
theorem en_is_pair (G : Gd W) {k : Nat} {d0 : V} {H : AHeap} {Q : V → AHeap → Prop}
    (h : ∀ F : Fm, F.sc = scopeOf (defAt 19) → F.Ok W k → SP W F [(Str.ofString "value", some d0)] H (execs (bodyOf (defAt 19)) F.env) (bodyQ Q)) : CallP W (k + 1) (.ref 222) [d0] H Q :=
  CallP.enter G.wok nm_is_pair ((congrArg (·.lookup 222) G.hK).trans (lk222 _)) (by rw [G.hK]; kernel_rfl) rfl
    (fun s vs X hv => bd1 (fun _ => BindsTo.of_eq (by kernel_rfl)) hv) (ps := [Str.ofString "value"]) (more := []) (fun F _ e ok => @h F e ok)
theorem gm_is_register_is_pair : (scopeOf (defAt 20)).names.lookup (Str.ofString "is_pair") = some .globalImplicit := by kernel_rfl
theorem gm_is_register_is_whole : (scopeOf (defAt 20)).names.lookup (Str.ofString "is_whole") = some .globalImplicit := by kernel_rfl
theorem kp_is_register (G : Gd W) : keepIn W.K (.ref 229) = true := by rw [G.hK]; kernel_rfl
theorem nm_is_register : Names (scopeOf (defAt 20)) [Str.ofString "value", Str.ofString "names"] [] := names_of (by kernel_rfl)
theorem en_is_register (G : Gd W) {k : Nat} {d0 d1 : V} {H : AHeap} {Q : V → AHeap → Prop}
    (h : ∀ F : Fm, F.sc = scopeOf (defAt 20) → F.Ok W k → SP W F [(Str.ofString "value", some d0), (Str.ofString "names", some d1)] H (execs (bodyOf (defAt 20)) F.env) (bodyQ Q)) : CallP W (k + 1) (.ref 229) [d0, d1] H Q :=
  CallP.enter G.wok nm_is_register ((congrArg (·.lookup 229) G.hK).trans (lk229 _)) (by rw [G.hK]; kernel_rfl) rfl
    (fun s vs X hv => bd2 (fun _ _ => BindsTo.of_eq (by kernel_rfl)) hv) (ps := [Str.ofString "value", Str.ofString "names"]) (more := []) (fun F _ e ok => @h F e ok)
theorem gm_is_constant_is_pair : (scopeOf (defAt 21)).names.lookup (Str.ofString "is_pair") = some .globalImplicit := by kernel_rfl
theorem gm_is_constant_is_whole : (scopeOf (defAt 21)).names.lookup (Str.ofString "is_whole") = some .globalImplicit := by kernel_rfl
theorem gm_is_constant_INT : (scopeOf (defAt 21)).names.lookup (Str.ofString "INT") = some .globalImplicit := by kernel_rfl
theorem gm_is_constant_CON : (scopeOf (defAt 21)).names.lookup (Str.ofString "CON") = some .globalImplicit := by kernel_rfl
theorem kp_is_constant (G : Gd W) : keepIn W.K (.ref 236) = true := by rw [G.hK]; kernel_rfl
theorem nm_is_constant : Names (scopeOf (defAt 21)) [Str.ofString "value"] [] := names_of (by kernel_rfl)
theorem en_is_constant (G : Gd W) {k : Nat} {d0 : V} {H : AHeap} {Q : V → AHeap → Prop}
    (h : ∀ F : Fm, F.sc = scopeOf (defAt 21) → F.Ok W k → SP W F [(Str.ofString "value", some d0)] H (execs (bodyOf (defAt 21)) F.env) (bodyQ Q)) : CallP W (k + 1) (.ref 236) [d0] H Q :=
  CallP.enter G.wok nm_is_constant ((congrArg (·.lookup 236) G.hK).trans (lk236 _)) (by rw [G.hK]; kernel_rfl) rfl
    (fun s vs X hv => bd1 (fun _ => BindsTo.of_eq (by kernel_rfl)) hv) (ps := [Str.ofString "value"]) (more := []) (fun F _ e ok => @h F e ok)
theorem gm_is_functor_is_whole : (scopeOf (defAt 22)).names.lookup (Str.ofString "is_whole") = some .globalImplicit := by kernel_rfl
theorem kp_is_functor (G : Gd W) : keepIn W.K (.ref 243) = true := by rw [G.hK]; kernel_rfl
theorem nm_is_functor : Names (scopeOf (defAt 22)) [Str.ofString "value"] [] := names_of (by kernel_rfl)
theorem en_is_functor (G : Gd W) {k : Nat} {d0 : V} {H : AHeap} {Q : V → AHeap → Prop}
    (h : ∀ F : Fm, F.sc = scopeOf (defAt 22) → F.Ok W k → SP W F [(Str.ofString "value", some d0)] H (execs (bodyOf (defAt 22)) F.env) (bodyQ Q)) : CallP W (k + 1) (.ref 243) [d0] H Q :=
  CallP.enter G.wok nm_is_functor ((congrArg (·.lookup 243) G.hK).trans (lk243 _)) (by rw [G.hK]; kernel_rfl) rfl
    (fun s vs X hv => bd1 (fun _ => BindsTo.of_eq (by kernel_rfl)) hv) (ps := [Str.ofString "value"]) (more := []) (fun F _ e ok => @h F e ok)
theorem gm_is_target_is_whole : (scopeOf (defAt 23)).names.lookup (Str.ofString "is_whole") = some .globalImplicit := by kernel_rfl
theorem kp_is_target (G : Gd W) : keepIn W.K (.ref 250) = true := by rw [G.hK]; kernel_rfl
theorem nm_is_target : Names (scopeOf (defAt 23)) [Str.ofString "value", Str.ofString "linked"] [] := names_of (by kernel_rfl)
theorem en_is_target (G : Gd W) {k : Nat} {d0 d1 : V} {H : AHeap} {Q : V → AHeap → Prop}
    (h : ∀ F : Fm, F.sc = scopeOf (defAt 23) → F.Ok W k → SP W F [(Str.ofString "value", some d0), (Str.ofString "linked", some d1)] H (execs (bodyOf (defAt 23)) F.env) (bodyQ Q)) : CallP W (k + 1) (.ref 250) [d0, d1] H Q :=
  CallP.enter G.wok nm_is_target ((congrArg (·.lookup 250) G.hK).trans (lk250 _)) (by rw [G.hK]; kernel_rfl) rfl
    (fun s vs X hv => bd2 (fun _ _ => BindsTo.of_eq (by kernel_rfl)) hv) (ps := [Str.ofString "value", Str.ofString "linked"]) (more := []) (fun F _ e ok => @h F e ok)
theorem gm_is_key_is_constant : (scopeOf (defAt 24)).names.lookup (Str.ofString "is_constant") = some .globalImplicit := by kernel_rfl
theorem gm_is_key_is_functor : (scopeOf (defAt 24)).names.lookup (Str.ofString "is_functor") = some .globalImplicit := by kernel_rfl
theorem kp_is_key (G : Gd W) : keepIn W.K (.ref 257) = true := by rw [G.hK]; kernel_rfl
theorem nm_is_key : Names (scopeOf (defAt 24)) [Str.ofString "value", Str.ofString "kind"] [] := names_of (by kernel_rfl)
theorem en_is_key (G : Gd W) {k : Nat} {d0 d1 : V} {H : AHeap} {Q : V → AHeap → Prop}
    (h : ∀ F : Fm, F.sc = scopeOf (defAt 24) → F.Ok W k → SP W F [(Str.ofString "value", some d0), (Str.ofString "kind", some d1)] H (execs (bodyOf (defAt 24)) F.env) (bodyQ Q)) : CallP W (k + 1) (.ref 257) [d0, d1] H Q :=
  CallP.enter G.wok nm_is_key ((congrArg (·.lookup 257) G.hK).trans (lk257 _)) (by rw [G.hK]; kernel_rfl) rfl
    (fun s vs X hv => bd2 (fun _ _ => BindsTo.of_eq (by kernel_rfl)) hv) (ps := [Str.ofString "value", Str.ofString "kind"]) (more := []) (fun F _ e ok => @h F e ok)
theorem gm_is_table_isinstance : (scopeOf (defAt 25)).names.lookup (Str.ofString "isinstance") = some .globalImplicit := by kernel_rfl
theorem gm_is_table_dict : (scopeOf (defAt 25)).names.lookup (Str.ofString "dict") = some .globalImplicit := by kernel_rfl
theorem gm_is_table_is_key : (scopeOf (defAt 25)).names.lookup (Str.ofString "is_key") = some .globalImplicit := by kernel_rfl
theorem gm_is_table_is_target : (scopeOf (defAt 25)).names.lookup (Str.ofString "is_target") = some .globalImplicit := by kernel_rfl
theorem gm_is_table_tuple : (scopeOf (defAt 25)).names.lookup (Str.ofString "tuple") = some .globalImplicit := by kernel_rfl
theorem gm_is_table_is_pair : (scopeOf (defAt 25)).names.lookup (Str.ofString "is_pair") = some .globalImplicit := by kernel_rfl
theorem kp_is_table (G : Gd W) : keepIn W.K (.ref 264) = true := by rw [G.hK]; kernel_rfl
theorem nm_is_table : Names (scopeOf (defAt 25)) [Str.ofString "value", Str.ofString "kind", Str.ofString "linked"] [Str.ofString "key", Str.ofString "pair"] := names_of (by kernel_rfl)
theorem en_is_table (G : Gd W) {k : Nat} {d0 d1 d2 : V} {H : AHeap} {Q : V → AHeap → Prop}
    (h : ∀ F : Fm, F.sc = scopeOf (defAt 25) → F.Ok W k → SP W F [(Str.ofString "value", some d0), (Str.ofString "kind", some d1), (Str.ofString "linked", some d2), (Str.ofString "key", none), (Str.ofString "pair", none)] H (execs (bodyOf (defAt 25)) F.env) (bodyQ Q)) : CallP W (k + 1) (.ref 264) [d0, d1, d2] H Q :=
  CallP.enter G.wok nm_is_table ((congrArg (·.lookup 264) G.hK).trans (lk264 _)) (by rw [G.hK]; kernel_rfl) rfl
    (fun s vs X hv => bd3 (fun _ _ _ => BindsTo.of_eq (by kernel_rfl)) hv) (ps := [Str.ofString "value", Str.ofString "kind", Str.ofString "linked"]) (more := [Str.ofString "key", Str.ofString "pair"]) (fun F _ e ok => @h F e ok)
theorem gm_is_operand_is_register : (scopeOf (defAt 26)).names.lookup (Str.ofString "is_register") = some .globalImplicit := by kernel_rfl
theorem gm_is_operand_is_constant : (scopeOf (defAt 26)).names.lookup (Str.ofString "is_constant") = some .globalImplicit := by kernel_rfl
theorem gm_is_operand_is_functor : (scopeOf (defAt 26)).names.lookup (Str.ofString "is_functor") = some .globalImplicit := by kernel_rfl
theorem gm_is_operand_is_target : (scopeOf (defAt 26)).names.lookup (Str.ofString "is_target") = some .globalImplicit := by kernel_rfl
theorem gm_is_operand_is_table : (scopeOf (defAt 26)).names.lookup (Str.ofString "is_table") = some .globalImplicit := by kernel_rfl
theorem kp_is_operand (G : Gd W) : keepIn W.K (.ref 271) = true := by rw [G.hK]; kernel_rfl
theorem nm_is_operand : Names (scopeOf (defAt 26)) [Str.ofString "value", Str.ofString "kind", Str.ofString "linked"] [] := names_of (by kernel_rfl)
theorem en_is_operand (G : Gd W) {k : Nat} {d0 d1 d2 : V} {H : AHeap} {Q : V → AHeap → Prop}
    (h : ∀ F : Fm, F.sc = scopeOf (defAt 26) → F.Ok W k → SP W F [(Str.ofString "value", some d0), (Str.ofString "kind", some d1), (Str.ofString "linked", some d2)] H (execs (bodyOf (defAt 26)) F.env) (bodyQ Q)) : CallP W (k + 1) (.ref 271) [d0, d1, d2] H Q :=
  CallP.enter G.wok nm_is_operand ((congrArg (·.lookup 271) G.hK).trans (lk271 _)) (by rw [G.hK]; kernel_rfl) rfl
    (fun s vs X hv => bd3 (fun _ _ _ => BindsTo.of_eq (by kernel_rfl)) hv) (ps := [Str.ofString "value", Str.ofString "kind", Str.ofString "linked"]) (more := []) (fun F _ e ok => @h F e ok)
theorem gm_check_row_isinstance : (scopeOf (defAt 27)).names.lookup (Str.ofString "isinstance") = some .globalImplicit := by kernel_rfl
theorem gm_check_row_tuple : (scopeOf (defAt 27)).names.lookup (Str.ofString "tuple") = some .globalImplicit := by kernel_rfl
theorem gm_check_row_len : (scopeOf (defAt 27)).names.lookup (Str.ofString "len") = some .globalImplicit := by kernel_rfl
theorem gm_check_row_str : (scopeOf (defAt 27)).names.lookup (Str.ofString "str") = some .globalImplicit := by kernel_rfl
theorem gm_check_row_LinkFault : (scopeOf (defAt 27)).names.lookup (Str.ofString "LinkFault") = some .globalImplicit := by kernel_rfl
theorem gm_check_row_range : (scopeOf (defAt 27)).names.lookup (Str.ofString "range") = some .globalImplicit := by kernel_rfl
theorem gm_check_row_is_operand : (scopeOf (defAt 27)).names.lookup (Str.ofString "is_operand") = some .globalImplicit := by kernel_rfl
theorem kp_check_row (G : Gd W) : keepIn W.K (.ref 278) = true := by rw [G.hK]; kernel_rfl
theorem nm_check_row : Names (scopeOf (defAt 27)) [Str.ofString "table", Str.ofString "ins", Str.ofString "linked"] [Str.ofString "name", Str.ofString "kinds", Str.ofString "place"] := names_of (by kernel_rfl)
theorem en_check_row (G : Gd W) {k : Nat} {d0 d1 d2 : V} {H : AHeap} {Q : V → AHeap → Prop}
    (h : ∀ F : Fm, F.sc = scopeOf (defAt 27) → F.Ok W k → SP W F [(Str.ofString "table", some d0), (Str.ofString "ins", some d1), (Str.ofString "linked", some d2), (Str.ofString "name", none), (Str.ofString "kinds", none), (Str.ofString "place", none)] H (execs (bodyOf (defAt 27)) F.env) (bodyQ Q)) : CallP W (k + 1) (.ref 278) [d0, d1, d2] H Q :=
  CallP.enter G.wok nm_check_row ((congrArg (·.lookup 278) G.hK).trans (lk278 _)) (by rw [G.hK]; kernel_rfl) rfl
    (fun s vs X hv => bd3 (fun _ _ _ => BindsTo.of_eq (by kernel_rfl)) hv) (ps := [Str.ofString "table", Str.ofString "ins", Str.ofString "linked"]) (more := [Str.ofString "name", Str.ofString "kinds", Str.ofString "place"]) (fun F _ e ok => @h F e ok)
theorem kp_code_digits (G : Gd W) : keepIn W.K (.ref 285) = true := by rw [G.hK]; kernel_rfl
theorem nm_code_digits : Names (scopeOf (defAt 28)) [Str.ofString "code"] [Str.ofString "figures", Str.ofString "text"] := names_of (by kernel_rfl)
theorem en_code_digits (G : Gd W) {k : Nat} {d0 : V} {H : AHeap} {Q : V → AHeap → Prop}
    (h : ∀ F : Fm, F.sc = scopeOf (defAt 28) → F.Ok W k → SP W F [(Str.ofString "code", some d0), (Str.ofString "figures", none), (Str.ofString "text", none)] H (execs (bodyOf (defAt 28)) F.env) (bodyQ Q)) : CallP W (k + 1) (.ref 285) [d0] H Q :=
  CallP.enter G.wok nm_code_digits ((congrArg (·.lookup 285) G.hK).trans (lk285 _)) (by rw [G.hK]; kernel_rfl) rfl
    (fun s vs X hv => bd1 (fun _ => BindsTo.of_eq (by kernel_rfl)) hv) (ps := [Str.ofString "code"]) (more := [Str.ofString "figures", Str.ofString "text"]) (fun F _ e ok => @h F e ok)
theorem gm_quoted_name_is_alnum_name : (scopeOf (defAt 29)).names.lookup (Str.ofString "is_alnum_name") = some .globalImplicit := by kernel_rfl
theorem gm_quoted_name_code_digits : (scopeOf (defAt 29)).names.lookup (Str.ofString "code_digits") = some .globalImplicit := by kernel_rfl
theorem gm_quoted_name_ord : (scopeOf (defAt 29)).names.lookup (Str.ofString "ord") = some .globalImplicit := by kernel_rfl
theorem kp_quoted_name (G : Gd W) : keepIn W.K (.ref 292) = true := by rw [G.hK]; kernel_rfl
theorem nm_quoted_name : Names (scopeOf (defAt 29)) [Str.ofString "text"] [Str.ofString "parts", Str.ofString "sign"] := names_of (by kernel_rfl)
theorem en_quoted_name (G : Gd W) {k : Nat} {d0 : V} {H : AHeap} {Q : V → AHeap → Prop}
    (h : ∀ F : Fm, F.sc = scopeOf (defAt 29) → F.Ok W k → SP W F [(Str.ofString "text", some d0), (Str.ofString "parts", none), (Str.ofString "sign", none)] H (execs (bodyOf (defAt 29)) F.env) (bodyQ Q)) : CallP W (k + 1) (.ref 292) [d0] H Q :=
  CallP.enter G.wok nm_quoted_name ((congrArg (·.lookup 292) G.hK).trans (lk292 _)) (by rw [G.hK]; kernel_rfl) rfl
    (fun s vs X hv => bd1 (fun _ => BindsTo.of_eq (by kernel_rfl)) hv) (ps := [Str.ofString "text"]) (more := [Str.ofString "parts", Str.ofString "sign"]) (fun F _ e ok => @h F e ok)
theorem gm_read_code_LinkFault : (scopeOf (defAt 30)).names.lookup (Str.ofString "LinkFault") = some .globalImplicit := by kernel_rfl
theorem kp_read_code (G : Gd W) : keepIn W.K (.ref 299) = true := by rw [G.hK]; kernel_rfl
theorem nm_read_code : Names (scopeOf (defAt 30)) [Str.ofString "digits"] [Str.ofString "figures", Str.ofString "value", Str.ofString "sign", Str.ofString "figure"] := names_of (by kernel_rfl)
theorem en_read_code (G : Gd W) {k : Nat} {d0 : V} {H : AHeap} {Q : V → AHeap → Prop}
    (h : ∀ F : Fm, F.sc = scopeOf (defAt 30) → F.Ok W k → SP W F [(Str.ofString "digits", some d0), (Str.ofString "figures", none), (Str.ofString "value", none), (Str.ofString "sign", none), (Str.ofString "figure", none)] H (execs (bodyOf (defAt 30)) F.env) (bodyQ Q)) : CallP W (k + 1) (.ref 299) [d0] H Q :=
  CallP.enter G.wok nm_read_code ((congrArg (·.lookup 299) G.hK).trans (lk299 _)) (by rw [G.hK]; kernel_rfl) rfl
    (fun s vs X hv => bd1 (fun _ => BindsTo.of_eq (by kernel_rfl)) hv) (ps := [Str.ofString "digits"]) (more := [Str.ofString "figures", Str.ofString "value", Str.ofString "sign", Str.ofString "figure"]) (fun F _ e ok => @h F e ok)
theorem gm_unquoted_name_is_alnum_name : (scopeOf (defAt 31)).names.lookup (Str.ofString "is_alnum_name") = some .globalImplicit := by kernel_rfl
theorem gm_unquoted_name_len : (scopeOf (defAt 31)).names.lookup (Str.ofString "len") = some .globalImplicit := by kernel_rfl
theorem gm_unquoted_name_LinkFault : (scopeOf (defAt 31)).names.lookup (Str.ofString "LinkFault") = some .globalImplicit := by kernel_rfl
theorem gm_unquoted_name_chr : (scopeOf (defAt 31)).names.lookup (Str.ofString "chr") = some .globalImplicit := by kernel_rfl
theorem gm_unquoted_name_read_code : (scopeOf (defAt 31)).names.lookup (Str.ofString "read_code") = some .globalImplicit := by kernel_rfl
theorem gm_unquoted_name_quoted_name : (scopeOf (defAt 31)).names.lookup (Str.ofString "quoted_name") = some .globalImplicit := by kernel_rfl
theorem kp_unquoted_name (G : Gd W) : keepIn W.K (.ref 306) = true := by rw [G.hK]; kernel_rfl
theorem nm_unquoted_name : Names (scopeOf (defAt 31)) [Str.ofString "word"] [Str.ofString "inner", Str.ofString "parts", Str.ofString "place", Str.ofString "end", Str.ofString "text"] := names_of (by kernel_rfl)
theorem en_unquoted_name (G : Gd W) {k : Nat} {d0 : V} {H : AHeap} {Q : V → AHeap → Prop}
    (h : ∀ F : Fm, F.sc = scopeOf (defAt 31) → F.Ok W k → SP W F [(Str.ofString "word", some d0), (Str.ofString "inner", none), (Str.ofString "parts", none), (Str.ofString "place", none), (Str.ofString "end", none), (Str.ofString "text", none)] H (execs (bodyOf (defAt 31)) F.env) (bodyQ Q)) : CallP W (k + 1) (.ref 306) [d0] H Q :=
  CallP.enter G.wok nm_unquoted_name ((congrArg (·.lookup 306) G.hK).trans (lk306 _)) (by rw [G.hK]; kernel_rfl) rfl
    (fun s vs X hv => bd1 (fun _ => BindsTo.of_eq (by kernel_rfl)) hv) (ps := [Str.ofString "word"]) (more := [Str.ofString "inner", Str.ofString "parts", Str.ofString "place", Str.ofString "end", Str.ofString "text"]) (fun F _ e ok => @h F e ok)
theorem gm_constant_text_INT : (scopeOf (defAt 32)).names.lookup (Str.ofString "INT") = some .globalImplicit := by kernel_rfl
theorem gm_constant_text_number_text : (scopeOf (defAt 32)).names.lookup (Str.ofString "number_text") = some .globalImplicit := by kernel_rfl
theorem gm_constant_text_LinkFault : (scopeOf (defAt 32)).names.lookup (Str.ofString "LinkFault") = some .globalImplicit := by kernel_rfl
theorem gm_constant_text_quoted_name : (scopeOf (defAt 32)).names.lookup (Str.ofString "quoted_name") = some .globalImplicit := by kernel_rfl
theorem kp_constant_text (G : Gd W) : keepIn W.K (.ref 313) = true := by rw [G.hK]; kernel_rfl
theorem nm_constant_text : Names (scopeOf (defAt 32)) [Str.ofString "symbols", Str.ofString "cell"] [] := names_of (by kernel_rfl)
theorem en_constant_text (G : Gd W) {k : Nat} {d0 d1 : V} {H : AHeap} {Q : V → AHeap → Prop}
    (h : ∀ F : Fm, F.sc = scopeOf (defAt 32) → F.Ok W k → SP W F [(Str.ofString "symbols", some d0), (Str.ofString "cell", some d1)] H (execs (bodyOf (defAt 32)) F.env) (bodyQ Q)) : CallP W (k + 1) (.ref 313) [d0, d1] H Q :=
  CallP.enter G.wok nm_constant_text ((congrArg (·.lookup 313) G.hK).trans (lk313 _)) (by rw [G.hK]; kernel_rfl) rfl
    (fun s vs X hv => bd2 (fun _ _ => BindsTo.of_eq (by kernel_rfl)) hv) (ps := [Str.ofString "symbols", Str.ofString "cell"]) (more := []) (fun F _ e ok => @h F e ok)
theorem gm_functor_text_LinkFault : (scopeOf (defAt 33)).names.lookup (Str.ofString "LinkFault") = some .globalImplicit := by kernel_rfl
theorem gm_functor_text_quoted_name : (scopeOf (defAt 33)).names.lookup (Str.ofString "quoted_name") = some .globalImplicit := by kernel_rfl
theorem gm_functor_text_number_text : (scopeOf (defAt 33)).names.lookup (Str.ofString "number_text") = some .globalImplicit := by kernel_rfl
theorem kp_functor_text (G : Gd W) : keepIn W.K (.ref 320) = true := by rw [G.hK]; kernel_rfl
theorem nm_functor_text : Names (scopeOf (defAt 33)) [Str.ofString "symbols", Str.ofString "functor"] [] := names_of (by kernel_rfl)
theorem en_functor_text (G : Gd W) {k : Nat} {d0 d1 : V} {H : AHeap} {Q : V → AHeap → Prop}
    (h : ∀ F : Fm, F.sc = scopeOf (defAt 33) → F.Ok W k → SP W F [(Str.ofString "symbols", some d0), (Str.ofString "functor", some d1)] H (execs (bodyOf (defAt 33)) F.env) (bodyQ Q)) : CallP W (k + 1) (.ref 320) [d0, d1] H Q :=
  CallP.enter G.wok nm_functor_text ((congrArg (·.lookup 320) G.hK).trans (lk320 _)) (by rw [G.hK]; kernel_rfl) rfl
    (fun s vs X hv => bd2 (fun _ _ => BindsTo.of_eq (by kernel_rfl)) hv) (ps := [Str.ofString "symbols", Str.ofString "functor"]) (more := []) (fun F _ e ok => @h F e ok)
theorem gm_table_words_constant_text : (scopeOf (defAt 34)).names.lookup (Str.ofString "constant_text") = some .globalImplicit := by kernel_rfl
theorem gm_table_words_functor_text : (scopeOf (defAt 34)).names.lookup (Str.ofString "functor_text") = some .globalImplicit := by kernel_rfl
theorem gm_table_words_number_text : (scopeOf (defAt 34)).names.lookup (Str.ofString "number_text") = some .globalImplicit := by kernel_rfl
theorem kp_table_words (G : Gd W) : keepIn W.K (.ref 327) = true := by rw [G.hK]; kernel_rfl
theorem nm_table_words : Names (scopeOf (defAt 34)) [Str.ofString "symbols", Str.ofString "table", Str.ofString "kind"] [Str.ofString "words", Str.ofString "key", Str.ofString "text"] := names_of (by kernel_rfl)
theorem en_table_words (G : Gd W) {k : Nat} {d0 d1 d2 : V} {H : AHeap} {Q : V → AHeap → Prop}
    (h : ∀ F : Fm, F.sc = scopeOf (defAt 34) → F.Ok W k → SP W F [(Str.ofString "symbols", some d0), (Str.ofString "table", some d1), (Str.ofString "kind", some d2), (Str.ofString "words", none), (Str.ofString "key", none), (Str.ofString "text", none)] H (execs (bodyOf (defAt 34)) F.env) (bodyQ Q)) : CallP W (k + 1) (.ref 327) [d0, d1, d2] H Q :=
  CallP.enter G.wok nm_table_words ((congrArg (·.lookup 327) G.hK).trans (lk327 _)) (by rw [G.hK]; kernel_rfl) rfl
    (fun s vs X hv => bd3 (fun _ _ _ => BindsTo.of_eq (by kernel_rfl)) hv) (ps := [Str.ofString "symbols", Str.ofString "table", Str.ofString "kind"]) (more := [Str.ofString "words", Str.ofString "key", Str.ofString "text"]) (fun F _ e ok => @h F e ok)
theorem gm_instruction_words_range : (scopeOf (defAt 35)).names.lookup (Str.ofString "range") = some .globalImplicit := by kernel_rfl
theorem gm_instruction_words_len : (scopeOf (defAt 35)).names.lookup (Str.ofString "len") = some .globalImplicit := by kernel_rfl
theorem gm_instruction_words_number_text : (scopeOf (defAt 35)).names.lookup (Str.ofString "number_text") = some .globalImplicit := by kernel_rfl
theorem gm_instruction_words_constant_text : (scopeOf (defAt 35)).names.lookup (Str.ofString "constant_text") = some .globalImplicit := by kernel_rfl
theorem gm_instruction_words_functor_text : (scopeOf (defAt 35)).names.lookup (Str.ofString "functor_text") = some .globalImplicit := by kernel_rfl
theorem gm_instruction_words_table_words : (scopeOf (defAt 35)).names.lookup (Str.ofString "table_words") = some .globalImplicit := by kernel_rfl
theorem kp_instruction_words (G : Gd W) : keepIn W.K (.ref 334) = true := by rw [G.hK]; kernel_rfl
theorem nm_instruction_words : Names (scopeOf (defAt 35)) [Str.ofString "symbols", Str.ofString "ins", Str.ofString "kinds"] [Str.ofString "words", Str.ofString "place", Str.ofString "kind", Str.ofString "value", Str.ofString "word"] := names_of (by kernel_rfl)
theorem en_instruction_words (G : Gd W) {k : Nat} {d0 d1 d2 : V} {H : AHeap} {Q : V → AHeap → Prop}
    (h : ∀ F : Fm, F.sc = scopeOf (defAt 35) → F.Ok W k → SP W F [(Str.ofString "symbols", some d0), (Str.ofString "ins", some d1), (Str.ofString "kinds", some d2), (Str.ofString "words", none), (Str.ofString "place", none), (Str.ofString "kind", none), (Str.ofString "value", none), (Str.ofString "word", none)] H (execs (bodyOf (defAt 35)) F.env) (bodyQ Q)) : CallP W (k + 1) (.ref 334) [d0, d1, d2] H Q :=
  CallP.enter G.wok nm_instruction_words ((congrArg (·.lookup 334) G.hK).trans (lk334 _)) (by rw [G.hK]; kernel_rfl) rfl
    (fun s vs X hv => bd3 (fun _ _ _ => BindsTo.of_eq (by kernel_rfl)) hv) (ps := [Str.ofString "symbols", Str.ofString "ins", Str.ofString "kinds"]) (more := [Str.ofString "words", Str.ofString "place", Str.ofString "kind", Str.ofString "value", Str.ofString "word"]) (fun F _ e ok => @h F e ok)
theorem gm_listing_shapes : (scopeOf (defAt 36)).names.lookup (Str.ofString "shapes") = some .globalImplicit := by kernel_rfl
theorem gm_listing_range : (scopeOf (defAt 36)).names.lookup (Str.ofString "range") = some .globalImplicit := by kernel_rfl
theorem gm_listing_len : (scopeOf (defAt 36)).names.lookup (Str.ofString "len") = some .globalImplicit := by kernel_rfl
theorem gm_listing_check_row : (scopeOf (defAt 36)).names.lookup (Str.ofString "check_row") = some .globalImplicit := by kernel_rfl
theorem gm_listing_number_text : (scopeOf (defAt 36)).names.lookup (Str.ofString "number_text") = some .globalImplicit := by kernel_rfl
theorem gm_listing_instruction_words : (scopeOf (defAt 36)).names.lookup (Str.ofString "instruction_words") = some .globalImplicit := by kernel_rfl
theorem kp_listing (G : Gd W) : keepIn W.K (.ref 342) = true := by rw [G.hK]; kernel_rfl
theorem nm_listing : Names (scopeOf (defAt 36)) [Str.ofString "symbols", Str.ofString "instrs", Str.ofString "base"] [Str.ofString "table", Str.ofString "rows", Str.ofString "place", Str.ofString "ins"] := names_of (by kernel_rfl)
theorem en_listing (G : Gd W) {k : Nat} {d0 d1 d2 : V} {H : AHeap} {Q : V → AHeap → Prop}
    (h : ∀ F : Fm, F.sc = scopeOf (defAt 36) → F.Ok W k → SP W F [(Str.ofString "symbols", some d0), (Str.ofString "instrs", some d1), (Str.ofString "base", some d2), (Str.ofString "table", none), (Str.ofString "rows", none), (Str.ofString "place", none), (Str.ofString "ins", none)] H (execs (bodyOf (defAt 36)) F.env) (bodyQ Q)) : CallP W (k + 1) (.ref 342) [d0, d1, d2] H Q :=
  CallP.enter G.wok nm_listing ((congrArg (·.lookup 342) G.hK).trans (lk342 _)) (by rw [G.hK]; kernel_rfl) rfl
    (fun s vs X hv => bd3 (fun _ _ _ => BindsTo.of_defaults (T := 335) (n := 0) rfl (X 335 _ ((congrArg (·.lookup 335) G.hK).trans (lk335 _))) rfl rfl rfl) hv) (ps := [Str.ofString "symbols", Str.ofString "instrs", Str.ofString "base"]) (more := [Str.ofString "table", Str.ofString "rows", Str.ofString "place", Str.ofString "ins"]) (fun F _ e ok => @h F e ok)
theorem gm_split_row_LinkFault : (scopeOf (defAt 37)).names.lookup (Str.ofString "LinkFault") = some .globalImplicit := by kernel_rfl
theorem kp_split_row (G : Gd W) : keepIn W.K (.ref 349) = true := by rw [G.hK]; kernel_rfl
theorem nm_split_row : Names (scopeOf (defAt 37)) [Str.ofString "row"] [Str.ofString "words", Str.ofString "word"] := names_of (by kernel_rfl)
theorem en_split_row (G : Gd W) {k : Nat} {d0 : V} {H : AHeap} {Q : V → AHeap → Prop}
    (h : ∀ F : Fm, F.sc = scopeOf (defAt 37) → F.Ok W k → SP W F [(Str.ofString "row", some d0), (Str.ofString "words", none), (Str.ofString "word", none)] H (execs (bodyOf (defAt 37)) F.env) (bodyQ Q)) : CallP W (k + 1) (.ref 349) [d0] H Q :=
  CallP.enter G.wok nm_split_row ((congrArg (·.lookup 349) G.hK).trans (lk349 _)) (by rw [G.hK]; kernel_rfl) rfl
    (fun s vs X hv => bd1 (fun _ => BindsTo.of_eq (by kernel_rfl)) hv) (ps := [Str.ofString "row"]) (more := [Str.ofString "words", Str.ofString "word"]) (fun F _ e ok => @h F e ok)
theorem gm_read_count_LinkFault : (scopeOf (defAt 38)).names.lookup (Str.ofString "LinkFault") = some .globalImplicit := by kernel_rfl
theorem gm_read_count_range : (scopeOf (defAt 38)).names.lookup (Str.ofString "range") = some .globalImplicit := by kernel_rfl
theorem gm_read_count_len : (scopeOf (defAt 38)).names.lookup (Str.ofString "len") = some .globalImplicit := by kernel_rfl
theorem gm_read_count_int : (scopeOf (defAt 38)).names.lookup (Str.ofString "int") = some .globalImplicit := by kernel_rfl
theorem kp_read_count (G : Gd W) : keepIn W.K (.ref 356) = true := by rw [G.hK]; kernel_rfl
theorem nm_read_count : Names (scopeOf (defAt 38)) [Str.ofString "word"] [Str.ofString "sign", Str.ofString "value", Str.ofString "place", Str.ofString "piece"] := names_of (by kernel_rfl)
theorem en_read_count (G : Gd W) {k : Nat} {d0 : V} {H : AHeap} {Q : V → AHeap → Prop}
    (h : ∀ F : Fm, F.sc = scopeOf (defAt 38) → F.Ok W k → SP W F [(Str.ofString "word", some d0), (Str.ofString "sign", none), (Str.ofString "value", none), (Str.ofString "place", none), (Str.ofString "piece", none)] H (execs (bodyOf (defAt 38)) F.env) (bodyQ Q)) : CallP W (k + 1) (.ref 356) [d0] H Q :=
  CallP.enter G.wok nm_read_count ((congrArg (·.lookup 356) G.hK).trans (lk356 _)) (by rw [G.hK]; kernel_rfl) rfl
    (fun s vs X hv => bd1 (fun _ => BindsTo.of_eq (by kernel_rfl)) hv) (ps := [Str.ofString "word"]) (more := [Str.ofString "sign", Str.ofString "value", Str.ofString "place", Str.ofString "piece"]) (fun F _ e ok => @h F e ok)
theorem gm_read_constant_INT : (scopeOf (defAt 39)).names.lookup (Str.ofString "INT") = some .globalImplicit := by kernel_rfl
theorem gm_read_constant_read_count : (scopeOf (defAt 39)).names.lookup (Str.ofString "read_count") = some .globalImplicit := by kernel_rfl
theorem gm_read_constant_LinkFault : (scopeOf (defAt 39)).names.lookup (Str.ofString "LinkFault") = some .globalImplicit := by kernel_rfl
theorem gm_read_constant_CON : (scopeOf (defAt 39)).names.lookup (Str.ofString "CON") = some .globalImplicit := by kernel_rfl
theorem gm_read_constant_unquoted_name : (scopeOf (defAt 39)).names.lookup (Str.ofString "unquoted_name") = some .globalImplicit := by kernel_rfl
theorem kp_read_constant (G : Gd W) : keepIn W.K (.ref 363) = true := by rw [G.hK]; kernel_rfl
theorem nm_read_constant : Names (scopeOf (defAt 39)) [Str.ofString "symbols", Str.ofString "word"] [Str.ofString "value"] := names_of (by kernel_rfl)
theorem en_read_constant (G : Gd W) {k : Nat} {d0 d1 : V} {H : AHeap} {Q : V → AHeap → Prop}
    (h : ∀ F : Fm, F.sc = scopeOf (defAt 39) → F.Ok W k → SP W F [(Str.ofString "symbols", some d0), (Str.ofString "word", some d1), (Str.ofString "value", none)] H (execs (bodyOf (defAt 39)) F.env) (bodyQ Q)) : CallP W (k + 1) (.ref 363) [d0, d1] H Q :=
  CallP.enter G.wok nm_read_constant ((congrArg (·.lookup 363) G.hK).trans (lk363 _)) (by rw [G.hK]; kernel_rfl) rfl
    (fun s vs X hv => bd2 (fun _ _ => BindsTo.of_eq (by kernel_rfl)) hv) (ps := [Str.ofString "symbols", Str.ofString "word"]) (more := [Str.ofString "value"]) (fun F _ e ok => @h F e ok)
theorem gm_read_functor_LinkFault : (scopeOf (defAt 40)).names.lookup (Str.ofString "LinkFault") = some .globalImplicit := by kernel_rfl
theorem gm_read_functor_unquoted_name : (scopeOf (defAt 40)).names.lookup (Str.ofString "unquoted_name") = some .globalImplicit := by kernel_rfl
theorem gm_read_functor_read_count : (scopeOf (defAt 40)).names.lookup (Str.ofString "read_count") = some .globalImplicit := by kernel_rfl
theorem kp_read_functor (G : Gd W) : keepIn W.K (.ref 370) = true := by rw [G.hK]; kernel_rfl
theorem nm_read_functor : Names (scopeOf (defAt 40)) [Str.ofString "symbols", Str.ofString "word"] [Str.ofString "place", Str.ofString "atom"] := names_of (by kernel_rfl)
theorem en_read_functor (G : Gd W) {k : Nat} {d0 d1 : V} {H : AHeap} {Q : V → AHeap → Prop}
    (h : ∀ F : Fm, F.sc = scopeOf (defAt 40) → F.Ok W k → SP W F [(Str.ofString "symbols", some d0), (Str.ofString "word", some d1), (Str.ofString "place", none), (Str.ofString "atom", none)] H (execs (bodyOf (defAt 40)) F.env) (bodyQ Q)) : CallP W (k + 1) (.ref 370) [d0, d1] H Q :=
  CallP.enter G.wok nm_read_functor ((congrArg (·.lookup 370) G.hK).trans (lk370 _)) (by rw [G.hK]; kernel_rfl) rfl
    (fun s vs X hv => bd2 (fun _ _ => BindsTo.of_eq (by kernel_rfl)) hv) (ps := [Str.ofString "symbols", Str.ofString "word"]) (more := [Str.ofString "place", Str.ofString "atom"]) (fun F _ e ok => @h F e ok)
theorem gm_read_register_LinkFault : (scopeOf (defAt 41)).names.lookup (Str.ofString "LinkFault") = some .globalImplicit := by kernel_rfl
theorem gm_read_register_read_count : (scopeOf (defAt 41)).names.lookup (Str.ofString "read_count") = some .globalImplicit := by kernel_rfl
theorem kp_read_register (G : Gd W) : keepIn W.K (.ref 377) = true := by rw [G.hK]; kernel_rfl
theorem nm_read_register : Names (scopeOf (defAt 41)) [Str.ofString "word"] [] := names_of (by kernel_rfl)
theorem en_read_register (G : Gd W) {k : Nat} {d0 : V} {H : AHeap} {Q : V → AHeap → Prop}
    (h : ∀ F : Fm, F.sc = scopeOf (defAt 41) → F.Ok W k → SP W F [(Str.ofString "word", some d0)] H (execs (bodyOf (defAt 41)) F.env) (bodyQ Q)) : CallP W (k + 1) (.ref 377) [d0] H Q :=
  CallP.enter G.wok nm_read_register ((congrArg (·.lookup 377) G.hK).trans (lk377 _)) (by rw [G.hK]; kernel_rfl) rfl
    (fun s vs X hv => bd1 (fun _ => BindsTo.of_eq (by kernel_rfl)) hv) (ps := [Str.ofString "word"]) (more := []) (fun F _ e ok => @h F e ok)
theorem gm_read_table_LinkFault : (scopeOf (defAt 42)).names.lookup (Str.ofString "LinkFault") = some .globalImplicit := by kernel_rfl
theorem gm_read_table_len : (scopeOf (defAt 42)).names.lookup (Str.ofString "len") = some .globalImplicit := by kernel_rfl
theorem gm_read_table_read_constant : (scopeOf (defAt 42)).names.lookup (Str.ofString "read_constant") = some .globalImplicit := by kernel_rfl
theorem gm_read_table_read_functor : (scopeOf (defAt 42)).names.lookup (Str.ofString "read_functor") = some .globalImplicit := by kernel_rfl
theorem gm_read_table_read_count : (scopeOf (defAt 42)).names.lookup (Str.ofString "read_count") = some .globalImplicit := by kernel_rfl
theorem kp_read_table (G : Gd W) : keepIn W.K (.ref 384) = true := by rw [G.hK]; kernel_rfl
theorem nm_read_table : Names (scopeOf (defAt 42)) [Str.ofString "symbols", Str.ofString "words", Str.ofString "place", Str.ofString "kind"] [Str.ofString "table", Str.ofString "word", Str.ofString "cut", Str.ofString "key"] := names_of (by kernel_rfl)
theorem en_read_table (G : Gd W) {k : Nat} {d0 d1 d2 d3 : V} {H : AHeap} {Q : V → AHeap → Prop}
    (h : ∀ F : Fm, F.sc = scopeOf (defAt 42) → F.Ok W k → SP W F [(Str.ofString "symbols", some d0), (Str.ofString "words", some d1), (Str.ofString "place", some d2), (Str.ofString "kind", some d3), (Str.ofString "table", none), (Str.ofString "word", none), (Str.ofString "cut", none), (Str.ofString "key", none)] H (execs (bodyOf (defAt 42)) F.env) (bodyQ Q)) : CallP W (k + 1) (.ref 384) [d0, d1, d2, d3] H Q :=
  CallP.enter G.wok nm_read_table ((congrArg (·.lookup 384) G.hK).trans (lk384 _)) (by rw [G.hK]; kernel_rfl) rfl
    (fun s vs X hv => bd4 (fun _ _ _ _ => BindsTo.of_eq (by kernel_rfl)) hv) (ps := [Str.ofString "symbols", Str.ofString "words", Str.ofString "place", Str.ofString "kind"]) (more := [Str.ofString "table", Str.ofString "word", Str.ofString "cut", Str.ofString "key"]) (fun F _ e ok => @h F e ok)
theorem gm_read_operand_read_register : (scopeOf (defAt 43)).names.lookup (Str.ofString "read_register") = some .globalImplicit := by kernel_rfl
theorem gm_read_operand_read_constant : (scopeOf (defAt 43)).names.lookup (Str.ofString "read_constant") = some .globalImplicit := by kernel_rfl
theorem gm_read_operand_read_functor : (scopeOf (defAt 43)).names.lookup (Str.ofString "read_functor") = some .globalImplicit := by kernel_rfl
theorem gm_read_operand_read_count : (scopeOf (defAt 43)).names.lookup (Str.ofString "read_count") = some .globalImplicit := by kernel_rfl
theorem kp_read_operand (G : Gd W) : keepIn W.K (.ref 391) = true := by rw [G.hK]; kernel_rfl
theorem nm_read_operand : Names (scopeOf (defAt 43)) [Str.ofString "symbols", Str.ofString "word", Str.ofString "kind"] [] := names_of (by kernel_rfl)
theorem en_read_operand (G : Gd W) {k : Nat} {d0 d1 d2 : V} {H : AHeap} {Q : V → AHeap → Prop}
    (h : ∀ F : Fm, F.sc = scopeOf (defAt 43) → F.Ok W k → SP W F [(Str.ofString "symbols", some d0), (Str.ofString "word", some d1), (Str.ofString "kind", some d2)] H (execs (bodyOf (defAt 43)) F.env) (bodyQ Q)) : CallP W (k + 1) (.ref 391) [d0, d1, d2] H Q :=
  CallP.enter G.wok nm_read_operand ((congrArg (·.lookup 391) G.hK).trans (lk391 _)) (by rw [G.hK]; kernel_rfl) rfl
    (fun s vs X hv => bd3 (fun _ _ _ => BindsTo.of_eq (by kernel_rfl)) hv) (ps := [Str.ofString "symbols", Str.ofString "word", Str.ofString "kind"]) (more := []) (fun F _ e ok => @h F e ok)
theorem gm_read_instruction_LinkFault : (scopeOf (defAt 44)).names.lookup (Str.ofString "LinkFault") = some .globalImplicit := by kernel_rfl
theorem gm_read_instruction_len : (scopeOf (defAt 44)).names.lookup (Str.ofString "len") = some .globalImplicit := by kernel_rfl
theorem gm_read_instruction_read_table : (scopeOf (defAt 44)).names.lookup (Str.ofString "read_table") = some .globalImplicit := by kernel_rfl
theorem gm_read_instruction_read_operand : (scopeOf (defAt 44)).names.lookup (Str.ofString "read_operand") = some .globalImplicit := by kernel_rfl
theorem gm_read_instruction_tuple : (scopeOf (defAt 44)).names.lookup (Str.ofString "tuple") = some .globalImplicit := by kernel_rfl
theorem gm_read_instruction_check_row : (scopeOf (defAt 44)).names.lookup (Str.ofString "check_row") = some .globalImplicit := by kernel_rfl
theorem kp_read_instruction (G : Gd W) : keepIn W.K (.ref 398) = true := by rw [G.hK]; kernel_rfl
theorem nm_read_instruction : Names (scopeOf (defAt 44)) [Str.ofString "symbols", Str.ofString "words", Str.ofString "table"] [Str.ofString "parts", Str.ofString "place", Str.ofString "kind", Str.ofString "pair", Str.ofString "ins"] := names_of (by kernel_rfl)
theorem en_read_instruction (G : Gd W) {k : Nat} {d0 d1 d2 : V} {H : AHeap} {Q : V → AHeap → Prop}
    (h : ∀ F : Fm, F.sc = scopeOf (defAt 44) → F.Ok W k → SP W F [(Str.ofString "symbols", some d0), (Str.ofString "words", some d1), (Str.ofString "table", some d2), (Str.ofString "parts", none), (Str.ofString "place", none), (Str.ofString "kind", none), (Str.ofString "pair", none), (Str.ofString "ins", none)] H (execs (bodyOf (defAt 44)) F.env) (bodyQ Q)) : CallP W (k + 1) (.ref 398) [d0, d1, d2] H Q :=
  CallP.enter G.wok nm_read_instruction ((congrArg (·.lookup 398) G.hK).trans (lk398 _)) (by rw [G.hK]; kernel_rfl) rfl
    (fun s vs X hv => bd3 (fun _ _ _ => BindsTo.of_eq (by kernel_rfl)) hv) (ps := [Str.ofString "symbols", Str.ofString "words", Str.ofString "table"]) (more := [Str.ofString "parts", Str.ofString "place", Str.ofString "kind", Str.ofString "pair", Str.ofString "ins"]) (fun F _ e ok => @h F e ok)
theorem gm_read_listing_shapes : (scopeOf (defAt 45)).names.lookup (Str.ofString "shapes") = some .globalImplicit := by kernel_rfl
theorem gm_read_listing_range : (scopeOf (defAt 45)).names.lookup (Str.ofString "range") = some .globalImplicit := by kernel_rfl
theorem gm_read_listing_len : (scopeOf (defAt 45)).names.lookup (Str.ofString "len") = some .globalImplicit := by kernel_rfl
theorem gm_read_listing_split_row : (scopeOf (defAt 45)).names.lookup (Str.ofString "split_row") = some .globalImplicit := by kernel_rfl
theorem gm_read_listing_LinkFault : (scopeOf (defAt 45)).names.lookup (Str.ofString "LinkFault") = some .globalImplicit := by kernel_rfl
theorem gm_read_listing_read_count : (scopeOf (defAt 45)).names.lookup (Str.ofString "read_count") = some .globalImplicit := by kernel_rfl
theorem gm_read_listing_number_text : (scopeOf (defAt 45)).names.lookup (Str.ofString "number_text") = some .globalImplicit := by kernel_rfl
theorem gm_read_listing_read_instruction : (scopeOf (defAt 45)).names.lookup (Str.ofString "read_instruction") = some .globalImplicit := by kernel_rfl
theorem kp_read_listing (G : Gd W) : keepIn W.K (.ref 405) = true := by rw [G.hK]; kernel_rfl
theorem nm_read_listing : Names (scopeOf (defAt 45)) [Str.ofString "symbols", Str.ofString "rows"] [Str.ofString "table", Str.ofString "instrs", Str.ofString "base", Str.ofString "place", Str.ofString "words", Str.ofString "address"] := names_of (by kernel_rfl)
theorem en_read_listing (G : Gd W) {k : Nat} {d0 d1 : V} {H : AHeap} {Q : V → AHeap → Prop}
    (h : ∀ F : Fm, F.sc = scopeOf (defAt 45) → F.Ok W k → SP W F [(Str.ofString "symbols", some d0), (Str.ofString "rows", some d1), (Str.ofString "table", none), (Str.ofString "instrs", none), (Str.ofString "base", none), (Str.ofString "place", none), (Str.ofString "words", none), (Str.ofString "address", none)] H (execs (bodyOf (defAt 45)) F.env) (bodyQ Q)) : CallP W (k + 1) (.ref 405) [d0, d1] H Q :=
  CallP.enter G.wok nm_read_listing ((congrArg (·.lookup 405) G.hK).trans (lk405 _)) (by rw [G.hK]; kernel_rfl) rfl
    (fun s vs X hv => bd2 (fun _ _ => BindsTo.of_eq (by kernel_rfl)) hv) (ps := [Str.ofString "symbols", Str.ofString "rows"]) (more := [Str.ofString "table", Str.ofString "instrs", Str.ofString "base", Str.ofString "place", Str.ofString "words", Str.ofString "address"]) (fun F _ e ok => @h F e ok)
theorem gm__law_figures_range : (scopeOf (defAt 47)).names.lookup (Str.ofString "range") = some .globalImplicit := by kernel_rfl
theorem kp__law_figures (G : Gd W) : keepIn W.K (.ref 412) = true := by rw [G.hK]; kernel_rfl
theorem nm__law_figures : Names (scopeOf (defAt 47)) [Str.ofString "script"] [Str.ofString "figures", Str.ofString "cell", Str.ofString "whole", Str.ofString "turn"] := names_of (by kernel_rfl)
theorem en__law_figures (G : Gd W) {k : Nat} {d0 : V} {H : AHeap} {Q : V → AHeap → Prop}
    (h : ∀ F : Fm, F.sc = scopeOf (defAt 47) → F.Ok W k → SP W F [(Str.ofString "script", some d0), (Str.ofString "figures", none), (Str.ofString "cell", none), (Str.ofString "whole", none), (Str.ofString "turn", none)] H (execs (bodyOf (defAt 47)) F.env) (bodyQ Q)) : CallP W (k + 1) (.ref 412) [d0] H Q :=
  CallP.enter G.wok nm__law_figures ((congrArg (·.lookup 412) G.hK).trans (lk412 _)) (by rw [G.hK]; kernel_rfl) rfl
    (fun s vs X hv => bd1 (fun _ => BindsTo.of_eq (by kernel_rfl)) hv) (ps := [Str.ofString "script"]) (more := [Str.ofString "figures", Str.ofString "cell", Str.ofString "whole", Str.ofString "turn"]) (fun F _ e ok => @h F e ok)
theorem kp__law_draw (G : Gd W) : keepIn W.K (.ref 419) = true := by rw [G.hK]; kernel_rfl
theorem nm__law_draw : Names (scopeOf (defAt 48)) [Str.ofString "figures", Str.ofString "many"] [] := names_of (by kernel_rfl)
theorem en__law_draw (G : Gd W) {k : Nat} {d0 d1 : V} {H : AHeap} {Q : V → AHeap → Prop}
    (h : ∀ F : Fm, F.sc = scopeOf (defAt 48) → F.Ok W k → SP W F [(Str.ofString "figures", some d0), (Str.ofString "many", some d1)] H (execs (bodyOf (defAt 48)) F.env) (bodyQ Q)) : CallP W (k + 1) (.ref 419) [d0, d1] H Q :=
  CallP.enter G.wok nm__law_draw ((congrArg (·.lookup 419) G.hK).trans (lk419 _)) (by rw [G.hK]; kernel_rfl) rfl
    (fun s vs X hv => bd2 (fun _ _ => BindsTo.of_eq (by kernel_rfl)) hv) (ps := [Str.ofString "figures", Str.ofString "many"]) (more := []) (fun F _ e ok => @h F e ok)
theorem gm__law_name_range : (scopeOf (defAt 49)).names.lookup (Str.ofString "range") = some .globalImplicit := by kernel_rfl
theorem gm__law_name__law_draw : (scopeOf (defAt 49)).names.lookup (Str.ofString "_law_draw") = some .globalImplicit := by kernel_rfl
theorem gm__law_name_chr : (scopeOf (defAt 49)).names.lookup (Str.ofString "chr") = some .globalImplicit := by kernel_rfl
theorem kp__law_name (G : Gd W) : keepIn W.K (.ref 426) = true := by rw [G.hK]; kernel_rfl
theorem nm__law_name : Names (scopeOf (defAt 49)) [Str.ofString "figures"] [Str.ofString "text", Str.ofString "turn"] := names_of (by kernel_rfl)
theorem en__law_name (G : Gd W) {k : Nat} {d0 : V} {H : AHeap} {Q : V → AHeap → Prop}
    (h : ∀ F : Fm, F.sc = scopeOf (defAt 49) → F.Ok W k → SP W F [(Str.ofString "figures", some d0), (Str.ofString "text", none), (Str.ofString "turn", none)] H (execs (bodyOf (defAt 49)) F.env) (bodyQ Q)) : CallP W (k + 1) (.ref 426) [d0] H Q :=
  CallP.enter G.wok nm__law_name ((congrArg (·.lookup 426) G.hK).trans (lk426 _)) (by rw [G.hK]; kernel_rfl) rfl
    (fun s vs X hv => bd1 (fun _ => BindsTo.of_eq (by kernel_rfl)) hv) (ps := [Str.ofString "figures"]) (more := [Str.ofString "text", Str.ofString "turn"]) (fun F _ e ok => @h F e ok)
theorem gm__law_constant__law_draw : (scopeOf (defAt 50)).names.lookup (Str.ofString "_law_draw") = some .globalImplicit := by kernel_rfl
theorem gm__law_constant_CON : (scopeOf (defAt 50)).names.lookup (Str.ofString "CON") = some .globalImplicit := by kernel_rfl
theorem gm__law_constant__law_name : (scopeOf (defAt 50)).names.lookup (Str.ofString "_law_name") = some .globalImplicit := by kernel_rfl
theorem gm__law_constant_INT : (scopeOf (defAt 50)).names.lookup (Str.ofString "INT") = some .globalImplicit := by kernel_rfl
theorem kp__law_constant (G : Gd W) : keepIn W.K (.ref 433) = true := by rw [G.hK]; kernel_rfl
theorem nm__law_constant : Names (scopeOf (defAt 50)) [Str.ofString "figures", Str.ofString "signs"] [] := names_of (by kernel_rfl)
theorem en__law_constant (G : Gd W) {k : Nat} {d0 d1 : V} {H : AHeap} {Q : V → AHeap → Prop}
    (h : ∀ F : Fm, F.sc = scopeOf (defAt 50) → F.Ok W k → SP W F [(Str.ofString "figures", some d0), (Str.ofString "signs", some d1)] H (execs (bodyOf (defAt 50)) F.env) (bodyQ Q)) : CallP W (k + 1) (.ref 433) [d0, d1] H Q :=
  CallP.enter G.wok nm__law_constant ((congrArg (·.lookup 433) G.hK).trans (lk433 _)) (by rw [G.hK]; kernel_rfl) rfl
    (fun s vs X hv => bd2 (fun _ _ => BindsTo.of_eq (by kernel_rfl)) hv) (ps := [Str.ofString "figures", Str.ofString "signs"]) (more := []) (fun F _ e ok => @h F e ok)
theorem gm__law_row_drawn__law_draw : (scopeOf (defAt 51)).names.lookup (Str.ofString "_law_draw") = some .globalImplicit := by kernel_rfl
theorem gm__law_row_drawn__law_name : (scopeOf (defAt 51)).names.lookup (Str.ofString "_law_name") = some .globalImplicit := by kernel_rfl
theorem gm__law_row_drawn__law_constant : (scopeOf (defAt 51)).names.lookup (Str.ofString "_law_constant") = some .globalImplicit := by kernel_rfl
theorem gm__law_row_drawn_INT : (scopeOf (defAt 51)).names.lookup (Str.ofString "INT") = some .globalImplicit := by kernel_rfl
theorem kp__law_row_drawn (G : Gd W) : keepIn W.K (.ref 440) = true := by rw [G.hK]; kernel_rfl
theorem nm__law_row_drawn : Names (scopeOf (defAt 51)) [Str.ofString "figures", Str.ofString "signs"] [Str.ofString "kind", Str.ofString "count", Str.ofString "word", Str.ofString "spot"] := names_of (by kernel_rfl)
theorem en__law_row_drawn (G : Gd W) {k : Nat} {d0 d1 : V} {H : AHeap} {Q : V → AHeap → Prop}
    (h : ∀ F : Fm, F.sc = scopeOf (defAt 51) → F.Ok W k → SP W F [(Str.ofString "figures", some d0), (Str.ofString "signs", some d1), (Str.ofString "kind", none), (Str.ofString "count", none), (Str.ofString "word", none), (Str.ofString "spot", none)] H (execs (bodyOf (defAt 51)) F.env) (bodyQ Q)) : CallP W (k + 1) (.ref 440) [d0, d1] H Q :=
  CallP.enter G.wok nm__law_row_drawn ((congrArg (·.lookup 440) G.hK).trans (lk440 _)) (by rw [G.hK]; kernel_rfl) rfl
    (fun s vs X hv => bd2 (fun _ _ => BindsTo.of_eq (by kernel_rfl)) hv) (ps := [Str.ofString "figures", Str.ofString "signs"]) (more := [Str.ofString "kind", Str.ofString "count", Str.ofString "word", Str.ofString "spot"]) (fun F _ e ok => @h F e ok)
theorem gm__law_refused_read_listing : (scopeOf (defAt 52)).names.lookup (Str.ofString "read_listing") = some .globalImplicit := by kernel_rfl
theorem gm__law_refused_LinkFault : (scopeOf (defAt 52)).names.lookup (Str.ofString "LinkFault") = some .globalImplicit := by kernel_rfl
theorem kp__law_refused (G : Gd W) : keepIn W.K (.ref 447) = true := by rw [G.hK]; kernel_rfl
theorem nm__law_refused : Names (scopeOf (defAt 52)) [Str.ofString "signs", Str.ofString "rows"] [] := names_of (by kernel_rfl)
theorem en__law_refused (G : Gd W) {k : Nat} {d0 d1 : V} {H : AHeap} {Q : V → AHeap → Prop}
    (h : ∀ F : Fm, F.sc = scopeOf (defAt 52) → F.Ok W k → SP W F [(Str.ofString "signs", some d0), (Str.ofString "rows", some d1)] H (execs (bodyOf (defAt 52)) F.env) (bodyQ Q)) : CallP W (k + 1) (.ref 447) [d0, d1] H Q :=
  CallP.enter G.wok nm__law_refused ((congrArg (·.lookup 447) G.hK).trans (lk447 _)) (by rw [G.hK]; kernel_rfl) rfl
    (fun s vs X hv => bd2 (fun _ _ => BindsTo.of_eq (by kernel_rfl)) hv) (ps := [Str.ofString "signs", Str.ofString "rows"]) (more := []) (fun F _ e ok => @h F e ok)
theorem gm_law__law_figures : (scopeOf (defAt 53)).names.lookup (Str.ofString "_law_figures") = some .globalImplicit := by kernel_rfl
theorem gm_law_Symbols : (scopeOf (defAt 53)).names.lookup (Str.ofString "Symbols") = some .globalImplicit := by kernel_rfl
theorem gm_law_range : (scopeOf (defAt 53)).names.lookup (Str.ofString "range") = some .globalImplicit := by kernel_rfl
theorem gm_law__law_draw : (scopeOf (defAt 53)).names.lookup (Str.ofString "_law_draw") = some .globalImplicit := by kernel_rfl
theorem gm_law__law_name : (scopeOf (defAt 53)).names.lookup (Str.ofString "_law_name") = some .globalImplicit := by kernel_rfl
theorem gm_law_str : (scopeOf (defAt 53)).names.lookup (Str.ofString "str") = some .globalImplicit := by kernel_rfl
theorem gm_law__law_row_drawn : (scopeOf (defAt 53)).names.lookup (Str.ofString "_law_row_drawn") = some .globalImplicit := by kernel_rfl
theorem gm_law_listing : (scopeOf (defAt 53)).names.lookup (Str.ofString "listing") = some .globalImplicit := by kernel_rfl
theorem gm_law_len : (scopeOf (defAt 53)).names.lookup (Str.ofString "len") = some .globalImplicit := by kernel_rfl
theorem gm_law_read_listing : (scopeOf (defAt 53)).names.lookup (Str.ofString "read_listing") = some .globalImplicit := by kernel_rfl
theorem gm_law__law_refused : (scopeOf (defAt 53)).names.lookup (Str.ofString "_law_refused") = some .globalImplicit := by kernel_rfl
theorem kp_law (G : Gd W) : keepIn W.K (.ref 454) = true := by rw [G.hK]; kernel_rfl
theorem nm_law : Names (scopeOf (defAt 53)) [Str.ofString "script"] [Str.ofString "figures", Str.ofString "signs", Str.ofString "others", Str.ofString "turn", Str.ofString "code", Str.ofString "low", Str.ofString "rows", Str.ofString "cut", Str.ofString "far", Str.ofString "there", Str.ofString "place", Str.ofString "spot"] := names_of (by kernel_rfl)
theorem en_law (G : Gd W) {k : Nat} {d0 : V} {H : AHeap} {Q : V → AHeap → Prop}
    (h : ∀ F : Fm, F.sc = scopeOf (defAt 53) → F.Ok W k → SP W F [(Str.ofString "script", some d0), (Str.ofString "figures", none), (Str.ofString "signs", none), (Str.ofString "others", none), (Str.ofString "turn", none), (Str.ofString "code", none), (Str.ofString "low", none), (Str.ofString "rows", none), (Str.ofString "cut", none), (Str.ofString "far", none), (Str.ofString "there", none), (Str.ofString "place", none), (Str.ofString "spot", none)] H (execs (bodyOf (defAt 53)) F.env) (bodyQ Q)) : CallP W (k + 1) (.ref 454) [d0] H Q :=
  CallP.enter G.wok nm_law ((congrArg (·.lookup 454) G.hK).trans (lk454 _)) (by rw [G.hK]; kernel_rfl) rfl
    (fun s vs X hv => bd1 (fun _ => BindsTo.of_eq (by kernel_rfl)) hv) (ps := [Str.ofString "script"]) (more := [Str.ofString "figures", Str.ofString "signs", Str.ofString "others", Str.ofString "turn", Str.ofString "code", Str.ofString "low", Str.ofString "rows", Str.ofString "cut", Str.ofString "far", Str.ofString "there", Str.ofString "place", Str.ofString "spot"]) (fun F _ e ok => @h F e ok)
theorem ec_Symbols (G : Gd W) {F : Fm} {k₀ : Nat} {sc : Scope} {ρ : Rho} {H : AHeap} {Q : V → AHeap → Prop} {p pos : Pos} (ok : F.Ok W k₀) (hsc : F.sc = sc) (hm : sc.names.lookup (Str.ofString "Symbols") = some .globalImplicit)
    (h : CallP W k₀ (.ref 155) [] H Q) : EP W F ρ H (eval (.Call (.Name (Str.ofString "Symbols") p) [] [] pos) F.env) Q :=
  EP_call0 ok G.wok (Nat.le_refl _) ((by rw [G.hK]; kernel_rfl)) (eg_Symbols G ok hsc hm ⟨rfl, h⟩)
theorem ec__law_constant (G : Gd W) : EC W (Str.ofString "_law_constant") 433 := @EC.of W _ _ G (kp__law_constant G) (@eg__law_constant W G)
theorem ec__law_draw (G : Gd W) : EC W (Str.ofString "_law_draw") 419 := @EC.of W _ _ G (kp__law_draw G) (@eg__law_draw W G)
theorem ec__law_figures (G : Gd W) : EC W (Str.ofString "_law_figures") 412 := @EC.of W _ _ G (kp__law_figures G) (@eg__law_figures W G)
theorem ec__law_name (G : Gd W) : EC W (Str.ofString "_law_name") 426 := @EC.of W _ _ G (kp__law_name G) (@eg__law_name W G)
theorem ec__law_refused (G : Gd W) : EC W (Str.ofString "_law_refused") 447 := @EC.of W _ _ G (kp__law_refused G) (@eg__law_refused W G)
theorem ec__law_row_drawn (G : Gd W) : EC W (Str.ofString "_law_row_drawn") 440 := @EC.of W _ _ G (kp__law_row_drawn G) (@eg__law_row_drawn W G)
theorem ec_abs (G : Gd W) : EB W (Str.ofString "abs") (.builtin "abs") := @EB.bi W _ _ (@eg_abs W G)
theorem ec_bool (G : Gd W) : EB W (Str.ofString "bool") (.type "bool") := @EB.ty W _ _ (@eg_bool W G)
theorem ec_check_row (G : Gd W) : EC W (Str.ofString "check_row") 278 := @EC.of W _ _ G (kp_check_row G) (@eg_check_row W G)
theorem ec_chr (G : Gd W) : EB W (Str.ofString "chr") (.builtin "chr") := @EB.bi W _ _ (@eg_chr W G)
theorem ec_code_digits (G : Gd W) : EC W (Str.ofString "code_digits") 285 := @EC.of W _ _ G (kp_code_digits G) (@eg_code_digits W G)
theorem ec_constant_text (G : Gd W) : EC W (Str.ofString "constant_text") 313 := @EC.of W _ _ G (kp_constant_text G) (@eg_constant_text W G)
theorem ec_dict (G : Gd W) : EB W (Str.ofString "dict") (.type "dict") := @EB.ty W _ _ (@eg_dict W G)
theorem ec_divmod (G : Gd W) : EB W (Str.ofString "divmod") (.builtin "divmod") := @EB.bi W _ _ (@eg_divmod W G)
theorem ec_fixed_atoms (G : Gd W) {F : Fm} {k₀ : Nat} {sc : Scope} {ρ : Rho} {H : AHeap} {Q : V → AHeap → Prop} {p pos : Pos} (ok : F.Ok W k₀) (hsc : F.sc = sc) (hm : sc.names.lookup (Str.ofString "fixed_atoms") = some .globalImplicit)
    (h : CallP W k₀ (.ref 61) [] H Q) : EP W F ρ H (eval (.Call (.Name (Str.ofString "fixed_atoms") p) [] [] pos) F.env) Q :=
  EP_call0 ok G.wok (Nat.le_refl _) (kp_fixed_atoms G) (eg_fixed_atoms G ok hsc hm ⟨rfl, h⟩)
theorem ec_fixed_functors (G : Gd W) {F : Fm} {k₀ : Nat} {sc : Scope} {ρ : Rho} {H : AHeap} {Q : V → AHeap → Prop} {p pos : Pos} (ok : F.Ok W k₀) (hsc : F.sc = sc) (hm : sc.names.lookup (Str.ofString "fixed_functors") = some .globalImplicit)
    (h : CallP W k₀ (.ref 68) [] H Q) : EP W F ρ H (eval (.Call (.Name (Str.ofString "fixed_functors") p) [] [] pos) F.env) Q :=
  EP_call0 ok G.wok (Nat.le_refl _) (kp_fixed_functors G) (eg_fixed_functors G ok hsc hm ⟨rfl, h⟩)
theorem ec_functor_text (G : Gd W) : EC W (Str.ofString "functor_text") 320 := @EC.of W _ _ G (kp_functor_text G) (@eg_functor_text W G)
theorem ec_instruction_words (G : Gd W) : EC W (Str.ofString "instruction_words") 334 := @EC.of W _ _ G (kp_instruction_words G) (@eg_instruction_words W G)
theorem ec_int (G : Gd W) : EB W (Str.ofString "int") (.type "int") := @EB.ty W _ _ (@eg_int W G)
theorem ec_is_alnum (G : Gd W) : EC W (Str.ofString "is_alnum") 187 := @EC.of W _ _ G (kp_is_alnum G) (@eg_is_alnum W G)
theorem ec_is_alnum_name (G : Gd W) : EC W (Str.ofString "is_alnum_name") 201 := @EC.of W _ _ G (kp_is_alnum_name G) (@eg_is_alnum_name W G)
theorem ec_is_capital (G : Gd W) : EC W (Str.ofString "is_capital") 180 := @EC.of W _ _ G (kp_is_capital G) (@eg_is_capital W G)
theorem ec_is_constant (G : Gd W) : EC W (Str.ofString "is_constant") 236 := @EC.of W _ _ G (kp_is_constant G) (@eg_is_constant W G)
theorem ec_is_digit (G : Gd W) : EC W (Str.ofString "is_digit") 166 := @EC.of W _ _ G (kp_is_digit G) (@eg_is_digit W G)
theorem ec_is_functor (G : Gd W) : EC W (Str.ofString "is_functor") 243 := @EC.of W _ _ G (kp_is_functor G) (@eg_is_functor W G)
theorem ec_is_key (G : Gd W) : EC W (Str.ofString "is_key") 257 := @EC.of W _ _ G (kp_is_key G) (@eg_is_key W G)
theorem ec_is_operand (G : Gd W) : EC W (Str.ofString "is_operand") 271 := @EC.of W _ _ G (kp_is_operand G) (@eg_is_operand W G)
theorem ec_is_pair (G : Gd W) : EC W (Str.ofString "is_pair") 222 := @EC.of W _ _ G (kp_is_pair G) (@eg_is_pair W G)
theorem ec_is_register (G : Gd W) : EC W (Str.ofString "is_register") 229 := @EC.of W _ _ G (kp_is_register G) (@eg_is_register W G)
theorem ec_is_small (G : Gd W) : EC W (Str.ofString "is_small") 173 := @EC.of W _ _ G (kp_is_small G) (@eg_is_small W G)
theorem ec_is_table (G : Gd W) : EC W (Str.ofString "is_table") 264 := @EC.of W _ _ G (kp_is_table G) (@eg_is_table W G)
theorem ec_is_target (G : Gd W) : EC W (Str.ofString "is_target") 250 := @EC.of W _ _ G (kp_is_target G) (@eg_is_target W G)
theorem ec_is_whole (G : Gd W) : EC W (Str.ofString "is_whole") 215 := @EC.of W _ _ G (kp_is_whole G) (@eg_is_whole W G)
theorem ec_isinstance (G : Gd W) : EB W (Str.ofString "isinstance") (.builtin "isinstance") := @EB.bi W _ _ (@eg_isinstance W G)
theorem ec_len (G : Gd W) : EB W (Str.ofString "len") (.builtin "len") := @EB.bi W _ _ (@eg_len W G)
theorem ec_listing (G : Gd W) : EC W (Str.ofString "listing") 342 := @EC.of W _ _ G (kp_listing G) (@eg_listing W G)
theorem ec_number_text (G : Gd W) : EC W (Str.ofString "number_text") 194 := @EC.of W _ _ G (kp_number_text G) (@eg_number_text W G)
theorem ec_ord (G : Gd W) : EB W (Str.ofString "ord") (.builtin "ord") := @EB.bi W _ _ (@eg_ord W G)
theorem ec_quoted_name (G : Gd W) : EC W (Str.ofString "quoted_name") 292 := @EC.of W _ _ G (kp_quoted_name G) (@eg_quoted_name W G)
theorem ec_range (G : Gd W) : EB W (Str.ofString "range") (.type "range") := @EB.ty W _ _ (@eg_range W G)
theorem ec_read_code (G : Gd W) : EC W (Str.ofString "read_code") 299 := @EC.of W _ _ G (kp_read_code G) (@eg_read_code W G)
theorem ec_read_constant (G : Gd W) : EC W (Str.ofString "read_constant") 363 := @EC.of W _ _ G (kp_read_constant G) (@eg_read_constant W G)
theorem ec_read_count (G : Gd W) : EC W (Str.ofString "read_count") 356 := @EC.of W _ _ G (kp_read_count G) (@eg_read_count W G)
theorem ec_read_functor (G : Gd W) : EC W (Str.ofString "read_functor") 370 := @EC.of W _ _ G (kp_read_functor G) (@eg_read_functor W G)
theorem ec_read_instruction (G : Gd W) : EC W (Str.ofString "read_instruction") 398 := @EC.of W _ _ G (kp_read_instruction G) (@eg_read_instruction W G)
theorem ec_read_listing (G : Gd W) : EC W (Str.ofString "read_listing") 405 := @EC.of W _ _ G (kp_read_listing G) (@eg_read_listing W G)
theorem ec_read_operand (G : Gd W) : EC W (Str.ofString "read_operand") 391 := @EC.of W _ _ G (kp_read_operand G) (@eg_read_operand W G)
theorem ec_read_register (G : Gd W) : EC W (Str.ofString "read_register") 377 := @EC.of W _ _ G (kp_read_register G) (@eg_read_register W G)
theorem ec_read_table (G : Gd W) : EC W (Str.ofString "read_table") 384 := @EC.of W _ _ G (kp_read_table G) (@eg_read_table W G)
theorem ec_reversed (G : Gd W) : EB W (Str.ofString "reversed") (.type "reversed") := @EB.ty W _ _ (@eg_reversed W G)
theorem ec_shapes (G : Gd W) {F : Fm} {k₀ : Nat} {sc : Scope} {ρ : Rho} {H : AHeap} {Q : V → AHeap → Prop} {p pos : Pos} (ok : F.Ok W k₀) (hsc : F.sc = sc) (hm : sc.names.lookup (Str.ofString "shapes") = some .globalImplicit)
    (h : CallP W k₀ (.ref 208) [] H Q) : EP W F ρ H (eval (.Call (.Name (Str.ofString "shapes") p) [] [] pos) F.env) Q :=
  EP_call0 ok G.wok (Nat.le_refl _) (kp_shapes G) (eg_shapes G ok hsc hm ⟨rfl, h⟩)
theorem ec_split_row (G : Gd W) : EC W (Str.ofString "split_row") 349 := @EC.of W _ _ G (kp_split_row G) (@eg_split_row W G)
theorem ec_str (G : Gd W) : EB W (Str.ofString "str") (.type "str") := @EB.ty W _ _ (@eg_str W G)
theorem ec_table_words (G : Gd W) : EC W (Str.ofString "table_words") 327 := @EC.of W _ _ G (kp_table_words G) (@eg_table_words W G)
theorem ec_tuple (G : Gd W) : EB W (Str.ofString "tuple") (.type "tuple") := @EB.ty W _ _ (@eg_tuple W G)
theorem ec_unquoted_name (G : Gd W) : EC W (Str.ofString "unquoted_name") 306 := @EC.of W _ _ G (kp_unquoted_name G) (@eg_unquoted_name W G)
end
end Mine
namespace Mine
open PySem PySem.W PyProof.Rows PySem.Calls

theorem op_add_S {W : Wd} {F : Fm} {H : AHeap} {Q : V → AHeap → Prop} {x y : List Nat} (hz : x.length + y.length ≤ 2 ^ 20) (q : Q (.str (S (x ++ y))) H) : OP2 W F (binaryOp .Add) (.str (S x)) (.str (S y)) H Q :=
  op_add_str (by rw [S_len, S_len, sizeLine_eq]; lia) (S_append x y ▸ q)
theorem op_add_E {W : Wd} {F : Fm} {H : AHeap} {Q : V → AHeap → Prop} {u v : Str} {x y : List Nat} (hu : u = S x) (hv : v = S y) (hz : x.length + y.length ≤ 2 ^ 20) (q : Q (.str (S (x ++ y))) H) : OP2 W F (binaryOp .Add) (.str u) (.str v) H Q := hu ▸ hv ▸ op_add_S hz q
theorem Put_last {K X : Type} {k : K} {x y : X} {l : List (K × X)} : Put k x (l ++ [(k, y)]) (l ++ [(k, x)]) := by
  induction l with
  | nil => exact .here
  | cons p l ih => exact .there ih
section
variable {W : Wd} (G : Gd W) {H : AHeap} {Q : V → AHeap → Prop} {k : Nat}
include G
theorem c_is_digit {c : Int} (q : Q (.bool (decide (48 ≤ c) && decide (c ≤ 57))) H) : CallP W (k + 1) (.ref 166) [.int c] H Q := by
  refine en_is_digit G fun F hsc ok => SPc ?_
  refine SP_return (EPbool (EPand (EP_cmp (EP_int (EP_local ok mem0 (op_le_int (ot_bool ?_)))))))
  refine ⟨fun h => ?_, fun h => ?_⟩ <;> (rw [h] at q; (first | refine EPlast (EP_cmp (EP_local ok mem0 (EP_int (op_le_int ?_)))) | skip); first | exact q | (rw [h]; exact q))
theorem c_is_small {c : Int} (q : Q (.bool (decide (97 ≤ c) && decide (c ≤ 122))) H) : CallP W (k + 1) (.ref 173) [.int c] H Q := by
  refine en_is_small G fun F hsc ok => SPc ?_
  refine SP_return (EPbool (EPand (EP_cmp (EP_int (EP_local ok mem0 (op_le_int (ot_bool ?_)))))))
  refine ⟨fun h => ?_, fun h => ?_⟩ <;> (rw [h] at q; (first | refine EPlast (EP_cmp (EP_local ok mem0 (EP_int (op_le_int ?_)))) | skip); first | exact q | (rw [h]; exact q))
theorem c_is_capital {c : Int} (q : Q (.bool (decide (65 ≤ c) && decide (c ≤ 90))) H) : CallP W (k + 1) (.ref 180) [.int c] H Q := by
  refine en_is_capital G fun F hsc ok => SPc ?_
  refine SP_return (EPbool (EPand (EP_cmp (EP_int (EP_local ok mem0 (op_le_int (ot_bool ?_)))))))
  refine ⟨fun h => ?_, fun h => ?_⟩ <;> (rw [h] at q; (first | refine EPlast (EP_cmp (EP_local ok mem0 (EP_int (op_le_int ?_)))) | skip); first | exact q | (rw [h]; exact q))
noncomputable def smallP (c : Int) : Bool := decide (97 ≤ c) && decide (c ≤ 122)
noncomputable def alnumP (c : Int) : Bool := smallP c || ((decide (65 ≤ c) && decide (c ≤ 90)) || ((decide (48 ≤ c) && decide (c ≤ 57)) || c == 95))
theorem c_is_alnum {c : Int} (q : Q (.bool (alnumP c)) H) : CallP W (k + 2) (.ref 187) [.int c] H Q := by
  refine en_is_alnum G fun F hsc ok => SPc ?_
  refine SP_return (EPbool (EPor ?_))
  refine ec_is_small G ok hsc gm_is_alnum_is_small ?_
  refine NP_loc ok mem0 (NP_nil ?_)
  refine c_is_small G ?_
  refine ot_bool ?_
  refine ⟨fun h1 => ?_, fun h1 => ?_⟩
  · refine EPor (ec_is_capital G ok hsc gm_is_alnum_is_capital ?_)
    refine NP_loc ok mem0 (NP_nil ?_)
    refine c_is_capital G ?_
    refine ot_bool ?_
    refine ⟨fun h2 => ?_, fun h2 => ?_⟩
    · refine EPor (ec_is_digit G ok hsc gm_is_alnum_is_digit ?_)
      refine NP_loc ok mem0 (NP_nil ?_)
      refine c_is_digit G ?_
      refine ot_bool ?_
      refine ⟨fun h3 => ?_, fun h3 => ?_⟩
      · refine EPlast (EP_cmp (EP_local ok mem0 (EP_int (op_eq_int ?_))))
        have e : alnumP c = (c == 95) := by simp only [alnumP, smallP, h1, h2, h3, Bool.false_or]
        rw [e] at q; exact q
      · rw [h3]
        have e : alnumP c = true := by simp only [alnumP, smallP, h1, h2, h3, Bool.false_or, Bool.true_or]
        rw [e] at q; exact q
    · rw [h2]
      have e : alnumP c = true := by simp only [alnumP, smallP, h1, h2, Bool.false_or, Bool.true_or]
      rw [e] at q; exact q
  · rw [h1]
    have e : alnumP c = true := by simp only [alnumP, smallP, h1, Bool.true_or]
    rw [e] at q; exact q
end

section
variable {W : Wd} (G : Gd W) {H : AHeap} {Q : V → AHeap → Prop} {k : Nat}
theorem signs_get {x : Str} {i : Nat} {d : V} (h : (signs x)[i]? = some d) : ∃ c, x.cps.toList[i]? = some c ∧ d = .str ⟨#[c]⟩ := by
  unfold signs at h
  rw [List.getElem?_map] at h
  cases e : x.cps.toList[i]? with
  | none => rw [e] at h; cases h
  | some c => rw [e] at h; cases h; exact ⟨c, rfl, rfl⟩
theorem str_nil_iff {x : Str} : (x == Str.ofString "") = true ↔ x.cps.toList = [] := by
  rw [beq_iff_eq]
  constructor
  · rintro rfl; rfl
  · intro h
    obtain ⟨⟨l⟩⟩ := x
    have : l = [] := h
    subst this; rfl
noncomputable def nameL : List Nat → Bool
  | [] => false
  | c :: cs => smallP c && (c :: cs).all fun c => alnumP c
include G
theorem c_is_alnum_name {x : Str} (q : Q (.bool (nameL x.cps.toList)) H) : CallP W (k + 3) (.ref 201) [.str x] H Q := by
  refine en_is_alnum_name G fun F hsc ok => SPc ?_
  refine SP_if (TP_boolop (TP_or_cons (TP_eqLS ok mem0 ?_)))
  refine ⟨fun h0 => ?_, fun h0 => ?_⟩
  · refine ⟨fun _ => ?_, fun h => (nomatch h)⟩
    refine SPc (SP_return (EP_bool ?_))
    rw [str_nil_iff.mp h0] at q; exact q
  · obtain ⟨c, cs, hx⟩ : ∃ c cs, x.cps.toList = c :: cs := by
      cases e : x.cps.toList with
      | nil => rw [str_nil_iff.mpr e] at h0; cases h0
      | cons c cs => exact ⟨c, cs, rfl⟩
    refine TP_or_cons (TP_not (TP_value ?_))
    refine ec_is_small G ok hsc gm_is_alnum_name_is_small ?_
    refine NP_cons ?_
    refine ec_ord G ok hsc gm_is_alnum_name_ord ?_
    refine NP_cons (EP_sub (EP_local ok mem0 (EP_int ?_)))
    refine op_item_str (n := 0) (c := c) (by rw [← Array.getElem?_toList, hx]; rfl) (by lia) ?_
    refine NP_nil ?_
    refine op_ord ?_
    refine NP_nil ?_
    refine CallP.le (c_is_small (k := k + 1) G ?_) (by lia)
    refine ot_bool ?_
    rw [hx] at q
    refine ⟨fun h1 => ?_, fun h1 => ?_⟩
    · rw [Bool.not_eq_true'] at h1
      refine ⟨fun _ => ?_, fun h => (nomatch h)⟩
      refine SPc (SP_return (EP_bool ?_))
      have e : nameL (c :: cs) = false := by
        show (smallP c && _) = false
        rw [show smallP c = false from h1, Bool.false_and]
      rw [e] at q; exact q
    · rw [Bool.not_eq_false'] at h1
      refine TP_or_nil ?_
      refine ⟨fun h => (nomatch h), fun _ => ?_⟩
      refine SP_nil (SPc ?_)
      refine SPfor ok (fun i H' ρ' => H' = H ∧ (∃ o, ρ' = [(Str.ofString "text", some (.str x)), (Str.ofString "char", o)]) ∧ ∀ j < i, ∀ c, x.cps.toList[j]? = some c → alnumP c = true) (signs x) ?_ ?_ ?_
      · refine EP_local ok mem0 ?_
        exact ⟨ItP_str ok.room.handled, rfl, ⟨_, rfl⟩, fun j hj => absurd hj (Nat.not_lt_zero _)⟩
      · rintro i d H₁ ρ₁ hd ⟨rfl, ⟨o, rfl⟩, hall⟩
        obtain ⟨c', hc', rfl⟩ := signs_get hd
        refine StI1 ?_
        refine SP_ifc (TP_not (TP_value ?_))
        refine ec_is_alnum G ok.inn hsc gm_is_alnum_name_is_alnum ?_
        refine NP_cons ?_
        refine ec_ord G ok.inn hsc gm_is_alnum_name_ord ?_
        refine NP_loc ok.inn mem1 (NP_nil ?_)
        refine op_ord ?_
        refine NP_nil ?_
        refine CallP.le (c_is_alnum (k := k) G ?_) (by lia)
        refine ot_bool ?_
        refine ⟨fun h2 => ?_, fun h2 => ?_⟩
        · rw [Bool.not_eq_true'] at h2
          refine SPc (SP_return (EP_bool ?_))
          have e : nameL (c :: cs) = false := by
            show (smallP c && (c :: cs).all fun c => alnumP c) = false
            rw [show ((c :: cs).all fun c => alnumP c) = false from by
              rw [List.all_eq_false]
              exact ⟨c', hx ▸ List.mem_of_getElem? hc', by rw [h2]; decide⟩, Bool.and_false]
          rw [e] at q; exact q
        · rw [Bool.not_eq_false'] at h2
          refine SP_nil (SP_nil ?_)
          refine ⟨rfl, ⟨_, rfl⟩, fun j hj c'' h'' => ?_⟩
          rcases Nat.lt_succ_iff_lt_or_eq.mp hj with hj | rfl
          · exact hall j hj c'' h''
          · rw [hc'] at h''; cases h''; exact h2
      · rintro H₁ ρ₁ ⟨rfl, ⟨o, rfl⟩, hall⟩
        refine SPc (SP_return (EP_bool ?_))
        have e : nameL (c :: cs) = true := by
          show (smallP c && (c :: cs).all fun c => alnumP c) = true
          rw [show smallP c = true from h1, Bool.true_and, List.all_eq_true]
          intro y hy
          obtain ⟨j, hj⟩ := List.mem_iff_getElem?.mp hy
          refine hall j ?_ y (hx ▸ hj)
          have : j < (c :: cs).length := by
            rcases Nat.lt_or_ge j (c :: cs).length with h | h
            · exact h
            · rw [List.getElem?_eq_none h] at hj; cases hj
          simpa [signs, hx] using this
        rw [e] at q; exact q
end

section
variable {W : Wd} (G : Gd W) {H : AHeap} {Q : V → AHeap → Prop} {k : Nat}
include G
theorem c_is_whole {i : Int} (q : Q (.bool true) H) : CallP W (k + 1) (.ref 215) [.int i] H Q := by
  refine en_is_whole G fun F hsc ok => SPc ?_
  refine SP_return (EPbool (EPand ?_))
  refine ec_isinstance G ok hsc gm_is_whole_isinstance ?_
  refine NP_loc ok mem0 (NP_cons ?_)
  refine eg_int G ok hsc gm_is_whole_int ?_
  refine NP_nil ?_
  refine op_isi_int_int ?_
  refine ot_bool ?_
  refine br_t (by decide +kernel) ?_
  refine EPlast (EP_un ?_)
  refine ec_isinstance G ok hsc gm_is_whole_isinstance ?_
  refine NP_loc ok mem0 (NP_cons ?_)
  refine eg_bool G ok hsc gm_is_whole_bool ?_
  refine NP_nil ?_
  refine op_isi_int_bool ?_
  refine op_not (ot_bool ?_)
  exact q
theorem c_is_pair {a b : V} (q : Q (.bool true) H) : CallP W (k + 1) (.ref 222) [.tup [a, b]] H Q := by
  refine en_is_pair G fun F hsc ok => SPc ?_
  refine SP_return (EPbool (EPand ?_))
  refine ec_isinstance G ok hsc gm_is_pair_isinstance ?_
  refine NP_loc ok mem0 (NP_cons ?_)
  refine eg_tuple G ok hsc gm_is_pair_tuple ?_
  refine NP_nil ?_
  refine op_isi_tup_tuple ?_
  refine ot_bool ?_
  refine br_t (by decide +kernel) ?_
  refine EPlast (EP_cmp ?_)
  refine ec_len G ok hsc gm_is_pair_len ?_
  refine NP_loc ok mem0 (NP_nil ?_)
  refine op_len_tup (by simp) ?_
  refine EP_int (op_eq_int ?_)
  exact q
theorem c_is_register {x : Str} {n : Int} {xs : List Str} (hx : xs.any (· == x) = true) (hn : 1 ≤ n) (q : Q (.bool true) H) : CallP W (k + 2) (.ref 229) [.tup [.str x, .int n], .tup (xs.map V.str)] H Q := by
  refine en_is_register G fun F hsc ok => SPc ?_
  refine SP_return (EPbool (EPand ?_))
  refine ec_is_pair G ok hsc gm_is_register_is_pair ?_
  refine NP_loc ok mem0 (NP_nil ?_)
  refine c_is_pair G ?_
  refine ot_bool ?_
  refine br_t (by decide +kernel) ?_
  refine EPand (EP_cmp (EP_sub (EP_local ok mem0 (EP_int ?_))))
  refine op_item_tup (n := 0) rfl (by lia) ?_
  refine EP_local ok mem1 ?_
  refine op_in_strs rfl ?_
  rw [hx]
  refine ot_bool ?_
  refine br_t (by decide +kernel) ?_
  refine EPand ?_
  refine ec_is_whole G ok hsc gm_is_register_is_whole ?_
  refine NP_cons (EP_sub (EP_local ok mem0 (EP_int ?_)))
  refine op_item_tup (n := 1) rfl (by lia) ?_
  refine NP_nil ?_
  refine c_is_whole G ?_
  refine ot_bool ?_
  refine br_t (by decide +kernel) ?_
  refine EPlast (EP_cmp (EP_sub (EP_local ok mem0 (EP_int ?_))))
  refine op_item_tup (n := 1) rfl (by lia) ?_
  refine EP_int (op_ge_int ?_)
  rw [decide_eq_true hn]
  exact q
theorem c_is_constant_int {i : Int} (q : Q (.bool true) H) : CallP W (k + 2) (.ref 236) [.tup [.int 5, .int i]] H Q := by
  refine en_is_constant G fun F hsc ok => SPc ?_
  refine SP_return (EPbool (EPand ?_))
  refine ec_is_pair G ok hsc gm_is_constant_is_pair ?_
  refine NP_loc ok mem0 (NP_nil ?_)
  refine c_is_pair G ?_
  refine ot_bool ?_
  refine br_t (by decide +kernel) ?_
  refine EPand ?_
  refine ec_is_whole G ok hsc gm_is_constant_is_whole ?_
  refine NP_cons (EP_sub (EP_local ok mem0 (EP_int ?_)))
  refine op_item_tup (n := 1) rfl (by lia) ?_
  refine NP_nil ?_
  refine c_is_whole G ?_
  refine ot_bool ?_
  refine br_t (by decide +kernel) ?_
  refine EPlast (EPbool (EPor (EP_cmp (EP_sub (EP_local ok mem0 (EP_int ?_))))))
  refine op_item_tup (n := 0) rfl (by lia) ?_
  refine eg_INT G ok hsc gm_is_constant_INT ?_
  refine op_eq_int (ot_bool ?_)
  refine br_f (by decide +kernel) ?_
  exact q
theorem c_is_constant_con {n : Int} (hn : 0 ≤ n) (q : Q (.bool true) H) : CallP W (k + 2) (.ref 236) [.tup [.int 4, .int n]] H Q := by
  refine en_is_constant G fun F hsc ok => SPc ?_
  refine SP_return (EPbool (EPand ?_))
  refine ec_is_pair G ok hsc gm_is_constant_is_pair ?_
  refine NP_loc ok mem0 (NP_nil ?_)
  refine c_is_pair G ?_
  refine ot_bool ?_
  refine br_t (by decide +kernel) ?_
  refine EPand ?_
  refine ec_is_whole G ok hsc gm_is_constant_is_whole ?_
  refine NP_cons (EP_sub (EP_local ok mem0 (EP_int ?_)))
  refine op_item_tup (n := 1) rfl (by lia) ?_
  refine NP_nil ?_
  refine c_is_whole G ?_
  refine ot_bool ?_
  refine br_t (by decide +kernel) ?_
  refine EPlast (EPbool (EPor (EP_cmp (EP_sub (EP_local ok mem0 (EP_int ?_))))))
  refine op_item_tup (n := 0) rfl (by lia) ?_
  refine eg_INT G ok hsc gm_is_constant_INT ?_
  refine op_eq_int (ot_bool ?_)
  refine br_t (by decide +kernel) ?_
  refine EPlast (EPbool (EPand (EP_cmp (EP_sub (EP_local ok mem0 (EP_int ?_))))))
  refine op_item_tup (n := 0) rfl (by lia) ?_
  refine eg_CON G ok hsc gm_is_constant_CON ?_
  refine op_eq_int (ot_bool ?_)
  refine br_t (by decide +kernel) ?_
  refine EPlast (EP_cmp (EP_sub (EP_local ok mem0 (EP_int ?_))))
  refine op_item_tup (n := 1) rfl (by lia) ?_
  refine EP_int (op_ge_int ?_)
  rw [decide_eq_true hn]
  exact q
theorem c_is_functor {n : Int} (hn : 0 ≤ n) (q : Q (.bool true) H) : CallP W (k + 2) (.ref 243) [.int n] H Q := by
  refine en_is_functor G fun F hsc ok => SPc ?_
  refine SP_return (EPbool (EPand ?_))
  refine ec_is_whole G ok hsc gm_is_functor_is_whole ?_
  refine NP_loc ok mem0 (NP_nil ?_)
  refine c_is_whole G ?_
  refine ot_bool ?_
  refine br_t (by decide +kernel) ?_
  refine EPlast (EP_cmp (EP_local ok mem0 (EP_int (op_ge_int ?_))))
  rw [decide_eq_true hn]
  exact q
theorem c_is_target {n : Int} (hn : 0 ≤ n) (q : Q (.bool true) H) : CallP W (k + 2) (.ref 250) [.int n, .bool true] H Q := by
  refine en_is_target G fun F hsc ok => SPc ?_
  refine SP_if (TP_not (TP_value ?_))
  refine ec_is_whole G ok hsc gm_is_target_is_whole ?_
  refine NP_loc ok mem0 (NP_nil ?_)
  refine c_is_whole G ?_
  refine ot_bool ?_
  refine br_f (by decide +kernel) ?_
  refine SP_nil (SP_ifc (TP_value (EP_local ok mem1 (ot_bool ?_))))
  refine br_t (by decide +kernel) ?_
  refine SPc (SP_return (EP_cmp (EP_local ok mem0 (EP_int (op_ge_int ?_)))))
  rw [decide_eq_true hn]
  exact q
end

inductive Cell where
  | con (n : Nat) | int (i : Int)
  deriving DecidableEq
noncomputable def Cell.key : Cell → List Int
  | .con n => [4, n]
  | .int i => [5, i]
noncomputable def Cell.V (c : Cell) : V := .tup (c.key.map V.int)
theorem Cell.key_inj {a b : Cell} (h : a.key = b.key) : a = b := by
  cases a <;> cases b <;> simp [Cell.key] at h <;> first | (simp [h]; done) | (congr; lia)
inductive Op where
  | reg (y : Bool) (n : Nat) | cell (c : Cell) | num (n : Nat) | tabC (l : List (Cell × Nat)) | tabF (l : List (Nat × Nat))
noncomputable def regS (y : Bool) : Str := if y then Str.ofString "y" else Str.ofString "x"
noncomputable def Op.V : Op → V
  | .reg y n => .tup [.str (regS y), .int n]
  | .cell c => c.V
  | .num n => .int n
  | .tabC l => .tdd (l.map fun p => (p.1.key, (p.2 : Int)))
  | .tabF l => .idd (l.map fun p => ((p.1 : Int), (p.2 : Int)))
inductive Fits : Nat → Op → Prop
  | R {y : Bool} {n : Nat} : 1 ≤ n → Fits 82 (.reg y n)
  | X {n : Nat} : 1 ≤ n → Fits 88 (.reg false n)
  | Y {n : Nat} : 1 ≤ n → Fits 89 (.reg true n)
  | C {c : Cell} : Fits 67 (.cell c)
  | F {n : Nat} : Fits 70 (.num n)
  | N {n : Nat} : Fits 78 (.num n)
  | L {n : Nat} : Fits 76 (.num n)
  | T {l : List (Cell × Nat)} : (l.map (·.1)).Nodup → Fits 84 (.tabC l)
  | U {l : List (Nat × Nat)} : (l.map (·.1)).Nodup → Fits 85 (.tabF l)
theorem dget_nodup {K X : Type} [DecidableEq K] {l : List (K × X)} (hn : (l.map (·.1)).Nodup) : ∀ {i : Nat} {k : K} {x : X}, l[i]? = some (k, x) → dget l k = some x := by
  induction l with
  | nil => intro i k x h; simp at h
  | cons p l ih =>
    obtain ⟨k', x'⟩ := p
    rw [List.map_cons, List.nodup_cons] at hn
    intro i k x h
    cases i with
    | zero => simp at h; obtain ⟨rfl, rfl⟩ := h; simp [dget]
    | succ i =>
      have h' : l[i]? = some (k, x) := by simpa using h
      have hne : k' ≠ k := fun e => hn.1 (e ▸ List.mem_map.mpr ⟨(k, x), List.mem_of_getElem? h', rfl⟩)
      simp only [dget, hne, if_false]
      exact ih hn.2 h'
section
variable {W : Wd} {F : Fm} {H : AHeap} {Q : V → AHeap → Prop}
theorem op_item_tup' {value slice : Expr} {ds : List V} {d : V} {i : Int} (n : Nat) (hi : i = n) (hd : ds[n]? = some d) (hn : n < 1000) (q : Q d H)
    (hs : ∀ t k u, subscripted slice false (.ref t) (.int k u) = operate [.ref t, .int k u] (getItem (.ref t) (.int k u)) := by intro _ _ _; with_unfolding_all rfl) :
    OP2 W F (subscriptTail value slice) (.tup ds) (.int i) H Q := by subst hi; exact op_item_tup hd hn q hs
theorem op_item_str' {value slice : Expr} {x : Str} {c : Nat} {i : Int} (n : Nat) (hi : i = n) (hc : x.cps[n]? = some c) (hn : n < 2 ^ 40) (q : Q (.str ⟨#[c]⟩) H)
    (hs : ∀ x' t k u, subscripted slice false (.str x' t) (.int k u) = operate [.str x' t, .int k u] (getItem (.str x' t) (.int k u)) := by intro _ _ _ _; with_unfolding_all rfl) :
    OP2 W F (subscriptTail value slice) (.str x) (.int i) H Q := by subst hi; exact op_item_str hc hn q hs
theorem op_item_fl' {value slice : Expr} {l : List V} {d : V} {i : Int} (n : Nat) (hi : i = n) (hd : l[n]? = some d) (hn : n < 2 ^ 40) (q : Q d H)
    (hs : ∀ t k u, subscripted slice false (.ref t) (.int k u) = operate [.ref t, .int k u] (getItem (.ref t) (.int k u)) := by intro _ _ _; with_unfolding_all rfl) :
    OP2 W F (subscriptTail value slice) (.fl l) (.int i) H Q := by subst hi; exact op_item_fl hd hn q hs
theorem op_item_list' {value slice : Expr} {a : Addr} {l : List V} {d : V} {i : Int} (n : Nat) (hi : i = n) (hm : (a, O.list l) ∈ H) (hd : l[n]? = some d) (hn : n < 2 ^ 40) (q : Q d H)
    (hs : ∀ t k u, subscripted slice false (.ref t) (.int k u) = operate [.ref t, .int k u] (getItem (.ref t) (.int k u)) := by intro _ _ _; with_unfolding_all rfl) :
    OP2 W F (subscriptTail value slice) (.ref a) (.int i) H Q := by subst hi; exact op_item_list hm hd hn q hs
theorem rangeV_get {n : Int} {i : Nat} {d : V} (h : (rangeV 0 n)[i]? = some d) : d = .int (i : Nat) ∧ (i : Int) < n := by
  unfold rangeV at h
  obtain ⟨hi, e⟩ := List.getElem?_eq_some_iff.mp h
  simp only [List.length_map, List.length_range] at hi
  simp only [List.getElem_map, List.getElem_range, Int.zero_add] at e
  exact ⟨e.symm, by lia⟩
theorem rangeV_len {n : Nat} : (rangeV 0 (n : Int)).length = n := by simp [rangeV]
end
section
variable {W : Wd} (G : Gd W) {H : AHeap} {Q : V → AHeap → Prop} {k : Nat}
include G
theorem c_is_constant {c : Cell} (q : Q (.bool true) H) : CallP W (k + 2) (.ref 236) [c.V] H Q := by
  cases c with
  | con n => exact c_is_constant_con G (by lia) q
  | int i => exact c_is_constant_int G q
theorem c_is_key_C {c : Cell} (q : Q (.bool true) H) : CallP W (k + 3) (.ref 257) [c.V, .str ⟨#[84]⟩] H Q := by
  refine en_is_key G fun F hsc ok => SPc ?_
  refine SP_if (TP_eqLS ok mem1 ?_)
  refine br_t (by decide +kernel) ?_
  refine SPc (SP_return ?_)
  refine ec_is_constant G ok hsc gm_is_key_is_constant ?_
  refine NP_loc ok mem0 (NP_nil ?_)
  refine c_is_constant G ?_
  exact q
theorem c_is_key_F {n : Nat} (q : Q (.bool true) H) : CallP W (k + 3) (.ref 257) [.int n, .str ⟨#[85]⟩] H Q := by
  refine en_is_key G fun F hsc ok => SPc ?_
  refine SP_if (TP_eqLS ok mem1 ?_)
  refine br_f (by decide +kernel) ?_
  refine SP_nil (SPc (SP_return ?_))
  refine ec_is_functor G ok hsc gm_is_key_is_functor ?_
  refine NP_loc ok mem0 (NP_nil ?_)
  refine c_is_functor G (by lia) ?_
  exact q
theorem c_is_table_C {l : List (Cell × Nat)} (hn : (l.map (·.1)).Nodup) (q : Q (.bool true) H) : CallP W (k + 4) (.ref 264) [(Op.tabC l).V, .str ⟨#[84]⟩, .bool true] H Q := by
  refine en_is_table G fun F hsc ok => SPc ?_
  refine SP_if (TP_value (EP_local ok mem2 (ot_bool ?_)))
  refine br_t (by decide +kernel) ?_
  refine SP_ifc (TP_not (TP_value ?_))
  refine ec_isinstance G ok hsc gm_is_table_isinstance ?_
  refine NP_loc ok mem0 (NP_cons ?_)
  refine eg_dict G ok hsc gm_is_table_dict ?_
  refine NP_nil ?_
  refine op_isi_tdd_dict ?_
  refine ot_bool ?_
  refine br_f (by decide +kernel) ?_
  refine SP_nil (SPc ?_)
  refine SPfor ok (fun i H' ρ' => H' = H ∧ ∃ o, ρ' = [(Str.ofString "value", some (Op.tabC l).V), (Str.ofString "kind", some (.str ⟨#[84]⟩)), (Str.ofString "linked", some (.bool true)), (Str.ofString "key", o), (Str.ofString "pair", none)]) ((l.map fun p => (p.1.key, (p.2 : Int))).map fun p => V.tup (p.1.map V.int)) ?_ ?_ ?_
  · refine EP_local ok mem0 ?_
    exact ⟨ItP_tdd ok.room.handled, rfl, _, rfl⟩
  · rintro i d H₁ ρ₁ hd ⟨rfl, o, rfl⟩
    simp only [List.map_map, List.getElem?_map] at hd
    obtain ⟨⟨c, n⟩, hcn, rfl⟩ := Option.map_eq_some_iff.mp hd
    refine StI3 ?_
    refine SP_ifc (TP_boolop (TP_or_cons (TP_not (TP_value ?_))))
    refine ec_is_key G ok.inn hsc gm_is_table_is_key ?_
    refine NP_loc ok.inn mem3 (NP_loc ok.inn mem1 (NP_nil ?_))
    refine c_is_key_C G ?_
    refine ot_bool ?_
    refine br_f (by decide +kernel) ?_
    refine TP_or_cons (TP_not (TP_value ?_))
    refine ec_is_target G ok.inn hsc gm_is_table_is_target ?_
    refine NP_cons (EP_sub (EP_local ok.inn mem0 (EP_local ok.inn mem3 ?_)))
    refine op_item_tdd ok.inn (k := c.key) (x := (n : Int)) rfl (dget_nodup (i := i) ?_ (by rw [List.getElem?_map, hcn]; rfl)) ?_
    · rw [List.map_map]
      show (l.map (Cell.key ∘ (·.1))).Nodup
      rw [← List.map_map]
      exact hn.map _ (fun a b h => fun e => h (Cell.key_inj e))
    refine NP_cons (EP_bool (NP_nil ?_))
    refine CallP.le (c_is_target (k := k) G (by lia) ?_) (by lia)
    refine ot_bool ?_
    refine br_f (by decide +kernel) ?_
    refine TP_or_nil ?_
    refine br_f (by decide +kernel) ?_
    refine SP_nil (SP_nil ?_)
    exact ⟨rfl, _, rfl⟩
  · rintro H₁ ρ₁ ⟨rfl, o, rfl⟩
    refine SPc (SP_return (EP_bool ?_))
    exact q
theorem c_is_table_F {l : List (Nat × Nat)} (hn : (l.map (·.1)).Nodup) (q : Q (.bool true) H) : CallP W (k + 4) (.ref 264) [(Op.tabF l).V, .str ⟨#[85]⟩, .bool true] H Q := by
  refine en_is_table G fun F hsc ok => SPc ?_
  refine SP_if (TP_value (EP_local ok mem2 (ot_bool ?_)))
  refine br_t (by decide +kernel) ?_
  refine SP_ifc (TP_not (TP_value ?_))
  refine ec_isinstance G ok hsc gm_is_table_isinstance ?_
  refine NP_loc ok mem0 (NP_cons ?_)
  refine eg_dict G ok hsc gm_is_table_dict ?_
  refine NP_nil ?_
  refine op_isi_idd_dict ?_
  refine ot_bool ?_
  refine br_f (by decide +kernel) ?_
  refine SP_nil (SPc ?_)
  refine SPfor ok (fun i H' ρ' => H' = H ∧ ∃ o, ρ' = [(Str.ofString "value", some (Op.tabF l).V), (Str.ofString "kind", some (.str ⟨#[85]⟩)), (Str.ofString "linked", some (.bool true)), (Str.ofString "key", o), (Str.ofString "pair", none)]) ((l.map fun p => ((p.1 : Int), (p.2 : Int))).map fun p => V.int p.1) ?_ ?_ ?_
  · refine EP_local ok mem0 ?_
    exact ⟨ItP_idd ok.room.handled, rfl, _, rfl⟩
  · rintro i d H₁ ρ₁ hd ⟨rfl, o, rfl⟩
    simp only [List.map_map, List.getElem?_map] at hd
    obtain ⟨⟨c, n⟩, hcn, rfl⟩ := Option.map_eq_some_iff.mp hd
    refine StI3 ?_
    refine SP_ifc (TP_boolop (TP_or_cons (TP_not (TP_value ?_))))
    refine ec_is_key G ok.inn hsc gm_is_table_is_key ?_
    refine NP_loc ok.inn mem3 (NP_loc ok.inn mem1 (NP_nil ?_))
    refine c_is_key_F G (n := c) ?_
    refine ot_bool ?_
    refine br_f (by decide +kernel) ?_
    refine TP_or_cons (TP_not (TP_value ?_))
    refine ec_is_target G ok.inn hsc gm_is_table_is_target ?_
    refine NP_cons (EP_sub (EP_local ok.inn mem0 (EP_local ok.inn mem3 ?_)))
    refine op_item_idd (k := (c : Int)) (x := (n : Int)) (dget_nodup (i := i) ?_ (by rw [List.getElem?_map, hcn]; rfl)) ?_
    · rw [List.map_map]
      show (l.map ((fun n : Nat => (n : Int)) ∘ (·.1))).Nodup
      rw [← List.map_map]
      exact hn.map _ (fun a b h => fun e => h (Int.ofNat.inj e))
    refine NP_cons (EP_bool (NP_nil ?_))
    refine CallP.le (c_is_target (k := k) G (by lia) ?_) (by lia)
    refine ot_bool ?_
    refine br_f (by decide +kernel) ?_
    refine TP_or_nil ?_
    refine br_f (by decide +kernel) ?_
    refine SP_nil (SP_nil ?_)
    exact ⟨rfl, _, rfl⟩
  · rintro H₁ ρ₁ ⟨rfl, o, rfl⟩
    refine SPc (SP_return (EP_bool ?_))
    exact q
end

noncomputable def RowOk (tbl : List (Str × Str)) (name : Str) (ops : List Op) : Prop := ∃ kinds, dget tbl name = some kinds ∧ kinds.cps.toList.length = ops.length ∧ ∀ (i c : Nat) (o : Op), kinds.cps.toList[i]? = some c → ops[i]? = some o → Fits c o
noncomputable def insV (name : Str) (ops : List Op) : V := .tup (.str name :: ops.map Op.V)
section
variable {W : Wd} (G : Gd W) {H : AHeap} {Q : V → AHeap → Prop} {k : Nat}
include G
theorem c_is_operand {c : Nat} {o : Op} (h : Fits c o) (q : Q (.bool true) H) : CallP W (k + 5) (.ref 271) [o.V, .str ⟨#[c]⟩, .bool true] H Q := by
  refine en_is_operand G fun F hsc ok => ?_
  obtain ⟨ρ, hρ⟩ : ∃ ρ, ρ = [(Str.ofString "value", some o.V), (Str.ofString "kind", some (V.str ⟨#[c]⟩)), (Str.ofString "linked", some (V.bool true))] := ⟨_, rfl⟩
  have mV : (Str.ofString "value", some o.V) ∈ ρ := hρ ▸ .head _
  have mK : (Str.ofString "kind", some (V.str ⟨#[c]⟩)) ∈ ρ := hρ ▸ .tail _ (.head _)
  have mL : (Str.ofString "linked", some (V.bool true)) ∈ ρ := hρ ▸ .tail _ (.tail _ (.head _))
  rw [← hρ]
  clear hρ
  have fin : ∀ n : Nat, o.V = .int n → (c = 70 ∨ c = 78) → SP W F ρ H (execs (bodyOf (defAt 26)) F.env) (bodyQ Q) := fun n e hc =>
    SP_eqF0 ok mK (by rcases hc with rfl | rfl <;> decide +kernel) (SP_eqF0 ok mK (by rcases hc with rfl | rfl <;> decide +kernel) (SP_eqF0 ok mK (by rcases hc with rfl | rfl <;> decide +kernel) (SP_eqF0 ok mK (by rcases hc with rfl | rfl <;> decide +kernel) (SP_or2T ok mK (by rcases hc with rfl | rfl <;> decide +kernel)
      (SPc (SP_return (ec_is_functor G ok hsc gm_is_operand_is_functor (NP_loc ok mV (NP_nil (CallP.le (e ▸ c_is_functor (k := k) G (by lia) q) (by lia)))))))))))
  have tab : (∀ Q : V → AHeap → Prop, Q (.bool true) H → CallP W (k + 4) (.ref 264) [o.V, .str ⟨#[c]⟩, .bool true] H Q) → (c = 84 ∨ c = 85) → SP W F ρ H (execs (bodyOf (defAt 26)) F.env) (bodyQ Q) := fun t hc =>
    SP_eqF0 ok mK (by rcases hc with rfl | rfl <;> decide +kernel) (SP_eqF0 ok mK (by rcases hc with rfl | rfl <;> decide +kernel) (SP_eqF0 ok mK (by rcases hc with rfl | rfl <;> decide +kernel) (SP_eqF0 ok mK (by rcases hc with rfl | rfl <;> decide +kernel) (SP_or2F ok mK (by rcases hc with rfl | rfl <;> decide +kernel)
      (SP_nil (SP_eqF0 ok mK (by rcases hc with rfl | rfl <;> decide +kernel) (SPc (SP_return (ec_is_table G ok hsc gm_is_operand_is_table (NP_loc ok mV (NP_loc ok mK (NP_loc ok mL (NP_nil (CallP.le (t _ q) (by lia)))))))))))))))
  cases h with
  | @R y n hn => exact SP_eqT ok mK (by decide +kernel) (SPc (SP_return (ec_is_register G ok hsc gm_is_operand_is_register (NP_loc ok mV (NP_cons (EP_tuple (NP_cons (EP_str (NP_cons (EP_str (NP_nil ⟨by decide, NP_nil (CallP.le (c_is_register (k := k) (xs := [Str.ofString "x", Str.ofString "y"]) G (by cases y <;> decide +kernel) (by lia) q) (by lia))⟩)))))))))))
  | @X n hn => exact SP_eqF0 ok mK (by decide +kernel) (SP_eqT ok mK (by decide +kernel) (SPc (SP_return (ec_is_register G ok hsc gm_is_operand_is_register (NP_loc ok mV (NP_cons (EP_tuple (NP_cons (EP_str (NP_nil ⟨by decide, NP_nil (CallP.le (c_is_register (k := k) (xs := [Str.ofString "x"]) G (by decide +kernel) (by lia) q) (by lia))⟩))))))))))
  | @Y n hn => exact SP_eqF0 ok mK (by decide +kernel) (SP_eqF0 ok mK (by decide +kernel) (SP_eqT ok mK (by decide +kernel) (SPc (SP_return (ec_is_register G ok hsc gm_is_operand_is_register (NP_loc ok mV (NP_cons (EP_tuple (NP_cons (EP_str (NP_nil ⟨by decide, NP_nil (CallP.le (c_is_register (k := k) (xs := [Str.ofString "y"]) G (by decide +kernel) (by lia) q) (by lia))⟩)))))))))))
  | @C c => exact SP_eqF0 ok mK (by decide +kernel) (SP_eqF0 ok mK (by decide +kernel) (SP_eqF0 ok mK (by decide +kernel) (SP_eqT ok mK (by decide +kernel) (SPc (SP_return (ec_is_constant G ok hsc gm_is_operand_is_constant (NP_loc ok mV (NP_nil (CallP.le (c_is_constant (k := k) G q) (by lia))))))))))
  | @F n => exact fin n rfl (.inl rfl)
  | @N n => exact fin n rfl (.inr rfl)
  | @L n => exact SP_eqF0 ok mK (by decide +kernel) (SP_eqF0 ok mK (by decide +kernel) (SP_eqF0 ok mK (by decide +kernel) (SP_eqF0 ok mK (by decide +kernel) (SP_or2F ok mK (by decide +kernel) (SP_nil (SP_eqT ok mK (by decide +kernel) (SPc (SP_return (ec_is_target G ok hsc gm_is_operand_is_target (NP_loc ok mV (NP_loc ok mL (NP_nil (CallP.le (c_is_target (k := k) G (by lia) q) (by lia))))))))))))))
  | @T l hn => exact tab (fun Q q => c_is_table_C (k := k) G hn q) (.inl rfl)
  | @U l hn => exact tab (fun Q q => c_is_table_F (k := k) G hn q) (.inr rfl)
theorem c_check_row {tbl : List (Str × Str)} {name : Str} {ops : List Op} (h : RowOk tbl name ops) (hl : ops.length ≤ 100) (q : Q .none H) : CallP W (k + 6) (.ref 278) [.sd tbl, insV name ops, .bool true] H Q := by
  obtain ⟨kinds, hk, hlen, hfit⟩ := h
  have hkl : kinds.length = ops.length := by rw [← hlen]; simp [Str.length]
  refine en_check_row G fun F hsc ok => SPc ?_
  refine SP_if (TP_boolop (TP_or_cons (TP_not (TP_value ?_))))
  refine ec_isinstance G ok hsc gm_check_row_isinstance ?_
  refine NP_loc ok mem1 (NP_cons ?_)
  refine eg_tuple G ok hsc gm_check_row_tuple ?_
  refine NP_nil ?_
  refine op_isi_tup_tuple ?_
  refine ot_bool ?_
  refine br_f (by decide +kernel) ?_
  refine TP_or_cons (TP_cmp ?_)
  refine ec_len G ok hsc gm_check_row_len ?_
  refine NP_loc ok mem1 (NP_nil ?_)
  refine op_len_tup (by simp; lia) ?_
  refine EP_int (op_eq_int (ot_bool ?_))
  refine br_f (by simp; lia) ?_
  refine TP_or_cons (TP_not (TP_value ?_))
  refine ec_isinstance G ok hsc gm_check_row_isinstance ?_
  refine NP_cons (EP_sub (EP_local ok mem1 (EP_int ?_)))
  refine op_item_tup (n := 0) rfl (by lia) ?_
  refine NP_cons ?_
  refine eg_str G ok hsc gm_check_row_str ?_
  refine NP_nil ?_
  refine op_isi_str_str ?_
  refine ot_bool ?_
  refine br_f (by decide +kernel) ?_
  refine TP_or_nil ?_
  refine br_f (by decide +kernel) ?_
  refine SP_nil (SPc (SP_assign ok (EP_sub (EP_local ok mem1 (EP_int ?_)))))
  refine op_item_tup (n := 0) rfl (by lia) ?_
  refine StI3 ?_
  refine SP_ifc (TP_cmpL ok mem3 (EP_local ok mem0 ?_))
  refine op_notIn_sd ?_
  rw [hk]
  refine ot_bool ?_
  refine br_f (by simp) ?_
  refine SP_nil (SPc (SP_assign ok (EP_sub (EP_local ok mem0 (EP_local ok mem3 ?_)))))
  refine op_item_sd hk ?_
  refine StI4 ?_
  refine SP_ifc (TP_cmp ?_)
  refine ec_len G ok hsc gm_check_row_len ?_
  refine NP_loc ok mem1 (NP_nil ?_)
  refine op_len_tup (by simp; lia) ?_
  refine EP_bin ?_
  refine ec_len G ok hsc gm_check_row_len ?_
  refine NP_loc ok mem4 (NP_nil ?_)
  refine op_len_str (by rw [hkl]; lia) ?_
  refine EP_int (op_add_int (op_ne_int (ot_bool ?_)))
  refine ⟨fun hh => absurd hh (by simp [hkl]), fun _ => ?_⟩
  refine SP_nil (SPc ?_)
  refine SPfor ok (fun i H' ρ' => H' = H ∧ ∃ o, ρ' = [(Str.ofString "table", some (.sd tbl)), (Str.ofString "ins", some (insV name ops)), (Str.ofString "linked", some (.bool true)), (Str.ofString "name", some (.str name)), (Str.ofString "kinds", some (.str kinds)), (Str.ofString "place", o)]) (rangeV 0 (ops.length : Nat)) ?_ ?_ ?_
  · refine ec_range G ok hsc gm_check_row_range ?_
    refine NP_cons ?_
    refine ec_len G ok hsc gm_check_row_len ?_
    refine NP_loc ok mem4 (NP_nil ?_)
    refine op_len_str (by rw [hkl]; lia) ?_
    refine NP_nil ?_
    refine op_range1 ?_
    rw [hkl]
    exact ⟨ItP_rng1 ok.room.handled (by lia) (by lia) (by lia) (by lia), rfl, _, rfl⟩
  · rintro i d H₁ ρ₁ hd ⟨rfl, o, rfl⟩
    obtain ⟨rfl, hi⟩ := rangeV_get hd
    have hi' : i < ops.length := by lia
    obtain ⟨c, hc⟩ : ∃ c, kinds.cps.toList[i]? = some c := ⟨_, List.getElem?_eq_getElem (by lia)⟩
    obtain ⟨op, hop⟩ : ∃ o, ops[i]? = some o := ⟨_, List.getElem?_eq_getElem hi'⟩
    refine StI5 ?_
    refine SP_ifc (TP_not (TP_value ?_))
    refine ec_is_operand G ok.inn hsc gm_check_row_is_operand ?_
    refine NP_cons (EP_sub (EP_local ok.inn mem1 (EP_bin (EP_local ok.inn mem5 (EP_int (op_add_int ?_))))))
    refine op_item_tup' (i + 1) (by lia) (d := op.V) (by simp [hop]) (by lia) ?_
    refine NP_cons (EP_sub (EP_local ok.inn mem4 (EP_local ok.inn mem5 ?_)))
    refine op_item_str (n := i) (c := c) (by rw [← Array.getElem?_toList]; exact hc) (by lia) ?_
    refine NP_loc ok.inn mem2 (NP_nil ?_)
    refine c_is_operand G (hfit i c op hc hop) ?_
    refine ot_bool ?_
    refine br_f (by decide +kernel) ?_
    refine SP_nil (SP_nil ?_)
    exact ⟨rfl, _, rfl⟩
  · rintro H₁ ρ₁ ⟨rfl, o, rfl⟩
    refine SP_nil ?_
    exact q
end

noncomputable def hexDig (d : Nat) : Nat := if d < 10 then 48 + d else 87 + d
noncomputable def figL : List Nat := [48, 49, 50, 51, 52, 53, 54, 55, 56, 57, 97, 98, 99, 100, 101, 102]
theorem figS : Str.ofString "0123456789abcdef" = S figL := by decide +kernel
theorem figL_get {d : Nat} (h : d < 16) : figL[d]? = some (hexDig d) := by
  have : ∀ d < 16, figL[d]? = some (hexDig d) := by decide
  exact this d h
noncomputable def hexGo (c : Nat) (acc : List Nat) : List Nat := if h : c = 0 then acc else hexGo (c / 16) (hexDig (c % 16) :: acc)
termination_by c
decreasing_by lia
noncomputable def hexL (c : Nat) : List Nat := hexGo (c / 16) [hexDig (c % 16)]
noncomputable def plainSign (c : Nat) : Bool := decide (33 ≤ c) && decide (c ≤ 126) && c != 39 && c != 92
noncomputable def signL (c : Nat) : List Nat := if plainSign c then [c] else [92, 120] ++ (hexL c ++ [92])
noncomputable def quoteL (l : List Nat) : List Nat := if nameL l then l else 39 :: (l.flatMap signL ++ [39])
theorem hexGo_len (c : Nat) : ∀ acc k, c < 16 ^ k → (hexGo c acc).length ≤ acc.length + k := by
  induction c using Nat.strongRecOn with
  | _ c ih =>
    intro acc k hk
    rw [hexGo]
    split
    · lia
    · rename_i h
      cases k with
      | zero => lia
      | succ k =>
        have := ih (c / 16) (by lia) (hexDig (c % 16) :: acc) k (by
          rw [Nat.pow_succ] at hk; lia)
        simp only [List.length_cons] at this
        lia
theorem hexL_len {c : Nat} (h : c < 16 ^ 8) : (hexL c).length ≤ 8 := by
  have := hexGo_len (c / 16) [hexDig (c % 16)] 7 (by
    have : (16 : Nat) ^ 8 = 16 ^ 7 * 16 := by decide
    lia)
  simpa [hexL, Nat.add_comm] using this
theorem signL_len {c : Nat} (h : c < 16 ^ 8) : (signL c).length ≤ 11 := by
  unfold signL
  split
  · simp
  · have := hexL_len h
    simp; lia
section
variable {W : Wd} (G : Gd W) {H : AHeap} {Q : V → AHeap → Prop} {k : Nat}
include G
theorem c_code_digits {c : Nat} (hc : c < 16 ^ 8) (q : Q (.str (S (hexL c))) H) : CallP W (k + 1) (.ref 285) [.int c] H Q := by
  refine en_code_digits G fun F hsc ok => SPc ?_
  refine SP_assign ok (EP_str ?_)
  rw [figS]
  refine StI1 ?_
  refine SPc (SP_assign ok (EP_sub (EP_local ok mem1 (EP_bin (EP_local ok mem0 (EP_int ?_))))))
  refine op_mod_int (by lia) ?_
  have e1 : ((c : Int).fmod 16) = ((c % 16 : Nat) : Int) := by rw [Int.fmod_eq_emod_of_nonneg _ (by lia)]; simp
  have e2 : ((c : Int).fdiv 16) = ((c / 16 : Nat) : Int) := by rw [Int.fdiv_eq_ediv_of_nonneg _ (by lia)]; simp
  rw [e1]
  refine op_item_str (c := hexDig (c % 16)) (by rw [S_get]; exact figL_get (by lia)) (by lia) ?_
  rw [S_one]
  refine StI2 ?_
  refine SPc (SP_assign ok (EP_bin (EP_local ok mem0 (EP_int ?_))))
  refine op_fdiv_int (by lia) (by decide) ?_
  rw [e2]
  refine StI0 ?_
  refine SPc ?_
  refine SPwhile (fun n H' ρ' => H' = H ∧ ∃ acc j, ρ' = [(Str.ofString "code", some (.int (n : Nat))), (Str.ofString "figures", some (.str (S figL))), (Str.ofString "text", some (.str (S acc)))] ∧ hexGo n acc = hexL c ∧ n < 16 ^ j ∧ acc.length + j ≤ 8) (c / 16)
    ⟨rfl, [hexDig (c % 16)], 7, rfl, rfl, by have : (16 : Nat) ^ 8 = 16 ^ 7 * 16 := by decide
                                             lia, by simp⟩ ?_
  rintro n H₁ ρ₁ ⟨rfl, acc, j, rfl, hgo, hj, hacc⟩
  refine TP_cmpL ok.inn mem0 (EP_int (op_gt_int (ot_bool ?_)))
  refine ⟨fun hn => ?_, fun hn => ?_⟩
  · have hn0 : n ≠ 0 := by have := of_decide_eq_true hn; lia
    have e1 : ((n : Int).fmod 16) = ((n % 16 : Nat) : Int) := by rw [Int.fmod_eq_emod_of_nonneg _ (by lia)]; simp
    have e2 : ((n : Int).fdiv 16) = ((n / 16 : Nat) : Int) := by rw [Int.fdiv_eq_ediv_of_nonneg _ (by lia)]; simp
    refine SPc (SP_assign ok.inn (EP_bin (EP_sub (EP_local ok.inn mem1 (EP_bin (EP_local ok.inn mem0 (EP_int ?_)))))))
    refine op_mod_int (by lia) ?_
    rw [e1]
    refine op_item_str (c := hexDig (n % 16)) (by rw [S_get]; exact figL_get (by lia)) (by lia) ?_
    rw [S_one]
    refine EP_local ok.inn mem2 ?_
    refine op_add_str (by rw [S_len, S_len, sizeLine_eq]; simp; lia) ?_
    rw [S_append]
    refine StI2 ?_
    refine SPc (SP_assign ok.inn (EP_bin (EP_local ok.inn mem0 (EP_int ?_))))
    refine op_fdiv_int (by lia) (by decide) ?_
    rw [e2]
    refine StI0 ?_
    refine SP_nil ?_
    cases j with
    | zero => lia
    | succ j =>
      refine ⟨n / 16, by lia, rfl, hexDig (n % 16) :: acc, j, rfl, ?_, ?_, ?_⟩
      · rw [hexGo, dif_neg hn0] at hgo; exact hgo
      · rw [Nat.pow_succ] at hj; lia
      · simp; lia
  · have hn0 : n = 0 := by have := of_decide_eq_false hn; lia
    subst hn0
    refine SPc (SP_return (EP_local ok mem2 ?_))
    rw [hexGo, dif_pos rfl] at hgo
    rw [hgo]; exact q
end

theorem lt_one {a b : Nat} : (([a] : List Nat) < [b]) ↔ a < b := by
  constructor
  · intro h
    cases h with
    | rel h => exact h
    | cons h => cases h
  · intro h; exact .rel h
theorem strLe {a b : Nat} : (!(decide ((S [b]).cps.toList < (S [a]).cps.toList))) = decide (a ≤ b) := by
  rw [S_toList, S_toList]
  by_cases h : a ≤ b
  · have : ¬ b < a := by lia
    simp [lt_one, h, this]
  · have : b < a := by lia
    simp [lt_one, h, this]
theorem bang : Str.ofString "!" = S [33] := by decide +kernel
theorem tilde : Str.ofString "~" = S [126] := by decide +kernel
theorem tick : Str.ofString "'" = S [39] := by decide +kernel
theorem back : Str.ofString "\\" = S [92] := by decide +kernel
theorem backx : Str.ofString "\\x" = S [92, 120] := by decide +kernel
theorem noneS : Str.ofString "" = S [] := by decide +kernel
theorem one_ne {a b : Nat} : (S [a] != S [b]) = (a != b) := by
  show (!(S [a] == S [b])) = (!(a == b))
  rw [S_beq]; simp
theorem TP.mono' {W : Wd} {F : Fm} {ρ : Rho} {H : AHeap} {t : Sem Bool} (Q' : Bool → AHeap → Prop) {Q : Bool → AHeap → Prop} (h : TP W F ρ H t Q') (q : ∀ d H', Q' d H' → Q d H') : TP W F ρ H t Q := h.mono q
noncomputable def partsV (l : List (List Nat)) : List V := (l.map S).map V.str
theorem partsV_snoc (l : List (List Nat)) (x : List Nat) : partsV l ++ [V.str (S x)] = partsV (l ++ [x]) := by simp [partsV]
theorem partsV_len (l : List (List Nat)) : (partsV l).length = l.length := by simp [partsV]
theorem sum_take_le {l : List Nat} (f : Nat → List Nat) {m : Nat} (h : ∀ c ∈ l, (f c).length ≤ m) : ((l.map f).map (·.length)).sum ≤ l.length * m := by
  induction l with
  | nil => simp
  | cons c l ih =>
    have h1 := h c (.head _)
    have h2 := ih fun c hc => h c (.tail _ hc)
    simp only [List.map_cons, List.sum_cons, List.length_cons, Nat.succ_mul]
    lia
noncomputable def Few (l : List Nat) : Prop := l.length ≤ 100 ∧ ∀ c ∈ l, c ≤ 0x10FFFF
theorem quoteL_join {l : List Nat} (h : nameL l = false) : joinL [] ([39] :: l.map signL ++ [[39]]) = quoteL l := by
  rw [joinL_nil]
  simp [quoteL, h, List.flatMap]
theorem quoteL_len {l : List Nat} (h : Few l) : (quoteL l).length ≤ 1200 := by
  unfold quoteL
  split
  · have := h.1; lia
  · have := sum_take_le (l := l) signL (m := 11) fun c hc => signL_len (by have := h.2 c hc; lia)
    have h1 := h.1
    simp only [List.length_cons, List.length_append, List.length_flatMap, List.length_nil]
    rw [List.map_map] at this
    have e : (l.map ((·.length) ∘ signL)).sum = (List.map (fun a => (signL a).length) l).sum := rfl
    rw [e] at this
    lia
section
variable {W : Wd} (G : Gd W) {H : AHeap} {Q : V → AHeap → Prop} {k : Nat}
include G
theorem c_quoted_name {l : List Nat} (hl : Few l) (q : Q (.str (S (quoteL l))) H) : CallP W (k + 4) (.ref 292) [.str (S l)] H Q := by
  refine CallP.drop (en_quoted_name G fun F hsc ok => SPc ?_)
  refine SP_if (TP_value ?_)
  refine ec_is_alnum_name G ok hsc gm_quoted_name_is_alnum_name ?_
  refine NP_loc ok mem0 (NP_nil ?_)
  refine c_is_alnum_name G ?_
  rw [S_toList]
  refine ot_bool ?_
  refine ⟨fun h => ?_, fun h => ?_⟩
  · refine SPc (SP_return (EP_local ok mem0 ?_))
    rw [quoteL, if_pos h] at q; exact ⟨H, .refl _, q⟩
  refine SP_nil (SPc (SP_assign ok ?_))
  refine EP_list ?_
  refine NP_cons (EP_str (NP_nil ?_))
  refine ⟨by simp, fun a => ?_⟩
  rw [tick]
  refine StI1 ?_
  refine SPc ?_
  refine SPfor ok (fun i H' ρ' => H' = (a, O.list (partsV ([39] :: (l.take i).map signL))) :: H ∧ ∃ o, ρ' = [(Str.ofString "text", some (.str (S l))), (Str.ofString "parts", some (.ref a)), (Str.ofString "sign", o)]) (signs (S l)) ?_ ?_ ?_
  · refine EP_local ok mem0 ?_
    exact ⟨ItP_str ok.room.handled, by simp [partsV], _, rfl⟩
  · rintro i d H₁ ρ₁ hd ⟨rfl, o, rfl⟩
    obtain ⟨c, hc, rfl⟩ := signs_get hd
    rw [S_toList] at hc
    have hcm := hl.2 c (List.mem_of_getElem? hc)
    have hi : i < l.length := (List.getElem?_eq_some_iff.mp hc).1
    have ht : [39] :: (l.take (i + 1)).map signL = ([39] :: (l.take i).map signL) ++ [signL c] := by
      rw [List.take_add_one, hc]; simp
    rw [S_one]
    refine StI2 ?_
    refine SPc (SP_if ?_)
    refine TP.mono' (fun b H' => H' = (a, O.list (partsV ([39] :: (l.take i).map signL))) :: H ∧ b = plainSign c) ?_ ?_
    · rw [bang, tilde]
      refine TP_boolop (TP_and_cons (TP_chain (EP_str (EP_local ok.inn mem2 (op_le_str (ot_bool ?_))))))
      rw [strLe]
      refine ⟨fun h1 => ?_, fun h1 => ?_⟩
      · refine ⟨fun h => (nomatch h), fun _ => ?_⟩
        exact ⟨rfl, by simp [plainSign, h1]⟩
      · refine EP_str (op_le_str (ot_bool ?_))
        rw [strLe]
        refine ⟨fun h2 => ?_, fun h2 => ?_⟩
        · refine TP_and_cons (TP_cmpL ok.inn mem2 (EP_str (op_ne_str (ot_bool ?_))))
          (try rw [tick]); rw [one_ne]
          refine ⟨fun h3 => ?_, fun h3 => ?_⟩
          · refine TP_and_cons (TP_cmpL ok.inn mem2 (EP_str (op_ne_str (ot_bool ?_))))
            rw [back, one_ne]
            refine ⟨fun h4 => ?_, fun h4 => ?_⟩
            · refine TP_and_nil ?_
              exact ⟨rfl, by simp only [plainSign, h1, h2, h3, h4, Bool.true_and]⟩
            · exact ⟨rfl, by simp only [plainSign, h1, h2, h3, h4, Bool.true_and]⟩
          · exact ⟨rfl, by simp only [plainSign, h1, h2, h3, Bool.true_and, Bool.false_and]⟩
        · exact ⟨rfl, by simp only [plainSign, h1, h2, Bool.true_and, Bool.false_and]⟩
    · rintro b H' ⟨rfl, rfl⟩
      have hlen : (partsV ([39] :: (l.take i).map signL)).length ≤ 2 ^ 20 := by
        rw [partsV_len]; simp; have := hl.1; lia
      refine ⟨fun h1 => ?_, fun h1 => ?_⟩
      · refine SPc (SP_expr ok.inn ?_)
        refine EP_meth (id := "list.append") ?_
        refine EP_local ok.inn mem1 ?_
        refine ⟨meth_list (.head _) PySem.F.slot_list_append PySem.F.type_list_append, ?_⟩
        refine NP_loc ok.inn mem2 (NP_nil ?_)
        refine op_append (.head _) hlen .here ⟨trivial, ?_⟩
        refine SP_nil (SP_nil ?_)
        refine ⟨?_, _, rfl⟩
        rw [ht, ← partsV_snoc]
        simp [signL, h1]
      · refine SPc (SP_expr ok.inn ?_)
        refine EP_meth (id := "list.append") ?_
        refine EP_local ok.inn mem1 ?_
        refine ⟨meth_list (.head _) PySem.F.slot_list_append PySem.F.type_list_append, ?_⟩
        refine NP_cons (EP_bin (EP_bin (EP_str ?_)))
        refine ec_code_digits G ok.inn hsc gm_quoted_name_code_digits ?_
        refine NP_cons ?_
        refine ec_ord G ok.inn hsc gm_quoted_name_ord ?_
        refine NP_loc ok.inn mem2 (NP_nil ?_)
        refine op_ord ?_
        refine NP_nil ?_
        refine CallP.le (c_code_digits (k := k) G (c := c) (by lia) ?_) (by lia)
        have hh := hexL_len (c := c) (by lia)
        rw [backx, back]
        refine op_add_str (by rw [S_len, S_len, sizeLine_eq]; simp; lia) ?_
        rw [S_append]
        refine EP_str ?_
        refine op_add_str (by rw [S_len, S_len, sizeLine_eq]; simp; lia) ?_
        rw [S_append]
        refine NP_nil ?_
        refine op_append (.head _) hlen .here ⟨trivial, ?_⟩
        refine SP_nil (SP_nil ?_)
        refine ⟨?_, _, rfl⟩
        rw [ht, ← partsV_snoc]
        simp [signL, h1]
  · rintro H₁ ρ₁ ⟨rfl, o, rfl⟩
    have hti : l.take (signs (S l)).length = l := by
      rw [show (signs (S l)).length = l.length from by simp [signs, S]]; simp
    rw [hti]
    have hlen : (partsV ([39] :: l.map signL)).length ≤ 2 ^ 20 := by
      rw [partsV_len]; simp; have := hl.1; lia
    refine SPc (SP_expr ok ?_)
    refine EP_meth (id := "list.append") ?_
    refine EP_local ok mem1 ?_
    refine ⟨meth_list (.head _) PySem.F.slot_list_append PySem.F.type_list_append, ?_⟩
    refine NP_cons (EP_str (NP_nil ?_))
    refine op_append (.head _) hlen .here ⟨trivial, ?_⟩
    refine SPc (SP_return ?_)
    refine EP_meth (id := "str.join") ?_
    refine EP_str ?_
    refine ⟨meth_str PySem.F.slot_str_join PySem.F.type_str_join, ?_⟩
    refine NP_loc ok mem1 (NP_nil ?_)
    (try rw [tick]); rw [noneS, partsV_snoc]
    refine op_join (.head _) (xs := ([39] :: l.map signL ++ [[39]]).map S) rfl (joinOk_S ?_) ?_
    · have := sum_take_le (l := l) signL (m := 11) fun c hc => signL_len (by have := hl.2 c hc; lia)
      have h1 := hl.1
      simp only [List.map_append, List.map_cons, List.sum_append, List.sum_cons, List.length_append, List.length_cons, List.length_nil, List.map_nil, List.sum_nil] at *
      lia
    rw [S_join, quoteL_join h]
    exact ⟨H, List.sublist_cons_self _ _, q⟩
end

theorem dash : Str.ofString "-" = S [45] := by decide +kernel
noncomputable def blocks (m : Nat) : List (List Nat) := if h : m < 10 ^ 18 then [decL m] else padL 18 (m % 10 ^ 18) :: blocks (m / 10 ^ 18)
termination_by m
decreasing_by exact Nat.div_lt_self (by lia) (by decide)
theorem blocks_flat (m : Nat) : (blocks m).reverse.flatten = decL m := by
  induction m using Nat.strongRecOn with
  | _ m ih =>
    rw [blocks]
    split
    · simp
    · rename_i h
      have e : m = m / 10 ^ 18 * 10 ^ 18 + m % 10 ^ 18 := by rw [Nat.mul_comm]; exact (Nat.div_add_mod m (10 ^ 18)).symm
      have hp : 0 < m / 10 ^ 18 := Nat.div_pos (by lia) (by decide)
      have := ih (m / 10 ^ 18) (Nat.div_lt_self (by lia) (by decide))
      rw [List.reverse_cons, List.flatten_append, this]
      conv => rhs; rw [e, decL_split hp 18 _ (Nat.mod_lt _ (by decide))]
      simp
theorem blocks_len (m : Nat) : ∀ k, m < 10 ^ (18 * (k + 1)) → (blocks m).length ≤ k + 1 := by
  induction m using Nat.strongRecOn with
  | _ m ih =>
    intro k hk
    rw [blocks]
    split
    · simp
    · rename_i h
      cases k with
      | zero => exact absurd hk h
      | succ k =>
        have := ih (m / 10 ^ 18) (Nat.div_lt_self (by lia) (by decide)) k (by
          rw [Nat.div_lt_iff_lt_mul (by decide), ← Nat.pow_add]
          exact hk)
        simp; lia
theorem blocks_each (m : Nat) : ∀ b ∈ blocks m, b.length ≤ 18 := by
  induction m using Nat.strongRecOn with
  | _ m ih =>
    rw [blocks]
    split
    · intro b hb
      simp at hb; subst hb
      exact decL_len (by decide) (by assumption)
    · intro b hb
      rcases List.mem_cons.mp hb with rfl | hb
      · rw [padL_len]; exact Nat.le_refl _
      · exact ih (m / 10 ^ 18) (Nat.div_lt_self (by lia) (by decide)) b hb
theorem sum_each {l : List (List Nat)} {m : Nat} (h : ∀ b ∈ l, b.length ≤ m) : (l.map (·.length)).sum ≤ l.length * m := by
  induction l with
  | nil => simp
  | cons b l ih =>
    have h1 := h b (.head _)
    have h2 := ih fun b hb => h b (.tail _ hb)
    simp only [List.map_cons, List.sum_cons, List.length_cons, Nat.succ_mul]
    lia
section
variable {W : Wd} (G : Gd W) {H : AHeap} {Q : V → AHeap → Prop} {k : Nat}
include G
theorem c_number_text {i : Int} (hi : i.natAbs < 10 ^ 90) (q : Q (.str (S (numL i))) H) : CallP W (k + 1) (.ref 194) [.int i] H Q := by
  refine CallP.drop (en_number_text G fun F hsc ok => SPc ?_)
  have e18 : (10 : Int) ^ (18 : Int).toNat = ((10 ^ 18 : Nat) : Int) := by decide
  refine SP_assign ok ?_
  refine ec_abs G ok hsc gm_number_text_abs ?_
  refine NP_loc ok mem0 (NP_nil ?_)
  refine op_abs ?_
  refine StI1 ?_
  refine SPc (SP_assign ok ?_)
  refine EP_list ?_
  refine NP_nil ?_
  refine ⟨by simp, fun a => ?_⟩
  refine StI2 ?_
  refine Thn_next (SPc ?_)
  refine SPwhile (fun n H' ρ' => ∃ pre o, H' = (a, O.list (partsV pre)) :: H ∧ pre ++ blocks n = blocks i.natAbs ∧ ρ' = [(Str.ofString "value", some (.int i)), (Str.ofString "rest", some (.int (n : Nat))), (Str.ofString "pieces", some (.ref a)), (Str.ofString "piece", o)]) i.natAbs
    ⟨[], _, rfl, rfl, rfl⟩ ?_
  have hbl := blocks_len i.natAbs 4 (by simpa using hi)
  rintro n H₁ ρ₁ ⟨pre, o, rfl, hpre, rfl⟩
  have hpl : pre.length + (blocks n).length ≤ 5 := by rw [← List.length_append, hpre]; exact hbl
  have hlen : (partsV pre).length ≤ 2 ^ 20 := by rw [partsV_len]; lia
  refine TP_cmpL ok.inn mem1 (EP_bin (EP_int (EP_int ?_)))
  refine op_pow_int (by lia) (by lia) (by decide) ?_
  rw [e18]
  refine op_ge_int (ot_bool ?_)
  refine ⟨fun hn => ?_, fun hn => ?_⟩
  · have hn' : ¬ n < 10 ^ 18 := by have := of_decide_eq_true hn; lia
    refine SPc (SP_unpack2 ok.inn (by decide +kernel) (by decide +kernel) ?_)
    refine ec_divmod G ok.inn hsc gm_number_text_divmod ?_
    refine NP_loc ok.inn mem1 (NP_cons (EP_bin (EP_int (EP_int ?_))))
    refine op_pow_int (by lia) (by lia) (by decide) ?_
    rw [e18]
    refine NP_nil ?_
    have e1 : ((n : Int).fmod ((10 ^ 18 : Nat) : Int)) = ((n % 10 ^ 18 : Nat) : Int) := by rw [Int.fmod_eq_emod_of_nonneg _ (by lia)]; rfl
    have e2 : ((n : Int).fdiv ((10 ^ 18 : Nat) : Int)) = ((n / 10 ^ 18 : Nat) : Int) := by rw [Int.fdiv_eq_ediv_of_nonneg _ (by lia)]; rfl
    refine op_divmod (by decide) (by decide) ?_
    rw [e1, e2]
    refine ⟨_, _, rfl, ?_⟩
    refine StI1 (StI3 ?_)
    refine SPc (SP_expr ok.inn ?_)
    refine EP_meth (id := "list.append") ?_
    refine EP_local ok.inn mem2 ?_
    refine ⟨meth_list (.head _) PySem.F.slot_list_append PySem.F.type_list_append, ?_⟩
    refine NP_cons ?_
    refine EP_meth (id := "str.zfill") ?_
    refine ec_str G ok.inn hsc gm_number_text_str ?_
    refine NP_loc ok.inn mem3 (NP_nil ?_)
    have hlt : n % 10 ^ 18 < 10 ^ 18 := Nat.mod_lt _ (by decide)
    refine op_str_int (by have : (10 : Nat) ^ 18 < 2 ^ 1000 := by decide
                          show n % 10 ^ 18 < 2 ^ 1000
                          lia) ?_
    refine ⟨meth_str PySem.F.slot_str_zfill PySem.F.type_str_zfill, ?_⟩
    refine NP_cons (EP_int (NP_nil ?_))
    refine op_zfill (by decide +kernel) ?_
    rw [decS, zfill_dec hlt]
    refine NP_nil ?_
    refine op_append (.head _) hlen .here ⟨trivial, ?_⟩
    refine SP_nil ?_
    refine ⟨n / 10 ^ 18, Nat.div_lt_self (by lia) (by decide), pre ++ [padL 18 (n % 10 ^ 18)], _, ?_, ?_, rfl⟩
    · rw [partsV_snoc]
    · rw [← hpre]
      conv => rhs; rw [blocks, dif_neg hn']
      simp
  · have hn' : n < 10 ^ 18 := by have := of_decide_eq_false hn; lia
    have hb : blocks n = [decL n] := by rw [blocks, dif_pos hn']
    rw [hb] at hpre hpl
    refine SPc (SP_expr ok ?_)
    refine EP_meth (id := "list.append") ?_
    refine EP_local ok mem2 ?_
    refine ⟨meth_list (.head _) PySem.F.slot_list_append PySem.F.type_list_append, ?_⟩
    refine NP_cons ?_
    refine ec_str G ok hsc gm_number_text_str ?_
    refine NP_loc ok mem1 (NP_nil ?_)
    refine op_str_int (by have : (10 : Nat) ^ 18 < 2 ^ 1000 := by decide
                          show n < 2 ^ 1000
                          lia) ?_
    rw [decS]
    refine NP_nil ?_
    refine op_append (.head _) hlen .here ⟨trivial, ?_⟩
    rw [partsV_snoc, hpre]
    have hsum := sum_each (blocks_each i.natAbs)
    refine Thn_next (SPc (SP_if ?_))
    refine TP_cmpL ok mem0 (EP_int (op_lt_int (ot_bool ?_)))
    refine ⟨fun h1 => ?_, fun h1 => ?_⟩
    · have h1' : i < 0 := of_decide_eq_true h1
      refine SPc (SP_expr ok ?_)
      refine EP_meth (id := "list.append") ?_
      refine EP_local ok mem2 ?_
      refine ⟨meth_list (.head _) PySem.F.slot_list_append PySem.F.type_list_append, ?_⟩
      refine NP_cons (EP_str (NP_nil ?_))
      refine op_append (.head _) (by rw [partsV_len]; lia) .here ⟨trivial, ?_⟩
      rw [dash, partsV_snoc]
      refine Thn_next (SP_nil (Thn_next (SPc (SP_return ?_))))
      refine EP_join_rev (x := Str.ofString "") ok (fun ρ H Q q => eg_reversed G ok hsc gm_number_text_reversed q) ?_
      refine EP_str ?_
      refine ⟨rfl, ?_⟩
      refine EP_local ok mem2 ?_
      refine ⟨a, (blocks i.natAbs ++ [[45]]).map S, rfl, .head _, by simp; lia, ?_, ?_⟩
      · rw [noneS, ← List.map_reverse]
        refine joinOk_S ?_
        simp only [List.reverse_append, List.map_append, List.map_reverse, List.length_append, List.length_reverse, List.sum_append, List.sum_reverse, List.length_cons, List.length_nil, List.map_cons, List.map_nil, List.reverse_cons, List.reverse_nil, List.nil_append, List.sum_cons, List.sum_nil]
        lia
      · rw [noneS, ← List.map_reverse, S_join, joinL_nil]
        refine ⟨H, List.sublist_cons_self _ _, ?_⟩
        have e : (blocks i.natAbs ++ [[45]]).reverse.flatten = numL i := by
          rw [List.reverse_append, List.flatten_append, blocks_flat]; simp [numL, h1']
        rw [e]; exact q
    · have h1' : ¬ i < 0 := of_decide_eq_false h1
      refine SP_nil (Thn_next (SPc (SP_return ?_)))
      refine EP_join_rev (x := Str.ofString "") ok (fun ρ H Q q => eg_reversed G ok hsc gm_number_text_reversed q) ?_
      refine EP_str ?_
      refine ⟨rfl, ?_⟩
      refine EP_local ok mem2 ?_
      refine ⟨a, (blocks i.natAbs).map S, rfl, .head _, by simp; lia, ?_, ?_⟩
      · rw [noneS, ← List.map_reverse]
        refine joinOk_S ?_
        simp only [List.map_reverse, List.length_reverse, List.sum_reverse, List.length_nil]
        lia
      · rw [noneS, ← List.map_reverse, S_join, joinL_nil]
        refine ⟨H, List.sublist_cons_self _ _, ?_⟩
        have e : (blocks i.natAbs).reverse.flatten = numL i := by
          rw [blocks_flat]; simp [numL, h1']
        rw [e]; exact q
end

structure SymA where
  (x dx t an f fn : Addr)
structure Sym where
  texts : List (List Nat)
  fns : List (Nat × Nat)
noncomputable def idx {α : Type} [DecidableEq α] : List α → α → Option Nat
  | [], _ => none
  | a :: l, x => if a = x then some 0 else (idx l x).map (· + 1)
noncomputable def fieldsV (A : SymA) : List (Str × V) := [(Str.ofString "texts", .ref A.t), (Str.ofString "atom_numbers", .ref A.an), (Str.ofString "functors", .ref A.f), (Str.ofString "functor_numbers", .ref A.fn)]
noncomputable def textsV (l : List (List Nat)) : List V := l.map fun x => V.str (S x)
noncomputable def atomsV : Nat → List (List Nat) → List (Str × V)
  | _, [] => []
  | n, x :: l => (S x, V.int (n : Nat)) :: atomsV (n + 1) l
noncomputable def fnV (p : Nat × Nat) : V := .tup [.int p.1, .int p.2]
noncomputable def fnsV (l : List (Nat × Nat)) : List V := l.map fnV
noncomputable def fkey (p : Nat × Nat) : List Int := [p.1, p.2]
noncomputable def fnumsV : Nat → List (Nat × Nat) → List (List Int × V)
  | _, [] => []
  | n, x :: l => (fkey x, V.int (n : Nat)) :: fnumsV (n + 1) l
noncomputable def symL (A : SymA) (T : Sym) : AHeap := [(A.x, .inst 155 A.dx), (A.dx, .ns (fieldsV A)), (A.t, .list (textsV T.texts)), (A.an, .sdict (atomsV 0 T.texts)), (A.f, .list (fnsV T.fns)), (A.fn, .tdict (fnumsV 0 T.fns))]
noncomputable abbrev sy (pre : AHeap) (A : SymA) (T : Sym) (post : AHeap) : AHeap := pre ++ (symL A T ++ post)
noncomputable def Sym.atom (T : Sym) (x : List Nat) : Nat × Sym := match idx T.texts x with
  | some i => (i, T)
  | none => (T.texts.length, { T with texts := T.texts ++ [x] })
noncomputable def Sym.functor (T : Sym) (p : Nat × Nat) : Nat × Sym := match idx T.fns p with
  | some i => (i, T)
  | none => (T.fns.length, { T with fns := T.fns ++ [p] })
noncomputable def Sym.func (T : Sym) (x : List Nat) (n : Nat) : Nat × Sym := (T.atom x).2.functor ((T.atom x).1, n)
structure Sym.Small (T : Sym) : Prop where
  texts : T.texts.length ≤ 100000
  fns : T.fns.length ≤ 100000
theorem fkey_inj {a b : Nat × Nat} (h : fkey a = fkey b) : a = b := by
  simp [fkey] at h; exact Prod.ext (by lia) (by lia)
theorem dget_atoms (x : List Nat) : ∀ (l : List (List Nat)) (n : Nat), dget (atomsV n l) (S x) = (idx l x).map fun i => V.int ((n + i : Nat) : Int)
  | [], n => rfl
  | y :: l, n => by
    by_cases e : y = x
    · subst e; simp [atomsV, dget, idx]
    · have e' : S y ≠ S x := fun q => e (S_inj q)
      simp only [atomsV, dget, idx, e, e', if_false, dget_atoms x l (n + 1), Option.map_map]
      congr 1; funext i; simp; lia
theorem dget_fnums (x : Nat × Nat) : ∀ (l : List (Nat × Nat)) (n : Nat), dget (fnumsV n l) (fkey x) = (idx l x).map fun i => V.int ((n + i : Nat) : Int)
  | [], n => rfl
  | y :: l, n => by
    by_cases e : y = x
    · subst e; simp [fnumsV, dget, idx]
    · have e' : fkey y ≠ fkey x := fun q => e (fkey_inj q)
      simp only [fnumsV, dget, idx, e, e', if_false, dget_fnums x l (n + 1), Option.map_map]
      congr 1; funext i; simp; lia
theorem dput_new {K X : Type} [DecidableEq K] {l : List (K × X)} {k : K} {d : X} (h : dget l k = none) : dput l k d = l ++ [(k, d)] := by
  have : l.any (fun p => decide (p.1 = k)) = false := by
    induction l with
    | nil => rfl
    | cons p l ih =>
      obtain ⟨k', x⟩ := p
      simp only [dget] at h
      split at h
      · cases h
      · rename_i e; simp [e, ih h]
  unfold dput; rw [this]; rfl
theorem atomsV_snoc (x : List Nat) : ∀ (l : List (List Nat)) (n : Nat), atomsV n l ++ [(S x, V.int ((n + l.length : Nat) : Int))] = atomsV n (l ++ [x])
  | [], n => rfl
  | y :: l, n => by
    have := atomsV_snoc x l (n + 1)
    simp only [List.cons_append, atomsV, List.length_cons]
    rw [← this]
    simp only [Nat.add_assoc, Nat.add_comm 1]
theorem fnumsV_snoc (x : Nat × Nat) : ∀ (l : List (Nat × Nat)) (n : Nat), fnumsV n l ++ [(fkey x, V.int ((n + l.length : Nat) : Int))] = fnumsV n (l ++ [x])
  | [], n => rfl
  | y :: l, n => by
    have := fnumsV_snoc x l (n + 1)
    simp only [List.cons_append, fnumsV, List.length_cons]
    rw [← this]
    simp only [Nat.add_assoc, Nat.add_comm 1]
theorem atomsV_len : ∀ (l : List (List Nat)) (n : Nat), (atomsV n l).length = l.length
  | [], _ => rfl
  | _ :: l, n => by simp [atomsV, atomsV_len l (n + 1)]
theorem fnumsV_len : ∀ (l : List (Nat × Nat)) (n : Nat), (fnumsV n l).length = l.length
  | [], _ => rfl
  | _ :: l, n => by simp [fnumsV, fnumsV_len l (n + 1)]
theorem Put.pre {K X : Type} {k : K} {x : X} {l l' : List (K × X)} (h : Put k x l l') : ∀ pre : List (K × X), Put k x (pre ++ l) (pre ++ l')
  | [] => h
  | _ :: pre => .there (h.pre pre)
theorem Put.post {K X : Type} {k : K} {x : X} {l l' : List (K × X)} (h : Put k x l l') (post : List (K × X)) : Put k x (l ++ post) (l' ++ post) := by
  induction h with
  | here => exact .here
  | there _ ih => exact .there ih
section
variable {A : SymA} {T : Sym} {pre post : AHeap}
theorem sy_mem {p : Addr × O} (h : p ∈ symL A T) : p ∈ sy pre A T post := List.mem_append_right _ (List.mem_append_left _ h)
theorem sy_put {T' : Sym} {a : Addr} {o : O} (h : Put a o (symL A T) (symL A T')) : Put a o (sy pre A T post) (sy pre A T' post) := (h.post post).pre pre
theorem m_x : (A.x, O.inst 155 A.dx) ∈ sy pre A T post := sy_mem (.head _)
theorem m_dx : (A.dx, O.ns (fieldsV A)) ∈ sy pre A T post := sy_mem (.tail _ (.head _))
theorem m_t : (A.t, O.list (textsV T.texts)) ∈ sy pre A T post := sy_mem (.tail _ (.tail _ (.head _)))
theorem m_an : (A.an, O.sdict (atomsV 0 T.texts)) ∈ sy pre A T post := sy_mem (.tail _ (.tail _ (.tail _ (.head _))))
theorem m_f : (A.f, O.list (fnsV T.fns)) ∈ sy pre A T post := sy_mem (.tail _ (.tail _ (.tail _ (.tail _ (.head _)))))
theorem m_fn : (A.fn, O.tdict (fnumsV 0 T.fns)) ∈ sy pre A T post := sy_mem (.tail _ (.tail _ (.tail _ (.tail _ (.tail _ (.head _))))))
end
noncomputable def symL2 (A : SymA) (ts : List (List Nat)) (ns : List (List Nat)) (fs : List (Nat × Nat)) (ms : List (Nat × Nat)) : AHeap := [(A.x, .inst 155 A.dx), (A.dx, .ns (fieldsV A)), (A.t, .list (textsV ts)), (A.an, .sdict (atomsV 0 ns)), (A.f, .list (fnsV fs)), (A.fn, .tdict (fnumsV 0 ms))]
section
variable {W : Wd} (G : Gd W) {Q : V → AHeap → Prop} {k : Nat} {A : SymA} {T : Sym} {pre post : AHeap}
theorem kg_pg (G : Gd W) (n : Str) : plainGet W.K 155 n = true := by rw [G.hK]; kernel_rfl
theorem kg_hd (G : Gd W) : hasDictIn W.K 155 = true := by rw [G.hK]; kernel_rfl
theorem kg_t (G : Gd W) : findIn W.K (.ref 155) (Str.ofString "texts") = some none := by rw [G.hK]; kernel_rfl
theorem kg_an (G : Gd W) : findIn W.K (.ref 155) (Str.ofString "atom_numbers") = some none := by rw [G.hK]; kernel_rfl
theorem kg_f (G : Gd W) : findIn W.K (.ref 155) (Str.ofString "functors") = some none := by rw [G.hK]; kernel_rfl
theorem kg_fn (G : Gd W) : findIn W.K (.ref 155) (Str.ofString "functor_numbers") = some none := by rw [G.hK]; kernel_rfl
theorem EP_self {F : Fm} {k₀ : Nat} {ρ : Rho} {H : AHeap} {n name : Str} {p pos : Pos} {d : V} (G : Gd W) (ok : F.Ok W k₀) (hself : (n, some (.ref A.x)) ∈ ρ) (ha : findIn W.K (.ref 155) name = some none) (h1 : (A.x, O.inst 155 A.dx) ∈ H) (h2 : (A.dx, O.ns (fieldsV A)) ∈ H) (hd : (name, d) ∈ fieldsV A) (hnb : ∀ i, d ≠ .bi i) (q : Q d H)
    (he : eval (.Attribute (.Name n p) name pos) F.env = (do
      let v ← eval (.Name n p) F.env
      standAt pos.atName
      let r ← holding [v] (getAttr v name true)
      letTemporaryGo (.Name n p) v r
      pure r) := by with_unfolding_all rfl) : EP W F ρ H (eval (.Attribute (.Name n p) name pos) F.env) Q :=
  EP_attr G.wok (kg_pg G _) (kg_hd G) ha (EP_local ok hself ⟨rfl, h1, h2, hd, hnb, q⟩) he
include G
theorem c_text {n : Nat} {x : List Nat} (hx : T.texts[n]? = some x) (hs : T.Small) (q : Q (.str (S x)) (sy pre A T post)) : CallP W (k + 1) (.ref 96) [.ref A.x, .int n] (sy pre A T post) Q := by
  refine en_Symbols_text G fun F hsc ok => SPc ?_
  have hn : n < T.texts.length := (List.getElem?_eq_some_iff.mp hx).1
  have := hs.texts
  refine SP_return (EP_sub ?_)
  refine EP_self G ok here_ (kg_t G) m_x m_dx here_ (by intro _ h; cases h) ?_
  refine EP_local ok mem1 ?_
  refine op_item_list m_t (d := .str (S x)) (by simp [textsV, hx]) (by lia) ?_
  exact q
theorem c_count (hs : T.Small) (q : Q (.int (T.texts.length : Nat)) (sy pre A T post)) : CallP W (k + 1) (.ref 138) [.ref A.x] (sy pre A T post) Q := by
  refine en_Symbols_count G fun F hsc ok => SPc ?_
  have := hs.texts
  refine SP_return ?_
  refine ec_len G ok hsc gm_Symbols_count_len ?_
  refine NP_cons ?_
  refine EP_self G ok here_ (kg_t G) m_x m_dx here_ (by intro _ h; cases h) ?_
  refine NP_nil ?_
  refine op_len_list m_t (by simp [textsV]; lia) ?_
  simpa [textsV] using q
theorem c_functor_count (hs : T.Small) (q : Q (.int (T.fns.length : Nat)) (sy pre A T post)) : CallP W (k + 1) (.ref 145) [.ref A.x] (sy pre A T post) Q := by
  refine en_Symbols_functor_count G fun F hsc ok => SPc ?_
  have := hs.fns
  refine SP_return ?_
  refine ec_len G ok hsc gm_Symbols_functor_count_len ?_
  refine NP_cons ?_
  refine EP_self G ok here_ (kg_f G) m_x m_dx (there_ (there_ here_)) (by intro _ h; cases h) ?_
  refine NP_nil ?_
  refine op_len_list m_f (by simp [fnsV]; lia) ?_
  simpa [fnsV] using q
theorem c_name {n : Nat} {p : Nat × Nat} (hx : T.fns[n]? = some p) (hs : T.Small) (q : Q (.int p.1) (sy pre A T post)) : CallP W (k + 1) (.ref 117) [.ref A.x, .int n] (sy pre A T post) Q := by
  refine en_Symbols_name G fun F hsc ok => SPc ?_
  have hn : n < T.fns.length := (List.getElem?_eq_some_iff.mp hx).1
  have := hs.fns
  refine SP_return (EP_sub (EP_sub ?_))
  refine EP_self G ok here_ (kg_f G) m_x m_dx (there_ (there_ here_)) (by intro _ h; cases h) ?_
  refine EP_local ok mem1 ?_
  refine op_item_list m_f (d := fnV p) (by simp [fnsV, hx]) (by lia) ?_
  refine EP_int ?_
  refine op_item_tup (n := 0) rfl (by lia) ?_
  exact q
theorem c_arity {n : Nat} {p : Nat × Nat} (hx : T.fns[n]? = some p) (hs : T.Small) (q : Q (.int p.2) (sy pre A T post)) : CallP W (k + 1) (.ref 124) [.ref A.x, .int n] (sy pre A T post) Q := by
  refine en_Symbols_arity G fun F hsc ok => SPc ?_
  have hn : n < T.fns.length := (List.getElem?_eq_some_iff.mp hx).1
  have := hs.fns
  refine SP_return (EP_sub (EP_sub ?_))
  refine EP_self G ok here_ (kg_f G) m_x m_dx (there_ (there_ here_)) (by intro _ h; cases h) ?_
  refine EP_local ok mem1 ?_
  refine op_item_list m_f (d := fnV p) (by simp [fnsV, hx]) (by lia) ?_
  refine EP_int ?_
  refine op_item_tup (n := 1) rfl (by lia) ?_
  exact q
theorem c_atom {x : List Nat} (hs : T.Small) (q : Q (.int (T.atom x).1) (sy pre A (T.atom x).2 post)) : CallP W (k + 1) (.ref 89) [.ref A.x, .str (S x)] (sy pre A T post) Q := by
  have hst := hs.texts
  refine en_Symbols_atom G fun F hsc ok => SPc ?_
  refine SP_assign ok ?_
  refine EP_meth (id := "dict.get") ?_
  refine EP_self G ok here_ (kg_an G) m_x m_dx (there_ here_) (by intro _ h; cases h) ?_
  refine ⟨meth_sdict m_an PySem.F.slot_dict_get PySem.F.type_dict_get, ?_⟩
  refine NP_loc ok mem1 (NP_cons (EP_un (EP_int ?_)))
  refine op_neg_int ?_
  refine NP_nil ?_
  refine op_get_sdict G.wok m_an ?_
  rw [dget_atoms]
  cases hi : idx T.texts x with
  | some i =>
    have e : T.atom x = (i, T) := by unfold Sym.atom; rw [hi]
    rw [e] at q
    show StoreIn _ _ (.int ((0 + i : Nat) : Int)) _
    rw [Nat.zero_add]
    refine StI2 ?_
    refine SP_ifc (TP_cmpL ok mem2 (EP_int (op_ge_int (ot_bool ?_))))
    refine br_t (by simp) ?_
    refine SPc (SP_return (EP_local ok mem2 ?_))
    exact q
  | none =>
    have e : T.atom x = (T.texts.length, { T with texts := T.texts ++ [x] }) := by unfold Sym.atom; rw [hi]
    rw [e] at q
    show StoreIn _ _ (.int (-1)) _
    refine StI2 ?_
    refine SP_ifc (TP_cmpL ok mem2 (EP_int (op_ge_int (ot_bool ?_))))
    refine br_f (by decide +kernel) ?_
    refine SP_nil (SPc (SP_assign ok ?_))
    refine ec_len G ok hsc gm_Symbols_atom_len ?_
    refine NP_cons ?_
    refine EP_self G ok here_ (kg_t G) m_x m_dx here_ (by intro _ h; cases h) ?_
    refine NP_nil ?_
    refine op_len_list m_t (by simp [textsV]; lia) ?_
    rw [show (textsV T.texts).length = T.texts.length from by simp [textsV]]
    refine StI3 ?_
    refine SPc (SP_expr ok ?_)
    refine EP_meth (id := "list.append") ?_
    refine EP_self G ok here_ (kg_t G) m_x m_dx here_ (by intro _ h; cases h) ?_
    refine ⟨meth_list m_t PySem.F.slot_list_append PySem.F.type_list_append, ?_⟩
    refine NP_loc ok mem1 (NP_nil ?_)
    refine op_append (H' := pre ++ (symL2 A (T.texts ++ [x]) T.texts T.fns T.fns ++ post)) m_t (by simp [textsV]; lia) ?_ ⟨trivial, ?_⟩
    · refine Put.pre (Put.post ?_ post) pre
      have : textsV T.texts ++ [V.str (S x)] = textsV (T.texts ++ [x]) := by simp [textsV]
      rw [this]
      exact .there (.there .here)
    refine Thn_next (SPc (SP_setitem ?_))
    refine EP_local ok mem3 ?_
    refine EP_self G ok here_ (kg_an G) (List.mem_append_right _ (List.mem_append_left _ (.head _))) (List.mem_append_right _ (List.mem_append_left _ (.tail _ (.head _)))) (there_ here_) (by intro _ h; cases h) ?_
    refine EP_local ok mem1 ?_
    refine ops_sdict (H' := sy pre A { T with texts := T.texts ++ [x] } post) (List.mem_append_right _ (List.mem_append_left _ (.tail _ (.tail _ (.tail _ (.head _)))))) (by rw [atomsV_len]; lia) ?_ ?_
    · refine Put.pre (Put.post ?_ post) pre
      rw [dput_new (by rw [dget_atoms, hi]; rfl)]
      have := atomsV_snoc x T.texts 0
      rw [Nat.zero_add] at this
      rw [this]
      exact .there (.there (.there .here))
    refine SPc (SP_return (EP_local ok mem3 ?_))
    exact q
end

section
variable {W : Wd} (G : Gd W) {Q : V → AHeap → Prop} {k : Nat} {A : SymA} {T : Sym} {pre post : AHeap}
theorem fkey_V (p : Nat × Nat) : fnV p = .tup ((fkey p).map V.int) := rfl
theorem om_atom (G : Gd W) : OwnMeth W 155 (Str.ofString "atom") 89 := ⟨kg_pg G _, by rw [G.hK]; kernel_rfl, by rw [G.hK]; kernel_rfl, by rw [G.hK]; kernel_rfl⟩
theorem om_functor (G : Gd W) : OwnMeth W 155 (Str.ofString "functor") 103 := ⟨kg_pg G _, by rw [G.hK]; kernel_rfl, by rw [G.hK]; kernel_rfl, by rw [G.hK]; kernel_rfl⟩
theorem om_func (G : Gd W) : OwnMeth W 155 (Str.ofString "func") 110 := ⟨kg_pg G _, by rw [G.hK]; kernel_rfl, by rw [G.hK]; kernel_rfl, by rw [G.hK]; kernel_rfl⟩
theorem om_text (G : Gd W) : OwnMeth W 155 (Str.ofString "text") 96 := ⟨kg_pg G _, by rw [G.hK]; kernel_rfl, by rw [G.hK]; kernel_rfl, by rw [G.hK]; kernel_rfl⟩
theorem om_count (G : Gd W) : OwnMeth W 155 (Str.ofString "count") 138 := ⟨kg_pg G _, by rw [G.hK]; kernel_rfl, by rw [G.hK]; kernel_rfl, by rw [G.hK]; kernel_rfl⟩
theorem om_functor_count (G : Gd W) : OwnMeth W 155 (Str.ofString "functor_count") 145 := ⟨kg_pg G _, by rw [G.hK]; kernel_rfl, by rw [G.hK]; kernel_rfl, by rw [G.hK]; kernel_rfl⟩
theorem om_name (G : Gd W) : OwnMeth W 155 (Str.ofString "name") 117 := ⟨kg_pg G _, by rw [G.hK]; kernel_rfl, by rw [G.hK]; kernel_rfl, by rw [G.hK]; kernel_rfl⟩
theorem om_arity (G : Gd W) : OwnMeth W 155 (Str.ofString "arity") 124 := ⟨kg_pg G _, by rw [G.hK]; kernel_rfl, by rw [G.hK]; kernel_rfl, by rw [G.hK]; kernel_rfl⟩
theorem isy {A : SymA} {H : AHeap} {n : Str} (h1 : (A.x, O.inst 155 A.dx) ∈ H) (h2 : (A.dx, O.ns (fieldsV A)) ∈ H) (hn : n ∉ ([Str.ofString "texts", Str.ofString "atom_numbers", Str.ofString "functors", Str.ofString "functor_numbers"] : List Str)) : InstOf H A.x 155 n := ⟨A.dx, _, h1, h2, hn⟩
theorem Sym.Small.atom {x : List Nat} (h : T.texts.length < 100000) (hs : T.fns.length ≤ 100000) : (T.atom x).2.Small := by
  unfold Sym.atom
  split
  · exact ⟨Nat.le_of_lt h, hs⟩
  · exact ⟨by simp; lia, hs⟩
include G
theorem c_functor {p : Nat × Nat} (hs : T.Small) (q : Q (.int (T.functor p).1) (sy pre A (T.functor p).2 post)) : CallP W (k + 1) (.ref 103) [.ref A.x, .int p.1, .int p.2] (sy pre A T post) Q := by
  have hst := hs.fns
  refine en_Symbols_functor G fun F hsc ok => SPc ?_
  refine SP_assign ok (EP_tuple (NP_loc ok mem1 (NP_loc ok mem2 (NP_nil ?_))))
  refine ⟨by simp, ?_⟩
  refine StI3 ?_
  refine SPc (SP_assign ok ?_)
  refine EP_meth (id := "dict.get") ?_
  refine EP_self G ok here_ (kg_fn G) m_x m_dx (there_ (there_ (there_ here_))) (by intro _ h; cases h) ?_
  refine ⟨meth_tdict m_fn PySem.F.slot_dict_get PySem.F.type_dict_get, ?_⟩
  refine NP_loc ok mem3 (NP_cons (EP_un (EP_int ?_)))
  refine op_neg_int ?_
  refine NP_nil ?_
  refine op_get_tdict G.wok ok (k := fkey p) rfl m_fn ?_
  rw [dget_fnums]
  cases hi : idx T.fns p with
  | some i =>
    have e : T.functor p = (i, T) := by unfold Sym.functor; rw [hi]
    rw [e] at q
    show StoreIn _ _ (.int ((0 + i : Nat) : Int)) _
    rw [Nat.zero_add]
    refine StI4 ?_
    refine SP_ifc (TP_cmpL ok mem4 (EP_int (op_ge_int (ot_bool ?_))))
    refine br_t (by simp) ?_
    refine SPc (SP_return (EP_local ok mem4 ?_))
    exact q
  | none =>
    have e : T.functor p = (T.fns.length, { T with fns := T.fns ++ [p] }) := by unfold Sym.functor; rw [hi]
    rw [e] at q
    show StoreIn _ _ (.int (-1)) _
    refine StI4 ?_
    refine SP_ifc (TP_cmpL ok mem4 (EP_int (op_ge_int (ot_bool ?_))))
    refine br_f (by decide +kernel) ?_
    refine SP_nil (SPc (SP_assign ok ?_))
    refine ec_len G ok hsc gm_Symbols_functor_len ?_
    refine NP_cons ?_
    refine EP_self G ok here_ (kg_f G) m_x m_dx (there_ (there_ here_)) (by intro _ h; cases h) ?_
    refine NP_nil ?_
    refine op_len_list m_f (by simp [fnsV]; lia) ?_
    rw [show (fnsV T.fns).length = T.fns.length from by simp [fnsV]]
    refine StI5 ?_
    refine SPc (SP_expr ok ?_)
    refine EP_meth (id := "list.append") ?_
    refine EP_self G ok here_ (kg_f G) m_x m_dx (there_ (there_ here_)) (by intro _ h; cases h) ?_
    refine ⟨meth_list m_f PySem.F.slot_list_append PySem.F.type_list_append, ?_⟩
    refine NP_loc ok mem3 (NP_nil ?_)
    refine op_append (H' := pre ++ (symL2 A T.texts T.texts (T.fns ++ [p]) T.fns ++ post)) m_f (by simp [fnsV]; lia) ?_ ⟨trivial, ?_⟩
    · refine Put.pre (Put.post ?_ post) pre
      have : fnsV T.fns ++ [V.tup [V.int (p.1 : Int), V.int (p.2 : Int)]] = fnsV (T.fns ++ [p]) := by simp [fnsV, fnV]
      rw [this]
      exact .there (.there (.there (.there .here)))
    refine Thn_next (SPc (SP_setitem ?_))
    refine EP_local ok mem5 ?_
    refine EP_self G ok here_ (kg_fn G) (List.mem_append_right _ (List.mem_append_left _ (.head _))) (List.mem_append_right _ (List.mem_append_left _ (.tail _ (.head _)))) (there_ (there_ (there_ here_))) (by intro _ h; cases h) ?_
    refine EP_local ok mem3 ?_
    refine ops_tdict ok (k := fkey p) (H' := sy pre A { T with fns := T.fns ++ [p] } post) rfl (List.mem_append_right _ (List.mem_append_left _ (.tail _ (.tail _ (.tail _ (.tail _ (.tail _ (.head _)))))))) (by rw [fnumsV_len]; lia) ?_ ?_
    · refine Put.pre (Put.post ?_ post) pre
      rw [dput_new (by rw [dget_fnums, hi]; rfl)]
      have := fnumsV_snoc p T.fns 0
      rw [Nat.zero_add] at this
      rw [this]
      exact .there (.there (.there (.there (.there .here))))
    refine SPc (SP_return (EP_local ok mem5 ?_))
    exact q
theorem c_func {x : List Nat} {n : Nat} (h1 : T.texts.length < 100000) (h2 : T.fns.length ≤ 100000) (q : Q (.int (T.func x n).1) (sy pre A (T.func x n).2 post)) : CallP W (k + 2) (.ref 110) [.ref A.x, .str (S x), .int n] (sy pre A T post) Q := by
  refine en_Symbols_func G fun F hsc ok => SPc ?_
  refine SP_return ?_
  refine EP_own (x := A.x) (k := k + 1) ok G.wok (Nat.le_refl _) (om_functor G) ?_
  refine EP_local ok mem0 ?_
  refine ⟨rfl, isy m_x m_dx (by decide +kernel), ?_⟩
  refine NP_cons ?_
  refine EP_own (x := A.x) (k := k + 1) ok G.wok (Nat.le_refl _) (om_atom G) ?_
  refine EP_local ok mem0 ?_
  refine ⟨rfl, isy m_x m_dx (by decide +kernel), ?_⟩
  refine NP_loc ok mem1 (NP_nil ?_)
  refine c_atom G ⟨by lia, h2⟩ ?_
  refine NP_loc ok mem2 (NP_nil ?_)
  refine c_functor (p := ((T.atom x).1, n)) G (Sym.Small.atom h1 h2) ?_
  exact q
end

noncomputable def Sym.text (T : Sym) (n : Nat) : List Nat := (T.texts[n]?).getD []
noncomputable def Sym.fn (T : Sym) (n : Nat) : Nat × Nat := (T.fns[n]?).getD (0, 0)
structure Sym.Good (T : Sym) : Prop where
  texts : T.texts.length ≤ 90000
  fns : T.fns.length ≤ 90000
  few : ∀ x ∈ T.texts, Few x
  ok : ∀ p ∈ T.fns, p.1 < T.texts.length ∧ p.2 < 10 ^ 80
theorem Sym.Good.small {T : Sym} (h : T.Good) : T.Small := ⟨by have := h.texts; lia, by have := h.fns; lia⟩
noncomputable def cellL (T : Sym) : Cell → List Nat
  | .con n => quoteL (T.text n)
  | .int i => numL i
noncomputable def fnL (T : Sym) (n : Nat) : List Nat := quoteL (T.text (T.fn n).1) ++ ([47] ++ numL (T.fn n).2)
noncomputable def Cell.In (T : Sym) : Cell → Prop
  | .con n => n < T.texts.length
  | .int i => i.natAbs < 10 ^ 80
theorem Sym.text_get {T : Sym} {n : Nat} (h : n < T.texts.length) : T.texts[n]? = some (T.text n) := by
  unfold Sym.text; rw [List.getElem?_eq_getElem h]; rfl
theorem Sym.fn_get {T : Sym} {n : Nat} (h : n < T.fns.length) : T.fns[n]? = some (T.fn n) := by
  unfold Sym.fn; rw [List.getElem?_eq_getElem h]; rfl
theorem numL_len {i : Int} (h : i.natAbs < 10 ^ 80) : (numL i).length ≤ 81 := by
  have := decL_len (m := i.natAbs) (k := 80) (by decide) h
  unfold numL
  split <;> simp <;> lia
theorem cellL_len {T : Sym} (g : T.Good) {c : Cell} (h : c.In T) : (cellL T c).length ≤ 1200 := by
  cases c with
  | con n => exact quoteL_len (g.few _ (List.mem_of_getElem? (Sym.text_get h)))
  | int i => have := numL_len h; simp only [cellL]; lia
theorem fnL_len {T : Sym} (g : T.Good) {n : Nat} (h : n < T.fns.length) : (fnL T n).length ≤ 1300 := by
  have hp := g.ok _ (List.mem_of_getElem? (Sym.fn_get h))
  have h1 := quoteL_len (g.few _ (List.mem_of_getElem? (Sym.text_get hp.1)))
  have h2 := numL_len (i := ((T.fn n).2 : Int)) (by simpa using hp.2)
  simp [fnL]; lia
theorem slash : Str.ofString "/" = S [47] := by decide +kernel
theorem colon : Str.ofString ":" = S [58] := by decide +kernel
theorem opb : Str.ofString "{" = S [123] := by decide +kernel
theorem clb : Str.ofString "}" = S [125] := by decide +kernel
noncomputable def tabL {α : Type} (f : α → List Nat) (l : List (α × Nat)) : List (List Nat) := [123] :: (l.map fun p => f p.1 ++ ([58] ++ numL p.2)) ++ [[125]]
section
variable {W : Wd} (G : Gd W) {Q : V → AHeap → Prop} {k : Nat} {A : SymA} {T : Sym} {pre post : AHeap}
include G
theorem c_constant_text {c : Cell} (g : T.Good) (hc : c.In T) (q : Q (.str (S (cellL T c))) (sy pre A T post)) : CallP W (k + 5) (.ref 313) [.ref A.x, c.V] (sy pre A T post) Q := by
  refine en_constant_text G fun F hsc ok => SPc ?_
  cases c with
  | int i =>
    refine SP_if (TP_cmp (EP_sub (EP_local ok mem1 (EP_int ?_))))
    refine op_item_tup (n := 0) (d := .int 5) rfl (by lia) ?_
    refine eg_INT G ok hsc gm_constant_text_INT ?_
    refine op_eq_int (ot_bool ?_)
    refine br_t (by decide +kernel) ?_
    refine SPc (SP_return ?_)
    refine ec_number_text G ok hsc gm_constant_text_number_text ?_
    refine NP_cons (EP_sub (EP_local ok mem1 (EP_int ?_)))
    refine op_item_tup (n := 1) (d := .int i) rfl (by lia) ?_
    refine NP_nil ?_
    refine CallP.le (c_number_text (k := k) G (by have : i.natAbs < 10 ^ 80 := hc
                                                  have : (10 : Nat) ^ 80 < 10 ^ 90 := by decide
                                                  lia) ?_) (by lia)
    exact q
  | con n =>
    refine SP_if (TP_cmp (EP_sub (EP_local ok mem1 (EP_int ?_))))
    refine op_item_tup (n := 0) (d := .int 4) rfl (by lia) ?_
    refine eg_INT G ok hsc gm_constant_text_INT ?_
    refine op_eq_int (ot_bool ?_)
    refine br_f (by decide +kernel) ?_
    refine SP_nil (SP_ifc (TP_cmp (EP_sub (EP_local ok mem1 (EP_int ?_)))))
    refine op_item_tup (n := 1) (d := .int (n : Nat)) rfl (by lia) ?_
    refine EP_own0 (x := A.x) (k := k + 1) ok G.wok (by lia) (om_count G) ?_
    refine EP_local ok mem0 ?_
    refine ⟨rfl, isy m_x m_dx (by decide +kernel), ?_⟩
    refine c_count G g.small ?_
    refine op_ge_int (ot_bool ?_)
    have hn : n < T.texts.length := hc
    refine ⟨fun hh => absurd hh (by simp; lia), fun _ => ?_⟩
    refine SP_nil (SPc (SP_return ?_))
    refine ec_quoted_name G ok hsc gm_constant_text_quoted_name ?_
    refine NP_cons ?_
    refine EP_own (x := A.x) (k := k + 1) ok G.wok (by lia) (om_text G) ?_
    refine EP_local ok mem0 ?_
    refine ⟨rfl, isy m_x m_dx (by decide +kernel), ?_⟩
    refine NP_cons (EP_sub (EP_local ok mem1 (EP_int ?_)))
    refine op_item_tup (n := 1) (d := .int (n : Nat)) rfl (by lia) ?_
    refine NP_nil ?_
    refine c_text G (Sym.text_get hn) g.small ?_
    refine NP_nil ?_
    refine c_quoted_name G (g.few _ (List.mem_of_getElem? (Sym.text_get hn))) ?_
    exact q
theorem c_functor_text {n : Nat} (g : T.Good) (hn : n < T.fns.length) (q : Q (.str (S (fnL T n))) (sy pre A T post)) : CallP W (k + 5) (.ref 320) [.ref A.x, .int n] (sy pre A T post) Q := by
  have hp := g.ok _ (List.mem_of_getElem? (Sym.fn_get hn))
  have hf := g.few _ (List.mem_of_getElem? (Sym.text_get hp.1))
  refine en_functor_text G fun F hsc ok => SPc ?_
  refine SP_if (TP_cmpL ok mem1 ?_)
  refine EP_own0 (x := A.x) (k := k + 1) ok G.wok (by lia) (om_functor_count G) ?_
  refine EP_local ok mem0 ?_
  refine ⟨rfl, isy m_x m_dx (by decide +kernel), ?_⟩
  refine c_functor_count G g.small ?_
  refine op_ge_int (ot_bool ?_)
  refine ⟨fun hh => absurd hh (by simp; lia), fun _ => ?_⟩
  refine SP_nil (SPc (SP_return (EP_bin (EP_bin ?_))))
  refine ec_quoted_name G ok hsc gm_functor_text_quoted_name ?_
  refine NP_cons ?_
  refine EP_own (x := A.x) (k := k + 1) ok G.wok (by lia) (om_text G) ?_
  refine EP_local ok mem0 ?_
  refine ⟨rfl, isy m_x m_dx (by decide +kernel), ?_⟩
  refine NP_cons ?_
  refine EP_own (x := A.x) (k := k + 1) ok G.wok (by lia) (om_name G) ?_
  refine EP_local ok mem0 ?_
  refine ⟨rfl, isy m_x m_dx (by decide +kernel), ?_⟩
  refine NP_loc ok mem1 (NP_nil ?_)
  refine c_name G (Sym.fn_get hn) g.small ?_
  refine NP_nil ?_
  refine c_text G (Sym.text_get hp.1) g.small ?_
  refine NP_nil ?_
  refine c_quoted_name G hf ?_
  refine EP_str ?_
  rw [slash]
  have hl := quoteL_len hf
  have h2 := numL_len (i := ((T.fn n).2 : Int)) (by simpa using hp.2)
  refine op_add_str (by rw [S_len, S_len, sizeLine_eq]; simp; lia) ?_
  rw [S_append]
  refine ec_number_text G ok hsc gm_functor_text_number_text ?_
  refine NP_cons ?_
  refine EP_own (x := A.x) (k := k + 1) ok G.wok (by lia) (om_arity G) ?_
  refine EP_local ok mem0 ?_
  refine ⟨rfl, isy m_x m_dx (by decide +kernel), ?_⟩
  refine NP_loc ok mem1 (NP_nil ?_)
  refine c_arity G (Sym.fn_get hn) g.small ?_
  refine NP_nil ?_
  refine CallP.le (c_number_text (k := k) G (by have : (10 : Nat) ^ 80 < 10 ^ 90 := by decide
                                                simp; lia) ?_) (by lia)
  refine op_add_str (by rw [S_len, S_len, sizeLine_eq]; simp; lia) ?_
  rw [S_append]
  have e : quoteL (T.text (T.fn n).1) ++ [47] ++ numL (T.fn n).2 = fnL T n := by simp [fnL]
  rw [e]; exact q
end

structure TabW (W : Wd) {α : Type} (T : Sym) (A : SymA) (post : AHeap) (k : Nat) (kV : α → V) (tV : V) (f : α → List Nat) (l : List (α × Nat)) (kc : Nat) : Prop where
  kind : kc = 84 ∨ kc = 85
  it : ∀ {A : Around} {H : AHeap}, A.handled = none → ItP W A tV H (l.map fun p => kV p.1)
  item : ∀ {F : Fm} {k₀ i : Nat} {H : AHeap} {Q : V → AHeap → Prop} {value : Expr} {p : Pos} {c : α} {n : Nat}, F.Ok W k₀ → l[i]? = some (c, n) → Q (.int (n : Nat)) H → OP2 W F (subscriptTail value (.Name (Str.ofString "key") p)) tV (kV c) H Q
  call : ∀ {pre : AHeap} {Q : V → AHeap → Prop} {c : α} {n : Nat}, (c, n) ∈ l → Q (.str (S (f c))) (sy pre A T post) → CallP W (k + 5) (.ref (if kc = 84 then 313 else 320)) [.ref A.x, kV c] (sy pre A T post) Q
  len : ∀ p ∈ l, (f p.1).length ≤ 1300 ∧ p.2 < 10 ^ 80
noncomputable def rho_tw (A : SymA) (tV : V) (kc : Nat) (a : Addr) (o o2 : Option V) : Rho := [(Str.ofString "symbols", some (.ref A.x)), (Str.ofString "table", some tV), (Str.ofString "kind", some (.str ⟨#[kc]⟩)), (Str.ofString "words", some (.ref a)), (Str.ofString "key", o), (Str.ofString "text", o2)]
section
variable {W : Wd} (G : Gd W) {Q : V → AHeap → Prop} {k : Nat} {A : SymA} {T : Sym} {pre post : AHeap}
include G
theorem tw_turn {F : Fm} {α : Type} {kV : α → V} {tV : V} {f : α → List Nat} {l : List (α × Nat)} {kc : Nat} (t : TabW W T A post k kV tV f l kc) {a : Addr} {o2 : Option V} {ws : List (List Nat)} {c : α} {n i : Nat} {Q : Fl → AHeap → Rho → Prop} (hsc : F.sc = scopeOf (defAt 34)) (ok : F.Ok W (k + 5)) (hi : l[i]? = some (c, n)) (hz : (partsV ws).length ≤ 2 ^ 20)
    (q : ∀ o2, Q .next ((a, .list (partsV (ws ++ [f c ++ ([58] ++ numL n)]))) :: sy pre A T post) (rho_tw A tV kc a (some (kV c)) o2)) :
    SP W F (rho_tw A tV kc a (some (kV c)) o2) ((a, .list (partsV ws)) :: sy pre A T post) (execs (forBody ((bodyOf (defAt 34)).drop 1)) F.env) Q := by
  have hcn := List.mem_of_getElem? hi
  obtain ⟨h1, hn⟩ := t.len _ hcn
  have h2 := numL_len (i := (n : Int)) (by simpa using hn)
  have mS : ∀ {o o2}, (Str.ofString "symbols", some (V.ref A.x)) ∈ rho_tw A tV kc a o o2 := .head _
  have mT : ∀ {o o2}, (Str.ofString "table", some tV) ∈ rho_tw A tV kc a o o2 := .tail _ (.head _)
  have mK : ∀ {o o2}, (Str.ofString "kind", some (V.str ⟨#[kc]⟩)) ∈ rho_tw A tV kc a o o2 := .tail _ (.tail _ (.head _))
  have mW : ∀ {o o2}, (Str.ofString "words", some (V.ref a)) ∈ rho_tw A tV kc a o o2 := .tail _ (.tail _ (.tail _ (.head _)))
  have mY : ∀ {d o2}, (Str.ofString "key", some d) ∈ rho_tw A tV kc a (some d) o2 := .tail _ (.tail _ (.tail _ (.tail _ (.head _))))
  have mX : ∀ {o d}, (Str.ofString "text", some d) ∈ rho_tw A tV kc a o (some d) := .tail _ (.tail _ (.tail _ (.tail _ (.tail _ (.head _)))))
  have pX : ∀ {o d o2}, Put (Str.ofString "text") (some d) (rho_tw A tV kc a o o2) (rho_tw A tV kc a o (some d)) := .there (.there (.there (.there (.there .here))))
  generalize rho_tw A tV kc a = r at *
  have rest : SP W F (r (some (kV c)) (some (.str (S (f c))))) ((a, .list (partsV ws)) :: sy pre A T post) (execs ((forBody ((bodyOf (defAt 34)).drop 1)).drop 1) F.env) Q := by
    refine SP_app ok mW (.head _) (EP_bin (EP_bin (EP_local ok mX (EP_str (op_add_E rfl colon (by simp; lia) (ec_number_text G ok hsc gm_table_words_number_text (NP_cons (EP_sub (EP_local ok mT (EP_local ok mY (t.item ok hi (NP_nil ?_))))))))))))
    refine CallP.le (c_number_text (k := k) G (by have : (10 : Nat) ^ 80 < 10 ^ 90 := by decide
                                                  lia) (op_add_S (by simp; lia) ⟨_, .head _, hz, _, .here, SP_nil ?_⟩)) (by lia)
    exact partsV_snoc _ _ ▸ List.append_assoc (f c) [58] (numL n) ▸ q _
  have call := t.call (pre := (a, O.list (partsV ws)) :: pre) (Q := fun d H₁ => StoreIn (r (some (kV c)) o2) (Str.ofString "text") d fun ρ' => SP W F ρ' H₁ (execs ((forBody ((bodyOf (defAt 34)).drop 1)).drop 1) F.env) Q) hcn ⟨_, pX, rest⟩
  rcases t.kind with rfl | rfl
  · exact SP_eqT ok mK (by decide +kernel) (SPc (SP_assign ok (ec_constant_text G ok hsc gm_table_words_constant_text (NP_loc ok mS (NP_loc ok mY (NP_nil (CallP.mono call fun d H₁ o => ea o fun ρ' u q => ⟨ρ', u, Thn_next (SP_nil q)⟩)))))))
  · exact SP_eqF ok mK (by decide +kernel) (SPc (SP_assign ok (ec_functor_text G ok hsc gm_table_words_functor_text (NP_loc ok mS (NP_loc ok mY (NP_nil (CallP.mono call fun d H₁ o => ea o fun ρ' u q => ⟨ρ', u, Thn_next (SP_nil q)⟩)))))))
theorem c_table_words {α : Type} {kV : α → V} {tV : V} {f : α → List Nat} {l : List (α × Nat)} {kc : Nat} (t : TabW W T A post k kV tV f l kc) (hlen : l.length ≤ 1000) (q : Q (.fl (partsV (tabL f l))) (sy pre A T post)) :
    CallP W (k + 6) (.ref 327) [.ref A.x, tV, .str ⟨#[kc]⟩] (sy pre A T post) Q := by
  have z : ∀ m, (partsV ([123] :: (l.take m).map fun p => f p.1 ++ ([58] ++ numL p.2))).length ≤ 2 ^ 20 := fun m => by
    rw [partsV_len, List.length_cons, List.length_map, List.length_take]; lia
  refine CallP.frozL (en_table_words G fun F hsc ok => SPc (SP_assign ok (EP_list (NP_cons (EP_str (NP_nil ⟨by simp, fun a => ?_⟩))))))
  rw [opb]
  obtain ⟨J, hJ⟩ : ∃ J : Nat → AHeap → Rho → Prop, J = fun i H' ρ' => H' = (a, O.list (partsV ([123] :: (l.take i).map fun p => f p.1 ++ ([58] ++ numL p.2)))) :: sy pre A T post ∧ ∃ o o2, ρ' = rho_tw A tV kc a o o2 := ⟨_, rfl⟩
  refine StI3 (Thn_next (SPc (SPfor ok J (l.map fun p => kV p.1) (EP_local ok (.tail _ (.head _)) ⟨t.it ok.room.handled, hJ ▸ ⟨rfl, _, _, rfl⟩⟩) ?_ ?_)))
  · intro i d H₁ ρ₁ hd hj
    rw [hJ] at hj
    obtain ⟨rfl, o, o2, rfl⟩ := hj
    rw [List.getElem?_map] at hd
    obtain ⟨⟨c, n⟩, hcn, rfl⟩ := Option.map_eq_some_iff.mp hd
    refine ⟨rho_tw A tV kc a (some (kV c)) o2, .there (.there (.there (.there .here))), tw_turn (k := k) G t hsc ok.inn hcn (z i) fun o2 => LpQ_next ?_⟩
    rw [hJ]
    exact ⟨by rw [List.take_add_one, hcn, List.map_append]; rfl, _, _, rfl⟩
  · intro H₁ ρ₁ hj
    rw [hJ, List.length_map, List.take_length] at hj
    obtain ⟨rfl, o, o2, rfl⟩ := hj
    refine Thn_next (SP_app ok (.tail _ (.tail _ (.tail _ (.head _)))) (.head _) (EP_str ⟨_, .head _, List.take_length (l := l) ▸ z l.length, _, .here, ?_⟩))
    rw [clb, partsV_snoc]
    exact SPc (SP_return (EP_local ok (.tail _ (.tail _ (.tail _ (.head _)))) ⟨a, _, _, rfl, rfl, q⟩))
theorem c_table_words_C {l : List (Cell × Nat)} (g : T.Good) (hn : (l.map (·.1)).Nodup) (hlen : l.length ≤ 1000) (hc : ∀ p ∈ l, p.1.In T ∧ p.2 < 10 ^ 80) (q : Q (.fl (partsV (tabL (cellL T) l))) (sy pre A T post)) :
    CallP W (k + 6) (.ref 327) [.ref A.x, (Op.tabC l).V, .str ⟨#[84]⟩] (sy pre A T post) Q := by
  refine c_table_words (k := k) (kV := Cell.V) G ⟨.inl rfl, fun {A H} h => ?_, fun {F k₀ i H Q value p c n} ok hi q => ?_, fun {pre Q c n} h q => c_constant_text G g (hc _ h).1 q, fun p hp => ⟨Nat.le_trans (cellL_len g (hc p hp).1) (by decide), (hc p hp).2⟩⟩ hlen q
  · have := ItP_tdd (W := W) (H := H) (l := l.map fun p => (p.1.key, (p.2 : Int))) h
    rw [List.map_map] at this
    exact this
  · refine op_item_tdd ok (k := c.key) (x := (n : Int)) rfl (dget_nodup (i := i) ?_ (by rw [List.getElem?_map, hi]; rfl)) q
    rw [List.map_map]
    show (l.map (Cell.key ∘ (·.1))).Nodup
    rw [← List.map_map]
    exact hn.map _ (fun a b h => fun e => h (Cell.key_inj e))
theorem c_table_words_F {l : List (Nat × Nat)} (g : T.Good) (hn : (l.map (·.1)).Nodup) (hlen : l.length ≤ 1000) (hc : ∀ p ∈ l, p.1 < T.fns.length ∧ p.2 < 10 ^ 80) (q : Q (.fl (partsV (tabL (fnL T) l))) (sy pre A T post)) :
    CallP W (k + 6) (.ref 327) [.ref A.x, (Op.tabF l).V, .str ⟨#[85]⟩] (sy pre A T post) Q := by
  refine c_table_words (k := k) (kV := fun n : Nat => V.int n) G ⟨.inr rfl, fun {A H} h => ?_, fun {F k₀ i H Q value p c n} ok hi q => ?_, fun {pre Q c n} h q => c_functor_text G g (hc _ h).1 q, fun p hp => ⟨fnL_len g (hc p hp).1, (hc p hp).2⟩⟩ hlen q
  · have := ItP_idd (W := W) (H := H) (l := l.map fun p => ((p.1 : Int), (p.2 : Int))) h
    rw [List.map_map] at this
    exact this
  · refine op_item_idd (k := (c : Int)) (x := (n : Int)) (dget_nodup (i := i) ?_ (by rw [List.getElem?_map, hi]; rfl)) q
    rw [List.map_map]
    show (l.map ((fun n : Nat => (n : Int)) ∘ (·.1))).Nodup
    rw [← List.map_map]
    exact hn.map _ (fun a b h => fun e => h (Int.ofNat.inj e))
end

inductive OpOk (T : Sym) : Nat → Op → Prop
  | R {y : Bool} {n : Nat} : 1 ≤ n → n < 10 ^ 80 → OpOk T 82 (.reg y n)
  | X {n : Nat} : 1 ≤ n → n < 10 ^ 80 → OpOk T 88 (.reg false n)
  | Y {n : Nat} : 1 ≤ n → n < 10 ^ 80 → OpOk T 89 (.reg true n)
  | C {c : Cell} : c.In T → OpOk T 67 (.cell c)
  | F {n : Nat} : n < T.fns.length → OpOk T 70 (.num n)
  | N {n : Nat} : n < 10 ^ 80 → OpOk T 78 (.num n)
  | L {n : Nat} : n < 10 ^ 80 → OpOk T 76 (.num n)
  | T {l : List (Cell × Nat)} : (l.map (·.1)).Nodup → l.length ≤ 1000 → (∀ p ∈ l, p.1.In T ∧ p.2 < 10 ^ 80) → OpOk T 84 (.tabC l)
  | U {l : List (Nat × Nat)} : (l.map (·.1)).Nodup → l.length ≤ 1000 → (∀ p ∈ l, p.1 < T.fns.length ∧ p.2 < 10 ^ 80) → OpOk T 85 (.tabF l)
theorem OpOk.fits {T : Sym} {c : Nat} {o : Op} (h : OpOk T c o) : Fits c o := by
  cases h with
  | R h _ => exact .R h
  | X h _ => exact .X h
  | Y h _ => exact .Y h
  | C _ => exact .C
  | F _ => exact .F
  | N _ => exact .N
  | L _ => exact .L
  | T h _ _ => exact .T h
  | U h _ _ => exact .U h
noncomputable def wordsOp (T : Sym) (c : Nat) : Op → List (List Nat)
  | .reg y n => [(if y then [121] else [120]) ++ numL n]
  | .cell c' => [cellL T c']
  | .num n => if c = 70 then [fnL T n] else [numL n]
  | .tabC l => tabL (cellL T) l
  | .tabF l => tabL (fnL T) l
noncomputable def wordsOps (T : Sym) : List (Nat × Op) → List (List Nat)
  | [] => []
  | p :: l => wordsOp T p.1 p.2 ++ wordsOps T l
theorem wordsOps_snoc (T : Sym) (p : Nat × Op) : ∀ l, wordsOps T (l ++ [p]) = wordsOps T l ++ wordsOp T p.1 p.2
  | [] => by simp [wordsOps]
  | q :: l => by simp [wordsOps, wordsOps_snoc T p l]
theorem regS_S (y : Bool) : regS y = S (if y then [121] else [120]) := by cases y <;> decide +kernel
theorem wordsOp_len {T : Sym} {c : Nat} {o : Op} (h : OpOk T c o) : (wordsOp T c o).length ≤ 1002 := by
  cases h with
  | F _ => simp [wordsOp]
  | N _ => simp [wordsOp]
  | L _ => simp [wordsOp]
  | T _ h _ => simp [wordsOp, tabL]; lia
  | U _ h _ => simp [wordsOp, tabL]; lia
  | _ => simp [wordsOp]
theorem wordsOps_len {T : Sym} : ∀ {l : List (Nat × Op)}, (∀ p ∈ l, OpOk T p.1 p.2) → (wordsOps T l).length ≤ l.length * 1002
  | [], _ => Nat.le_refl _
  | p :: l, h => by
    have h1 := wordsOp_len (h p (.head _))
    have h2 := wordsOps_len fun q hq => h q (.tail _ hq)
    simp only [wordsOps, List.length_append, List.length_cons, Nat.succ_mul]
    lia
structure Ins where
  name : Str
  ops : List (Nat × Op)
noncomputable def Ins.V (i : Ins) : V := insV i.name (i.ops.map (·.2))
noncomputable def kindsS (i : Ins) : Str := S (i.ops.map (·.1))
theorem nt_ok {n : Nat} (h : n < 10 ^ 80) : ((n : Nat) : Int).natAbs < 10 ^ 90 := by
  have : (10 : Nat) ^ 80 < 10 ^ 90 := by decide
  lia
section
variable {W : Wd} (G : Gd W) {Q : V → AHeap → Prop} {k : Nat} {A : SymA} {T : Sym} {pre post : AHeap}
include G
theorem iw_reg {F : Fm} {a : Addr} {ρ : Rho} {c n : Nat} {y : Bool} {ws : List (List Nat)} {H : AHeap} {Q : Fl → AHeap → Rho → Prop} (hsc : F.sc = scopeOf (defAt 35)) (ok : F.Ok W (k + 6)) (hc : c = 82 ∨ c = 88 ∨ c = 89) (hn : n < 10 ^ 80) (hz : (partsV ws).length ≤ 2 ^ 20)
    (mW : (Str.ofString "words", some (.ref a)) ∈ ρ) (mK : (Str.ofString "kind", some (.str (S [c]))) ∈ ρ) (mV : (Str.ofString "value", some (Op.reg y n).V) ∈ ρ)
    (q : Q .next ((a, .list (partsV (ws ++ wordsOp T c (.reg y n)))) :: H) ρ) :
    SP W F ρ ((a, .list (partsV ws)) :: H) (execs ((forBody ((bodyOf (defAt 35)).drop 1)).drop 2) F.env) Q := by
  have h3 := numL_len (i := (n : Int)) (by simpa using hn)
  refine SP_or3T ok mK (by rcases hc with rfl | rfl | rfl <;> decide +kernel) (SP_app ok mW (.head _) (EP_bin (EP_sub (EP_local ok mV (EP_int (op_item_tup (n := 0) (d := .str (S (if y then [121] else [120]))) (by rw [← regS_S]; rfl) (by lia) ?_))))))
  refine ec_number_text G ok hsc gm_instruction_words_number_text (NP_cons (EP_sub (EP_local ok mV (EP_int (op_item_tup (n := 1) (d := .int (n : Nat)) rfl (by lia) (NP_nil ?_))))))
  refine CallP.le (c_number_text (k := k) G (nt_ok hn) (op_add_S (by cases y <;> simp <;> lia) ?_)) (by lia)
  exact ⟨_, .head _, hz, _, .here, SP_nil (SP_nil (partsV_snoc _ _ ▸ q))⟩
theorem iw_tab {F : Fm} {a : Addr} {r : Rho} {o : Option V} {c : Nat} {op : Op} {ws ls : List (List Nat)} {Q : Fl → AHeap → Rho → Prop} (hsc : F.sc = scopeOf (defAt 35)) (ok : F.Ok W (k + 6)) (hz : ws.length ≤ 200000) (hl : ls.length ≤ 1002)
    (mS : (Str.ofString "symbols", some (.ref A.x)) ∈ r) (mW : (Str.ofString "words", some (.ref a)) ∈ r) (mK : (Str.ofString "kind", some (.str (S [c]))) ∈ r) (mV : (Str.ofString "value", some op.V) ∈ r)
    (h : ∀ Q : V → AHeap → Prop, Q (.fl (partsV ls)) (sy ((a, .list (partsV ws)) :: pre) A T post) → CallP W (k + 6) (.ref 327) [.ref A.x, op.V, .str (S [c])] (sy ((a, .list (partsV ws)) :: pre) A T post) Q)
    (q : ∀ o, Q .next ((a, .list (partsV (ws ++ ls))) :: sy pre A T post) (r ++ [(Str.ofString "word", o)])) :
    SP W F (r ++ [(Str.ofString "word", o)]) ((a, .list (partsV ws)) :: sy pre A T post) (execs (orE (orE (orE (orE ((forBody ((bodyOf (defAt 35)).drop 1)).drop 2))))) F.env) Q := by
  obtain ⟨J, hJ⟩ : ∃ J : Nat → AHeap → Rho → Prop, J = fun m H' ρ' => H' = (a, O.list (partsV (ws ++ ls.take m))) :: sy pre A T post ∧ ∃ o, ρ' = r ++ [(Str.ofString "word", o)] := ⟨_, rfl⟩
  refine SPc (SPfor ok J (partsV ls) ?_ ?_ ?_)
  · refine ec_table_words G ok hsc gm_instruction_words_table_words (NP_loc ok (List.mem_append_left _ mS) (NP_loc ok (List.mem_append_left _ mV) (NP_loc ok (List.mem_append_left _ mK) (NP_nil (h _ ⟨ItP_fl ok.room.handled, ?_⟩)))))
    rw [hJ]
    exact ⟨by rw [List.take_zero, List.append_nil]; rfl, _, rfl⟩
  · intro m d H₁ ρ₁ hd hj
    rw [hJ] at hj
    obtain ⟨rfl, o, rfl⟩ := hj
    obtain ⟨x, hx, rfl⟩ : ∃ x, ls[m]? = some x ∧ d = .str (S x) := by
      rw [partsV, List.getElem?_map, List.getElem?_map] at hd
      cases e : ls[m]? with
      | none => rw [e] at hd; cases hd
      | some x => rw [e] at hd; cases hd; exact ⟨x, rfl, rfl⟩
    refine ⟨_, Put_last, SP_app ok.inn (List.mem_append_left _ mW) (.head _) (EP_local ok.inn (List.mem_append_right _ (.head _)) ⟨_, .head _, ?_, _, .here, SP_nil (LpQ_next ?_)⟩)⟩
    · rw [partsV_len, List.length_append, List.length_take]; lia
    · rw [hJ]; exact ⟨by rw [partsV_snoc, List.take_add_one, hx, List.append_assoc]; rfl, _, rfl⟩
  · intro H₁ ρ₁ hj
    rw [hJ, partsV_len, List.take_length] at hj
    obtain ⟨rfl, o, rfl⟩ := hj
    exact Thn_next (SP_nil (q o))
theorem iw_op {F : Fm} {a : Addr} {r : Rho} {o : Option V} {c : Nat} {op : Op} {ws : List (List Nat)} {Q : Fl → AHeap → Rho → Prop} (hsc : F.sc = scopeOf (defAt 35)) (ok : F.Ok W (k + 6)) (g : T.Good) (hpo : OpOk T c op) (hz : ws.length ≤ 200000)
    (mS : (Str.ofString "symbols", some (.ref A.x)) ∈ r) (mW : (Str.ofString "words", some (.ref a)) ∈ r) (mK : (Str.ofString "kind", some (.str (S [c]))) ∈ r) (mV : (Str.ofString "value", some op.V) ∈ r)
    (q : ∀ o, Q .next ((a, .list (partsV (ws ++ wordsOp T c op))) :: sy pre A T post) (r ++ [(Str.ofString "word", o)])) :
    SP W F (r ++ [(Str.ofString "word", o)]) ((a, .list (partsV ws)) :: sy pre A T post) (execs ((forBody ((bodyOf (defAt 35)).drop 1)).drop 2) F.env) Q := by
  have z : (partsV ws).length ≤ 2 ^ 20 := by rw [partsV_len]; lia
  have nS := List.mem_append_left [(Str.ofString "word", o)] mS
  have nW := List.mem_append_left [(Str.ofString "word", o)] mW
  have nK := List.mem_append_left [(Str.ofString "word", o)] mK
  have nV := List.mem_append_left [(Str.ofString "word", o)] mV
  have num : ∀ n, n < 10 ^ 80 → op = .num n → c = 78 ∨ c = 76 → SP W F (r ++ [(Str.ofString "word", o)]) ((a, .list (partsV ws)) :: sy pre A T post) (execs ((forBody ((bodyOf (defAt 35)).drop 1)).drop 2) F.env) Q := by
    rintro n h rfl hc
    refine SP_or3F ok nK (by rcases hc with rfl | rfl <;> decide +kernel) (SP_eqF ok nK (by rcases hc with rfl | rfl <;> decide +kernel) (SP_eqF ok nK (by rcases hc with rfl | rfl <;> decide +kernel) (SP_or2T ok nK (by rcases hc with rfl | rfl <;> decide +kernel) (SP_app ok nW (.head _) ?_))))
    refine ec_number_text G ok hsc gm_instruction_words_number_text (NP_loc ok nV (NP_nil (CallP.le (c_number_text (k := k) G (nt_ok h) ⟨_, .head _, z, _, .here, SP_nil (SP_nil (SP_nil (SP_nil (SP_nil (?_)))))⟩) (by lia))))
    have e : wordsOp T c (.num n) = [numL n] := if_neg (by lia)
    exact partsV_snoc _ _ ▸ e ▸ q o
  cases hpo with
  | R h1 h2 => exact iw_reg (k := k) G hsc ok (.inl rfl) h2 z nW nK nV (q o)
  | X h1 h2 => exact iw_reg (k := k) G hsc ok (.inr (.inl rfl)) h2 z nW nK nV (q o)
  | Y h1 h2 => exact iw_reg (k := k) G hsc ok (.inr (.inr rfl)) h2 z nW nK nV (q o)
  | N h => exact num _ h rfl (.inl rfl)
  | L h => exact num _ h rfl (.inr rfl)
  | C h =>
    refine SP_or3F ok nK (by decide +kernel) (SP_eqT ok nK (by decide +kernel) (SP_app ok nW (.head _) ?_))
    refine ec_constant_text G ok hsc gm_instruction_words_constant_text (NP_loc ok nS (NP_loc ok nV (NP_nil (CallP.le (c_constant_text (k := k) (pre := (a, O.list _) :: pre) G g h ⟨_, .head _, z, _, .here, SP_nil (SP_nil (SP_nil ?_))⟩) (by lia)))))
    exact partsV_snoc _ _ ▸ q o
  | F h =>
    refine SP_or3F ok nK (by decide +kernel) (SP_eqF ok nK (by decide +kernel) (SP_eqT ok nK (by decide +kernel) (SP_app ok nW (.head _) ?_)))
    refine ec_functor_text G ok hsc gm_instruction_words_functor_text (NP_loc ok nS (NP_loc ok nV (NP_nil (CallP.le (c_functor_text (k := k) (pre := (a, O.list _) :: pre) G g h ⟨_, .head _, z, _, .here, SP_nil (SP_nil (SP_nil (SP_nil ?_)))⟩) (by lia)))))
    exact partsV_snoc _ _ ▸ q o
  | @T l h1 h2 h3 =>
    refine SP_or3F ok nK (by decide +kernel) (SP_eqF ok nK (by decide +kernel) (SP_eqF ok nK (by decide +kernel) (SP_or2F ok nK (by decide +kernel) ?_)))
    exact iw_tab (k := k) (op := .tabC l) G hsc ok hz (wordsOp_len (T := T) (OpOk.T h1 h2 h3)) mS mW mK mV (fun Q q => c_table_words_C (k := k) G g h1 h2 h3 q) fun o => SP_nil (SP_nil (SP_nil (SP_nil (q o))))
  | @U l h1 h2 h3 =>
    refine SP_or3F ok nK (by decide +kernel) (SP_eqF ok nK (by decide +kernel) (SP_eqF ok nK (by decide +kernel) (SP_or2F ok nK (by decide +kernel) ?_)))
    exact iw_tab (k := k) (op := .tabF l) G hsc ok hz (wordsOp_len (T := T) (OpOk.U h1 h2 h3)) mS mW mK mV (fun Q q => c_table_words_F (k := k) G g h1 h2 h3 q) fun o => SP_nil (SP_nil (SP_nil (SP_nil (q o))))
theorem c_instruction_words {i : Ins} {nm : List Nat} (hnm : i.name = S nm) (g : T.Good) (hlen : i.ops.length ≤ 100) (hok : ∀ p ∈ i.ops, OpOk T p.1 p.2) (q : Q (.fl (partsV (nm :: wordsOps T i.ops))) (sy pre A T post)) :
    CallP W (k + 7) (.ref 334) [.ref A.x, i.V, .str (kindsS i)] (sy pre A T post) Q := by
  have hkl : (kindsS i).length = i.ops.length := by simp [kindsS, S_len]
  refine CallP.frozL (en_instruction_words G fun F hsc ok => SPc (SP_assign ok (EP_list (NP_cons (EP_sub (EP_local ok (.tail _ (.head _)) (EP_int (op_item_tup (n := 0) (d := .str i.name) rfl (by lia) (NP_nil ⟨by simp, fun a => ?_⟩)))))))))
  rw [hnm]
  refine StI3 ?_
  obtain ⟨r, hr⟩ : ∃ r : Option V → Option V → Option V → Rho, r = fun o o2 o3 => [(Str.ofString "symbols", some (.ref A.x)), (Str.ofString "ins", some i.V), (Str.ofString "kinds", some (.str (kindsS i))), (Str.ofString "words", some (.ref a)), (Str.ofString "place", o), (Str.ofString "kind", o2), (Str.ofString "value", o3)] := ⟨_, rfl⟩
  obtain ⟨J, hJ⟩ : ∃ J : Nat → AHeap → Rho → Prop, J = fun j H' ρ' => H' = (a, O.list (partsV (nm :: wordsOps T (i.ops.take j)))) :: sy pre A T post ∧ ∃ o o2 o3 o4, ρ' = r o o2 o3 ++ [(Str.ofString "word", o4)] := ⟨_, rfl⟩
  refine Thn_next (SPc (SPfor ok J (rangeV 0 (i.ops.length : Nat)) ?_ ?_ ?_))
  · refine ec_range G ok hsc gm_instruction_words_range (NP_cons ?_)
    refine ec_len G ok hsc gm_instruction_words_len (NP_loc ok (.tail _ (.tail _ (.head _))) (NP_nil (op_len_str (by rw [hkl]; lia) (NP_nil (op_range1 ?_)))))
    rw [hkl, hJ, hr]
    exact ⟨ItP_rng1 ok.room.handled (by lia) (by lia) (by lia) (by lia), rfl, _, _, _, _, rfl⟩
  · intro j d H₁ ρ₁ hd hj
    rw [hJ] at hj
    obtain ⟨rfl, o, o2, o3, o4, rfl⟩ := hj
    obtain ⟨rfl, hj⟩ := rangeV_get hd
    have hj' : j < i.ops.length := by lia
    obtain ⟨⟨c, op⟩, hp⟩ : ∃ p, i.ops[j]? = some p := ⟨_, List.getElem?_eq_getElem hj'⟩
    have htake : wordsOps T (i.ops.take (j + 1)) = wordsOps T (i.ops.take j) ++ wordsOp T c op := by
      rw [List.take_add_one, hp]; exact wordsOps_snoc T (c, op) _
    have hwl : (nm :: wordsOps T (i.ops.take j)).length ≤ 200000 := by
      have := wordsOps_len (T := T) (l := i.ops.take j) fun p hp => hok p (List.mem_of_mem_take hp)
      have : (i.ops.take j).length ≤ 100 := by rw [List.length_take]; lia
      simp only [List.length_cons]
      have h3 : (i.ops.take j).length * 1002 ≤ 100 * 1002 := Nat.mul_le_mul_right _ this
      lia
    have fin : ∀ o4, J (j + 1) ((a, .list (partsV (nm :: wordsOps T (i.ops.take j) ++ wordsOp T c op))) :: sy pre A T post) (r (some (.int (j : Nat))) (some (.str (S [c]))) (some op.V) ++ [(Str.ofString "word", o4)]) := fun o4 => by rw [hJ]; exact ⟨by rw [htake]; rfl, _, _, _, _, rfl⟩
    clear hJ
    subst hr
    refine StI4 (SPc (SP_assign ok.inn (EP_sub (EP_local ok.inn (.tail _ (.tail _ (.head _))) (EP_local ok.inn (.tail _ (.tail _ (.tail _ (.tail _ (.head _))))) (op_item_str (n := j) (c := c) (by rw [kindsS, S_get]; simp [hp]) (by lia) (StI5 (Thn_next ?_))))))))
    refine SPc (SP_assign ok.inn (EP_sub (EP_local ok.inn (.tail _ (.head _)) (EP_bin (EP_local ok.inn (.tail _ (.tail _ (.tail _ (.tail _ (.head _))))) (EP_int (op_add_int (op_item_tup' (j + 1) (by lia) (d := op.V) (by simp [hp]) (by lia) (StI6 (Thn_next ?_))))))))))
    exact iw_op (k := k) (r := [_, _, _, _, _, _, _]) G hsc ok.inn g (hok _ (List.mem_of_getElem? hp)) hwl (.head _) (.tail _ (.tail _ (.tail _ (.head _)))) (.tail _ (.tail _ (.tail _ (.tail _ (.tail _ (.head _)))))) (.tail _ (.tail _ (.tail _ (.tail _ (.tail _ (.tail _ (.head _))))))) fun o4 => LpQ_next (fin o4)
  · intro H₁ ρ₁ hj
    rw [hJ, hr, rangeV_len, List.take_length] at hj
    obtain ⟨rfl, o, o2, o3, o4, rfl⟩ := hj
    exact Thn_next (SPc (SP_return (EP_local ok (.tail _ (.tail _ (.tail _ (.head _)))) (Thn_ret ⟨a, _, _, rfl, rfl, q⟩))))
end

noncomputable def dictOf? : List Stmt → Option (List (Option Expr) × List Expr)
  | [.Return (some (.Dict ks vs _)) _] => some (ks, vs)
  | _ => none
noncomputable def shapesL : List (Str × Str) := match dictOf? (bodyOf (defAt 17)) with
  | some (ks, vs) => pairsS ks vs
  | none => []
theorem shapes_body : ∃ ks vs p p', bodyOf (defAt 17) = [.Return (some (.Dict ks vs p)) p'] ∧ AllStr ks vs ∧ pairsS ks vs = shapesL ∧ ((pairsS ks vs).map (·.1)).Nodup ∧ ks.length ≤ 1000 ∧ ks ≠ [] :=
  ⟨_, _, _, _, rfl, ⟨by kernel_rfl, by kernel_rfl⟩, by kernel_rfl, by decide +kernel, by decide +kernel, by simp⟩
section
variable {W : Wd} (G : Gd W) {H : AHeap} {Q : V → AHeap → Prop} {k : Nat}
include G
theorem c_shapes (q : Q (.sd shapesL) H) : CallP W (k + 1) (.ref 208) [] H Q := by
  refine en_shapes G ?_
  intro F hsc ok
  obtain ⟨ks, vs, p, p', hb, h1, h2, h3, h4, h5⟩ := shapes_body
  rw [hb]
  refine SPc (SP_return (EP_dict_strs G.wok h1 h3 h4 h5 ?_))
  rw [h2]
  exact q
end

noncomputable def Ins.nm (i : Ins) : List Nat := i.name.cps.toList
noncomputable def Ins.words (T : Sym) (i : Ins) : List (List Nat) := i.nm :: wordsOps T i.ops
structure Ins.Good (T : Sym) (i : Ins) : Prop where
  shape : dget shapesL i.name = some (kindsS i)
  few : i.ops.length ≤ 100
  ok : ∀ p ∈ i.ops, OpOk T p.1 p.2
  sum : ((i.words T).map (·.length)).sum + (i.words T).length ≤ 2 ^ 18
theorem Ins.name_S (i : Ins) : i.name = S i.nm := (S_eta _).symm
theorem Ins.Good.row {T : Sym} {i : Ins} (h : i.Good T) : RowOk shapesL i.name (i.ops.map (·.2)) := by
  refine ⟨_, h.shape, by simp [kindsS, S_toList], fun j c o hc ho => ?_⟩
  rw [kindsS, S_toList, List.getElem?_map] at hc
  rw [List.getElem?_map] at ho
  cases hp : i.ops[j]? with
  | none => rw [hp] at hc; cases hc
  | some p =>
    rw [hp] at hc ho
    cases hc; cases ho
    exact (h.ok p (List.mem_of_getElem? hp)).fits
theorem space : Str.ofString " " = S [32] := by decide +kernel
noncomputable def rowL (T : Sym) (b : Nat) (i : Ins) : List Nat := numL b ++ ([32] ++ joinL [32] (i.words T))
noncomputable def rowsL (T : Sym) : Nat → List Ins → List (List Nat)
  | _, [] => []
  | b, i :: l => rowL T b i :: rowsL T (b + 1) l
theorem rowsL_len (T : Sym) : ∀ (l : List Ins) b, (rowsL T b l).length = l.length
  | [], _ => rfl
  | _ :: l, b => by simp [rowsL, rowsL_len T l (b + 1)]
theorem rowsL_snoc (T : Sym) (i : Ins) : ∀ (l : List Ins) b, rowsL T b (l ++ [i]) = rowsL T b l ++ [rowL T (b + l.length) i]
  | [], b => rfl
  | j :: l, b => by
    have := rowsL_snoc T i l (b + 1)
    simp only [List.cons_append, rowsL, this, List.length_cons]
    rw [Nat.add_assoc, Nat.add_comm 1]
theorem joinL_len (sep : List Nat) : ∀ xs : List (List Nat), (joinL sep xs).length ≤ (xs.map (·.length)).sum + xs.length * sep.length
  | [] => Nat.zero_le _
  | [x] => by simp [joinL]
  | x :: y :: r => by
    have := joinL_len sep (y :: r)
    simp only [joinL, List.length_append, List.map_cons, List.sum_cons, List.length_cons, Nat.succ_mul] at *
    lia
section
variable {W : Wd} (G : Gd W) {Q : V → AHeap → Prop} {k : Nat} {A : SymA} {T : Sym} {pre post : AHeap}
include G
theorem c_listing {is : List Ins} {b : Nat} (g : T.Good) (hb : b < 10 ^ 60) (hlen : is.length ≤ 1000) (hok : ∀ i ∈ is, i.Good T) (q : Q (.fl (partsV (rowsL T b is))) (sy pre A T post)) :
    CallP W (k + 8) (.ref 342) [.ref A.x, .fl (is.map Ins.V), .int b] (sy pre A T post) Q := by
  refine CallP.frozL (en_listing G fun F hsc ok => SPc ?_)
  refine SP_assign ok ?_
  refine ec_shapes G ok hsc gm_listing_shapes ?_
  refine CallP.le (c_shapes (k := k) G ?_) (by lia)
  refine StI3 ?_
  refine SPc (SP_assign ok ?_)
  refine EP_list ?_
  refine NP_nil ?_
  refine ⟨by simp, fun a => ?_⟩
  refine StI4 ?_
  refine Thn_next (SPc ?_)
  refine SPfor ok (fun j H' ρ' => H' = (a, O.list (partsV (rowsL T b (is.take j)))) :: sy pre A T post ∧ ∃ o o2, ρ' = [(Str.ofString "symbols", some (.ref A.x)), (Str.ofString "instrs", some (.fl (is.map Ins.V))), (Str.ofString "base", some (.int (b : Nat))), (Str.ofString "table", some (.sd shapesL)), (Str.ofString "rows", some (.ref a)), (Str.ofString "place", o), (Str.ofString "ins", o2)]) (rangeV 0 (is.length : Nat)) ?_ ?_ ?_
  · refine ec_range G ok hsc gm_listing_range ?_
    refine NP_cons ?_
    refine ec_len G ok hsc gm_listing_len ?_
    refine NP_loc ok mem1 (NP_nil ?_)
    refine op_len_fl (by simp; lia) ?_
    refine NP_nil ?_
    refine op_range1 ?_
    rw [List.length_map]
    exact ⟨ItP_rng1 ok.room.handled (by lia) (by lia) (by lia) (by lia), by simp [rowsL, partsV], _, _, rfl⟩
  · rintro j d H₁ ρ₁ hd ⟨rfl, o, o2, rfl⟩
    obtain ⟨rfl, hj⟩ := rangeV_get hd
    have hj' : j < is.length := by lia
    obtain ⟨i, hi⟩ : ∃ i, is[j]? = some i := ⟨_, List.getElem?_eq_getElem hj'⟩
    have gi := hok i (List.mem_of_getElem? hi)
    refine StI5 ?_
    refine SPc (SP_assign ok.inn (EP_sub (EP_local ok.inn mem1 (EP_local ok.inn mem5 ?_))))
    refine op_item_fl (n := j) (d := i.V) (by rw [List.getElem?_map, hi]; rfl) (by lia) ?_
    refine StI6 ?_
    refine SPc (SP_expr ok.inn ?_)
    refine ec_check_row G ok.inn hsc gm_listing_check_row ?_
    refine NP_loc ok.inn mem3 (NP_loc ok.inn mem6 (NP_cons (EP_bool (NP_nil ?_))))
    refine CallP.le (c_check_row (k := k) G gi.row (by simpa using gi.few) ?_) (by lia)
    refine ⟨trivial, ?_⟩
    refine SPc (SP_expr ok.inn ?_)
    refine EP_meth (id := "list.append") ?_
    refine EP_local ok.inn mem4 ?_
    refine ⟨meth_list (.head _) PySem.F.slot_list_append PySem.F.type_list_append, ?_⟩
    refine NP_cons (EP_bin (EP_bin ?_))
    refine ec_number_text G ok.inn hsc gm_listing_number_text ?_
    refine NP_cons (EP_bin (EP_local ok.inn mem2 (EP_local ok.inn mem5 (op_add_int (NP_nil ?_)))))
    have e1 : (b : Int) + (j : Nat) = ((b + j : Nat) : Int) := by lia
    rw [e1]
    have hbj : b + j < 10 ^ 80 := by
      have : (10 : Nat) ^ 60 + 1000 < 10 ^ 80 := by decide
      lia
    have h3 := numL_len (i := ((b + j : Nat) : Int)) (by rw [Int.natAbs_natCast]; exact hbj)
    refine CallP.le (c_number_text (k := k) G (by have : (10 : Nat) ^ 80 < 10 ^ 90 := by decide
                                                  simp; lia) ?_) (by lia)
    refine EP_str ?_
    rw [space]
    refine op_add_str (by rw [S_len, S_len, sizeLine_eq]; simp only [List.length_cons, List.length_nil]; lia) ?_
    rw [S_append]
    refine EP_meth (id := "str.join") ?_
    refine EP_str ?_
    refine ⟨meth_str PySem.F.slot_str_join PySem.F.type_str_join, ?_⟩
    refine NP_cons ?_
    refine ec_instruction_words G ok.inn hsc gm_listing_instruction_words ?_
    refine NP_loc ok.inn mem0 (NP_loc ok.inn mem6 (NP_cons (EP_sub (EP_local ok.inn mem3 (EP_sub (EP_local ok.inn mem6 (EP_int ?_)))))))
    refine op_item_tup (n := 0) (d := .str i.name) rfl (by lia) ?_
    refine op_item_sd gi.shape ?_
    refine NP_nil ?_
    refine c_instruction_words (k := k) (pre := (a, O.list _) :: pre) G i.name_S g gi.few gi.ok ?_
    refine NP_nil ?_
    refine op_join_fl (xs := (i.words T).map S) rfl (joinOk_S ?_) ?_
    · have := gi.sum; simp only [List.length_cons, List.length_nil]; lia
    rw [S_join]
    have hjl := joinL_len [32] (i.words T)
    have hsum := gi.sum
    refine op_add_str (by rw [S_len, S_len, sizeLine_eq]; simp at *; lia) ?_
    rw [S_append]
    refine NP_nil ?_
    refine op_append (.head _) (by rw [partsV_len, rowsL_len]; simp; lia) .here ⟨trivial, ?_⟩
    refine SP_nil ?_
    refine ⟨?_, _, _, rfl⟩
    rw [partsV_snoc, List.take_add_one, hi]
    have hlt : (is.take j).length = j := by simp; lia
    show _ = (a, O.list (partsV (rowsL T b (is.take j ++ [i])))) :: sy pre A T post
    rw [rowsL_snoc, hlt]
    simp [rowL]
  · rintro H₁ ρ₁ ⟨rfl, o, o2, rfl⟩
    rw [rangeV_len, List.take_length]
    refine SPc (SP_return (EP_local ok mem4 ?_))
    exact ⟨a, _, _, rfl, rfl, q⟩
end

theorem zeroS : Str.ofString "0" = S [48] := by decide +kernel
theorem nineS : Str.ofString "9" = S [57] := by decide +kernel
theorem decL_all (m : Nat) : PySem.NumText.AllDigits (decL m) := fun c hc => decL_figs m c hc
theorem take_piece (l : List Nat) (j : Nat) : l.take (18 * (j + 1)) = l.take (18 * j) ++ (l.drop (18 * j)).take 18 := by
  rw [Nat.mul_succ, ← List.take_add]
theorem val_step (l : List Nat) (j : Nat) : ((PySem.NumText.digitsVal (l.take (18 * (j + 1))) : Nat) : Int) = ((PySem.NumText.digitsVal (l.take (18 * j)) : Nat) : Int) * ((10 ^ ((l.drop (18 * j)).take 18).length : Nat) : Int) + ((PySem.NumText.digitsVal ((l.drop (18 * j)).take 18) : Nat) : Int) := by
  rw [take_piece, digitsVal_app, Int.natCast_add, Int.natCast_mul]
theorem rangeVS_get {b c : Nat} {i : Nat} {d : V} (hc : 0 < c) (h : (rangeVS 0 (b : Int) (c : Int))[i]? = some d) : d = .int ((c * i : Nat) : Int) ∧ i < (Builtin.Range.rangeSize 0 (b : Int) (c : Int)).toNat := by
  unfold rangeVS at h
  rw [List.getElem?_map] at h
  cases e : (List.range (Builtin.Range.rangeSize 0 (b : Int) (c : Int)).toNat)[i]? with
  | none => rw [e] at h; cases h
  | some j =>
    rw [e] at h; cases h
    obtain ⟨h1, h2⟩ := List.getElem?_eq_some_iff.mp e
    rw [List.getElem_range] at h2
    subst h2
    refine ⟨?_, by simpa using h1⟩
    rw [Int.natCast_mul, Int.mul_comm (c : Int)]; exact congrArg V.int (Int.zero_add _)
section
variable {W : Wd} (G : Gd W) {H : AHeap} {Q : V → AHeap → Prop} {k : Nat}
include G
theorem c_read_count {m : Nat} (hm : m < 10 ^ 90) (q : Q (.int m) H) : CallP W (k + 1) (.ref 356) [.str (S (decL m))] H Q := by
  refine en_read_count G fun F hsc ok => SPc ?_
  obtain ⟨c, r, hc, h0⟩ := decL_head m
  have hlen : (decL m).length ≤ 90 := decL_len (by lia) hm
  have hpos := decL_pos m
  refine SP_if (TP.mono' (fun b H' => b = false ∧ H' = H) ?_ ?_)
  · refine TP_boolop (TP_or_cons (TP_eqLS ok mem0 ?_))
    refine ⟨fun h => absurd h (by rw [noneS, S_beq, hc]; simp), fun _ => ?_⟩
    refine TP_or_cons (TP_boolop (TP_and_cons (TP_cmp (EP_sub (EP_local ok mem0 (EP_int ?_))))))
    refine op_item_str (n := 0) (c := c) (by rw [S_get, hc]; rfl) (by lia) ?_
    refine EP_str (op_eq_str (ot_bool ?_))
    refine ⟨fun h1 => ?_, fun h1 => ?_⟩
    · rw [zeroS, S_one, S_beq] at h1
      have h2 : c = 48 := by simpa using h1
      have h3 := h0 h2
      refine TP_and_cons (TP_cmpL ok mem0 (EP_str (op_ne_str (ot_bool ?_))))
      refine ⟨fun h4 => absurd h4 (by rw [h3]; decide +kernel), fun _ => ?_⟩
      refine ⟨fun h => (nomatch h), fun _ => ?_⟩
      refine TP_or_nil ?_
      exact ⟨rfl, rfl⟩
    · refine ⟨fun h => (nomatch h), fun _ => ?_⟩
      refine TP_or_nil ?_
      exact ⟨rfl, rfl⟩
  rintro b H' ⟨rfl, rfl⟩
  refine ⟨fun h => (nomatch h), fun _ => ?_⟩
  refine SP_nil (Thn_next (SPc ?_))
  refine SPfor ok (fun i H₁ ρ₁ => H₁ = H' ∧ ∃ o, ρ₁ = [(Str.ofString "word", some (.str (S (decL m)))), (Str.ofString "sign", o), (Str.ofString "value", none), (Str.ofString "place", none), (Str.ofString "piece", none)]) (signs (S (decL m))) ?_ ?_ ?_
  · refine EP_local ok mem0 ?_
    exact ⟨ItP_str ok.room.handled, rfl, _, rfl⟩
  · rintro i d H₁ ρ₁ hd ⟨rfl, o, rfl⟩
    obtain ⟨c', hc', rfl⟩ := signs_get hd
    rw [S_toList] at hc'
    have hf := decL_figs m c' (List.mem_of_getElem? hc')
    refine StI1 ?_
    refine SP_ifc (TP_not (TP_chain (EP_str (EP_local ok.inn mem1 (op_le_str (ot_bool ?_))))))
    refine ⟨fun h => absurd h (by rw [zeroS, S_one, strLe]; simp [hf.1]), fun _ => ?_⟩
    refine EP_str (op_le_str (ot_bool ?_))
    refine ⟨fun h => absurd h (by rw [nineS, S_one, strLe]; simp [hf.2]), fun _ => ?_⟩
    refine SP_nil (SP_nil ?_)
    exact ⟨rfl, _, rfl⟩
  rintro H₁ ρ₁ ⟨rfl, o, rfl⟩
  refine SPc (SP_assign ok (EP_int ?_))
  refine StI2 ?_
  refine Thn_next (SPc ?_)
  have hsz : (Builtin.Range.rangeSize 0 ((decL m).length : Int) ((18 : Nat) : Int)).toNat = ((decL m).length + 17) / 18 := by
    have := size_18 (decL m).length
    rw [show (((18 : Nat) : Int)) = 18 from rfl, this]; rfl
  refine SPfor ok (fun j H₂ ρ₂ => H₂ = H₁ ∧ ∃ o2 o3, ρ₂ = [(Str.ofString "word", some (.str (S (decL m)))), (Str.ofString "sign", o), (Str.ofString "value", some (.int (PySem.NumText.digitsVal ((decL m).take (18 * j)) : Nat))), (Str.ofString "place", o2), (Str.ofString "piece", o3)]) (rangeVS 0 ((decL m).length : Int) ((18 : Nat) : Int)) ?_ ?_ ?_
  · refine ec_range G ok hsc gm_read_count_range ?_
    refine NP_cons (EP_int (NP_cons ?_))
    refine ec_len G ok hsc gm_read_count_len ?_
    refine NP_loc ok mem0 (NP_nil ?_)
    refine op_len_str (by rw [S_len]; lia) ?_
    rw [S_len]
    refine NP_cons (EP_int (NP_nil ?_))
    refine op_range3 (by lia) (by decide) ?_
    refine ⟨ItP_rng ok.room.handled (small_18 (by lia)) (by rw [size_18]; lia), rfl, _, _, rfl⟩
  · rintro j d H₂ ρ₂ hd ⟨rfl, o2, o3, rfl⟩
    obtain ⟨rfl, hj⟩ := rangeVS_get (by lia) hd
    rw [hsz] at hj
    have hj' : 18 * j ≤ (decL m).length := by lia
    have hpl : ((decL m).drop (18 * j)).take 18 ≠ [] := by
      intro h
      have := congrArg List.length h
      simp at this
      lia
    have hp1 : (((decL m).drop (18 * j)).take 18).length ≤ 18 := by simp; lia
    refine StI3 ?_
    refine SPc ?_
    refine SP_assign ok.inn ?_
    refine EP_slice_str ?_
    refine EP_local ok.inn mem0 ?_
    refine ⟨_, rfl, by rw [S_len]; lia, ?_⟩
    refine PP_some ?_
    refine EP_local ok.inn mem3 ?_
    refine ⟨_, rfl, PP_some ?_⟩
    refine EP_bin (EP_local ok.inn mem3 (EP_int (op_add_int ?_)))
    have e1 : ((18 * j : Nat) : Int) + 18 = ((18 * j + 18 : Nat) : Int) := rfl
    refine ⟨_, rfl, ?_⟩
    rw [e1, S_slice (by lia) hj', Nat.add_sub_cancel_left]
    refine StI4 ?_
    refine SPc (SP_assign ok.inn (EP_bin (EP_bin (EP_local ok.inn mem2 (EP_bin (EP_int ?_))))))
    refine ec_len G ok.inn hsc gm_read_count_len ?_
    refine NP_loc ok.inn mem4 (NP_nil ?_)
    refine op_len_str (by rw [S_len]; lia) ?_
    rw [S_len]
    refine op_pow_int (by lia) (by lia) (by decide) ?_
    have hpw : (10 : Int) ^ (((((decL m).drop (18 * j)).take 18).length : Nat) : Int).toNat = ((10 ^ (((decL m).drop (18 * j)).take 18).length : Nat) : Int) := by
      rw [Int.toNat_natCast, Int.natCast_pow]; rfl
    rw [hpw]
    refine op_mul_int ?_ ?_
    · generalize hz : 10 ^ (((decL m).drop (18 * j)).take 18).length = z
      have : z ≤ 10 ^ 18 := by rw [← hz]; exact Nat.pow_le_pow_right (by lia) hp1
      have h2 : (10 : Nat) ^ 18 = 1000000000000000000 := by decide
      have h3 : (2 : Int) ^ 64 = 18446744073709551616 := by decide
      exact IntMulOk.of_right (intBits_le_64 (by rw [h3]; lia) (by rw [h3]; lia))
    refine ec_int G ok.inn hsc gm_read_count_int ?_
    refine NP_loc ok.inn mem4 (NP_nil ?_)
    refine op_int_str (fun c hc => decL_all m c (List.mem_of_mem_drop (List.mem_of_mem_take hc))) hpl (by lia) ?_
    refine op_add_int ?_
    refine StI2 ?_
    refine SP_nil ?_
    rw [← val_step]
    exact ⟨rfl, _, _, rfl⟩
  · rintro H₂ ρ₂ ⟨rfl, o2, o3, rfl⟩
    rw [show (rangeVS 0 ((decL m).length : Int) ((18 : Nat) : Int)).length = ((decL m).length + 17) / 18 from by rw [← hsz]; simp [rangeVS], List.take_of_length_le (by lia), digitsVal_dec]
    refine SPc (SP_return (EP_local ok mem2 ?_))
    exact q
end

theorem partsV_get {ws : List (List Nat)} {i : Nat} {d : V} (h : (partsV ws)[i]? = some d) : ∃ x, ws[i]? = some x ∧ d = .str (S x) := by
  unfold partsV at h
  rw [List.map_map, List.getElem?_map] at h
  cases e : ws[i]? with
  | none => rw [e] at h; cases h
  | some x => rw [e] at h; cases h; exact ⟨x, rfl, rfl⟩
theorem parts_len (x : Str) (cuts : List Nat) (w : Nat) : (Builtin.Str.partsBetween x cuts w).length = cuts.length + 1 := by
  simp [Builtin.Str.partsBetween]
section
variable {W : Wd} (G : Gd W) {H : AHeap} {Q : V → AHeap → Prop} {k : Nat}
include G
theorem c_split_row {ws : List (List Nat)} (h0 : ws ≠ []) (hn : ∀ w ∈ ws, 32 ∉ w) (hne : ∀ w ∈ ws, w ≠ []) (hl : (joinL [32] ws).length ≤ 2 ^ 19) (q : Q (.fl (partsV ws)) H) : CallP W (k + 1) (.ref 349) [.str (S (joinL [32] ws))] H Q := by
  refine (en_split_row G fun F hsc ok => SPc ?_)
  refine SP_assign ok ?_
  refine EP_meth (id := "str.split") ?_
  refine EP_local ok mem0 ?_
  refine ⟨meth_str PySem.F.slot_str_split PySem.F.type_str_split, ?_⟩
  refine NP_cons (EP_str (NP_nil ?_))
  have hsp : Txt.split (S (joinL [32] ws)) (Str.ofString " ") = ws.map S := by rw [space]; exact split_joinL (by decide) h0 hn
  refine op_split (by decide +kernel) (by rw [S_len]; lia) ?_ fun a => ?_
  · rw [parts_len, space, occ_list]
    have := List.length_filter_le (isAt (joinL [32] ws) 32) (List.range' 0 ((joinL [32] ws).length + 1))
    rw [List.length_range'] at this
    lia
  rw [hsp]
  refine StI1 ?_
  refine Thn_next (SP_frozL (x := Str.ofString "words") (.refl _) (.tail _ (.head _)) ?_)
  refine StI1 ?_
  refine SPc (SPfor ok (fun i H₁ ρ₁ => H₁ = H ∧ ∃ o, ρ₁ = [(Str.ofString "row", some (.str (S (joinL [32] ws)))), (Str.ofString "words", some (.fl (partsV ws))), (Str.ofString "word", o)]) (partsV ws) ?_ ?_ ?_)
  · refine EP_local ok mem1 ?_
    exact ⟨ItP_fl ok.room.handled, rfl, _, rfl⟩
  · rintro i d H₁ ρ₁ hd ⟨rfl, o, rfl⟩
    obtain ⟨x, hx, rfl⟩ := partsV_get hd
    refine StI2 ?_
    refine SP_ifc (TP_eqLS ok.inn mem2 ?_)
    refine ⟨fun h => absurd h (by rw [noneS, S_beq]; simpa using hne x (List.mem_of_getElem? hx)), fun _ => ?_⟩
    refine SP_nil (SP_nil ?_)
    exact ⟨rfl, _, rfl⟩
  · rintro H₁ ρ₁ ⟨rfl, o, rfl⟩
    refine SPc (SP_return (EP_local ok mem1 ?_))
    exact q
end

noncomputable def val16 (ds : List Nat) : Nat := ds.foldl (fun a d => a * 16 + d) 0
theorem val16_go (b : List Nat) : ∀ acc, b.foldl (fun a d => a * 16 + d) acc = acc * 16 ^ b.length + val16 b := by
  induction b with
  | nil => intro acc; simp [val16]
  | cons c b ih =>
    intro acc
    show b.foldl _ (acc * 16 + c) = _
    have h2 : val16 (c :: b) = c * 16 ^ b.length + val16 b := by
      show b.foldl _ (0 * 16 + c) = _
      rw [ih]; simp
    rw [ih, h2, List.length_cons, Nat.pow_succ, Nat.add_mul, Nat.add_assoc]
    congr 1
    rw [Nat.mul_assoc, Nat.mul_comm 16]
theorem val16_app (a b : List Nat) : val16 (a ++ b) = val16 a * 16 ^ b.length + val16 b := by
  show (a ++ b).foldl _ 0 = _
  rw [List.foldl_append, val16_go]; rfl
theorem val16_take (ds : List Nat) (j : Nat) : val16 (ds.take j) ≤ val16 ds := by
  conv => rhs; rw [← List.take_append_drop j ds, val16_app]
  have : 0 < 16 ^ (ds.drop j).length := Nat.pow_pos (by decide)
  have := Nat.le_mul_of_pos_right (val16 (ds.take j)) this
  lia
theorem hexGo_ds (c : Nat) : ∀ ds : List Nat, (∀ d ∈ ds, d < 16) → ∃ es, hexGo c (ds.map hexDig) = es.map hexDig ∧ (∀ d ∈ es, d < 16) ∧ val16 es = c * 16 ^ ds.length + val16 ds ∧ ds.length ≤ es.length := by
  induction c using Nat.strongRecOn with
  | _ c ih =>
    intro ds hd
    rw [hexGo]
    split
    · rename_i h
      exact ⟨ds, rfl, hd, by simp [h], Nat.le_refl _⟩
    · rename_i h
      obtain ⟨es, h1, h2, h3, h4⟩ := ih (c / 16) (by lia) (c % 16 :: ds) (by
        intro d h
        rcases List.mem_cons.mp h with rfl | h
        · lia
        · exact hd d h)
      refine ⟨es, h1, h2, ?_, by simp at h4; lia⟩
      rw [h3, show c % 16 :: ds = [c % 16] ++ ds from rfl, val16_app, List.length_append, Nat.pow_add, ← Nat.add_assoc, ← Nat.mul_assoc, ← Nat.add_mul]
      congr 2
      simp [val16]
      lia
theorem hexL_ds (c : Nat) : ∃ ds, hexL c = ds.map hexDig ∧ (∀ d ∈ ds, d < 16) ∧ val16 ds = c ∧ 1 ≤ ds.length := by
  obtain ⟨es, h1, h2, h3, h4⟩ := hexGo_ds (c / 16) [c % 16] (by simp; lia)
  refine ⟨es, h1, h2, ?_, h4⟩
  rw [h3]; simp [val16]; lia
theorem fig_find {d : Nat} (h : d < 16) : Txt.find (S figL) (S [hexDig d]) = (d : Nat) := by
  have h1 : ∀ d < 16, figL = figL.take d ++ hexDig d :: figL.drop (d + 1) ∧ hexDig d ∉ figL.take d ∧ (figL.take d).length = d := by decide
  obtain ⟨e, hn, hl⟩ := h1 d h
  have := find_first (r := figL.drop (d + 1)) hn
  rw [← e, hl] at this
  exact this
section
variable {W : Wd} (G : Gd W) {H : AHeap} {Q : V → AHeap → Prop} {k : Nat}
include G
theorem c_read_code {c : Nat} (hc : c ≤ 1114111) (q : Q (.int c) H) : CallP W (k + 1) (.ref 299) [.str (S (hexL c))] H Q := by
  obtain ⟨ds, hx, hd, hv, _⟩ := hexL_ds c
  refine en_read_code G fun F hsc ok => SPc ?_
  refine SP_assign ok (EP_str ?_)
  refine StI1 ?_
  refine SPc (SP_assign ok (EP_int ?_))
  refine StI2 ?_
  refine Thn_next (SPc (SPfor ok (fun i H₁ ρ₁ => H₁ = H ∧ ∃ o o2, ρ₁ = [(Str.ofString "digits", some (.str (S (hexL c)))), (Str.ofString "figures", some (.str (Str.ofString "0123456789abcdef"))), (Str.ofString "value", some (.int (val16 (ds.take i) : Nat))), (Str.ofString "sign", o), (Str.ofString "figure", o2)]) (signs (S (hexL c))) ?_ ?_ ?_))
  · refine EP_local ok mem0 ?_
    exact ⟨ItP_str ok.room.handled, rfl, _, _, rfl⟩
  · rintro i d H₁ ρ₁ hd1 ⟨rfl, o, o2, rfl⟩
    obtain ⟨c', hc', rfl⟩ := signs_get hd1
    rw [S_toList, hx, List.getElem?_map] at hc'
    cases hdi : ds[i]? with
    | none => rw [hdi] at hc'; cases hc'
    | some e =>
      rw [hdi] at hc'; cases hc'
      have he := hd e (List.mem_of_getElem? hdi)
      have hst : val16 (ds.take (i + 1)) = val16 (ds.take i) * 16 + e := by
        rw [List.take_add_one, hdi, val16_app]; simp [val16]
      have hle := val16_take ds (i + 1)
      refine StI3 ?_
      refine SPc (SP_assign ok.inn ?_)
      refine EP_meth (id := "str.find") ?_
      refine EP_local ok.inn mem1 ?_
      refine ⟨meth_str PySem.F.slot_str_find PySem.F.type_str_find, ?_⟩
      refine NP_loc ok.inn mem3 (NP_nil ?_)
      refine op_find ?_
      have hf : Txt.find (Str.ofString "0123456789abcdef") { cps := #[hexDig e] } = (e : Nat) := by rw [figS, S_one]; exact fig_find he
      rw [hf]
      refine StI4 ?_
      refine SP_ifc (TP_cmpL ok.inn mem4 (EP_int (op_lt_int (ot_bool ?_))))
      refine ⟨fun h => absurd h (by simp), fun _ => ?_⟩
      refine SP_nil (SPc (SP_assign ok.inn (EP_bin (EP_bin (EP_local ok.inn mem2 (EP_int ?_))))))
      refine op_mul_int (IntMulOk.of_right (intBits_le_64 (by decide) (by decide))) ?_
      refine EP_local ok.inn mem4 (op_add_int ?_)
      refine StI2 ?_
      refine SP_ifc (TP_cmpL ok.inn mem2 (EP_int (op_gt_int (ot_bool ?_))))
      refine ⟨fun h => absurd h (by simp; lia), fun _ => ?_⟩
      refine SP_nil (SP_nil ?_)
      have e3 : ((val16 (ds.take i) : Nat) : Int) * 16 + (e : Nat) = ((val16 (ds.take (i + 1)) : Nat) : Int) := by rw [hst]; lia
      rw [e3]
      exact ⟨rfl, _, _, rfl⟩
  · rintro H₁ ρ₁ ⟨rfl, o, o2, rfl⟩
    rw [show (signs (S (hexL c))).length = ds.length from by simp [signs, S, hx], List.take_length, hv]
    refine SPc (SP_return (EP_local ok mem2 ?_))
    exact q
end

theorem quoteL_q {l : List Nat} (h : nameL l = false) : quoteL l = 39 :: (l.flatMap signL ++ [39]) := by rw [quoteL, h]; rfl
theorem quoteL_no {l : List Nat} (h : nameL l = false) : nameL (quoteL l) = false := by
  rw [quoteL_q h]; rfl
theorem hexL_no {c : Nat} : 92 ∉ hexL c := by
  obtain ⟨ds, h, hd, _⟩ := hexL_ds c
  rw [h]
  intro hm
  obtain ⟨d, h1, h2⟩ := List.mem_map.mp hm
  have := hd d h1
  unfold hexDig at h2
  split at h2 <;> lia
theorem hexL_pos (c : Nat) : 1 ≤ (hexL c).length := by
  obtain ⟨ds, h, _, _, h1⟩ := hexL_ds c
  rw [h, List.length_map]; exact h1
theorem signL_pos (c : Nat) : 1 ≤ (signL c).length := by unfold signL; split <;> simp
theorem flat_one (l : List Nat) : (l.map fun c => [c]).flatten = l := by
  induction l with
  | nil => rfl
  | cons a p ih => simp [ih]
theorem flat_le {l : List Nat} (h : Few l) : (l.flatMap signL).length ≤ 1100 := by
  have := sum_take_le (l := l) signL (m := 11) fun c hc => signL_len (by have := h.2 c hc; lia)
  have h1 := h.1
  rw [List.map_map] at this
  rw [List.length_flatMap]
  have e : (l.map ((·.length) ∘ signL)).sum = (List.map (fun a => (signL a).length) l).sum := rfl
  rw [e] at this
  lia
noncomputable def rho_un (w inn : Str) (a : Addr) (p : Int) (o : Option V) : Rho := [(Str.ofString "word", some (.str w)), (Str.ofString "inner", some (.str inn)), (Str.ofString "parts", some (.ref a)), (Str.ofString "place", some (.int p)), (Str.ofString "end", o), (Str.ofString "text", none)]
section
variable {w inn : Str} {a : Addr} {p : Int} {o : Option V} {d : V}
theorem un_I : (Str.ofString "inner", some (V.str inn)) ∈ rho_un w inn a p o := .tail _ (.head _)
theorem un_A : (Str.ofString "parts", some (V.ref a)) ∈ rho_un w inn a p o := .tail _ (.tail _ (.head _))
theorem un_P : (Str.ofString "place", some (V.int p)) ∈ rho_un w inn a p o := .tail _ (.tail _ (.tail _ (.head _)))
theorem un_E : (Str.ofString "end", some d) ∈ rho_un w inn a p (some d) := .tail _ (.tail _ (.tail _ (.tail _ (.head _))))
theorem un_pP {p' : Int} : Put (Str.ofString "place") (some (V.int p')) (rho_un w inn a p o) (rho_un w inn a p' o) := .there (.there (.there .here))
theorem un_pE : Put (Str.ofString "end") (some d) (rho_un w inn a p o) (rho_un w inn a p (some d)) := .there (.there (.there (.there .here)))
end
section
variable {W : Wd} (G : Gd W) {H : AHeap} {Q : V → AHeap → Prop} {k : Nat}
include G
omit G in
theorem un_plain {F : Fm} {w inn : Str} {a : Addr} {p c : Nat} {o : Option V} {l : List V} {Q : Fl → AHeap → Rho → Prop} (ok : F.Ok W (k + 4)) (hget : inn.cps[p]? = some c) (hne : c ≠ 92) (hp : p < 2 ^ 30) (hl : l.length ≤ 2 ^ 20)
    (q : Q .cont ((a, .list (l ++ [.str ⟨#[c]⟩])) :: H) (rho_un w inn a (p + 1 : Nat) o)) : SP W F (rho_un w inn a (p : Nat) o) ((a, .list l) :: H) (execs (forBody ((bodyOf (defAt 31)).drop 5)) F.env) Q := by
  refine SP_ifc (TP_cmp (EP_sub (EP_local ok un_I (EP_local ok un_P (op_item_str hget (by lia) (EP_str (op_ne_str (ot_bool (br_t (by rw [back, S_one, one_ne]; simpa using hne) ?_)))))))))
  refine SP_app ok un_A (.head _) (EP_sub (EP_local ok un_I (EP_local ok un_P (op_item_str hget (by lia) ⟨_, .head _, hl, _, .here, ?_⟩))))
  exact SPc (SP_aug ok un_P (EP_int (op_iadd_int ⟨_, un_pP, Thn_next (SPc (SP_continue q))⟩)))
theorem un_esc {F : Fm} {w inn : Str} {a : Addr} {p e c : Nat} {o : Option V} {l : List V} {Q : Fl → AHeap → Rho → Prop} (hsc : F.sc = scopeOf (defAt 31)) (ok : F.Ok W (k + 4)) (hget : inn.cps[p]? = some 92) (hget1 : inn.cps[p + 1]? = some 120) (hp : p < 2 ^ 30) (hl : l.length ≤ 2 ^ 20) (hil : inn.length ≤ 2 ^ 20)
    (hfind : Txt.find3 inn (Str.ofString "\\") ((p : Int) + 1) = (e : Nat)) (he : p + 3 ≤ e) (hc : c ≤ 1114111) (hsl : Txt.slice inn (some ((p : Int) + 2)) (some ((e : Nat) : Int)) = S (hexL c))
    (q : Q .next ((a, .list (l ++ [.str ⟨#[c]⟩])) :: H) (rho_un w inn a (e + 1 : Nat) (some (.int (e : Nat))))) : SP W F (rho_un w inn a (p : Nat) o) ((a, .list l) :: H) (execs (forBody ((bodyOf (defAt 31)).drop 5)) F.env) Q := by
  refine SP_ifc (TP_cmp (EP_sub (EP_local ok un_I (EP_local ok un_P (op_item_str hget (by lia) (EP_str (op_ne_str (ot_bool (br_f (by rw [back, S_one, one_ne]; simp) (SP_nil ?_))))))))))
  refine SPc (SP_assign ok (EP_meth (id := "str.find") (EP_local ok un_I ⟨meth_str PySem.F.slot_str_find PySem.F.type_str_find, NP_cons (EP_str (NP_cons (EP_bin (EP_local ok un_P (EP_int (op_add_int (NP_nil (op_find3 (hfind ▸ ⟨_, un_pE, Thn_next ?_⟩)))))))))⟩)))
  refine SP_ifc (TP_boolop (TP_or_cons (TP_cmp (EP_local ok un_E (EP_bin (EP_local ok un_P (EP_int (op_add_int (op_lt_int (ot_bool (br_f (by simp; lia) ?_)))))))))))
  refine TP_or_cons (TP_cmp (EP_sub (EP_local ok un_I (EP_bin (EP_local ok un_P (EP_int (op_add_int (op_item_str (n := p + 1) hget1 (by lia) (EP_str (op_ne_str (ot_bool (br_f (by rw [S_one]; decide +kernel) (TP_or_nil (br_f (by decide) (SP_nil ?_)))))))))))))))
  refine SP_app ok un_A (.head _) (ec_chr G ok hsc gm_unquoted_name_chr (NP_cons (ec_read_code G ok hsc gm_unquoted_name_read_code (NP_cons (EP_slice_str (EP_local ok un_I ⟨_, rfl, hil, PP_some (EP_bin (EP_local ok un_P (EP_int (op_add_int ⟨_, rfl, PP_some (EP_local ok un_E ⟨_, rfl, ?_⟩)⟩))))⟩))))))
  rw [hsl]
  refine NP_nil (CallP.le (c_read_code (k := k) G hc (NP_nil (op_chr hc ⟨_, .head _, hl, _, .here, ?_⟩))) (by lia))
  exact SPc (SP_assign ok (EP_bin (EP_local ok un_E (EP_int (op_add_int ⟨_, un_pP, Thn_next (SP_nil q)⟩)))))
theorem un_test {F : Fm} {x : Str} {n : Nat} {Q : Bool → AHeap → Prop} {ρ : Rho} {p₁ : Pos} {whole : Sem Value} (hsc : F.sc = scopeOf (defAt 31)) (ok : F.Ok W (k + 4)) (hm : (Str.ofString "word", some (V.str x)) ∈ ρ) (hz : x.length = n + 2) (hn : n < 2 ^ 20) (h0 : x.cps[0]? = some 39) (h1 : x.cps[n + 1]? = some 39) (q : Q false H) :
    ∃ es p body orelse pos rest, (bodyOf (defAt 31)).drop 1 = .If (.BoolOp .Or es p) body orelse pos :: rest ∧ TP W F ρ H (allTrue .Or es F.env) Q := by
  have e1 : (x.length : Int) - 1 = ((n + 1 : Nat) : Int) := by lia
  refine ⟨_, _, _, _, _, _, rfl, ?_⟩
  refine TP_or_cons (TP_cmp (ec_len G ok hsc gm_unquoted_name_len (NP_loc ok hm (NP_nil (op_len_str (by lia) (EP_int (op_lt_int (ot_bool (br_f (by simp; lia) ?_)))))))))
  refine TP_or_cons (TP_cmp (EP_sub (EP_local ok hm (EP_int (op_item_str (n := 0) h0 (by lia) (EP_str (op_ne_str (ot_bool (br_f (by rw [tick, S_one]; simp) ?_)))))))))
  refine TP_or_cons (TP_cmp (EP_sub (EP_local ok hm (EP_bin (ec_len G ok hsc gm_unquoted_name_len (NP_loc ok hm (NP_nil (op_len_str (by lia) (EP_int (op_sub_int ?_))))))))))
  rw [e1]
  exact op_item_str (n := n + 1) h1 (by lia) (EP_str (op_ne_str (ot_bool (br_f (by rw [tick, S_one]; simp) (TP_or_nil q)))))
theorem c_unquoted_name {l : List Nat} (hl : Few l) (q : Q (.str (S l)) H) : CallP W (k + 5) (.ref 306) [.str (S (quoteL l))] H Q := by
  have hq := quoteL_len hl
  refine CallP.drop (en_unquoted_name G fun F hsc ok => SP_ifc (TP_value (ec_is_alnum_name G ok hsc gm_unquoted_name_is_alnum_name (NP_loc ok (.head _) (NP_nil (CallP.le (c_is_alnum_name (k := k) G (ot_bool ⟨fun h => ?_, fun h => ?_⟩)) (by lia)))))))
  · have hn : nameL l = true := by
      rw [S_toList] at h
      cases e : nameL l with
      | true => rfl
      | false => rw [quoteL_no e] at h; cases h
    have e : quoteL l = l := by rw [quoteL, if_pos hn]
    rw [e]
    exact SPc (SP_return (EP_local ok (.head _) ⟨H, .refl _, q⟩))
  have hn : nameL l = false := by
    cases e : nameL l with
    | false => rfl
    | true => rw [S_toList, quoteL, if_pos e, e] at h; cases h
  have hx := quoteL_q hn
  generalize hin : l.flatMap signL = inn at hx
  have hxl : (quoteL l).length = inn.length + 2 := by rw [hx]; simp
  have hil := flat_le hl
  rw [hin] at hil
  have e1 : ((S (quoteL l)).length : Int) - 1 = ((inn.length + 1 : Nat) : Int) := by rw [S_len, hxl]; lia
  have hsl : Txt.slice (S (quoteL l)) (some 1) (some (((S (quoteL l)).length : Int) - 1)) = S inn := by
    rw [e1]
    refine (S_slice (a := 1) (b := inn.length + 1) (by lia) (by lia)).trans ?_
    rw [hx]; simp
  refine SP_nil (Thn_next (SPc (SP_if (TP.mono' (fun b H' => b = false ∧ H' = H) ?_ ?_))))
  · obtain ⟨es, p, body, orelse, pos, rest, e, t⟩ := un_test (k := k) (Q := fun b H' => b = false ∧ H' = H) (whole := pure .none) (p₁ := ⟨0, 0, 0, 0⟩) G hsc ok (.head _) (by rw [S_len]; exact hxl) (by lia) (by rw [S_get, hx]; rfl) (by rw [S_get, hx]; simp) ⟨rfl, rfl⟩
    cases e
    exact TP_boolop t
  rintro b H' ⟨rfl, rfl⟩
  refine br_f (by decide) (SP_nil (Thn_next (SPc (SP_assign ok (EP_slice_str (EP_local ok (.head _) ⟨_, rfl, by rw [S_len]; lia, PP_some (EP_int ⟨_, rfl, PP_some (EP_bin (ec_len G ok hsc gm_unquoted_name_len (NP_loc ok (.head _) (NP_nil (op_len_str (by rw [S_len]; lia) (EP_int (op_sub_int ⟨_, rfl, hsl ▸ StI1 (Thn_next ?_)⟩)))))))⟩)⟩))))))
  refine SPc (SP_assign ok (EP_list (NP_nil ⟨by decide, fun a => StI2 (Thn_next (SPc (SP_assign ok (EP_int (StI3 (Thn_next (SPc ?_)))))))⟩)))
  obtain ⟨J, hJ⟩ : ∃ J : Nat → AHeap → Rho → Prop, J = fun n H₁ ρ₁ => ∃ pre post o, l = pre ++ post ∧ n = post.length ∧ H₁ = (a, O.list (partsV (pre.map fun c => [c]))) :: H' ∧ ρ₁ = rho_un (S (quoteL l)) (S inn) a ((pre.flatMap signL).length : Nat) o := ⟨_, rfl⟩
  refine SPwhile J l.length (hJ ▸ ⟨[], l, _, rfl, rfl, rfl, rfl⟩) ?_
  intro n H₁ ρ₁ hj
  rw [hJ] at hj
  obtain ⟨pre, post, o, he, rfl, rfl, rfl⟩ := hj
  have hinn : inn = pre.flatMap signL ++ post.flatMap signL := by rw [← hin, he, List.flatMap_append]
  have hpl : (partsV (pre.map fun c => [c])).length ≤ 2 ^ 20 := by
    rw [partsV_len, List.length_map]; have := hl.1; rw [he] at this; simp at this; lia
  refine TP_cmp (EP_local ok.inn un_P (ec_len G ok.inn hsc gm_unquoted_name_len (NP_loc ok.inn un_I (NP_nil (op_len_str (by rw [S_len]; lia) (op_lt_int (ot_bool ?_)))))))
  cases post with
  | nil =>
    have e2 : (pre.flatMap signL).length = inn.length := by rw [hinn]; simp
    obtain rfl : pre = l := by rw [he]; simp
    have ejoin : Txt.join (Str.ofString "") ((pre.map fun c => [c]).map S) = S pre := by
      rw [noneS, S_join, joinL_nil, flat_one]
    refine br_f (by rw [S_len, e2]; simp) (Thn_next (SPc (SP_assign ok (EP_meth (id := "str.join") (EP_str ⟨meth_str PySem.F.slot_str_join PySem.F.type_str_join, NP_loc ok un_A (NP_nil (op_join (.head _) (xs := (pre.map fun c => [c]).map S) rfl ?_ (ejoin ▸ StI5 (Thn_next ?_))))⟩)))))
    · rw [noneS]
      exact joinOk_S (by
        have := hl.1
        have := sum_each (l := pre.map fun c => [c]) (m := 1) (by simp)
        simp at *; lia)
    refine SP_ifc (TP_cmp (ec_quoted_name G ok hsc gm_unquoted_name_quoted_name (NP_loc ok (.tail _ (.tail _ (.tail _ (.tail _ (.tail _ (.head _)))))) (NP_nil (c_quoted_name (k := k) G hl (EP_local ok (.head _) (op_ne_str (ot_bool (br_f (by simp) (SP_nil ?_))))))))))
    exact SPc (SP_return (EP_local ok (.tail _ (.tail _ (.tail _ (.tail _ (.tail _ (.head _)))))) ⟨H', List.sublist_cons_self _ _, q⟩))
  | cons c post =>
    have hc : c ≤ 1114111 := hl.2 c (by rw [he]; simp)
    have hs : inn = pre.flatMap signL ++ (signL c ++ post.flatMap signL) := by rw [hinn]; rfl
    have hlt : (pre.flatMap signL).length < inn.length := by
      have := signL_pos c
      rw [hs, List.length_append, List.length_append]; lia
    have hparts : partsV (pre.map fun c => [c]) ++ [V.str ⟨#[c]⟩] = partsV ((pre ++ [c]).map fun c => [c]) := (partsV_snoc _ [c]).trans (by rw [List.map_append]; rfl)
    have fin : ∀ (m : Nat) o, m = (pre.flatMap signL).length + (signL c).length → J post.length ((a, .list (partsV (pre.map fun c => [c]) ++ [.str ⟨#[c]⟩])) :: H') (rho_un (S (quoteL l)) (S inn) a (m : Nat) o) := by
      rintro m o rfl
      rw [hJ, hparts]
      exact ⟨pre ++ [c], post, o, by rw [he]; simp, rfl, rfl, by rw [List.flatMap_append, List.length_append, List.flatMap_cons, List.flatMap_nil, List.append_nil]⟩
    clear hJ
    refine br_t (by rw [S_len, decide_eq_true (by lia)]; exact Bool.noConfusion) ?_
    by_cases hp : plainSign c = true
    · have hsg : signL c = [c] := by unfold signL; rw [if_pos hp]
      exact un_plain (k := k) ok.inn (by rw [S_get, hs, hsg]; simp) (by rintro rfl; simp [plainSign] at hp) (by lia) hpl (LpQ_cont ⟨_, Nat.lt_succ_self _, fin _ _ (by rw [hsg]; rfl)⟩)
    · have hsg : signL c = 92 :: 120 :: (hexL c ++ [92]) := by unfold signL; rw [if_neg hp]; rfl
      have hx1 := hexL_pos c
      have hfind : Txt.find3 (S inn) (Str.ofString "\\") (((pre.flatMap signL).length : Int) + 1) = (((pre.flatMap signL).length + 2 + (hexL c).length : Nat) : Int) := by
        have h1 := find3_first (a := pre.flatMap signL ++ [92]) (b := 120 :: hexL c) (r := post.flatMap signL) (c := 92) (by simp [hexL_no])
        rw [back, hs, hsg]
        simp at h1 ⊢
        rw [h1]; lia
      have hsl : Txt.slice (S inn) (some (((pre.flatMap signL).length : Int) + 2)) (some (((pre.flatMap signL).length + 2 + (hexL c).length : Nat) : Int)) = S (hexL c) := by
        have h2 : (pre.flatMap signL).length + 2 ≤ inn.length := by rw [hs, hsg]; simp
        refine (S_slice (a := (pre.flatMap signL).length + 2) (b := (pre.flatMap signL).length + 2 + (hexL c).length) (by lia) h2).trans ?_
        rw [Nat.add_sub_cancel_left, hs, hsg]
        congr 1
        rw [← List.drop_drop]
        simp
      exact un_esc (k := k) G hsc ok.inn (by rw [S_get, hs, hsg]; simp) (by rw [S_get, hs, hsg]; simp) (by lia) hpl (by rw [S_len]; lia) hfind (by lia) hc hsl (LpQ_next ⟨_, Nat.lt_succ_self _, fin _ _ (by rw [hsg]; simp; lia)⟩)
end

noncomputable def readCell (T U : Sym) : Cell → Cell × Sym
  | .int i => (.int i, U)
  | .con n => (.con (U.atom (T.text n)).1, (U.atom (T.text n)).2)
noncomputable def readFn (T U : Sym) (n : Nat) : Nat × Sym := U.func (T.text (T.fn n).1) (T.fn n).2
structure Sym.Room (U : Sym) (n : Nat) : Prop where
  texts : U.texts.length + n ≤ 90000
  fns : U.fns.length + n ≤ 90000
theorem numL_nat (n : Nat) : numL (n : Int) = decL n := by
  unfold numL; rw [if_neg (by lia), Int.natAbs_natCast]; rfl
theorem numL_neg {i : Int} (h : i < 0) : numL i = 45 :: decL i.natAbs := by unfold numL; rw [if_pos h]; rfl
theorem numL_pos {i : Int} (h : 0 ≤ i) : numL i = decL i.natAbs := by unfold numL; rw [if_neg (by lia)]; rfl
theorem small_first {l : List Nat} (h : nameL l = true) : ∃ c r, l = c :: r ∧ 97 ≤ c ∧ c ≤ 122 := by
  cases l with
  | nil => cases h
  | cons c r =>
    refine ⟨c, r, rfl, ?_⟩
    simp only [nameL, smallP, Bool.and_eq_true, decide_eq_true_eq] at h
    lia
theorem quoteL_first (l : List Nat) : ∃ c r, quoteL l = c :: r ∧ (c = 39 ∨ (97 ≤ c ∧ c ≤ 122)) := by
  cases h : nameL l with
  | true =>
    obtain ⟨c, r, e, h1⟩ := small_first h
    exact ⟨c, r, by rw [quoteL, if_pos h, e], .inr h1⟩
  | false => exact ⟨39, _, quoteL_q h, .inl rfl⟩
theorem S_slice1 {c : Nat} {l : List Nat} : Txt.slice (S (c :: l)) (some 1) none = S l :=
  (S_slice_from (l := c :: l) (a := 1) (by simp)).trans (by simp)
theorem xS : Str.ofString "x" = S [120] := by decide +kernel
theorem yS : Str.ofString "y" = S [121] := by decide +kernel
theorem fig_lt (m : Nat) : ∃ c r, decL m = c :: r ∧ 48 ≤ c ∧ c ≤ 57 := by
  obtain ⟨c, r, h, _⟩ := decL_head m
  exact ⟨c, r, h, decL_figs m c (by rw [h]; exact .head _)⟩
section
variable {W : Wd} (G : Gd W) {H : AHeap} {Q : V → AHeap → Prop} {k : Nat} {A : SymA} {T U : Sym} {pre post : AHeap}
include G
theorem c_read_register {y : Bool} {n : Nat} (hn : n < 10 ^ 80) (q : Q (.tup [.str (regS y), .int n]) H) : CallP W (k + 2) (.ref 377) [.str (S ((if y then [121] else [120]) ++ numL n))] H Q := by
  have h9 : (10 : Nat) ^ 80 < 10 ^ 90 := by decide
  obtain ⟨c, hc⟩ : ∃ c : Nat, (if y then [121] else [120]) = [c] ∧ regS y = S [c] ∧ (c = 120 ∨ c = 121) := by
    cases y
    · exact ⟨120, rfl, by decide +kernel, .inl rfl⟩
    · exact ⟨121, rfl, by decide +kernel, .inr rfl⟩
  obtain ⟨h1, h2, h3⟩ := hc
  have hl := decL_len (m := n) (k := 80) (by decide) hn
  rw [h1, numL_nat, List.singleton_append]
  rw [h2] at q
  have hget : (S (c :: decL n)).cps[0]? = some c := by rw [S_get]; rfl
  refine en_read_register G fun F hsc ok => SPc ?_
  refine SP_if (TP.mono' (fun b H' => b = false ∧ H' = H) ?_ ?_)
  · refine TP_boolop (TP_and_cons (TP_cmp (EP_sub (EP_local ok mem0 (EP_int ?_)))))
    refine op_item_str (n := 0) hget (by lia) ?_
    refine EP_str (op_ne_str (ot_bool ?_))
    refine ⟨fun hx => ?_, fun _ => ?_⟩
    · refine TP_and_cons (TP_cmp (EP_sub (EP_local ok mem0 (EP_int ?_))))
      refine op_item_str (n := 0) hget (by lia) ?_
      refine EP_str (op_ne_str (ot_bool ?_))
      refine ⟨fun hy => ?_, fun _ => ?_⟩
      · rw [xS, S_one, one_ne] at hx
        rw [yS, S_one, one_ne] at hy
        simp at hx hy; lia
      · exact ⟨rfl, rfl⟩
    · exact ⟨rfl, rfl⟩
  rintro b H' ⟨rfl, rfl⟩
  refine ⟨fun h => (nomatch h), fun _ => ?_⟩
  refine SP_nil (Thn_next (SPc (SP_return (EP_tuple ?_))))
  refine NP_cons (EP_sub (EP_local ok mem0 (EP_int ?_)))
  refine op_item_str (n := 0) hget (by lia) ?_
  refine NP_cons ?_
  refine ec_read_count G ok hsc gm_read_register_read_count ?_
  refine NP_cons ?_
  refine EP_slice_str ?_
  refine EP_local ok mem0 ?_
  refine ⟨_, rfl, by rw [S_len]; simp; lia, ?_⟩
  refine PP_some ?_
  refine EP_int ?_
  refine ⟨_, rfl, PP_none ?_⟩
  rw [S_slice1]
  refine NP_nil ?_
  refine c_read_count (k := k) G (by lia) ?_
  refine NP_nil ?_
  exact ⟨by simp, q⟩
theorem c_read_constant {c : Cell} (g : T.Good) (hc : c.In T) (r : U.Room 1) (q : Q (readCell T U c).1.V (sy pre A (readCell T U c).2 post)) : CallP W (k + 6) (.ref 363) [.ref A.x, .str (S (cellL T c))] (sy pre A U post) Q := by
  have h9 : (10 : Nat) ^ 80 < 10 ^ 90 := by decide
  have r1 := r.texts
  have r2 := r.fns
  refine en_read_constant G fun F hsc ok => SPc ?_
  cases c with
  | int i =>
    have hi : i.natAbs < 10 ^ 80 := hc
    have hl := decL_len (m := i.natAbs) (k := 80) (by decide) hi
    obtain ⟨d, rr, hd, hd1, hd2⟩ := fig_lt i.natAbs
    by_cases hn : i < 0
    · have hw : cellL T (.int i) = 45 :: decL i.natAbs := numL_neg hn
      rw [hw]
      have hget : (S (45 :: decL i.natAbs)).cps[0]? = some 45 := by rw [S_get]; rfl
      refine SP_if (TP.mono' (fun b H' => b = false ∧ H' = sy pre A U post) ?_ ?_)
      · refine TP_chain (EP_str (EP_sub (EP_local ok mem1 (EP_int ?_))))
        refine op_item_str (n := 0) hget (by lia) ?_
        refine op_le_str (ot_bool ?_)
        refine ⟨fun _ => ⟨rfl, rfl⟩, fun h => absurd h (by rw [zeroS, S_one, strLe]; decide)⟩
      rintro b H' ⟨rfl, rfl⟩
      refine ⟨fun h => (nomatch h), fun _ => ?_⟩
      refine SP_nil (SP_ifc (TP_cmp (EP_sub (EP_local ok mem1 (EP_int ?_)))))
      refine op_item_str (n := 0) hget (by lia) ?_
      refine EP_str (op_eq_str (ot_bool ?_))
      refine ⟨fun _ => ?_, fun h => absurd h (by rw [dash, S_one, S_beq]; decide)⟩
      refine SPc (SP_assign ok ?_)
      refine ec_read_count G ok hsc gm_read_constant_read_count ?_
      refine NP_cons ?_
      refine EP_slice_str ?_
      refine EP_local ok mem1 ?_
      refine ⟨_, rfl, by rw [S_len]; simp; lia, ?_⟩
      refine PP_some ?_
      refine EP_int ?_
      refine ⟨_, rfl, PP_none ?_⟩
      rw [S_slice1]
      refine NP_nil ?_
      refine CallP.le (c_read_count (k := k) G (by lia) ?_) (by lia)
      refine StI2 ?_
      refine SP_ifc (TP_cmpL ok mem2 (EP_int (op_eq_int (ot_bool ?_))))
      refine ⟨fun h => absurd h (by simp; lia), fun _ => ?_⟩
      refine SP_nil (Thn_next (SPc (SP_return (EP_tuple ?_))))
      refine NP_cons ?_
      refine eg_INT G ok hsc gm_read_constant_INT ?_
      refine NP_cons (EP_un (EP_local ok mem2 ?_))
      refine op_neg_int ?_
      refine NP_nil ?_
      have e : -((i.natAbs : Nat) : Int) = i := by lia
      rw [e]
      exact ⟨by simp, q⟩
    · have hw : cellL T (.int i) = decL i.natAbs := numL_pos (by lia)
      rw [hw]
      have hget : (S (decL i.natAbs)).cps[0]? = some d := by rw [S_get, hd]; rfl
      refine SP_if (TP_chain (EP_str (EP_sub (EP_local ok mem1 (EP_int ?_)))))
      refine op_item_str (n := 0) hget (by lia) ?_
      refine op_le_str (ot_bool ?_)
      refine ⟨fun h => absurd h (by rw [zeroS, S_one, strLe]; simp [hd1]), fun _ => ?_⟩
      refine EP_str (op_le_str (ot_bool ?_))
      refine ⟨fun _ => ?_, fun h => absurd h (by rw [nineS, S_one, strLe]; simp [hd2])⟩
      refine SPc (SP_return (EP_tuple ?_))
      refine NP_cons ?_
      refine eg_INT G ok hsc gm_read_constant_INT ?_
      refine NP_cons ?_
      refine ec_read_count G ok hsc gm_read_constant_read_count ?_
      refine NP_loc ok mem1 (NP_nil ?_)
      refine CallP.le (c_read_count (k := k) G (by lia) ?_) (by lia)
      refine NP_nil ?_
      have e : ((i.natAbs : Nat) : Int) = i := by lia
      rw [e]
      exact ⟨by simp, q⟩
  | con n =>
    have hn : n < T.texts.length := hc
    have hf := g.few _ (List.mem_of_getElem? (Sym.text_get hn))
    obtain ⟨d, rr, hd, hd1⟩ := quoteL_first (T.text n)
    have hw : cellL T (.con n) = quoteL (T.text n) := rfl
    have hl := quoteL_len hf
    rw [hw]
    have hget : (S (quoteL (T.text n))).cps[0]? = some d := by rw [S_get, hd]; rfl
    refine SP_if (TP.mono' (fun b H' => b = false ∧ H' = sy pre A U post) ?_ ?_)
    · refine TP_chain (EP_str (EP_sub (EP_local ok mem1 (EP_int ?_))))
      refine op_item_str (n := 0) hget (by lia) ?_
      refine op_le_str (ot_bool ?_)
      refine ⟨fun _ => ⟨rfl, rfl⟩, fun h0 => ?_⟩
      refine EP_str (op_le_str (ot_bool ?_))
      refine ⟨?_, rfl⟩
      rw [zeroS, S_one, strLe] at h0
      rw [nineS, S_one, strLe]
      simp at h0 ⊢
      lia
    rintro b H' ⟨rfl, rfl⟩
    refine ⟨fun h => (nomatch h), fun _ => ?_⟩
    refine SP_nil (Thn_next (SPc (SP_if (TP.mono' (fun b H' => b = false ∧ H' = sy pre A U post) ?_ ?_))))
    · refine TP_cmp (EP_sub (EP_local ok mem1 (EP_int ?_)))
      refine op_item_str (n := 0) hget (by lia) ?_
      refine EP_str (op_eq_str (ot_bool ?_))
      refine ⟨?_, rfl⟩
      rw [dash, S_one, S_beq]
      simp; lia
    rintro b H' ⟨rfl, rfl⟩
    refine ⟨fun h => (nomatch h), fun _ => ?_⟩
    refine SP_nil (Thn_next (SPc (SP_return (EP_tuple ?_))))
    refine NP_cons ?_
    refine eg_CON G ok hsc gm_read_constant_CON ?_
    refine NP_cons ?_
    refine EP_own (x := A.x) (k := k + 1) ok G.wok (by lia) (om_atom G) ?_
    refine EP_local ok mem0 ?_
    refine ⟨rfl, isy m_x m_dx (by decide +kernel), ?_⟩
    refine NP_cons ?_
    refine ec_unquoted_name G ok hsc gm_read_constant_unquoted_name ?_
    refine NP_loc ok mem1 (NP_nil ?_)
    refine c_unquoted_name (k := k) G hf ?_
    refine NP_nil ?_
    refine c_atom G ⟨by lia, by lia⟩ ?_
    refine NP_nil ?_
    exact ⟨by simp, q⟩
theorem c_read_functor {n : Nat} (g : T.Good) (hn : n < T.fns.length) (r : U.Room 1) (q : Q (.int (readFn T U n).1) (sy pre A (readFn T U n).2 post)) : CallP W (k + 6) (.ref 370) [.ref A.x, .str (S (fnL T n))] (sy pre A U post) Q := by
  have h9 : (10 : Nat) ^ 80 < 10 ^ 90 := by decide
  have r1 := r.texts
  have r2 := r.fns
  have hp := g.ok _ (List.mem_of_getElem? (Sym.fn_get hn))
  have hf := g.few _ (List.mem_of_getElem? (Sym.text_get hp.1))
  have hl := quoteL_len hf
  have hl2 := decL_len (m := (T.fn n).2) (k := 80) (by decide) hp.2
  obtain ⟨d, rr, hd, hd1⟩ := quoteL_first (T.text (T.fn n).1)
  have hw : fnL T n = quoteL (T.text (T.fn n).1) ++ 47 :: decL (T.fn n).2 := by unfold fnL; rw [numL_nat]; rfl
  have hno : 47 ∉ decL (T.fn n).2 := fun h => by have := decL_figs _ _ h; lia
  rw [hw]
  generalize hqd : quoteL (T.text (T.fn n).1) = ql at hd hl hw
  have hrf : Txt.rfind (S (ql ++ 47 :: decL (T.fn n).2)) (Str.ofString "/") = (ql.length : Nat) := by rw [slash]; exact rfind_last hno
  have hpos : 1 ≤ ql.length := by rw [hd]; simp
  have hs1 : Txt.slice (S (ql ++ 47 :: decL (T.fn n).2)) none (some ((ql.length : Nat) : Int)) = S ql := by rw [S_slice_to (by simp)]; simp
  have hs2 : Txt.slice (S (ql ++ 47 :: decL (T.fn n).2)) (some (((ql.length : Nat) : Int) + 1)) none = S (decL (T.fn n).2) := by
    refine (S_slice_from (a := ql.length + 1) (by simp)).trans ?_
    rw [← List.drop_drop]; simp
  have hlen : (S (ql ++ 47 :: decL (T.fn n).2)).length ≤ 2 ^ 20 := by rw [S_len]; simp; lia
  refine en_read_functor G fun F hsc ok => SPc ?_
  refine SP_assign ok ?_
  refine EP_meth (id := "str.rfind") ?_
  refine EP_local ok mem1 ?_
  refine ⟨meth_str PySem.F.slot_str_rfind PySem.F.type_str_rfind, ?_⟩
  refine NP_cons (EP_str (NP_nil ?_))
  refine op_rfind ?_
  rw [hrf]
  refine StI2 ?_
  refine SP_ifc (TP_cmpL ok mem2 (EP_int (op_lt_int (ot_bool ?_))))
  refine ⟨fun h => absurd h (by simp; lia), fun _ => ?_⟩
  refine SP_nil (Thn_next (SPc ?_))
  refine SP_assign ok ?_
  refine EP_own (x := A.x) (k := k + 1) ok G.wok (by lia) (om_atom G) ?_
  refine EP_local ok mem0 ?_
  refine ⟨rfl, isy m_x m_dx (by decide +kernel), ?_⟩
  refine NP_cons ?_
  refine ec_unquoted_name G ok hsc gm_read_functor_unquoted_name ?_
  refine NP_cons ?_
  refine EP_slice_str ?_
  refine EP_local ok mem1 ?_
  refine ⟨_, rfl, hlen, PP_none (PP_some ?_)⟩
  refine EP_local ok mem2 ?_
  refine ⟨_, rfl, ?_⟩
  rw [hs1, ← hqd]
  refine NP_nil ?_
  refine c_unquoted_name (k := k) G hf ?_
  refine NP_nil ?_
  refine c_atom G ⟨by lia, by lia⟩ ?_
  refine StI3 ?_
  refine Thn_next (SPc (SP_return ?_))
  refine EP_own (x := A.x) (k := k + 1) ok G.wok (by lia) (om_functor G) ?_
  refine EP_local ok mem0 ?_
  refine ⟨rfl, isy m_x m_dx (by decide +kernel), ?_⟩
  refine NP_loc ok mem3 (NP_cons ?_)
  refine ec_read_count G ok hsc gm_read_functor_read_count ?_
  refine NP_cons ?_
  refine EP_slice_str ?_
  refine EP_local ok mem1 ?_
  refine ⟨_, rfl, by rw [hqd]; exact hlen, ?_⟩
  refine PP_some ?_
  refine EP_bin (EP_local ok mem2 (EP_int (op_add_int ?_)))
  refine ⟨_, rfl, PP_none ?_⟩
  rw [hqd, hs2]
  refine NP_nil ?_
  refine CallP.le (c_read_count (k := k) G (by lia) ?_) (by lia)
  refine NP_nil ?_
  refine c_functor (p := ((U.atom (T.text (T.fn n).1)).1, (T.fn n).2)) G ?_ ?_
  · exact Sym.Small.atom (by lia) (by lia)
  exact q
end

noncomputable def readTab {α : Type} (rd : Sym → α → α × Sym) (U : Sym) : List (α × Nat) → List (α × Nat) × Sym
  | [] => ([], U)
  | p :: l => (((rd U p.1).1, p.2) :: (readTab rd (rd U p.1).2 l).1, (readTab rd (rd U p.1).2 l).2)
theorem readTab_snoc {α : Type} (rd : Sym → α → α × Sym) (p : α × Nat) : ∀ (l : List (α × Nat)) (U : Sym),
    readTab rd U (l ++ [p]) = ((readTab rd U l).1 ++ [((rd (readTab rd U l).2 p.1).1, p.2)], (rd (readTab rd U l).2 p.1).2)
  | [], U => rfl
  | q :: l, U => by simp only [List.cons_append, readTab, readTab_snoc rd p l]
theorem readTab_len {α : Type} (rd : Sym → α → α × Sym) : ∀ (l : List (α × Nat)) (U : Sym), (readTab rd U l).1.length = l.length
  | [], U => rfl
  | q :: l, U => by simp [readTab, readTab_len rd l]
theorem readTab_take {α : Type} (rd : Sym → α → α × Sym) : ∀ (l : List (α × Nat)) (i : Nat) (U : Sym), (readTab rd U (l.take i)).1 = (readTab rd U l).1.take i
  | [], i, U => by simp [readTab]
  | q :: l, 0, U => by simp [readTab]
  | q :: l, i + 1, U => by simp [readTab, readTab_take rd l i]
structure TabOk (W : Wd) {α : Type} (kV : α → V) (mkO : List (α × Nat) → O) (mkV : List (α × Nat) → V) : Prop where
  new : ∀ {F : Fm} {ρ : Rho} {H : AHeap} {Q : V → AHeap → Prop} {pos : Pos}, (∀ a, Q (.ref a) ((a, mkO []) :: H)) → EP W F ρ H (eval (.Dict [] [] pos) F.env) Q
  has : ∀ {F : Fm} {k₀ : Nat} {H : AHeap} {Q : V → AHeap → Prop} {a : Addr} {l : List (α × Nat)} {c : α}, F.Ok W k₀ → (a, mkO l) ∈ H → c ∉ l.map (·.1) → Q (.bool false) H → OP2 W F (compareOp .In) (kV c) (.ref a) H Q
  put : ∀ {F : Fm} {k₀ : Nat} {H : AHeap} {P : AHeap → Prop} {a : Addr} {l : List (α × Nat)} {c : α} {n : Nat}, F.Ok W k₀ → l.length ≤ 1000 → c ∉ l.map (·.1) → P ((a, mkO (l ++ [(c, n)])) :: H) → OPS W F (.ref a) (kV c) (.int n) ((a, mkO l) :: H) P
  froz : ∀ {H : AHeap} {Q : V → AHeap → Prop} {a : Addr} {l : List (α × Nat)} {n : Int}, Q (.tup [mkV l, .int n]) H → FrozT Q (.tup [.ref a, .int n]) ((a, mkO l) :: H)
theorem dget_none_of {K X : Type} [DecidableEq K] {k : K} : ∀ {l : List (K × X)}, k ∉ l.map (·.1) → dget l k = none
  | [], _ => rfl
  | p :: l, h => by
    simp only [List.map_cons, List.mem_cons, not_or] at h
    simp only [dget, if_neg (Ne.symm h.1)]
    exact dget_none_of h.2
noncomputable def tabCO (l : List (Cell × Nat)) : O := .tdict ((l.map fun p => (p.1.key, (p.2 : Int))).map fun p => (p.1, V.int p.2))
noncomputable def tabFO (l : List (Nat × Nat)) : O := .idict ((l.map fun p => ((p.1 : Int), (p.2 : Int))).map fun p => (p.1, V.int p.2))
theorem tabC_ok {W : Wd} (G : Gd W) : TabOk W Cell.V tabCO (fun l => (Op.tabC l).V) where
  new := fun q => EP_dict0t q
  has := fun {F k₀ H Q a l c} ok hm hc q => op_in_tdict G.wok ok (k := c.key) rfl hm (by
    rw [dget_none_of (by
      rw [List.map_map, List.map_map]
      intro h
      obtain ⟨p, hp, e⟩ := List.mem_map.mp h
      exact hc (List.mem_map.mpr ⟨p, hp, Cell.key_inj e⟩))]
    exact q)
  put := fun {F k₀ H P a l c n} ok hl hc q => ops_tdict ok (k := c.key) rfl (.head _) (by simp; lia) (by
    rw [dput_new (dget_none_of (by
      rw [List.map_map, List.map_map]
      intro h
      obtain ⟨p, hp, e⟩ := List.mem_map.mp h
      exact hc (List.mem_map.mpr ⟨p, hp, Cell.key_inj e⟩)))]
    exact .here) (by simpa [tabCO] using q)
  froz := fun {H Q a l n} q => ⟨a, _, H, n, rfl, rfl, .inr ⟨_, rfl, q⟩⟩
theorem tabF_ok {W : Wd} (G : Gd W) : TabOk W (fun n : Nat => V.int n) tabFO (fun l => (Op.tabF l).V) where
  new := fun q => EP_dict0i q
  has := fun {F k₀ H Q a l c} ok hm hc q => op_in_idict G.wok (k := (c : Int)) hm (by
    rw [dget_none_of (by
      rw [List.map_map, List.map_map]
      intro h
      obtain ⟨p, hp, e⟩ := List.mem_map.mp h
      exact hc (List.mem_map.mpr ⟨p, hp, Int.ofNat.inj e⟩))]
    exact q)
  put := fun {F k₀ H P a l c n} ok hl hc q => ops_idict (k := (c : Int)) (.head _) (by simp; lia) (by
    rw [dput_new (dget_none_of (by
      rw [List.map_map, List.map_map]
      intro h
      obtain ⟨p, hp, e⟩ := List.mem_map.mp h
      exact hc (List.mem_map.mpr ⟨p, hp, Int.ofNat.inj e⟩)))]
    exact .here) (by simpa [tabFO] using q)
  froz := fun {H Q a l n} q => ⟨a, _, H, n, rfl, rfl, .inl ⟨_, rfl, q⟩⟩
theorem partsV_at {ws : List (List Nat)} {i : Nat} {w : List Nat} (h : ws[i]? = some w) : (partsV ws)[i]? = some (.str (S w)) := by simp [partsV, h]
section
variable {W : Wd} (G : Gd W) {Q : V → AHeap → Prop} {k : Nat} {A : SymA} {T U : Sym} {pre post : AHeap}
include G
noncomputable def rho_rt (A : SymA) (ws : List V) (kc : Nat) (a : Addr) (p : Int) (o o2 o3 : Option V) : Rho := [(Str.ofString "symbols", some (.ref A.x)), (Str.ofString "words", some (.fl ws)), (Str.ofString "place", some (.int p)), (Str.ofString "kind", some (.str ⟨#[kc]⟩)), (Str.ofString "table", some (.ref a)), (Str.ofString "word", o), (Str.ofString "cut", o2), (Str.ofString "key", o3)]
theorem rt_turn {α : Type} {kV : α → V} {mkO : List (α × Nat) → O} {mkV : List (α × Nat) → V} (tk : TabOk W kV mkO mkV) {F : Fm} {ws : List V} {L : List (α × Nat)} {c : α} {fc : List Nat} {n kc p : Nat} {a : Addr} {U' : Sym} {o o2 o3 : Option V} {Q : Fl → AHeap → Rho → Prop}
    (hsc : F.sc = scopeOf (defAt 42)) (ok : F.Ok W (k + 6)) (hkc : kc = 84 ∨ kc = 85) (hcall : ∀ Q : V → AHeap → Prop, Q (kV c) (sy ((a, mkO L) :: pre) A U' post) → CallP W (k + 6) (.ref (if kc = 84 then 363 else 370)) [.ref A.x, .str (S fc)] (sy ((a, mkO L) :: pre) A U post) Q)
    (hf1 : 1 ≤ fc.length) (hf2 : fc.length ≤ 2000) (hn : n < 10 ^ 80) (hp : p < 2 ^ 30) (hw : ws[p]? = some (.str (S (fc ++ 58 :: decL n)))) (hnew : c ∉ L.map (·.1)) (hL : L.length ≤ 1000)
    (q : ∀ o o2 o3, Q .next ((a, mkO (L ++ [(c, n)])) :: sy pre A U' post) (rho_rt A ws kc a (p + 1 : Nat) o o2 o3)) :
    SP W F (rho_rt A ws kc a (p : Nat) o o2 o3) ((a, mkO L) :: sy pre A U post) (execs (forBody ((bodyOf (defAt 42)).drop 3)) F.env) Q := by
  have hnl := decL_len (m := n) (k := 80) (by decide) hn
  have hno : 58 ∉ decL n := fun h => by have := decL_figs _ _ h; lia
  have hrf : Txt.rfind (S (fc ++ 58 :: decL n)) (Str.ofString ":") = (fc.length : Nat) := by rw [colon]; exact rfind_last hno
  have hs1 : Txt.slice (S (fc ++ 58 :: decL n)) none (some ((fc.length : Nat) : Int)) = S fc := by rw [S_slice_to (by simp)]; simp
  have hs2 : Txt.slice (S (fc ++ 58 :: decL n)) (some (((fc.length : Nat) : Int) + 1)) none = S (decL n) := by
    refine (S_slice_from (a := fc.length + 1) (by simp)).trans ?_
    rw [← List.drop_drop]; simp
  have hlen : (S (fc ++ 58 :: decL n)).length ≤ 2 ^ 20 := by rw [S_len]; simp; lia
  have mS : ∀ {p o o2 o3}, (Str.ofString "symbols", some (V.ref A.x)) ∈ rho_rt A ws kc a p o o2 o3 := .head _
  have mW : ∀ {p o o2 o3}, (Str.ofString "words", some (V.fl ws)) ∈ rho_rt A ws kc a p o o2 o3 := .tail _ (.head _)
  have mP : ∀ {p o o2 o3}, (Str.ofString "place", some (V.int p)) ∈ rho_rt A ws kc a p o o2 o3 := .tail _ (.tail _ (.head _))
  have mK : ∀ {p o o2 o3}, (Str.ofString "kind", some (V.str ⟨#[kc]⟩)) ∈ rho_rt A ws kc a p o o2 o3 := .tail _ (.tail _ (.tail _ (.head _)))
  have mT : ∀ {p o o2 o3}, (Str.ofString "table", some (V.ref a)) ∈ rho_rt A ws kc a p o o2 o3 := .tail _ (.tail _ (.tail _ (.tail _ (.head _))))
  have mO : ∀ {p d o2 o3}, (Str.ofString "word", some d) ∈ rho_rt A ws kc a p (some d) o2 o3 := .tail _ (.tail _ (.tail _ (.tail _ (.tail _ (.head _)))))
  have mC : ∀ {p o d o3}, (Str.ofString "cut", some d) ∈ rho_rt A ws kc a p o (some d) o3 := .tail _ (.tail _ (.tail _ (.tail _ (.tail _ (.tail _ (.head _))))))
  have mY : ∀ {p o o2 d}, (Str.ofString "key", some d) ∈ rho_rt A ws kc a p o o2 (some d) := .tail _ (.tail _ (.tail _ (.tail _ (.tail _ (.tail _ (.tail _ (.head _)))))))
  have pP : ∀ {p p' o o2 o3}, Put (Str.ofString "place") (some (V.int p')) (rho_rt A ws kc a p o o2 o3) (rho_rt A ws kc a p' o o2 o3) := .there (.there .here)
  have pO : ∀ {p d o o2 o3}, Put (Str.ofString "word") (some d) (rho_rt A ws kc a p o o2 o3) (rho_rt A ws kc a p (some d) o2 o3) := .there (.there (.there (.there (.there .here))))
  have pC : ∀ {p o d o2 o3}, Put (Str.ofString "cut") (some d) (rho_rt A ws kc a p o o2 o3) (rho_rt A ws kc a p o (some d) o3) := .there (.there (.there (.there (.there (.there .here)))))
  have pY : ∀ {p o o2 d o3}, Put (Str.ofString "key") (some d) (rho_rt A ws kc a p o o2 o3) (rho_rt A ws kc a p o o2 (some d)) := .there (.there (.there (.there (.there (.there (.there .here))))))
  generalize rho_rt A ws kc a = r at *
  generalize hX : S (fc ++ 58 :: decL n) = X at *
  refine SPc (SP_assign ok (EP_sub (EP_local ok mW (EP_local ok mP (op_item_fl hw (by lia) ⟨_, pO, Thn_next ?_⟩)))))
  refine SPc (SP_assign ok (EP_meth (id := "str.rfind") (EP_local ok mO ⟨meth_str PySem.F.slot_str_rfind PySem.F.type_str_rfind, NP_cons (EP_str (NP_nil (op_rfind (hrf ▸ ⟨_, pC, Thn_next ?_⟩))))⟩)))
  refine SP_ifc (TP_ltLI ok mC (br_f (by simp; lia) (SP_nil ?_)))
  have rest : SP W F (r (p : Nat) (some (.str X)) (some (.int (fc.length : Nat))) (some (kV c))) ((a, mkO L) :: sy pre A U' post) (execs ((forBody ((bodyOf (defAt 42)).drop 3)).drop 4) F.env) Q := by
    refine SP_ifc (TP_cmp (EP_local ok mY (EP_local ok mT (tk.has ok (.head _) hnew (ot_bool (br_f (by simp) (SP_nil ?_)))))))
    refine SPc (SP_setitem (ec_read_count G ok hsc gm_read_table_read_count (NP_cons (EP_slice_str (EP_local ok mO ⟨_, rfl, hlen, PP_some (EP_bin (EP_local ok mC (EP_int (op_add_int ⟨_, rfl, PP_none (hs2 ▸ NP_nil (CallP.le (c_read_count (k := k) G (Nat.lt_trans hn (by decide)) (EP_local ok mT (EP_local ok mY (tk.put ok hL hnew (Thn_next ?_))))) (by lia)))⟩))))⟩)))))
    exact SPc (SP_aug ok mP (EP_int (op_iadd_int ⟨_, pP, Thn_next (SP_nil (q _ _ _))⟩)))
  rcases hkc with rfl | rfl
  · refine SP_eqT ok mK (by decide +kernel) (SPc (SP_assign ok (ec_read_constant G ok hsc gm_read_table_read_constant (NP_loc ok mS (NP_cons (EP_slice_str (EP_local ok mO ⟨_, rfl, hlen, PP_none (PP_some (EP_local ok mC ⟨_, rfl, hs1 ▸ NP_nil (hcall _ ⟨_, pY, Thn_next (SP_nil rest)⟩)⟩))⟩)))))))
  · refine SP_eqF ok mK (by decide +kernel) (SPc (SP_assign ok (ec_read_functor G ok hsc gm_read_table_read_functor (NP_loc ok mS (NP_cons (EP_slice_str (EP_local ok mO ⟨_, rfl, hlen, PP_none (PP_some (EP_local ok mC ⟨_, rfl, hs1 ▸ NP_nil (hcall _ ⟨_, pY, Thn_next (SP_nil rest)⟩)⟩))⟩)))))))
theorem c_read_table {α : Type} {kV : α → V} {mkO : List (α × Nat) → O} {mkV : List (α × Nat) → V} (tk : TabOk W kV mkO mkV) {f : α → List Nat} {rd : Sym → α → α × Sym} {kc : Nat} {l : List (α × Nat)} {ws : List (List Nat)} {p : Nat}
    (hkc : kc = 84 ∨ kc = 85) (hkey : ∀ c ∈ l.map (·.1), (1 ≤ (f c).length ∧ (f c).length ≤ 2000) ∧ ∀ (pre : AHeap) (U : Sym) (Q : V → AHeap → Prop), U.Room 1 → Q (kV (rd U c).1) (sy pre A (rd U c).2 post) → CallP W (k + 6) (.ref (if kc = 84 then 363 else 370)) [.ref A.x, .str (S (f c))] (sy pre A U post) Q)
    (hroom : ∀ i, i < l.length → (readTab rd U (l.take i)).2.Room 1) (hl : l.length ≤ 1000) (hnum : ∀ q ∈ l, q.2 < 10 ^ 80) (hnd : ((readTab rd U l).1.map (·.1)).Nodup)
    (hws : ws.length ≤ 2 ^ 19) (hat : ∀ (i : Nat) (w : List Nat), (tabL f l)[i]? = some w → ws[p + i]? = some w)
    (q : Q (.tup [mkV (readTab rd U l).1, .int ((p + l.length + 2 : Nat) : Int)]) (sy pre A (readTab rd U l).2 post)) :
    CallP W (k + 7) (.ref 384) [.ref A.x, .fl (partsV ws), .int (p : Nat), .str ⟨#[kc]⟩] (sy pre A U post) Q := by
  have hplen : (partsV ws).length ≤ 2 ^ 20 := by rw [partsV_len]; lia
  have hlast : p + l.length + 1 < ws.length := by
    have := hat (l.length + 1) [125] (by simp [tabL])
    exact (List.getElem?_eq_some_iff.mp this).1
  refine CallP.frozT G.wok (en_read_table G fun F hsc ok => SP_ifc (TP_cmp (EP_sub (EP_local ok (.tail _ (.head _)) (EP_local ok (.tail _ (.tail _ (.head _))) (op_item_fl (d := .str (S [123])) (partsV_at (hat 0 [123] rfl)) (by lia) (EP_str (op_ne_str (ot_bool (br_f (by rw [opb]; simp) (SP_nil ?_)))))))))))
  refine SPc (SP_assign ok (tk.new fun a => StI4 (Thn_next (SPc (SP_aug ok (.tail _ (.tail _ (.head _))) (EP_int (op_iadd_int (StI2 (Thn_next (SPc ?_))))))))))
  obtain ⟨J, hJ⟩ : ∃ J : Nat → AHeap → Rho → Prop, J = fun n H₁ ρ₁ => ∃ i o o2 o3, i ≤ l.length ∧ n = l.length - i ∧ H₁ = (a, mkO (readTab rd U (l.take i)).1) :: sy pre A (readTab rd U (l.take i)).2 post ∧ ρ₁ = rho_rt A (partsV ws) kc a ((p + 1 + i : Nat) : Int) o o2 o3 := ⟨_, rfl⟩
  refine SPwhile J l.length (by rw [hJ]; exact ⟨0, none, none, none, Nat.zero_le _, rfl, rfl, rfl⟩) ?_
  intro n H₁ ρ₁ hj
  rw [hJ] at hj
  obtain ⟨i, o, o2, o3, hi, rfl, rfl, rfl⟩ := hj
  refine TP_boolop (TP_and_cons (TP_cmp (EP_local ok.inn (.tail _ (.tail _ (.head _))) (ec_len G ok.inn hsc gm_read_table_len (NP_loc ok.inn (.tail _ (.head _)) (NP_nil (op_len_fl hplen (op_lt_int (ot_bool (br_t (by rw [partsV_len, decide_eq_true (by lia)]; exact Bool.noConfusion) ?_))))))))))
  by_cases hil : i < l.length
  · obtain ⟨c, hc⟩ : ∃ c, l[i]? = some c := ⟨_, List.getElem?_eq_getElem hil⟩
    have hcm := List.mem_of_getElem? hc
    obtain ⟨⟨hf1, hf2⟩, hcall⟩ := hkey c.1 (List.mem_map_of_mem hcm)
    have hw : ws[p + 1 + i]? = some (f c.1 ++ 58 :: decL c.2) := by
      have := hat (i + 1) (f c.1 ++ 58 :: decL c.2) (by
        simp [tabL, hc, numL_nat]
        rw [List.getElem?_append_left (by simpa using hil)]
        simp [hc])
      rw [show p + 1 + i = p + (i + 1) from by lia]; exact this
    have htk : l.take (i + 1) = l.take i ++ [c] := by rw [List.take_add_one, hc]; rfl
    have hsn := readTab_snoc rd c (l.take i) U
    rw [← htk] at hsn
    have hnew : (rd (readTab rd U (l.take i)).2 c.1).1 ∉ (readTab rd U (l.take i)).1.map (·.1) := by
      have h1 := readTab_take rd l (i + 1) U
      rw [hsn] at h1
      have h2 := hnd.sublist ((List.take_sublist (i + 1) (readTab rd U l).1).map _)
      rw [← h1, List.map_append, List.nodup_append] at h2
      intro hm
      exact h2.2.2 _ hm _ (.head _) rfl
    have hne : (S (f c.1 ++ 58 :: decL c.2) != Str.ofString "}") = true := by
      rw [clb]
      show (!(S _ == S _)) = true
      rw [S_beq]
      simp
      intro h
      have := congrArg List.length h
      simp at this
      lia
    refine TP_and_cons (TP_cmp (EP_sub (EP_local ok.inn (.tail _ (.head _)) (EP_local ok.inn (.tail _ (.tail _ (.head _))) (op_item_fl (partsV_at hw) (by lia) (EP_str (op_ne_str (ot_bool (br_t (by rw [hne]; exact Bool.noConfusion) (TP_and_nil (br_t (by decide) ?_)))))))))))
    refine rt_turn (k := k) (fc := f c.1) (n := c.2) (c := (rd (readTab rd U (l.take i)).2 c.1).1) G tk hsc ok.inn hkc (hcall ((a, mkO _) :: pre) _ · (hroom i hil)) hf1 hf2 (hnum _ hcm) (by lia) (partsV_at hw) hnew (by rw [readTab_len, List.length_take]; lia) fun o o2 o3 => LpQ_next ⟨l.length - (i + 1), by lia, ?_⟩
    rw [hJ]
    exact ⟨i + 1, o, o2, o3, hil, rfl, by rw [hsn], rfl⟩
  · obtain rfl : i = l.length := by lia
    have hw : ws[p + 1 + l.length]? = some [125] := by
      have := hat (l.length + 1) [125] (by simp [tabL])
      rw [show p + 1 + l.length = p + (l.length + 1) from by lia]; exact this
    refine TP_and_cons (TP_cmp (EP_sub (EP_local ok.inn (.tail _ (.head _)) (EP_local ok.inn (.tail _ (.tail _ (.head _))) (op_item_fl (d := .str (S [125])) (partsV_at hw) (by lia) (EP_str (op_ne_str (ot_bool (br_f (by rw [clb]; simp) (br_f (by decide) (Thn_next ?_)))))))))))
    rw [List.take_length]
    refine SP_ifc (TP_cmp (EP_local ok (.tail _ (.tail _ (.head _))) (ec_len G ok hsc gm_read_table_len (NP_loc ok (.tail _ (.head _)) (NP_nil (op_len_fl hplen (op_eq_int (ot_bool (br_f (by rw [partsV_len]; simp; lia) (SP_nil ?_))))))))))
    refine SPc (SP_return (EP_tuple (NP_loc ok (.tail _ (.tail _ (.tail _ (.tail _ (.head _))))) (NP_cons (EP_bin (EP_local ok (.tail _ (.tail _ (.head _))) (EP_int (op_add_int (NP_nil ⟨by simp, ?_⟩)))))))))
    rw [show ((p + 1 + l.length : Nat) : Int) + 1 = ((p + l.length + 2 : Nat) : Int) by lia]
    exact tk.froz q
end

noncomputable def readOp (T U : Sym) (k : Nat) : Op → Op × Sym
  | .reg y n => (.reg y n, U)
  | .cell c => (.cell (readCell T U c).1, (readCell T U c).2)
  | .num n => if k = 70 then (.num (readFn T U n).1, (readFn T U n).2) else (.num n, U)
  | .tabC l => (.tabC (readTab (readCell T) U l).1, (readTab (readCell T) U l).2)
  | .tabF l => (.tabF (readTab (readFn T) U l).1, (readTab (readFn T) U l).2)
theorem Sym.Room.le {U : Sym} {n m : Nat} (h : U.Room m) (hn : n ≤ m) : U.Room n := ⟨by have := h.texts; lia, by have := h.fns; lia⟩
theorem atom_room {U : Sym} {x : List Nat} {n : Nat} (h : U.Room (n + 1)) : (U.atom x).2.Room n := by
  have h1 := h.texts
  have h2 := h.fns
  unfold Sym.atom
  split
  · show U.Room n
    exact h.le (by lia)
  · exact ⟨by simp; lia, by show U.fns.length + n ≤ 90000; lia⟩
theorem functor_room {U : Sym} {p : Nat × Nat} {n : Nat} (h1 : U.texts.length + n ≤ 90000) (h2 : U.fns.length + (n + 1) ≤ 90000) : (U.functor p).2.Room n := by
  unfold Sym.functor
  split
  · show U.Room n
    exact ⟨by lia, by lia⟩
  · exact ⟨by show U.texts.length + n ≤ 90000; lia, by simp; lia⟩
theorem atom_fns (U : Sym) (x : List Nat) : (U.atom x).2.fns = U.fns := by unfold Sym.atom; split <;> rfl
theorem readCell_room {T U : Sym} {c : Cell} {n : Nat} (h : U.Room (n + 1)) : (readCell T U c).2.Room n := by
  cases c with
  | int i => exact h.le (by lia)
  | con m => exact atom_room h
theorem readFn_room {T U : Sym} {m n : Nat} (h : U.Room (n + 1)) : (readFn T U m).2.Room n := by
  have h1 := (atom_room (x := T.text (T.fn m).1) h).texts
  exact functor_room h1 (by rw [atom_fns]; exact h.fns)
theorem readTab_room {α : Type} {rd : Sym → α → α × Sym} (hrd : ∀ {U : Sym} {c : α} {n : Nat}, U.Room (n + 1) → (rd U c).2.Room n) : ∀ {l : List (α × Nat)} {U : Sym} {n : Nat}, U.Room (n + l.length) → (readTab rd U l).2.Room n
  | [], U, n, h => h
  | p :: l, U, n, h => readTab_room hrd (l := l) (hrd (n := n + l.length) h)
theorem readOp_room {T U : Sym} {k : Nat} {o : Op} {n : Nat} (h : U.Room (n + (wordsOp T k o).length)) : (readOp T U k o).2.Room n := by
  cases o with
  | reg y m => exact h.le (by lia)
  | cell c => exact readCell_room h
  | num m =>
    by_cases e : k = 70
    · simp only [readOp, wordsOp, if_pos e] at h ⊢; exact readFn_room h
    · simp only [readOp, wordsOp, if_neg e] at h ⊢; exact h.le (by lia)
  | tabC l => exact readTab_room (fun h => readCell_room h) (h.le (by simp [wordsOp, tabL]; lia))
  | tabF l => exact readTab_room (fun h => readFn_room h) (h.le (by simp [wordsOp, tabL]; lia))
section
variable {W : Wd} (G : Gd W) {Q : V → AHeap → Prop} {k : Nat} {A : SymA} {T U : Sym} {pre post : AHeap}
include G
theorem c_read_operand {c : Nat} {o : Op} {w : List Nat} (g : T.Good) (h : OpOk T c o) (h84 : c ≠ 84) (h85 : c ≠ 85) (hw : wordsOp T c o = [w]) (r : U.Room 1) (q : Q (readOp T U c o).1.V (sy pre A (readOp T U c o).2 post)) :
    CallP W (k + 7) (.ref 391) [.ref A.x, .str (S w), .str ⟨#[c]⟩] (sy pre A U post) Q := by
  have h9 : (10 : Nat) ^ 80 < 10 ^ 90 := by decide
  refine en_read_operand G fun F hsc ok => ?_
  obtain ⟨ρ, hρ⟩ : ∃ ρ, ρ = [(Str.ofString "symbols", some (V.ref A.x)), (Str.ofString "word", some (V.str (S w))), (Str.ofString "kind", some (V.str ⟨#[c]⟩))] := ⟨_, rfl⟩
  have mS : (Str.ofString "symbols", some (V.ref A.x)) ∈ ρ := hρ ▸ .head _
  have mW : (Str.ofString "word", some (V.str (S w))) ∈ ρ := hρ ▸ .tail _ (.head _)
  have mK : (Str.ofString "kind", some (V.str ⟨#[c]⟩)) ∈ ρ := hρ ▸ .tail _ (.tail _ (.head _))
  rw [← hρ]
  clear hρ
  have reg : ∀ y n, n < 10 ^ 80 → o = .reg y n → (c = 82 ∨ c = 88 ∨ c = 89) → SP W F ρ (sy pre A U post) (execs (bodyOf (defAt 43)) F.env) (bodyQ Q) := by
    rintro y n h2 rfl hc
    obtain rfl := List.cons.inj hw |>.1
    exact SP_or3T ok mK (by rcases hc with rfl | rfl | rfl <;> decide +kernel) (SPc (SP_return (ec_read_register G ok hsc gm_read_operand_read_register (NP_loc ok mW (NP_nil (CallP.le (c_read_register (k := k) G h2 q) (by lia)))))))
  have num : ∀ n, n < 10 ^ 80 → o = .num n → (c = 78 ∨ c = 76) → SP W F ρ (sy pre A U post) (execs (bodyOf (defAt 43)) F.env) (bodyQ Q) := by
    rintro n h1 rfl hc
    have e : wordsOp T c (.num n) = [decL n] := (if_neg (by lia)).trans (by rw [numL_nat])
    rw [e] at hw
    obtain rfl := List.cons.inj hw |>.1
    have e : readOp T U c (.num n) = (.num n, U) := if_neg (by lia)
    rw [e] at q
    exact SP_or3F ok mK (by rcases hc with rfl | rfl <;> decide +kernel) (SP_nil (SP_eqF0 ok mK (by rcases hc with rfl | rfl <;> decide +kernel) (SP_eqF0 ok mK (by rcases hc with rfl | rfl <;> decide +kernel) (SPc (SP_return (ec_read_count G ok hsc gm_read_operand_read_count (NP_loc ok mW (NP_nil (CallP.le (c_read_count (k := k) G (by lia) q) (by lia))))))))))
  cases h with
  | R h1 h2 => exact reg _ _ h2 rfl (.inl rfl)
  | X h1 h2 => exact reg _ _ h2 rfl (.inr (.inl rfl))
  | Y h1 h2 => exact reg _ _ h2 rfl (.inr (.inr rfl))
  | C h1 =>
    obtain rfl := List.cons.inj hw |>.1
    exact SP_or3F ok mK (by decide +kernel) (SP_nil (SP_eqT ok mK (by decide +kernel) (SPc (SP_return (ec_read_constant G ok hsc gm_read_operand_read_constant (NP_loc ok mS (NP_loc ok mW (NP_nil (c_read_constant (k := k) G g h1 r q)))))))))
  | F h1 =>
    obtain rfl := List.cons.inj hw |>.1
    exact SP_or3F ok mK (by decide +kernel) (SP_nil (SP_eqF0 ok mK (by decide +kernel) (SP_eqT ok mK (by decide +kernel) (SPc (SP_return (ec_read_functor G ok hsc gm_read_operand_read_functor (NP_loc ok mS (NP_loc ok mW (NP_nil (c_read_functor (k := k) G g h1 r q))))))))))
  | N h1 => exact num _ h1 rfl (.inl rfl)
  | L h1 => exact num _ h1 rfl (.inr rfl)
  | T _ _ _ => exact absurd rfl h84
  | U _ _ _ => exact absurd rfl h85
end

noncomputable def readL {α : Type} (rd : Sym → α → α × Sym) (U : Sym) : List α → List α × Sym
  | [] => ([], U)
  | p :: l => ((rd U p).1 :: (readL rd (rd U p).2 l).1, (readL rd (rd U p).2 l).2)
theorem readL_snoc {α : Type} (rd : Sym → α → α × Sym) (p : α) : ∀ (l : List α) (U : Sym),
    readL rd U (l ++ [p]) = ((readL rd U l).1 ++ [(rd (readL rd U l).2 p).1], (rd (readL rd U l).2 p).2)
  | [], U => rfl
  | q :: l, U => by simp only [List.cons_append, readL, readL_snoc rd p l]
theorem readL_len {α : Type} (rd : Sym → α → α × Sym) : ∀ (l : List α) (U : Sym), (readL rd U l).1.length = l.length
  | [], U => rfl
  | q :: l, U => by simp [readL, readL_len rd l]
noncomputable def readPair (T U : Sym) (p : Nat × Op) : (Nat × Op) × Sym := ((p.1, (readOp T U p.1 p.2).1), (readOp T U p.1 p.2).2)
noncomputable abbrev readOps (T U : Sym) (l : List (Nat × Op)) : List (Nat × Op) × Sym := readL (readPair T) U l
noncomputable def readIns (T U : Sym) (i : Ins) : Ins × Sym := (⟨i.name, (readOps T U i.ops).1⟩, (readOps T U i.ops).2)
theorem wordsOps_app (T : Sym) : ∀ (l m : List (Nat × Op)), wordsOps T (l ++ m) = wordsOps T l ++ wordsOps T m
  | [], m => rfl
  | p :: l, m => by simp [wordsOps, wordsOps_app T l m]
theorem wordsOp_pos {T : Sym} {c : Nat} {o : Op} (h : OpOk T c o) : 1 ≤ (wordsOp T c o).length := by
  cases h <;> simp [wordsOp, tabL]
theorem words_split {T : Sym} {i : Ins} {j : Nat} {p : Nat × Op} (h : i.ops[j]? = some p) : wordsOps T i.ops = wordsOps T (i.ops.take j) ++ (wordsOp T p.1 p.2 ++ wordsOps T (i.ops.drop (j + 1))) := by
  have hj := (List.getElem?_eq_some_iff.mp h).1
  have : i.ops = i.ops.take j ++ (p :: i.ops.drop (j + 1)) := by
    conv => lhs; rw [← List.take_append_drop j i.ops]
    congr 1
    rw [List.drop_eq_getElem_cons hj]
    congr 1
    exact (List.getElem?_eq_some_iff.mp h).2
  conv => lhs; rw [this]
  rw [wordsOps_app]; rfl
theorem words_at {T : Sym} {i : Ins} {j : Nat} {p : Nat × Op} (h : i.ops[j]? = some p) {n : Nat} {w : List Nat} (hw : (wordsOp T p.1 p.2)[n]? = some w) : (i.words T)[1 + (wordsOps T (i.ops.take j)).length + n]? = some w := by
  have hn := (List.getElem?_eq_some_iff.mp hw).1
  show (i.nm :: wordsOps T i.ops)[_]? = _
  rw [show 1 + (wordsOps T (i.ops.take j)).length + n = ((wordsOps T (i.ops.take j)).length + n) + 1 from by lia, List.getElem?_cons_succ, words_split h, List.getElem?_append_right (by lia), Nat.add_sub_cancel_left, List.getElem?_append_left hn]
  exact hw
theorem readOps_room {T : Sym} : ∀ {l : List (Nat × Op)} {U : Sym} {n : Nat}, U.Room (n + (wordsOps T l).length) → (readOps T U l).2.Room n
  | [], U, n, h => h
  | p :: l, U, n, h => readOps_room (l := l) (readOp_room (n := n + (wordsOps T l).length) (h.le (by simp [wordsOps]; lia)))
noncomputable def cellsOk (T U : Sym) (l : List (Cell × Nat)) : Prop := ((readTab (readCell T) U l).1.map (·.1)).Nodup
noncomputable def fnsOk (T U : Sym) (l : List (Nat × Nat)) : Prop := ((readTab (readFn T) U l).1.map (·.1)).Nodup
noncomputable def tabOkAt (T U : Sym) : Op → Prop
  | .tabC l => cellsOk T U l
  | .tabF l => fnsOk T U l
  | _ => True
section
variable {W : Wd} (G : Gd W) {Q : V → AHeap → Prop} {k : Nat} {A : SymA} {T U : Sym} {pre post : AHeap}
include G
theorem c_read_tab {c : Nat} {o : Op} {ws : List (List Nat)} {p : Nat} (g : T.Good) (h : OpOk T c o) (hc : c = 84 ∨ c = 85) (r : U.Room (wordsOp T c o).length) (hnd : tabOkAt T U o) (hws : ws.length ≤ 2 ^ 19) (hat : ∀ (i : Nat) (w : List Nat), (wordsOp T c o)[i]? = some w → ws[p + i]? = some w)
    (q : Q (.tup [(readOp T U c o).1.V, .int ((p + (wordsOp T c o).length : Nat) : Int)]) (sy pre A (readOp T U c o).2 post)) :
    CallP W (k + 7) (.ref 384) [.ref A.x, .fl (partsV ws), .int (p : Nat), .str ⟨#[c]⟩] (sy pre A U post) Q := by
  cases h with
  | @T l h1 h2 h3 =>
    have hlen : (wordsOp T 84 (.tabC l)).length = l.length + 2 := by simp [wordsOp, tabL]
    rw [hlen] at q r
    refine c_read_table (k := k) G (tabC_ok G) (f := cellL T) (rd := readCell T) (.inl rfl) (fun c hcm => ?_) (fun i hi => ?_) h2 (fun q hq => (h3 q hq).2) hnd hws hat (by rw [Nat.add_assoc]; exact q)
    · obtain ⟨z, hz, rfl⟩ := List.mem_map.mp hcm
      have hin := (h3 z hz).1
      refine ⟨⟨?_, by have := cellL_len g hin; lia⟩, fun pre U Q r q => c_read_constant (k := k) G g hin r q⟩
      cases hcz : z.1 with
      | int i =>
        by_cases hi : i < 0
        · show 1 ≤ (numL i).length; rw [numL_neg hi]; simp
        · show 1 ≤ (numL i).length; rw [numL_pos (by lia)]; exact decL_pos _
      | con n =>
        obtain ⟨d, rr, hd, _⟩ := quoteL_first (T.text n)
        show 1 ≤ (quoteL _).length
        rw [hd]; simp
    · exact readTab_room (fun h => readCell_room h) (r.le (by simp; lia))
  | @U l h1 h2 h3 =>
    have hlen : (wordsOp T 85 (.tabF l)).length = l.length + 2 := by simp [wordsOp, tabL]
    rw [hlen] at q r
    refine c_read_table (k := k) G (tabF_ok G) (f := fnL T) (rd := readFn T) (.inr rfl) (fun c hcm => ?_) (fun i hi => ?_) h2 (fun q hq => (h3 q hq).2) hnd hws hat (by rw [Nat.add_assoc]; exact q)
    · obtain ⟨z, hz, rfl⟩ := List.mem_map.mp hcm
      have hin := (h3 z hz).1
      refine ⟨⟨by simp [fnL]; lia, by have := fnL_len g hin; lia⟩, fun pre U Q r q => c_read_functor (k := k) G g hin r q⟩
    · exact readTab_room (fun h => readFn_room h) (r.le (by simp; lia))
  | _ => lia
noncomputable def rho_ri (A : SymA) (ws : List V) (a : Addr) (p : Int) (kd pr : Option V) : Rho := [(Str.ofString "symbols", some (.ref A.x)), (Str.ofString "words", some (.fl ws)), (Str.ofString "table", some (.sd shapesL)), (Str.ofString "parts", some (.ref a)), (Str.ofString "place", some (.int p)), (Str.ofString "kind", kd), (Str.ofString "pair", pr), (Str.ofString "ins", none)]
omit G in
theorem kind_ne {c : Nat} (h : ¬ (c = 84 ∨ c = 85)) : ((⟨#[c]⟩ == Str.ofString "T") || ((⟨#[c]⟩ : Str) == Str.ofString "U")) = false := by
  rw [show Str.ofString "T" = S [84] from by decide +kernel, show Str.ofString "U" = S [85] from by decide +kernel, S_one, S_beq, S_beq]
  simp; exact ⟨fun e => h (.inl e), fun e => h (.inr e)⟩
theorem ri_step {F : Fm} {ws l : List V} {a : Addr} {p n c : Nat} {v : V} {U' : Sym} {pr : Option V} {Q : Fl → AHeap → Rho → Prop} (hsc : F.sc = scopeOf (defAt 44)) (ok : F.Ok W (k + 7)) (hp : p < ws.length) (hz : ws.length ≤ 2 ^ 20) (hl : l.length ≤ 2 ^ 20)
    (h84 : (c = 84 ∨ c = 85) → ∀ Q : V → AHeap → Prop, Q (.tup [v, .int (p + n : Nat)]) (sy ((a, .list l) :: pre) A U' post) → CallP W (k + 7) (.ref 384) [.ref A.x, .fl ws, .int (p : Nat), .str ⟨#[c]⟩] (sy ((a, .list l) :: pre) A U post) Q)
    (h1 : ¬ (c = 84 ∨ c = 85) → n = 1 ∧ ∃ w, ws[p]? = some (.str w) ∧ ∀ Q : V → AHeap → Prop, Q v (sy ((a, .list l) :: pre) A U' post) → CallP W (k + 7) (.ref 391) [.ref A.x, .str w, .str ⟨#[c]⟩] (sy ((a, .list l) :: pre) A U post) Q)
    (q : ∀ pr, Q .next ((a, .list (l ++ [v])) :: sy pre A U' post) (rho_ri A ws a (p + n : Nat) (some (.str ⟨#[c]⟩)) pr)) :
    SP W F (rho_ri A ws a (p : Nat) (some (.str ⟨#[c]⟩)) pr) ((a, .list l) :: sy pre A U post) (execs (forBody ((bodyOf (defAt 44)).drop 3)) F.env) Q := by
  have mS : ∀ {p kd pr}, (Str.ofString "symbols", some (V.ref A.x)) ∈ rho_ri A ws a p kd pr := .head _
  have mW : ∀ {p kd pr}, (Str.ofString "words", some (V.fl ws)) ∈ rho_ri A ws a p kd pr := .tail _ (.head _)
  have mA : ∀ {p kd pr}, (Str.ofString "parts", some (V.ref a)) ∈ rho_ri A ws a p kd pr := .tail _ (.tail _ (.tail _ (.head _)))
  have mP : ∀ {p kd pr}, (Str.ofString "place", some (V.int p)) ∈ rho_ri A ws a p kd pr := .tail _ (.tail _ (.tail _ (.tail _ (.head _))))
  have mK : ∀ {p d pr}, (Str.ofString "kind", some d) ∈ rho_ri A ws a p (some d) pr := .tail _ (.tail _ (.tail _ (.tail _ (.tail _ (.head _)))))
  have mR : ∀ {p kd d}, (Str.ofString "pair", some d) ∈ rho_ri A ws a p kd (some d) := .tail _ (.tail _ (.tail _ (.tail _ (.tail _ (.tail _ (.head _))))))
  have pP : ∀ {p p' kd pr}, Put (Str.ofString "place") (some (V.int p')) (rho_ri A ws a p kd pr) (rho_ri A ws a p' kd pr) := .there (.there (.there (.there .here)))
  have pR : ∀ {p kd d pr}, Put (Str.ofString "pair") (some d) (rho_ri A ws a p kd pr) (rho_ri A ws a p kd (some d)) := .there (.there (.there (.there (.there (.there .here)))))
  generalize rho_ri A ws a = r at *
  refine SP_ifc (TP_cmp (EP_local ok mP (ec_len G ok hsc gm_read_instruction_len (NP_loc ok mW (NP_nil (op_len_fl hz (op_ge_int (ot_bool (br_f (by simp; lia) (SP_nil ?_))))))))))
  by_cases hc : c = 84 ∨ c = 85
  · refine SP_or2T ok mK (by rcases hc with rfl | rfl <;> decide +kernel) (SPc (SP_assign ok (ec_read_table G ok hsc gm_read_instruction_read_table (NP_loc ok mS (NP_loc ok mW (NP_loc ok mP (NP_loc ok mK (NP_nil (h84 hc _ ⟨_, pR, ?_⟩)))))))))
    refine Thn_next (SP_app ok mA (.head _) (EP_sub (EP_local ok mR (EP_int (op_item_tup (n := 0) rfl (by lia) ⟨_, .head _, hl, _, .here, ?_⟩)))))
    exact SPc (SP_assign ok (EP_sub (EP_local ok mR (EP_int (op_item_tup (n := 1) rfl (by lia) ⟨_, pP, Thn_next (SP_nil (SP_nil (q _)))⟩)))))
  · obtain ⟨rfl, w, hw, h⟩ := h1 hc
    refine SP_or2F ok mK (kind_ne hc) (SP_app ok mA (.head _) (ec_read_operand G ok hsc gm_read_instruction_read_operand (NP_loc ok mS (NP_cons (EP_sub (EP_local ok mW (EP_local ok mP (op_item_fl hw (by lia) (NP_loc ok mK (NP_nil (h _ ⟨_, .head _, hl, _, .here, ?_⟩)))))))))))
    exact SPc (SP_aug ok mP (EP_int (op_iadd_int ⟨_, pP, Thn_next (SP_nil (SP_nil (q _)))⟩)))
theorem c_read_instruction {i : Ins} (g : T.Good) (gi : i.Good T) (r : U.Room (wordsOps T i.ops).length) (hnd : ∀ j p, i.ops[j]? = some p → tabOkAt T (readOps T U (i.ops.take j)).2 p.2) (hrow : RowOk shapesL i.name ((readIns T U i).1.ops.map (·.2)))
    (q : Q (readIns T U i).1.V (sy pre A (readIns T U i).2 post)) : CallP W (k + 8) (.ref 398) [.ref A.x, .fl (partsV (i.words T)), .sd shapesL] (sy pre A U post) Q := by
  have hfew := gi.few
  have hwl : (i.words T).length ≤ 2 ^ 18 := by have := gi.sum; lia
  have hplen : (partsV (i.words T)).length ≤ 2 ^ 20 := by rw [partsV_len]; lia
  have h0 : (partsV (i.words T))[0]? = some (.str i.name) := by rw [i.name_S]; exact partsV_at rfl
  refine CallP.drop (en_read_instruction G fun F hsc ok => SP_ifc (TP_cmp (EP_sub (EP_local ok (.tail _ (.head _)) (EP_int (op_item_fl (n := 0) h0 (by lia) (EP_local ok (.tail _ (.tail _ (.head _))) (op_notIn_sd (ot_bool (br_f (by rw [gi.shape]; simp) (SP_nil ?_)))))))))))
  refine SPc (SP_assign ok (EP_list (NP_cons (EP_sub (EP_local ok (.tail _ (.head _)) (EP_int (op_item_fl (n := 0) h0 (by lia) (NP_nil ⟨by simp, fun a => StI3 (Thn_next (SPc (SP_assign ok (EP_int (StI4 (Thn_next (SPc ?_)))))))⟩))))))))
  obtain ⟨J, hJ⟩ : ∃ J : Nat → AHeap → Rho → Prop, J = fun j H' ρ' => H' = (a, O.list (.str i.name :: (readOps T U (i.ops.take j)).1.map fun p => p.2.V)) :: sy pre A (readOps T U (i.ops.take j)).2 post ∧
    ∃ o o2, ρ' = rho_ri A (partsV (i.words T)) a (1 + (wordsOps T (i.ops.take j)).length : Nat) o o2 := ⟨_, rfl⟩
  refine SPfor ok J (signs (kindsS i)) ?_ ?_ ?_
  · refine EP_sub (EP_local ok (.tail _ (.tail _ (.head _))) (EP_sub (EP_local ok (.tail _ (.head _)) (EP_int (op_item_fl (n := 0) h0 (by lia) (op_item_sd gi.shape ⟨ItP_str ok.room.handled, ?_⟩))))))
    rw [hJ]
    exact ⟨rfl, _, _, rfl⟩
  · intro j d H₁ ρ₁ hd hj
    rw [hJ] at hj
    obtain ⟨rfl, o, o2, rfl⟩ := hj
    obtain ⟨c', hc', rfl⟩ := signs_get hd
    rw [kindsS, S_toList, List.getElem?_map] at hc'
    obtain ⟨⟨c, op⟩, hp, ec⟩ := Option.map_eq_some_iff.mp hc'
    obtain rfl : c = c' := ec
    have hpo : OpOk T c op := gi.ok _ (List.mem_of_getElem? hp)
    have hpos := wordsOp_pos hpo
    have hspl : wordsOps T i.ops = wordsOps T (i.ops.take j) ++ (wordsOp T c op ++ wordsOps T (i.ops.drop (j + 1))) := words_split hp
    have htk : i.ops.take (j + 1) = i.ops.take j ++ [(c, op)] := by rw [List.take_add_one, hp]; rfl
    have hsn := readL_snoc (readPair T) (c, op) (i.ops.take j) U
    rw [← htk] at hsn
    have hw1 : wordsOps T (i.ops.take (j + 1)) = wordsOps T (i.ops.take j) ++ wordsOp T c op := by rw [htk]; exact wordsOps_snoc T (c, op) _
    have hlt : 1 + (wordsOps T (i.ops.take j)).length < (partsV (i.words T)).length := by
      rw [partsV_len]
      show _ < (i.nm :: wordsOps T i.ops).length
      rw [hspl]; simp only [List.length_cons, List.length_append] at *; lia
    have hroom : (readOps T U (i.ops.take j)).2.Room (wordsOp T c op).length := readOps_room (r.le (by rw [hspl]; simp only [List.length_append]; lia))
    have hll : ((.str i.name :: (readOps T U (i.ops.take j)).1.map fun p => p.2.V) : List V).length ≤ 2 ^ 20 := by
      simp only [List.length_cons, List.length_map, readL_len, List.length_take]; lia
    have hnew : ((.str i.name :: (readOps T U (i.ops.take j)).1.map fun p => p.2.V) ++ [(readOp T (readOps T U (i.ops.take j)).2 c op).1.V] : List V) = .str i.name :: (readOps T U (i.ops.take (j + 1))).1.map fun p => p.2.V := by
      show _ = V.str i.name :: List.map _ (readL (readPair T) U (i.ops.take (j + 1))).1
      rw [hsn]; simp [readPair]
    have hU : (readOps T U (i.ops.take (j + 1))).2 = (readOp T (readOps T U (i.ops.take j)).2 c op).2 := congrArg (·.2) hsn
    refine ⟨rho_ri A (partsV (i.words T)) a (1 + (wordsOps T (i.ops.take j)).length : Nat) (some (.str ⟨#[c]⟩)) o2, .there (.there (.there (.there (.there .here)))), ?_⟩
    refine ri_step (k := k) (n := (wordsOp T c op).length) (v := (readOp T (readOps T U (i.ops.take j)).2 c op).1.V) (U' := (readOp T (readOps T U (i.ops.take j)).2 c op).2) G hsc ok.inn hlt hplen hll
      (fun hc Q q => c_read_tab (k := k) (pre := (a, O.list _) :: pre) G g hpo hc hroom (hnd j _ hp) (by lia) (fun n w hw => words_at hp hw) q) (fun hc => ?_) fun o2 => LpQ_next ?_
    · obtain ⟨w, hw⟩ : ∃ w, wordsOp T c op = [w] := by
        cases hpo with
        | T => exact absurd (.inl rfl) hc
        | U => exact absurd (.inr rfl) hc
        | F => exact ⟨_, rfl⟩
        | N => exact ⟨_, rfl⟩
        | L => exact ⟨_, rfl⟩
        | _ => exact ⟨_, rfl⟩
      rw [hw] at hroom ⊢
      exact ⟨rfl, S w, partsV_at (words_at (n := 0) hp (by rw [hw]; rfl)), fun Q q => c_read_operand (k := k) (pre := (a, O.list _) :: pre) G g hpo (fun e => hc (.inl e)) (fun e => hc (.inr e)) hw hroom q⟩
    · rw [hJ, hnew, ← hU]
      exact ⟨rfl, _, o2, by rw [hw1, List.length_append, Nat.add_assoc]⟩
  · intro H₁ ρ₁ hj
    rw [hJ] at hj
    obtain ⟨rfl, o, o2, rfl⟩ := hj
    have htl : i.ops.take (signs (kindsS i)).length = i.ops := by simp [signs, kindsS, S]
    rw [htl]
    refine Thn_next (SP_ifc (TP_cmp (EP_local ok (.tail _ (.tail _ (.tail _ (.tail _ (.head _))))) (ec_len G ok hsc gm_read_instruction_len (NP_loc ok (.tail _ (.head _)) (NP_nil (op_len_fl hplen (op_ne_int (ot_bool (br_f ?_ (SP_nil ?_)))))))))))
    · rw [partsV_len]; show ¬ (bne (((1 + (wordsOps T i.ops).length : Nat) : Int)) (((i.nm :: wordsOps T i.ops).length : Nat) : Int)) = true; rw [List.length_cons, Nat.add_comm]; simp
    have hV : V.tup (.str i.name :: (readOps T U i.ops).1.map fun p => p.2.V) = insV i.name ((readIns T U i).1.ops.map (·.2)) := by
      show V.tup (_ :: List.map _ (readOps T U i.ops).1) = insV i.name ((readOps T U i.ops).1.map (·.2))
      simp [insV, Function.comp_def]
    refine SPc (SP_assign ok (ec_tuple G ok hsc gm_read_instruction_tuple (NP_loc ok (.tail _ (.tail _ (.tail _ (.head _)))) (NP_nil (op_tuple_list (.head _) (by simp only [List.length_cons, List.length_map, readL_len]; lia) (hV ▸ StI7 (Thn_next ?_)))))))
    refine SPc (SP_expr ok (ec_check_row G ok hsc gm_read_instruction_check_row (NP_loc ok (.tail _ (.tail _ (.head _))) (NP_loc ok (.tail _ (.tail _ (.tail _ (.tail _ (.tail _ (.tail _ (.tail _ (.head _)))))))) (NP_cons (EP_bool (NP_nil (CallP.le (c_check_row (k := k) G hrow (by show ((readOps T U i.ops).1.map (·.2)).length ≤ 100; simp only [List.length_map, readL_len]; lia) ⟨trivial, Thn_next ?_⟩) (by lia)))))))))
    exact SPc (SP_return (EP_local ok (.tail _ (.tail _ (.tail _ (.tail _ (.tail _ (.tail _ (.tail _ (.head _)))))))) ⟨sy pre A (readIns T U i).2 post, List.sublist_cons_self _ _, q⟩))
end

theorem idx_get {α : Type} [DecidableEq α] : ∀ {l : List α} {x : α} {i : Nat}, idx l x = some i → l[i]? = some x
  | [], x, i, h => by cases h
  | a :: l, x, i, h => by
    unfold idx at h
    by_cases e : a = x
    · rw [if_pos e] at h; cases h; simp [e]
    · rw [if_neg e] at h
      obtain ⟨j, hj, rfl⟩ := Option.map_eq_some_iff.mp h
      simpa using idx_get hj
theorem idx_not {α : Type} [DecidableEq α] : ∀ {l : List α} {x : α}, idx l x = none → x ∉ l
  | [], x, _ => by simp
  | a :: l, x, h => by
    unfold idx at h
    by_cases e : a = x
    · rw [if_pos e] at h; cases h
    · rw [if_neg e, Option.map_eq_none_iff] at h
      simp only [List.mem_cons, not_or]
      exact ⟨Ne.symm e, idx_not h⟩
theorem idx_nodup {α : Type} [DecidableEq α] : ∀ {l : List α} {x : α} {i : Nat}, l.Nodup → l[i]? = some x → idx l x = some i
  | [], x, i, _, h => by simp at h
  | a :: l, x, 0, hn, h => by simp at h; simp [idx, h]
  | a :: l, x, i + 1, hn, h => by
    rw [List.nodup_cons] at hn
    have h' : l[i]? = some x := by simpa using h
    have hne : a ≠ x := fun e => hn.1 (e ▸ List.mem_of_getElem? h')
    unfold idx
    rw [if_neg hne, idx_nodup hn.2 h']; rfl
structure Sym.Le (U V : Sym) : Prop where
  texts : ∃ t, V.texts = U.texts ++ t
  fns : ∃ t, V.fns = U.fns ++ t
theorem Sym.Le.refl (U : Sym) : U.Le U := ⟨⟨[], by simp⟩, ⟨[], by simp⟩⟩
theorem Sym.Le.trans {U V Z : Sym} (h : U.Le V) (k : V.Le Z) : U.Le Z := by
  obtain ⟨⟨a, ha⟩, ⟨b, hb⟩⟩ := h
  obtain ⟨⟨c, hc⟩, ⟨d, hd⟩⟩ := k
  exact ⟨⟨a ++ c, by rw [hc, ha, List.append_assoc]⟩, ⟨b ++ d, by rw [hd, hb, List.append_assoc]⟩⟩
theorem Sym.Le.text {U V : Sym} (h : U.Le V) {n : Nat} (hn : n < U.texts.length) : n < V.texts.length ∧ V.text n = U.text n := by
  obtain ⟨⟨t, ht⟩, _⟩ := h
  refine ⟨by rw [ht]; simp; lia, ?_⟩
  unfold Sym.text
  rw [ht, List.getElem?_append_left hn]
theorem Sym.Le.fn {U V : Sym} (h : U.Le V) {n : Nat} (hn : n < U.fns.length) : n < V.fns.length ∧ V.fn n = U.fn n := by
  obtain ⟨_, ⟨t, ht⟩⟩ := h
  refine ⟨by rw [ht]; simp; lia, ?_⟩
  unfold Sym.fn
  rw [ht, List.getElem?_append_left hn]
structure Sym.Full (U : Sym) : Prop where
  few : ∀ x ∈ U.texts, Few x
  ok : ∀ p ∈ U.fns, p.1 < U.texts.length ∧ p.2 < 10 ^ 80
  texts1 : U.texts.Nodup
  fns1 : U.fns.Nodup
theorem Sym.Full.good {U : Sym} (h : U.Full) {n : Nat} (r : U.Room n) : U.Good := ⟨by have := r.texts; lia, by have := r.fns; lia, h.few, h.ok⟩
theorem atom_le (U : Sym) (x : List Nat) : U.Le (U.atom x).2 := by
  unfold Sym.atom
  split
  · exact .refl _
  · exact ⟨⟨[x], rfl⟩, ⟨[], by simp⟩⟩
theorem atom_get (U : Sym) (x : List Nat) : (U.atom x).1 < (U.atom x).2.texts.length ∧ (U.atom x).2.text (U.atom x).1 = x := by
  unfold Sym.atom
  split
  · rename_i i hi
    have h := idx_get hi
    exact ⟨(List.getElem?_eq_some_iff.mp h).1, by show (U.texts[i]?).getD [] = x; rw [h]; rfl⟩
  · refine ⟨by simp, ?_⟩
    show ((U.texts ++ [x])[U.texts.length]?).getD [] = x
    simp
theorem atom_full {U : Sym} {x : List Nat} (h : U.Full) (hx : Few x) : (U.atom x).2.Full := by
  unfold Sym.atom
  split
  · exact h
  · rename_i hi
    refine ⟨fun y hy => ?_, fun p hp => ?_, ?_, h.fns1⟩
    · rcases List.mem_append.mp hy with hy | hy
      · exact h.few y hy
      · obtain rfl := List.mem_singleton.mp hy; exact hx
    · have := h.ok p hp
      exact ⟨by simp; lia, this.2⟩
    · exact List.nodup_append.mpr ⟨h.texts1, by simp, fun a ha b hb e => idx_not hi (by obtain rfl := List.mem_singleton.mp hb; exact e ▸ ha)⟩
theorem atom_self {U : Sym} (h : U.Full) {n : Nat} (hn : n < U.texts.length) : U.atom (U.text n) = (n, U) := by
  unfold Sym.atom
  rw [idx_nodup h.texts1 (Sym.text_get hn)]
theorem functor_le (U : Sym) (p : Nat × Nat) : U.Le (U.functor p).2 := by
  unfold Sym.functor
  split
  · exact .refl _
  · exact ⟨⟨[], by simp⟩, ⟨[p], rfl⟩⟩
theorem functor_get (U : Sym) (p : Nat × Nat) : (U.functor p).1 < (U.functor p).2.fns.length ∧ (U.functor p).2.fn (U.functor p).1 = p := by
  unfold Sym.functor
  split
  · rename_i i hi
    have h := idx_get hi
    exact ⟨(List.getElem?_eq_some_iff.mp h).1, by show (U.fns[i]?).getD (0, 0) = p; rw [h]; rfl⟩
  · refine ⟨by simp, ?_⟩
    show ((U.fns ++ [p])[U.fns.length]?).getD (0, 0) = p
    simp
theorem functor_full {U : Sym} {p : Nat × Nat} (h : U.Full) (hp : p.1 < U.texts.length ∧ p.2 < 10 ^ 80) : (U.functor p).2.Full := by
  unfold Sym.functor
  split
  · exact h
  · rename_i hi
    refine ⟨h.few, fun q hq => ?_, h.texts1, ?_⟩
    · rcases List.mem_append.mp hq with hq | hq
      · exact h.ok q hq
      · obtain rfl := List.mem_singleton.mp hq; exact hp
    · exact List.nodup_append.mpr ⟨h.fns1, by simp, fun a ha b hb e => idx_not hi (by obtain rfl := List.mem_singleton.mp hb; exact e ▸ ha)⟩
theorem func_le (U : Sym) (x : List Nat) (n : Nat) : U.Le (U.func x n).2 := (atom_le U x).trans (functor_le _ _)
theorem func_get (U : Sym) (x : List Nat) (n : Nat) : (U.func x n).1 < (U.func x n).2.fns.length ∧ ((U.func x n).2.fn (U.func x n).1).1 < (U.func x n).2.texts.length ∧ (U.func x n).2.text ((U.func x n).2.fn (U.func x n).1).1 = x ∧ ((U.func x n).2.fn (U.func x n).1).2 = n := by
  obtain ⟨h1, h2⟩ := functor_get (U.atom x).2 ((U.atom x).1, n)
  obtain ⟨h3, h4⟩ := atom_get U x
  obtain ⟨h5, h6⟩ := (functor_le (U.atom x).2 ((U.atom x).1, n)).text h3
  unfold Sym.func
  rw [h2]
  exact ⟨h1, h5, h6.trans h4, rfl⟩
theorem func_full {U : Sym} {x : List Nat} {n : Nat} (h : U.Full) (hx : Few x) (hn : n < 10 ^ 80) : (U.func x n).2.Full := functor_full (atom_full h hx) ⟨(atom_get U x).1, hn⟩
noncomputable def CellSame (T V : Sym) : Cell → Cell → Prop
  | .int i, c => c = .int i
  | .con n, c => ∃ m, c = .con m ∧ m < V.texts.length ∧ V.text m = T.text n
noncomputable def FnSame (T V : Sym) (n m : Nat) : Prop := m < V.fns.length ∧ (V.fn m).1 < V.texts.length ∧ V.text (V.fn m).1 = T.text (T.fn n).1 ∧ (V.fn m).2 = (T.fn n).2
structure Reader {α : Type} (T : Sym) (In : Sym → α → Prop) (f : Sym → α → List Nat) (rd : Sym → α → α × Sym) (Same : Sym → α → α → Prop) : Prop where
  spec : ∀ {U : Sym} {c : α}, U.Full → In T c → U.Le (rd U c).2 ∧ (rd U c).2.Full ∧ Same (rd U c).2 c (rd U c).1
  mono : ∀ {U V : Sym} {c c' : α}, U.Le V → Same U c c' → Same V c c'
  words : ∀ {V : Sym} {c c' : α}, In T c → Same V c c' → In V c' ∧ f V c' = f T c
  inj : ∀ {V : Sym} {a b c : α}, In T a → In T b → Same V a c → Same V b c → a = b
  self : ∀ {c : α}, In T c → rd T c = (c, T)
theorem text_inj {T : Sym} (h : T.Full) {a b : Nat} (ha : a < T.texts.length) (hb : b < T.texts.length) (e : T.text a = T.text b) : a = b := by
  have h1 := idx_nodup h.texts1 (Sym.text_get ha)
  have h2 := idx_nodup h.texts1 (Sym.text_get hb)
  rw [e, h2] at h1
  exact (Option.some.inj h1).symm
theorem fn_inj {T : Sym} (h : T.Full) {a b : Nat} (ha : a < T.fns.length) (hb : b < T.fns.length) (e : T.fn a = T.fn b) : a = b := by
  have h1 := idx_nodup h.fns1 (Sym.fn_get ha)
  have h2 := idx_nodup h.fns1 (Sym.fn_get hb)
  rw [e, h2] at h1
  exact (Option.some.inj h1).symm
theorem cell_reader {T : Sym} (h : T.Full) : Reader T Cell.In cellL (readCell T) (CellSame T) where
  spec := fun {U c} hU hc => by
    cases c with
    | int i => exact ⟨.refl _, hU, rfl⟩
    | con n =>
      have hg := atom_get U (T.text n)
      exact ⟨atom_le _ _, atom_full hU (h.few _ (List.mem_of_getElem? (Sym.text_get hc))), _, rfl, hg.1, hg.2⟩
  mono := fun {U V c c'} hl hs => by
    cases c with
    | int i => exact hs
    | con n =>
      obtain ⟨m, rfl, h1, h2⟩ := hs
      exact ⟨m, rfl, (hl.text h1).1, (hl.text h1).2.trans h2⟩
  words := fun {V c c'} hc hs => by
    cases c with
    | int i => obtain rfl : c' = .int i := hs; exact ⟨hc, rfl⟩
    | con n =>
      obtain ⟨m, rfl, h1, h2⟩ := hs
      exact ⟨h1, by show quoteL _ = quoteL _; rw [h2]⟩
  inj := fun {V a b c} ha hb h1 h2 => by
    cases a with
    | int i =>
      obtain rfl : c = .int i := h1
      cases b with
      | int j => cases (show Cell.int i = Cell.int j from h2); rfl
      | con n => obtain ⟨m, e, _⟩ := h2; cases e
    | con n =>
      obtain ⟨m, rfl, h3, h4⟩ := h1
      cases b with
      | int j => cases (show Cell.con m = Cell.int j from h2)
      | con k =>
        obtain ⟨m', e, h5, h6⟩ := h2
        cases e
        rw [text_inj h ha hb (h4.symm.trans h6)]
  self := fun {c} hc => by
    cases c with
    | int i => rfl
    | con n => show (Cell.con (T.atom (T.text n)).1, (T.atom (T.text n)).2) = _; rw [atom_self h hc]
theorem func_self {T : Sym} (h : T.Full) {n : Nat} (hn : n < T.fns.length) : T.func (T.text (T.fn n).1) (T.fn n).2 = (n, T) := by
  have hp := h.ok _ (List.mem_of_getElem? (Sym.fn_get hn))
  unfold Sym.func
  rw [atom_self h hp.1]
  unfold Sym.functor
  rw [idx_nodup h.fns1 (Sym.fn_get hn)]
theorem fn_reader {T : Sym} (h : T.Full) : Reader T (fun V n => n < V.fns.length) fnL (readFn T) (FnSame T) where
  spec := fun {U c} hU hc => by
    have hp := h.ok _ (List.mem_of_getElem? (Sym.fn_get hc))
    have hg := func_get U (T.text (T.fn c).1) (T.fn c).2
    exact ⟨func_le _ _ _, func_full hU (h.few _ (List.mem_of_getElem? (Sym.text_get hp.1))) hp.2, hg.1, hg.2.1, hg.2.2.1, hg.2.2.2⟩
  mono := fun {U V c c'} hl hs => by
    obtain ⟨h1, h2, h3, h4⟩ := hs
    obtain ⟨g1, g2⟩ := hl.fn h1
    exact ⟨g1, by rw [g2]; exact (hl.text h2).1, by rw [g2]; exact (hl.text h2).2.trans h3, by rw [g2]; exact h4⟩
  words := fun {V c c'} hc hs => by
    obtain ⟨h1, h2, h3, h4⟩ := hs
    exact ⟨h1, by unfold fnL; rw [h3, h4]⟩
  inj := fun {V a b c} ha hb h1 h2 => by
    obtain ⟨_, _, e1, e2⟩ := h1
    obtain ⟨_, _, e3, e4⟩ := h2
    have pa := h.ok _ (List.mem_of_getElem? (Sym.fn_get ha))
    have pb := h.ok _ (List.mem_of_getElem? (Sym.fn_get hb))
    exact fn_inj h ha hb (Prod.ext (text_inj h pa.1 pb.1 (e1.symm.trans e3)) (e2.symm.trans e4))
  self := fun {c} hc => func_self h hc
section
variable {α : Type} {T : Sym} {In : Sym → α → Prop} {f : Sym → α → List Nat} {rd : Sym → α → α × Sym} {Same : Sym → α → α → Prop}
theorem readTab_le (R : Reader T In f rd Same) : ∀ {l : List (α × Nat)} {U : Sym}, U.Full → (∀ p ∈ l, In T p.1) → U.Le (readTab rd U l).2 ∧ (readTab rd U l).2.Full
  | [], U, hU, _ => ⟨.refl _, hU⟩
  | p :: l, U, hU, h => by
    obtain ⟨h1, h2, _⟩ := R.spec hU (h p (.head _))
    obtain ⟨h3, h4⟩ := readTab_le R (l := l) h2 fun q hq => h q (.tail _ hq)
    exact ⟨h1.trans h3, h4⟩
inductive TabSame (Same : Sym → α → α → Prop) (V : Sym) : List (α × Nat) → List (α × Nat) → Prop
  | nil : TabSame Same V [] []
  | cons {c c' : α} {n : Nat} {l l' : List (α × Nat)} : Same V c c' → TabSame Same V l l' → TabSame Same V ((c, n) :: l) ((c', n) :: l')
theorem readTab_same (R : Reader T In f rd Same) : ∀ {l : List (α × Nat)} {U : Sym}, U.Full → (∀ p ∈ l, In T p.1) → TabSame Same (readTab rd U l).2 l (readTab rd U l).1
  | [], U, hU, _ => .nil
  | p :: l, U, hU, h => by
    obtain ⟨h1, h2, h3⟩ := R.spec hU (h p (.head _))
    have hl : ∀ q ∈ l, In T q.1 := fun q hq => h q (.tail _ hq)
    exact .cons (R.mono (readTab_le R h2 hl).1 h3) (readTab_same R h2 hl)
theorem TabSame.mem {V : Sym} {l l' : List (α × Nat)} (h : TabSame Same V l l') : ∀ p' ∈ l', ∃ p ∈ l, Same V p.1 p'.1 ∧ p.2 = p'.2 := by
  induction h with
  | nil => intro p hp; cases hp
  | cons h1 _ ih =>
    intro p' hp
    rcases List.mem_cons.mp hp with rfl | hp
    · exact ⟨_, .head _, h1, rfl⟩
    · obtain ⟨p, hp, e⟩ := ih p' hp; exact ⟨p, .tail _ hp, e⟩
theorem TabSame.nodup (R : Reader T In f rd Same) {V : Sym} {l l' : List (α × Nat)} (h : TabSame Same V l l') (hi : ∀ p ∈ l, In T p.1) (hn : (l.map (·.1)).Nodup) : (l'.map (·.1)).Nodup := by
  induction h with
  | nil => simp
  | @cons c c' n l l' h1 h2 ih =>
    rw [List.map_cons, List.nodup_cons] at hn ⊢
    refine ⟨fun hm => ?_, ih (fun p hp => hi p (.tail _ hp)) hn.2⟩
    obtain ⟨q', hq', e⟩ := List.mem_map.mp hm
    obtain ⟨q, hq, hs, _⟩ := h2.mem q' hq'
    have e' : q'.1 = c' := e
    rw [e'] at hs
    exact hn.1 (List.mem_map.mpr ⟨q, hq, R.inj (hi q (.tail _ hq)) (hi _ (.head _)) hs h1⟩)
theorem TabSame.words (R : Reader T In f rd Same) {V : Sym} {l l' : List (α × Nat)} (h : TabSame Same V l l') (hi : ∀ p ∈ l, In T p.1) : (∀ p ∈ l', In V p.1) ∧ tabL (f V) l' = tabL (f T) l := by
  unfold tabL
  induction h with
  | nil => exact ⟨fun p hp => (nomatch hp), rfl⟩
  | @cons c c' n l l' h1 h2 ih =>
    obtain ⟨i1, i2⟩ := ih fun p hp => hi p (.tail _ hp)
    obtain ⟨w1, w2⟩ := R.words (hi _ (.head _)) h1
    refine ⟨fun p hp => ?_, ?_⟩
    · rcases List.mem_cons.mp hp with rfl | hp
      · exact w1
      · exact i1 p hp
    · simp only [List.map_cons, List.cons_append, List.cons.injEq, true_and] at i2 ⊢
      exact ⟨by rw [w2], i2⟩
theorem TabSame.mono (R : Reader T In f rd Same) {U V : Sym} (hl : U.Le V) {l l' : List (α × Nat)} (h : TabSame Same U l l') : TabSame Same V l l' := by
  induction h with
  | nil => exact .nil
  | cons h1 _ ih => exact .cons (R.mono hl h1) ih
theorem readTab_self (R : Reader T In f rd Same) : ∀ {l : List (α × Nat)}, (∀ p ∈ l, In T p.1) → readTab rd T l = (l, T)
  | [], _ => rfl
  | p :: l, h => by
    simp only [readTab, R.self (h p (.head _)), readTab_self R (l := l) fun q hq => h q (.tail _ hq)]
end
noncomputable def OpSame (T V : Sym) (k : Nat) : Op → Op → Prop
  | .reg y n, o => o = .reg y n
  | .cell c, o => ∃ c', o = .cell c' ∧ CellSame T V c c'
  | .num n, o => ∃ m, o = .num m ∧ (if k = 70 then FnSame T V n m else m = n)
  | .tabC l, o => ∃ l', o = .tabC l' ∧ TabSame (CellSame T) V l l'
  | .tabF l, o => ∃ l', o = .tabF l' ∧ TabSame (FnSame T) V l l'
theorem readOp_spec {T U : Sym} (h : T.Full) (hU : U.Full) {c : Nat} {o : Op} (ho : OpOk T c o) : U.Le (readOp T U c o).2 ∧ (readOp T U c o).2.Full ∧ OpSame T (readOp T U c o).2 c o (readOp T U c o).1 ∧ tabOkAt T U o := by
  cases ho with
  | R _ _ => exact ⟨.refl _, hU, rfl, trivial⟩
  | X _ _ => exact ⟨.refl _, hU, rfl, trivial⟩
  | Y _ _ => exact ⟨.refl _, hU, rfl, trivial⟩
  | C h1 =>
    obtain ⟨a, b, d⟩ := (cell_reader h).spec hU h1
    exact ⟨a, b, ⟨_, rfl, d⟩, trivial⟩
  | F h1 =>
    obtain ⟨a, b, d⟩ := (fn_reader h).spec hU h1
    exact ⟨a, b, ⟨_, rfl, d⟩, trivial⟩
  | N _ => exact ⟨.refl _, hU, ⟨_, rfl, rfl⟩, trivial⟩
  | L _ => exact ⟨.refl _, hU, ⟨_, rfl, rfl⟩, trivial⟩
  | @T l h1 h2 h3 =>
    have hi : ∀ p ∈ l, Cell.In T p.1 := fun p hp => (h3 p hp).1
    obtain ⟨a, b⟩ := readTab_le (cell_reader h) hU hi
    have hs := readTab_same (cell_reader h) hU hi
    exact ⟨a, b, ⟨_, rfl, hs⟩, hs.nodup (cell_reader h) hi h1⟩
  | @U l h1 h2 h3 =>
    have hi : ∀ p ∈ l, p.1 < T.fns.length := fun p hp => (h3 p hp).1
    obtain ⟨a, b⟩ := readTab_le (fn_reader h) hU hi
    have hs := readTab_same (fn_reader h) hU hi
    exact ⟨a, b, ⟨_, rfl, hs⟩, hs.nodup (fn_reader h) hi h1⟩
theorem TabSame.len {α : Type} {Same : Sym → α → α → Prop} {V : Sym} {l l' : List (α × Nat)} (h : TabSame Same V l l') : l'.length = l.length := by
  induction h with
  | nil => rfl
  | cons _ _ ih => simp [ih]
theorem OpSame.words {T V : Sym} (h : T.Full) {c : Nat} {o o' : Op} (ho : OpOk T c o) (hs : OpSame T V c o o') : OpOk V c o' ∧ wordsOp V c o' = wordsOp T c o := by
  cases ho with
  | R h1 h2 => obtain rfl : o' = _ := hs; exact ⟨.R h1 h2, rfl⟩
  | X h1 h2 => obtain rfl : o' = _ := hs; exact ⟨.X h1 h2, rfl⟩
  | Y h1 h2 => obtain rfl : o' = _ := hs; exact ⟨.Y h1 h2, rfl⟩
  | C h1 =>
    obtain ⟨c', rfl, hc⟩ := hs
    obtain ⟨a, b⟩ := (cell_reader h).words h1 hc
    exact ⟨.C a, by simp only [wordsOp, b]⟩
  | F h1 =>
    obtain ⟨m, rfl, hc⟩ := hs
    obtain ⟨a, b⟩ := (fn_reader h).words h1 hc
    exact ⟨.F a, by simp only [wordsOp, if_true, b]⟩
  | N h1 => obtain ⟨m, rfl, hc⟩ := hs; obtain rfl : m = _ := hc; exact ⟨.N h1, rfl⟩
  | L h1 => obtain ⟨m, rfl, hc⟩ := hs; obtain rfl : m = _ := hc; exact ⟨.L h1, rfl⟩
  | @T l h1 h2 h3 =>
    obtain ⟨l', rfl, hc⟩ := hs
    have hi : ∀ p ∈ l, Cell.In T p.1 := fun p hp => (h3 p hp).1
    obtain ⟨a, b⟩ := hc.words (cell_reader h) hi
    refine ⟨.T (hc.nodup (cell_reader h) hi h1) (by rw [hc.len]; exact h2) fun p hp => ⟨a p hp, ?_⟩, b⟩
    obtain ⟨q, hq, _, e⟩ := hc.mem p hp
    rw [← e]; exact (h3 q hq).2
  | @U l h1 h2 h3 =>
    obtain ⟨l', rfl, hc⟩ := hs
    have hi : ∀ p ∈ l, p.1 < T.fns.length := fun p hp => (h3 p hp).1
    obtain ⟨a, b⟩ := hc.words (fn_reader h) hi
    refine ⟨.U (hc.nodup (fn_reader h) hi h1) (by rw [hc.len]; exact h2) fun p hp => ⟨a p hp, ?_⟩, b⟩
    obtain ⟨q, hq, _, e⟩ := hc.mem p hp
    rw [← e]; exact (h3 q hq).2
theorem OpSame.mono {T U V : Sym} (h : T.Full) (hl : U.Le V) {c : Nat} {o o' : Op} (hs : OpSame T U c o o') : OpSame T V c o o' := by
  cases o with
  | reg y n => exact hs
  | cell c => obtain ⟨c', rfl, hc⟩ := hs; exact ⟨c', rfl, (cell_reader h).mono hl hc⟩
  | num n =>
    obtain ⟨m, rfl, hc⟩ := hs
    refine ⟨m, rfl, ?_⟩
    by_cases e : c = 70
    · rw [if_pos e] at hc ⊢; exact (fn_reader h).mono hl hc
    · rw [if_neg e] at hc ⊢; exact hc
  | tabC l => obtain ⟨l', rfl, hc⟩ := hs; exact ⟨l', rfl, hc.mono (cell_reader h) hl⟩
  | tabF l => obtain ⟨l', rfl, hc⟩ := hs; exact ⟨l', rfl, hc.mono (fn_reader h) hl⟩
theorem readOp_self {T : Sym} (h : T.Full) {c : Nat} {o : Op} (ho : OpOk T c o) : readOp T T c o = (o, T) := by
  cases ho with
  | C h1 => simp only [readOp, (cell_reader h).self h1]
  | F h1 => simp only [readOp, if_true, (fn_reader h).self h1]
  | T _ _ h3 => simp only [readOp, readTab_self (cell_reader h) fun p hp => (h3 p hp).1]
  | U _ _ h3 => simp only [readOp, readTab_self (fn_reader h) fun p hp => (h3 p hp).1]
  | _ => rfl
inductive OpsSame (T V : Sym) : List (Nat × Op) → List (Nat × Op) → Prop
  | nil : OpsSame T V [] []
  | cons {c : Nat} {o o' : Op} {l l' : List (Nat × Op)} : OpSame T V c o o' → OpsSame T V l l' → OpsSame T V ((c, o) :: l) ((c, o') :: l')
theorem OpsSame.mono {T U V : Sym} (h : T.Full) (hl : U.Le V) {l l' : List (Nat × Op)} (hs : OpsSame T U l l') : OpsSame T V l l' := by
  induction hs with
  | nil => exact .nil
  | cons h1 _ ih => exact .cons (h1.mono h hl) ih
theorem readOps_spec {T : Sym} (h : T.Full) : ∀ {l : List (Nat × Op)} {U : Sym}, U.Full → (∀ p ∈ l, OpOk T p.1 p.2) → U.Le (readOps T U l).2 ∧ (readOps T U l).2.Full ∧ OpsSame T (readOps T U l).2 l (readOps T U l).1
  | [], U, hU, _ => ⟨.refl _, hU, .nil⟩
  | p :: l, U, hU, hp => by
    obtain ⟨h1, h2, h3, _⟩ := readOp_spec h hU (hp p (.head _))
    obtain ⟨g1, g2, g3⟩ := readOps_spec h (l := l) h2 fun q hq => hp q (.tail _ hq)
    exact ⟨h1.trans g1, g2, .cons (h3.mono h g1) g3⟩
theorem OpsSame.words {T V : Sym} (h : T.Full) {l l' : List (Nat × Op)} (hs : OpsSame T V l l') (hp : ∀ p ∈ l, OpOk T p.1 p.2) : (∀ p ∈ l', OpOk V p.1 p.2) ∧ wordsOps V l' = wordsOps T l ∧ l'.map (·.1) = l.map (·.1) := by
  induction hs with
  | nil => exact ⟨fun p hp => (nomatch hp), rfl, rfl⟩
  | @cons c o o' l l' h1 _ ih =>
    obtain ⟨i1, i2, i3⟩ := ih fun p hp' => hp p (.tail _ hp')
    obtain ⟨w1, w2⟩ := h1.words h (hp _ (.head _))
    refine ⟨fun p hp' => ?_, by simp only [wordsOps, w2, i2], by simp only [List.map_cons, i3]⟩
    rcases List.mem_cons.mp hp' with rfl | hp'
    · exact w1
    · exact i1 p hp'
theorem readOps_self {T : Sym} (h : T.Full) : ∀ {l : List (Nat × Op)}, (∀ p ∈ l, OpOk T p.1 p.2) → readOps T T l = (l, T)
  | [], _ => rfl
  | p :: l, hp => by
    have h1 := readOp_self h (hp p (.head _))
    have h2 := readOps_self h (l := l) fun q hq => hp q (.tail _ hq)
    show ((readPair T T p).1 :: (readL (readPair T) (readPair T T p).2 l).1, (readL (readPair T) (readPair T T p).2 l).2) = _
    have h3 : readPair T T p = (p, T) := by unfold readPair; rw [h1]
    rw [h3]
    show (p :: (readOps T T l).1, (readOps T T l).2) = _
    rw [h2]
theorem readOps_tab {T : Sym} (h : T.Full) {l : List (Nat × Op)} {U : Sym} (hU : U.Full) (hp : ∀ p ∈ l, OpOk T p.1 p.2) (j : Nat) (p : Nat × Op) (hj : l[j]? = some p) : tabOkAt T (readOps T U (l.take j)).2 p.2 :=
  (readOp_spec h (readOps_spec h hU fun q hq => hp q (List.mem_of_mem_take hq)).2.1 (hp p (List.mem_of_getElem? hj))).2.2.2
noncomputable def InsSame (T V : Sym) (i i' : Ins) : Prop := i'.name = i.name ∧ OpsSame T V i.ops i'.ops
theorem InsSame.mono {T U V : Sym} (h : T.Full) (hl : U.Le V) {i i' : Ins} (hs : InsSame T U i i') : InsSame T V i i' := ⟨hs.1, hs.2.mono h hl⟩
theorem readIns_spec {T U : Sym} (h : T.Full) (hU : U.Full) {i : Ins} (gi : i.Good T) : U.Le (readIns T U i).2 ∧ (readIns T U i).2.Full ∧ InsSame T (readIns T U i).2 i (readIns T U i).1 := by
  obtain ⟨a, b, c⟩ := readOps_spec h hU gi.ok
  exact ⟨a, b, rfl, c⟩
theorem InsSame.words {T V : Sym} (h : T.Full) {i i' : Ins} (gi : i.Good T) (hs : InsSame T V i i') : i'.Good V ∧ i'.words V = i.words T := by
  obtain ⟨h1, h2⟩ := hs
  obtain ⟨w1, w2, w3⟩ := h2.words h gi.ok
  have hlen : i'.ops.length = i.ops.length := by have := congrArg List.length w3; simpa using this
  have hw : i'.words V = i.words T := by
    show i'.nm :: wordsOps V i'.ops = i.nm :: wordsOps T i.ops
    rw [w2]; unfold Ins.nm; rw [h1]
  refine ⟨⟨?_, by rw [hlen]; exact gi.few, w1, by rw [hw]; exact gi.sum⟩, hw⟩
  rw [h1]
  unfold kindsS
  rw [w3]; exact gi.shape
theorem readIns_self {T : Sym} (h : T.Full) {i : Ins} (gi : i.Good T) : readIns T T i = (i, T) := by
  unfold readIns
  rw [readOps_self h gi.ok]
theorem readIns_row {T U : Sym} (h : T.Full) (hU : U.Full) {i : Ins} (gi : i.Good T) : RowOk shapesL i.name ((readIns T U i).1.ops.map (·.2)) :=
  ((readIns_spec h hU gi).2.2.words h gi).1.row
noncomputable abbrev readRows (T U : Sym) (l : List Ins) : List Ins × Sym := readL (readIns T) U l
inductive RowsSame (T V : Sym) : List Ins → List Ins → Prop
  | nil : RowsSame T V [] []
  | cons {i i' : Ins} {l l' : List Ins} : InsSame T V i i' → RowsSame T V l l' → RowsSame T V (i :: l) (i' :: l')
theorem readRows_spec {T : Sym} (h : T.Full) : ∀ {l : List Ins} {U : Sym}, U.Full → (∀ i ∈ l, i.Good T) → U.Le (readRows T U l).2 ∧ (readRows T U l).2.Full ∧ RowsSame T (readRows T U l).2 l (readRows T U l).1
  | [], U, hU, _ => ⟨.refl _, hU, .nil⟩
  | i :: l, U, hU, hi => by
    obtain ⟨h1, h2, h3⟩ := readIns_spec h hU (hi i (.head _))
    obtain ⟨g1, g2, g3⟩ := readRows_spec h (l := l) h2 fun q hq => hi q (.tail _ hq)
    exact ⟨h1.trans g1, g2, .cons (h3.mono h g1) g3⟩
theorem RowsSame.words {T V : Sym} (h : T.Full) {l l' : List Ins} (hs : RowsSame T V l l') (hi : ∀ i ∈ l, i.Good T) : (∀ i ∈ l', i.Good V) ∧ ∀ b, rowsL V b l' = rowsL T b l := by
  induction hs with
  | nil => exact ⟨fun p hp => (nomatch hp), fun _ => rfl⟩
  | @cons i i' l l' h1 _ ih =>
    obtain ⟨i1, i2⟩ := ih fun p hp => hi p (.tail _ hp)
    obtain ⟨w1, w2⟩ := h1.words h (hi _ (.head _))
    refine ⟨fun p hp => ?_, fun b => ?_⟩
    · rcases List.mem_cons.mp hp with rfl | hp
      · exact w1
      · exact i1 p hp
    · simp only [rowsL, rowL, w2, i2]
theorem readRows_self {T : Sym} (h : T.Full) : ∀ {l : List Ins}, (∀ i ∈ l, i.Good T) → readRows T T l = (l, T)
  | [], _ => rfl
  | i :: l, hi => by
    show ((readIns T T i).1 :: (readRows T (readIns T T i).2 l).1, (readRows T (readIns T T i).2 l).2) = _
    rw [readIns_self h (hi i (.head _)), readRows_self h (l := l) fun q hq => hi q (.tail _ hq)]

noncomputable def allStrK (es : Array DictEntry) : Bool := es.toList.all fun e => match e.key with | .str _ _ => true | _ => false
theorem ns_obj {h : Heap} {a : Addr} {o : Obj} {es : Array DictEntry} {n : Nat} (ho : h.get? a = some o) (hd : o.data = .dict es n) (hk : allStrK es = true) : h.Ns a (nsFind es) :=
  ⟨o, es, n, ho, hd, fun e he => by
    have := List.all_eq_true.mp hk e (Array.mem_toList_iff.mpr he)
    cases hq : e.key <;> rw [hq] at this <;> simp at this
    exact ⟨_, _, rfl⟩, fun _ => rfl⟩
noncomputable def dictEs (o : Obj) : Array DictEntry := match o.data with | .dict es _ => es | _ => #[]
section
variable {W : Wd} (G : Gd W) {H : AHeap} {Q : V → AHeap → Prop} {k : Nat}
theorem lf_cls (G : Gd W) : W.K.lookup 52 = some (excClassObj (Str.ofString "LinkFault") (Str.ofString "LinkFault") 52 51 [.ref 31] [.ref 31, .type "Exception", .type "BaseException", .type "object"] true [] [] false none none (some (.ref 35)) none (some (.str (Str.ofString "LinkFault") 216)) (some (.str (Str.ofString "LinkFault") 224)) (some (.bool true)) "Exception.__new__") := by
  rw [G.hK]; kernel_rfl
theorem lf_tail (G : Gd W) (h : Heap) (X : W.K.In h) : OwnTail h [.type "Exception", .type "BaseException", .type "object"] [.ref 31, .type "Exception", .type "BaseException", .type "object"] := by
  have h1 : h.get? 31 = some ob31 := X 31 _ ((congrArg (·.lookup 31) G.hK).trans (lk31 _))
  have h2 : h.get? 30 = some (ob30 W.w.params) := X 30 _ ((congrArg (·.lookup 30) G.hK).trans (lk30 _))
  refine .own (c0 := .type "type") (dd := none) (cd := { name := (Str.ofString "ClausemillError"), bases := [(.type "Exception")], mro := [(.ref 31), (.type "Exception"), (.type "BaseException"), (.type "object")], ns := 30, qualname := (Str.ofString "ClausemillError"), hasDict := true, slotNames := [], subclasses := [(.ref 52)], abstract := false, collection := none, hasDel := false }) (mA := nsFind (dictEs (ob30 W.w.params))) h1 (ns_obj (n := 3) h2 (by kernel_rfl) (by kernel_rfl)) (by kernel_rfl) .base
theorem lf_ns (G : Gd W) (h : Heap) (X : W.K.In h) : ∃ mN, h.Ns 51 mN ∧ mN "__init__" = some (.ref 49) := by
  have h2 : h.get? 51 = some (ob51 W.w.params) := X 51 _ ((congrArg (·.lookup 51) G.hK).trans (lk51 _))
  exact ⟨nsFind (dictEs (ob51 W.w.params)), ns_obj (n := 2) h2 (by kernel_rfl) (by kernel_rfl), by kernel_rfl⟩
theorem lf_what (G : Gd W) : ExcCls W.K 52 (Str.ofString "what") where
  cls := ⟨{ name := (Str.ofString "LinkFault"), bases := [(.ref 31)], mro := [(.ref 52), (.ref 31), (.type "Exception"), (.type "BaseException"), (.type "object")], ns := 51, qualname := (Str.ofString "LinkFault"), hasDict := true, slotNames := [], subclasses := [], abstract := false, collection := none, hasDel := false }, [.ref 52, .ref 31], by rw [G.hK]; kernel_rfl, rfl, rfl, fun v hv => by
    rcases List.mem_cons.mp hv with rfl | hv
    · exact ⟨_, rfl⟩
    · exact ⟨31, List.mem_singleton.mp hv⟩⟩
  obj := by rw [G.hK]; kernel_rfl
  take := by rw [G.hK]; kernel_rfl
  set := by rw [G.hK]; kernel_rfl
theorem kp_LinkFault (G : Gd W) : keepIn W.K (.ref 52) = true := by rw [G.hK]; kernel_rfl
include G
theorem c_LinkFault {x : Str} (q : ∀ e, Q (.ref e) ((e, .exc 52 true) :: H)) : CallP W (k + 2) (.ref 52) [.str x] H Q := by
  refine CallP_exc (N := 51) (fI := 49) (B := "Exception") G.wok PySem.F.excBase_Exception (lf_tail G) (lf_cls G) (lf_ns G) ((congrArg (·.lookup 49) G.hK).trans (lk49 _)) rfl (by simp) fun e => ?_
  refine en_LinkFault___init__ G fun F hsc ok => SPc ?_
  refine SP_setexc (x := e) (C := 52) G.wok (lf_what G) ?_
  refine EP_local ok mem1 (EP_local ok mem0 ?_)
  refine ⟨rfl, .head _, _, .here, ?_⟩
  refine SP_nil ?_
  exact ⟨rfl, q e⟩
end

theorem hexL_sign {c d : Nat} (h : d ∈ hexL c) : 48 ≤ d ∧ d ≤ 102 := by
  obtain ⟨ds, e, hd, _⟩ := hexL_ds c
  rw [e] at h
  obtain ⟨x, hx, rfl⟩ := List.mem_map.mp h
  have := hd x hx
  unfold hexDig
  split <;> lia
theorem signL_free {c : Nat} : 32 ∉ signL c := by
  unfold signL
  split
  · rename_i h
    simp only [plainSign, Bool.and_eq_true, decide_eq_true_eq] at h
    simp; lia
  · simp only [List.mem_append, List.mem_cons, List.not_mem_nil, or_false, not_or]
    refine ⟨⟨by decide, by decide⟩, fun h => ?_, by decide⟩
    have := hexL_sign h; lia
theorem alnum_free : ∀ {l : List Nat}, l.all (fun c => alnumP (c : Int)) = true → 32 ∉ l
  | [], _ => by simp
  | c :: l, h => by
    simp only [List.all_cons, Bool.and_eq_true] at h
    simp only [List.mem_cons, not_or]
    refine ⟨fun e => ?_, alnum_free h.2⟩
    rw [← e] at h
    exact absurd h.1 (by decide)
theorem quoteL_free (l : List Nat) : 32 ∉ quoteL l ∧ quoteL l ≠ [] := by
  unfold quoteL
  split
  · rename_i h
    cases l with
    | nil => cases h
    | cons c r =>
      refine ⟨?_, by simp⟩
      refine alnum_free (l := c :: r) ?_
      simp only [nameL, Bool.and_eq_true] at h
      exact h.2
  · refine ⟨?_, by simp⟩
    simp only [List.mem_cons, List.mem_append, List.mem_flatMap, List.not_mem_nil, or_false, not_or, not_exists, not_and]
    exact ⟨by decide, fun c _ => signL_free, by decide⟩
theorem decL_free (m : Nat) : 32 ∉ decL m ∧ decL m ≠ [] := by
  refine ⟨fun h => ?_, fun h => ?_⟩
  · have := decL_figs m _ h; lia
  · have := decL_pos m; rw [h] at this; cases this
theorem numL_free (i : Int) : 32 ∉ numL i ∧ numL i ≠ [] := by
  have := decL_free i.natAbs
  unfold numL
  split <;> simp [this.1, this.2]
noncomputable def WordOk (w : List Nat) : Prop := 32 ∉ w ∧ w ≠ []
theorem cellL_free (T : Sym) (c : Cell) : WordOk (cellL T c) := by
  cases c with
  | int i => exact numL_free i
  | con n => exact quoteL_free _
theorem fnL_free (T : Sym) (n : Nat) : WordOk (fnL T n) := by
  have h1 := quoteL_free (T.text (T.fn n).1)
  have h2 := numL_free ((T.fn n).2 : Int)
  exact ⟨by simp [fnL, h1.1, h2.1], by simp [fnL]⟩
theorem tabL_free {α : Type} {f : α → List Nat} (hf : ∀ c, WordOk (f c)) (l : List (α × Nat)) : ∀ w ∈ tabL f l, WordOk w := by
  intro w hw
  unfold tabL at hw
  simp only [List.cons_append, List.mem_cons, List.mem_append, List.mem_map, List.not_mem_nil, or_false] at hw
  rcases hw with rfl | ⟨p, _, rfl⟩ | rfl
  · exact ⟨by decide, by decide⟩
  · have h2 := numL_free (p.2 : Int)
    exact ⟨by simp [(hf p.1).1, h2.1], by simp⟩
  · exact ⟨by decide, by decide⟩
theorem wordsOp_free (T : Sym) (c : Nat) (o : Op) : ∀ w ∈ wordsOp T c o, WordOk w := by
  cases o with
  | reg y n =>
    intro w hw
    obtain rfl := List.mem_singleton.mp hw
    have h2 := numL_free (n : Int)
    cases y <;> exact ⟨by simp [h2.1], by simp⟩
  | cell c => intro w hw; obtain rfl := List.mem_singleton.mp hw; exact cellL_free T c
  | num n =>
    intro w hw
    simp only [wordsOp] at hw
    by_cases e : c = 70
    · rw [if_pos e] at hw; obtain rfl := List.mem_singleton.mp hw; exact fnL_free T n
    · rw [if_neg e] at hw; obtain rfl := List.mem_singleton.mp hw; exact numL_free _
  | tabC l => exact tabL_free (cellL_free T) l
  | tabF l => exact tabL_free (fnL_free T) l
theorem wordsOps_free (T : Sym) : ∀ (l : List (Nat × Op)), ∀ w ∈ wordsOps T l, WordOk w
  | [], w, h => by cases h
  | p :: l, w, h => by
    rcases List.mem_append.mp h with h | h
    · exact wordsOp_free T _ _ w h
    · exact wordsOps_free T l w h
theorem dget_mem {K X : Type} [DecidableEq K] {k : K} {x : X} : ∀ {l : List (K × X)}, dget l k = some x → (k, x) ∈ l
  | [], h => by cases h
  | (k', x') :: l, h => by
    simp only [dget] at h
    split at h
    · rename_i e; cases h; rw [e]; exact .head _
    · exact .tail _ (dget_mem h)
theorem shapes_free : ∀ p ∈ shapesL, WordOk p.1.cps.toList := by unfold WordOk; decide +kernel
theorem words_free {T : Sym} {i : Ins} (gi : i.Good T) : ∀ w ∈ i.words T, WordOk w := by
  intro w hw
  rcases List.mem_cons.mp hw with rfl | hw
  · exact shapes_free _ (dget_mem gi.shape)
  · exact wordsOps_free T _ w hw
theorem rowL_join (T : Sym) (b : Nat) (i : Ins) : rowL T b i = joinL [32] (decL b :: i.words T) := by
  unfold rowL
  rw [numL_nat]
  show _ = joinL [32] (decL b :: i.nm :: wordsOps T i.ops)
  simp [joinL, Ins.words]
theorem rowL_len {T : Sym} {b : Nat} {i : Ins} (gi : i.Good T) (hb : b < 10 ^ 80) : (joinL [32] (decL b :: i.words T)).length ≤ 2 ^ 19 := by
  have h1 := joinL_len [32] (decL b :: i.words T)
  have h2 := gi.sum
  have h3 := decL_len (m := b) (k := 80) (by decide) hb
  simp only [List.map_cons, List.sum_cons, List.length_cons, List.length_nil] at h1
  lia
noncomputable def rowsG (T : Sym) (l : List (Nat × Ins)) : List (List Nat) := l.map fun p => rowL T p.1 p.2
noncomputable def wordsN (T : Sym) (l : List (Nat × Ins)) : Nat := (l.map fun p => (wordsOps T p.2.ops).length).sum
noncomputable def base0 (l : List (Nat × Ins)) : Nat := (l[0]?.map (·.1)).getD 0
theorem rows_room {T : Sym} (h : T.Full) : ∀ {l : List (Nat × Ins)} {U : Sym} {n : Nat}, U.Room (n + wordsN T l) → (readRows T U (l.map (·.2))).2.Room n
  | [], U, n, r => r
  | p :: l, U, n, r => rows_room h (l := l) (readOps_room (n := n + wordsN T l) (r.le (by simp [wordsN]; lia)))
theorem wordsN_take {T : Sym} (l : List (Nat × Ins)) {j : Nat} {p : Nat × Ins} (h : l[j]? = some p) : wordsN T (l.take j) + (wordsOps T p.2.ops).length ≤ wordsN T l := by
  have hj := (List.getElem?_eq_some_iff.mp h).1
  have e : l = l.take j ++ (p :: l.drop (j + 1)) := by
    conv => lhs; rw [← List.take_append_drop j l]
    congr 1
    rw [List.drop_eq_getElem_cons hj]
    congr 1
    exact (List.getElem?_eq_some_iff.mp h).2
  conv => rhs; rw [e]
  simp [wordsN]
theorem rowS1 : Str.ofString "row " = S [114, 111, 119, 32] := by decide +kernel
theorem rowS2 : Str.ofString " has the address " = S [32, 104, 97, 115, 32, 116, 104, 101, 32, 97, 100, 100, 114, 101, 115, 115, 32] := by decide +kernel
noncomputable def rho_rl (A : SymA) (rows : List V) (a : Addr) (b : Int) (pl wo ad : Option V) : Rho := [(Str.ofString "symbols", some (.ref A.x)), (Str.ofString "rows", some (.fl rows)), (Str.ofString "table", some (.sd shapesL)), (Str.ofString "instrs", some (.ref a)), (Str.ofString "base", some (.int b)), (Str.ofString "place", pl), (Str.ofString "words", wo), (Str.ofString "address", ad)]
section
variable {W : Wd} (G : Gd W) {Q : V → AHeap → Prop} {k : Nat} {A : SymA} {T U : Sym} {pre post : AHeap}
include G
theorem rl_turn {F : Fm} {rows l : List V} {a : Addr} {b j ad : Nat} {o2 o3 : Option V} {ws : List (List Nat)} {row : List Nat} {v : V} {U' : Sym} {Q : Fl → AHeap → Rho → Prop} (hsc : F.sc = scopeOf (defAt 45)) (ok : F.Ok W (k + 9)) (hrow : rows[j]? = some (.str (S row))) (hj : j ≤ 1000)
    (hsplit : ∀ (H : AHeap) (Q : V → AHeap → Prop), Q (.fl (partsV (decL ad :: ws))) H → CallP W (k + 1) (.ref 349) [.str (S row)] H Q) (hz : (partsV (decL ad :: ws)).length ≤ 2 ^ 20) (h2 : 1 ≤ ws.length) (hb : ad < 10 ^ 80) (hl : l.length ≤ 2 ^ 20)
    (hread : ∀ Q : V → AHeap → Prop, Q v (sy ((a, .list l) :: pre) A U' post) → CallP W (k + 8) (.ref 398) [.ref A.x, .fl (partsV ws), .sd shapesL] (sy ((a, .list l) :: pre) A U post) Q)
    (hraise : j ≠ 0 → ad ≠ b + j → ∀ x ρ₁ s, W.St ((x, O.exc 52 true) :: (a, O.list l) :: sy pre A U post) s → W.Loc (dom ((x, O.exc 52 true) :: (a, O.list l) :: sy pre A U post)) F.env ρ₁ s.heap → F.E (.ref x) s)
    (q : (j = 0 ∨ ad = b + j) → Q .next ((a, .list (l ++ [v])) :: sy pre A U' post) (rho_rl A rows a (if j = 0 then ad else b : Nat) (some (.int (j : Nat))) (some (.fl (partsV (decL ad :: ws)))) (some (.int (ad : Nat))))) :
    SP W F (rho_rl A rows a (b : Nat) (some (.int (j : Nat))) o2 o3) ((a, .list l) :: sy pre A U post) (execs (forBody ((bodyOf (defAt 45)).drop 3)) F.env) Q := by
  have mS : ∀ {b pl wo ad}, (Str.ofString "symbols", some (V.ref A.x)) ∈ rho_rl A rows a b pl wo ad := .head _
  have mR : ∀ {b pl wo ad}, (Str.ofString "rows", some (V.fl rows)) ∈ rho_rl A rows a b pl wo ad := .tail _ (.head _)
  have mT : ∀ {b pl wo ad}, (Str.ofString "table", some (V.sd shapesL)) ∈ rho_rl A rows a b pl wo ad := .tail _ (.tail _ (.head _))
  have mI : ∀ {b pl wo ad}, (Str.ofString "instrs", some (V.ref a)) ∈ rho_rl A rows a b pl wo ad := .tail _ (.tail _ (.tail _ (.head _)))
  have mB : ∀ {b pl wo ad}, (Str.ofString "base", some (V.int b)) ∈ rho_rl A rows a b pl wo ad := .tail _ (.tail _ (.tail _ (.tail _ (.head _))))
  have mP : ∀ {b d wo ad}, (Str.ofString "place", some d) ∈ rho_rl A rows a b (some d) wo ad := .tail _ (.tail _ (.tail _ (.tail _ (.tail _ (.head _)))))
  have mW : ∀ {b pl d ad}, (Str.ofString "words", some d) ∈ rho_rl A rows a b pl (some d) ad := .tail _ (.tail _ (.tail _ (.tail _ (.tail _ (.tail _ (.head _))))))
  have mA : ∀ {b pl wo d}, (Str.ofString "address", some d) ∈ rho_rl A rows a b pl wo (some d) := .tail _ (.tail _ (.tail _ (.tail _ (.tail _ (.tail _ (.tail _ (.head _)))))))
  have pB : ∀ {b b' pl wo ad}, Put (Str.ofString "base") (some (V.int b')) (rho_rl A rows a b pl wo ad) (rho_rl A rows a b' pl wo ad) := .there (.there (.there (.there .here)))
  have pW : ∀ {b pl d wo ad}, Put (Str.ofString "words") (some d) (rho_rl A rows a b pl wo ad) (rho_rl A rows a b pl (some d) ad) := .there (.there (.there (.there (.there (.there .here)))))
  have pA : ∀ {b pl wo d ad}, Put (Str.ofString "address") (some d) (rho_rl A rows a b pl wo ad) (rho_rl A rows a b pl wo (some d)) := .there (.there (.there (.there (.there (.there (.there .here))))))
  generalize rho_rl A rows a = r at *
  have hw2 : 2 ≤ (partsV (decL ad :: ws)).length := by rw [partsV_len, List.length_cons]; lia
  have hw0 : (partsV (decL ad :: ws))[0]? = some (.str (S (decL ad))) := rfl
  have hws : pickV (partsV (decL ad :: ws)) (some 1) none = partsV ws := rfl
  generalize partsV (decL ad :: ws) = wv at *
  refine SPc (SP_assign ok (ec_split_row G ok hsc gm_read_listing_split_row (NP_cons (EP_sub (EP_local ok mR (EP_local ok mP (op_item_fl hrow (by lia) (NP_nil (CallP.le (hsplit _ _ ⟨_, pW, Thn_next ?_⟩) (by lia))))))))))
  refine SP_ifc (TP_cmp (ec_len G ok hsc gm_read_listing_len (NP_loc ok mW (NP_nil (op_len_fl hz (EP_int (op_lt_int (ot_bool (br_f (by rw [decide_eq_false (by lia)]; exact Bool.noConfusion) (SP_nil ?_))))))))))
  refine SPc (SP_assign ok (ec_read_count G ok hsc gm_read_listing_read_count (NP_cons (EP_sub (EP_local ok mW (EP_int (op_item_fl (n := 0) hw0 (by lia) (NP_nil (CallP.le (c_read_count (k := k) G (Nat.lt_trans hb (by decide)) ⟨_, pA, Thn_next ?_⟩) (by lia))))))))))
  have rest : (j = 0 ∨ ad = b + j) → SP W F (r (if j = 0 then ad else b : Nat) (some (.int (j : Nat))) (some (.fl wv)) (some (.int (ad : Nat)))) ((a, .list l) :: sy pre A U post) (execs ((forBody ((bodyOf (defAt 45)).drop 3)).drop 4) F.env) Q := fun e =>
    SP_app ok mI (.head _) (ec_read_instruction G ok hsc gm_read_listing_read_instruction (NP_loc ok mS (NP_cons (EP_slice_fl (EP_local ok mW ⟨_, rfl, hz, PP_some (EP_int ⟨_, rfl, PP_none ⟨(show (0 : Int) ≤ 1 by decide), NP_loc ok mT (NP_nil (hws ▸ CallP.le (hread _ ⟨_, .head _, hl, _, .here, SP_nil (q e)⟩) (by lia)))⟩⟩)⟩)))))
  by_cases hj0 : j = 0
  · subst hj0
    exact SP_ifc (TP_eqLI ok mP (br_t (by simp) (SPc (SP_assign ok (EP_local ok mA ⟨_, pB, Thn_next (SP_nil (rest (.inl rfl)))⟩)))))
  rw [if_neg hj0] at rest
  refine SP_ifc (TP_eqLI ok mP (br_f (by simp; lia) (SP_ifc (TP_cmp (EP_local ok mA (EP_bin (EP_local ok mB (EP_local ok mP (op_add_int (op_ne_int (ot_bool ⟨fun hne => ?_, fun he => SP_nil (SP_nil (rest (.inr ?_)))⟩)))))))))))
  rotate_left
  · have : (ad : Int) = (b : Int) + j := by simpa using he
    lia
  have hne' : ad ≠ b + j := fun e => by rw [e] at hne; simp at hne
  have h8 : (1000 : Nat) < 10 ^ 80 := by decide
  have h9 : (10 : Nat) ^ 80 < 10 ^ 90 := by decide
  have hi1 := numL_len (i := (j : Int)) (by rw [Int.natAbs_natCast]; lia)
  have hi2 := numL_len (i := (ad : Int)) (by rw [Int.natAbs_natCast]; exact hb)
  refine SPc (SP_raise (C := 52) ok G.wok (lf_cls G) (by decide) ?_)
  refine EP_call ok G.wok (Nat.le_refl _) (kp_LinkFault G) (eg_LinkFault G ok hsc gm_read_listing_LinkFault ⟨rfl, NP_cons (EP_bin (EP_bin (EP_bin (EP_str ?_))))⟩) rfl rfl rfl
  refine ec_number_text G ok hsc gm_read_listing_number_text (NP_loc ok mP (NP_nil (CallP.le (c_number_text (k := k) G (by rw [Int.natAbs_natCast]; lia) (op_add_E rowS1 rfl (by simp only [List.length_cons, List.length_nil]; lia) (EP_str (op_add_E rfl rowS2 (by simp only [List.length_cons, List.length_nil, List.length_append]; lia) ?_)))) (by lia))))
  refine ec_number_text G ok hsc gm_read_listing_number_text (NP_loc ok mA (NP_nil (CallP.le (c_number_text (k := k) G (by rw [Int.natAbs_natCast]; lia) (op_add_S (by simp only [List.length_cons, List.length_nil, List.length_append]; lia) (NP_nil ?_))) (by lia))))
  exact CallP.le (c_LinkFault (k := k) G fun e => ⟨e, rfl, .head _, fun s S lo n => hraise hj0 hne' e _ s S lo⟩) (by lia)
theorem b_read_listing {F : Fm} (hsc : F.sc = scopeOf (defAt 45)) (ok : F.Ok W (k + 9)) {l : List (Nat × Ins)} (h : T.Full) (g : T.Good) (gi : ∀ p ∈ l, p.2.Good T ∧ p.1 < 10 ^ 80) (hU : U.Full) (r : U.Room (wordsN T l)) (hlen : l.length ≤ 1000)
    (hraise : ∀ j p, l[j]? = some p → p.1 ≠ base0 l + j → ∀ x a zs ρ₁ s, W.St ((x, O.exc 52 true) :: (a, O.list zs) :: sy pre A (readRows T U ((l.take j).map (·.2))).2 post) s → W.Loc (dom ((x, O.exc 52 true) :: (a, O.list zs) :: sy pre A (readRows T U ((l.take j).map (·.2))).2 post)) F.env ρ₁ s.heap → (F.inn W).E (.ref x) s)
    (q : (∀ j p, l[j]? = some p → p.1 = base0 l + j) → ∀ a, Q (.ref a) ((a, O.list ((readRows T U (l.map (·.2))).1.map Ins.V)) :: sy pre A (readRows T U (l.map (·.2))).2 post)) :
    SP W F [(Str.ofString "symbols", some (.ref A.x)), (Str.ofString "rows", some (.fl (partsV (rowsG T l)))), (Str.ofString "table", none), (Str.ofString "instrs", none), (Str.ofString "base", none), (Str.ofString "place", none), (Str.ofString "words", none), (Str.ofString "address", none)] (sy pre A U post) (execs (bodyOf (defAt 45)) F.env) (bodyQ Q) := by
  have hrl : (partsV (rowsG T l)).length = l.length := by rw [partsV_len, rowsG, List.length_map]
  refine SPc (SP_assign ok (ec_shapes G ok hsc gm_read_listing_shapes (CallP.le (c_shapes (k := k) G (StI2 (Thn_next (SPc (SP_assign ok (EP_list (NP_nil ⟨by simp, fun a => StI3 (Thn_next (SPc (SP_assign ok (EP_int (StI4 (Thn_next (SPc ?_)))))))⟩))))))) (by lia))))
  obtain ⟨J, hJ⟩ : ∃ J : Nat → AHeap → Rho → Prop, J = fun j H' ρ' => H' = (a, O.list ((readRows T U ((l.take j).map (·.2))).1.map Ins.V)) :: sy pre A (readRows T U ((l.take j).map (·.2))).2 post ∧ (∀ i p, i < j → l[i]? = some p → p.1 = base0 l + i) ∧
    ∃ o o2 o3, ρ' = rho_rl A (partsV (rowsG T l)) a (if j = 0 then 0 else base0 l : Nat) o o2 o3 := ⟨_, rfl⟩
  refine SPfor ok J (rangeV 0 (l.length : Nat)) ?_ ?_ ?_
  · refine ec_range G ok hsc gm_read_listing_range (NP_cons (ec_len G ok hsc gm_read_listing_len (NP_loc ok (.tail _ (.head _)) (NP_nil (op_len_fl (by lia) (NP_nil (op_range1 ?_)))))))
    rw [hrl, hJ]
    exact ⟨ItP_rng1 ok.room.handled (by lia) (by lia) (by lia) (by lia), rfl, fun i p hi => absurd hi (Nat.not_lt_zero _), _, _, _, rfl⟩
  · intro j d H₁ ρ₁ hd hj
    rw [hJ] at hj
    obtain ⟨rfl, hbef, o, o2, o3, rfl⟩ := hj
    obtain ⟨rfl, hjl⟩ := rangeV_get hd
    have hj' : j < l.length := by lia
    obtain ⟨p, hp⟩ : ∃ p, l[j]? = some p := ⟨_, List.getElem?_eq_getElem hj'⟩
    obtain ⟨gp, hb⟩ := gi p (List.mem_of_getElem? hp)
    have htk : l.take (j + 1) = l.take j ++ [p] := by rw [List.take_add_one, hp]; rfl
    have hsn : readRows T U ((l.take (j + 1)).map (·.2)) = ((readRows T U ((l.take j).map (·.2))).1 ++ [(readIns T (readRows T U ((l.take j).map (·.2))).2 p.2).1], (readIns T (readRows T U ((l.take j).map (·.2))).2 p.2).2) := by rw [htk, List.map_append]; exact readL_snoc (readIns T) p.2 ((l.take j).map (·.2)) U
    have hUj := readRows_spec h (l := (l.take j).map (·.2)) hU fun i hi => by
      obtain ⟨z, hz, rfl⟩ := List.mem_map.mp hi
      exact (gi z (List.mem_of_mem_take hz)).1
    have hroom : (readRows T U ((l.take j).map (·.2))).2.Room (wordsOps T p.2.ops).length := rows_room h (r.le (by have := wordsN_take (T := T) l hp; lia))
    have hfree := words_free gp
    have wok : ∀ w ∈ decL p.1 :: p.2.words T, 32 ∉ w ∧ w ≠ [] := fun w hw => by
      rcases List.mem_cons.mp hw with rfl | hw
      · exact decL_free _
      · exact hfree w hw
    have hb0 : j = 0 → base0 l = p.1 := by rintro rfl; unfold base0; rw [hp]; rfl
    refine ⟨rho_rl A (partsV (rowsG T l)) a (if j = 0 then 0 else base0 l : Nat) (some (.int (j : Nat))) o2 o3, .there (.there (.there (.there (.there .here)))), ?_⟩
    refine rl_turn (k := k) (row := joinL [32] (decL p.1 :: p.2.words T)) (ad := p.1) (ws := p.2.words T) G hsc ok.inn (partsV_at (by simp only [rowsG, List.getElem?_map, hp, Option.map_some, rowL_join])) (by lia)
      (fun H Q q => c_split_row (k := k) G (ws := decL p.1 :: p.2.words T) (by simp) (fun w hw => (wok w hw).1) (fun w hw => (wok w hw).2) (rowL_len gp hb) q) (by have := gp.sum; rw [partsV_len, List.length_cons]; lia) (by simp only [Ins.words, List.length_cons]; lia) hb (by simp only [List.length_map, readL_len, List.length_take]; lia)
      (fun Q q => c_read_instruction (k := k) (pre := (a, O.list _) :: pre) G g gp hroom (fun i z hz => readOps_tab h hUj.2.1 gp.ok i z hz) (readIns_row h hUj.2.1 gp) q) (fun hj0 hne x ρ₁ s S lo => hraise j p hp (by rw [if_neg hj0] at hne; exact hne) x a _ ρ₁ s S lo) fun he => LpQ_next ?_
    have he' : p.1 = base0 l + j := by
      by_cases e : j = 0
      · rw [hb0 e, e]; rfl
      · rw [if_neg e] at he
        exact he.resolve_left e
    rw [hJ]
    dsimp only
    rw [hsn]
    refine ⟨by rw [List.map_append]; rfl, fun i z hi hz => ?_, some (.int (j : Nat)), some (.fl (partsV (decL p.1 :: p.2.words T))), some (.int (p.1 : Nat)), ?_⟩
    · rcases Nat.lt_or_ge i j with hij | hij
      · exact hbef i z hij hz
      · obtain rfl : i = j := by lia
        rw [hp] at hz; cases hz; exact he'
    · by_cases e : j = 0
      · rw [if_pos e, if_neg (Nat.succ_ne_zero j), hb0 e]
      · rw [if_neg e, if_neg e, if_neg (Nat.succ_ne_zero j)]
  · intro H₁ ρ₁ hj
    rw [hJ, rangeV_len, List.take_length] at hj
    obtain ⟨rfl, hbef, o, o2, o3, rfl⟩ := hj
    exact Thn_next (SPc (SP_return (EP_local ok (.tail _ (.tail _ (.tail _ (.head _)))) (q (fun j p hp => hbef j p (List.getElem?_eq_some_iff.mp hp).1 hp) a))))
end

theorem not_pure_frame : ¬ PureCls (.type "frame") := by unfold PureCls; decide
theorem not_pure_ref {a : Addr} : ¬ PureCls (.ref a) := by unfold PureCls; simp
section
variable {W : Wd} (G : Gd W) {Q : V → AHeap → Prop} {k : Nat} {A : SymA} {T U : Sym} {pre post : AHeap}
include G
theorem c_read_listing {l : List (Nat × Ins)} (h : T.Full) (g : T.Good) (gi : ∀ p ∈ l, p.2.Good T ∧ p.1 < 10 ^ 80) (hU : U.Full) (r : U.Room (wordsN T l)) (hlen : l.length ≤ 1000) (hseq : ∀ j p, l[j]? = some p → p.1 = base0 l + j)
    (q : Q (.fl ((readRows T U (l.map (·.2))).1.map Ins.V)) (sy pre A (readRows T U (l.map (·.2))).2 post)) : CallP W (k + 10) (.ref 405) [.ref A.x, .fl (partsV (rowsG T l))] (sy pre A U post) Q :=
  CallP.frozL (en_read_listing G fun F hsc ok => b_read_listing (k := k) G hsc ok h g gi hU r hlen (fun j p hp hne => absurd (hseq j p hp) hne) fun _ a => ⟨a, _, _, rfl, rfl, q⟩)
theorem c__law_refused {A₀ : Around} {env₀ : Env} {L₀ : Addr} {s : Shared} {vs : List Value} {l : List (Nat × Ins)} (hfr : A₀.frames = some [env₀]) (hk : env₀.scope.kind ≠ .module) (hf : env₀.frame = some L₀) (hL : ∃ o, s.heap.get? L₀ = some o ∧ o.cls = .type "frame" ∧ ∀ vs, o.data ≠ .fields vs)
    (hB : W.B.heap.get? L₀ = none) (hn : L₀ ∉ dom (sy pre A T post)) (r : Rm (k + 11) A₀) (S : W.St (sy pre A T post) s) (ra : W.Reps (dom (sy pre A T post)) s.heap vs [.ref A.x, .fl (partsV (rowsG T l))])
    (h : T.Full) (g : T.Good) (gi : ∀ p ∈ l, p.2.Good T ∧ p.1 < 10 ^ 80) (hr : T.Room (wordsN T l)) (hlen : l.length ≤ 1000) (hbad : ∃ j p, l[j]? = some p ∧ p.1 ≠ base0 l + j) :
    codeAny W.M A₀ (.call (.ref 447) ⟨vs, []⟩) (Refused W (sy pre A T post) L₀ s) s := by
  generalize hH : sy pre A T post = H at *
  have G₁ : Gd (W.on H s) := ⟨on_ok G.wok S, G.hK⟩
  refine enterR (W := W.on H s) (H := H) (ds := [.ref A.x, .fl (partsV (rowsG T l))]) (ps := [Str.ofString "signs", Str.ofString "rows"]) (more := []) G₁.wok nm__law_refused r (on_st S) ra ((congrArg (·.lookup 447) G₁.hK).trans (lk447 _)) (by rw [G₁.hK]; kernel_rfl) rfl ?_ ?_
  · exact bd2 (fun _ _ => BindsTo.of_eq (by kernel_rfl)) ra.length
  rintro F e1 e2 e3 e4 e5 e6 ok ⟨s₀, S₀, l₀, n₀, k₀, no⟩
  refine no ?_
  have hF : F.A.frames = some [F.env, env₀] := by rw [e6]; exact Around.frames_deeper hfr
  refine wpAny_execs_cons (wpAny_Try_except ?_)
  refine SP.only (Qf := fun _ _ _ => False) S₀ l₀ n₀ (fun _ _ _ x => x) fun E₁ hE₁ => ?_
  refine SPc (SP_expr (ok.on _) (EP_callX G₁.wok (kp_read_listing G₁) (eg_read_listing G₁ (ok.on _) e2 gm__law_refused_read_listing ⟨rfl, ?_⟩) rfl rfl rfl) rfl)
  refine NP_cons ?_
  refine EP_local (ok.on _) (.head _) ?_
  refine NP_cons ?_
  refine EP_local (ok.on _) (.tail _ (.head _)) ?_
  refine NP_nil ?_
  intro sa va Sa la rsa
  have G₂ : Gd ((W.on H s).on H sa) := ⟨on_ok G₁.wok Sa, G₁.hK⟩
  refine enterR (W := (W.on H s).on H sa) (H := H) (ds := [.ref A.x, .fl (partsV (rowsG T l))]) (ps := [Str.ofString "symbols", Str.ofString "rows"]) (more := [Str.ofString "table", Str.ofString "instrs", Str.ofString "base", Str.ofString "place", Str.ofString "words", Str.ofString "address"]) G₂.wok nm_read_listing ok.room (on_st Sa) rsa ((congrArg (·.lookup 405) G₂.hK).trans (lk405 _)) (by rw [G₂.hK]; kernel_rfl) rfl ?_ ?_
  · exact bd2 (fun _ _ => BindsTo.of_eq (by kernel_rfl)) rsa.length
  rintro F₂ f1 f2 f3 f4 f5 f6 ok₂ ⟨s₁, S₁, l₁, n₁, k₁, no₁⟩
  refine no₁ ?_
  have hF₂ : F₂.A.frames = some [F₂.env, F.env, env₀] := by rw [f6]; exact Around.frames_deeper hF
  refine SP.only (Qf := bodyQ fun _ _ => False) S₁ l₁ n₁ (fun f _ _ x => by cases f <;> exact x.elim) fun E₂ hE₂ => ?_
  subst hH
  refine b_read_listing (k := k) (F := F₂.on E₂) (A := A) (pre := pre) (post := post) G₂ f2 (ok₂.on E₂) h g gi h hr hlen (fun j p hp hne x a zs ρ₁ sr Sr lr => ?hr) fun hseq => ?hq
  case hq =>
    obtain ⟨j, p, hp, hne⟩ := hbad
    exact absurd (hseq j p hp) hne
  subst hE₂
  refine PassesOwn.leaving _ _ ?_
  rw [readRows_self h fun i hi => by
    obtain ⟨z, hz, rfl⟩ := List.mem_map.mp hi
    exact (gi z (List.mem_of_mem_take hz)).1] at Sr lr
  obtain ⟨oe, ws, a0, he, hec, hed, h0, h1, _⟩ := (Sr.rep _ (.head _)).2
  obtain ⟨Sr₁, K₁⟩ := on_off Sa Sr
  obtain ⟨Sr₀, K₀⟩ := on_off S Sr₁
  have sub2 : (sy pre A T post).Sublist ((x, O.exc 52 true) :: (a, O.list zs) :: sy pre A T post) := .cons _ (.cons _ (.refl _))
  have SrH := St.sub Sr₀ sub2
  obtain ⟨o₂, g2, c2, d2⟩ := lr.frame_of
  obtain ⟨o₁, g1, c1, d1⟩ := la.frame_of
  have g1' : sr.heap.get? F.L = some o₁ := K₁.keep _ _ n₀ g1
  obtain ⟨o₀, g0, c0, d0⟩ := hL
  have g0' : sr.heap.get? L₀ = some o₀ := K₀.keep _ _ hn g0
  have hx : x ∉ dom (sy pre A T post) := fun hm => (List.nodup_cons.mp Sr₀.nodup).1 (.tail _ hm)
  have hF1 : F.L < F₂.L := by rw [f3]; exact la.lt
  have old : ∀ b o, b ≠ L₀ → b ∉ dom (sy pre A T post) → s.heap.get? b = some o → b ∉ [x, F₂.L, F.L, L₀] := fun b o hb hd e hm => by
    have := Heap.lt_size e
    rcases List.mem_cons.mp hm with q | hm
    · exact K₀.dom b o e hd (q ▸ .head _)
    rcases List.mem_cons.mp hm with q | hm
    · exact Nat.lt_asymm hF1 (show F₂.L < F.L by rw [e3, ← show b = F₂.L from q]; exact this)
    rcases List.mem_cons.mp hm with q | hm
    · exact Nat.lt_irrefl _ (show F.L < F.L from (show b < F.L by rw [e3]; exact this) |> fun z => by rwa [show b = F.L from q] at z)
    exact hb (List.mem_singleton.mp hm)
  have bot : ∀ b o, W.B.heap.get? b = some o → b ∉ [x, F₂.L, F.L, L₀] := fun b o e =>
    old b o (fun q => by rw [q, hB] at e; cases e) (fun hm => by
      obtain ⟨p, hp, rfl⟩ := List.mem_map.mp hm
      rw [(S.rep p hp).1] at e; cases e) (S.keep b o e)
  have bot' : ∀ b o, W.B.heap.get? b = some o → (hideAll sr.heap [x, F₂.L, F.L, L₀]).get? b = some o := fun b o e => hideAll_get _ (SrH.keep b o e) (bot b o e)
  have nB : ∀ b ∈ [x, F₂.L, F.L, L₀], W.B.heap.get? b = none := fun b hb => by
    cases e : W.B.heap.get? b with
    | none => rfl
    | some o => exact (bot b o e hb).elim
  refine leave_exc (as := [x, F₂.L, F.L, L₀]) hF₂ rfl ?_ he hed h0 h1 ?_ (.head _) fun h' fly k4 up => ?_
  · intro env hm
    rcases List.mem_cons.mp hm with rfl | hm
    · exact ⟨fun q => (nomatch ok₂.kind.symm.trans q), _, rfl, o₂, g2, d2⟩
    rcases List.mem_cons.mp hm with rfl | hm
    · exact ⟨fun q => (nomatch ok.kind.symm.trans q), _, rfl, o₁, g1', d1⟩
    rcases List.mem_singleton.mp hm with rfl
    exact ⟨hk, _, hf, o₀, g0', d0⟩
  · intro env hm a ha
    rcases List.mem_cons.mp hm with rfl | hm
    · cases ha; exact .tail _ (.head _)
    rcases List.mem_cons.mp hm with rfl | hm
    · cases ha; exact .tail _ (.tail _ (.head _))
    rcases List.mem_singleton.mp hm with rfl
    rw [hf] at ha; cases ha; exact .tail _ (.tail _ (.tail _ (.head _)))
  refine ⟨_, rfl, ?_⟩
  show E₁ _ _
  rw [hE₁]
  have fr1 : ∀ b ∈ [x, F₂.L, F.L, L₀], ∃ o, sr.heap.get? b = some o ∧ ¬ PureCls o.cls := fun b hb => by
    rcases List.mem_cons.mp hb with rfl | hb
    · exact ⟨oe, he, by rw [hec]; exact not_pure_ref⟩
    rcases List.mem_cons.mp hb with rfl | hb
    · exact ⟨o₂, g2, by rw [c2]; exact not_pure_frame⟩
    rcases List.mem_cons.mp hb with rfl | hb
    · exact ⟨o₁, g1', by rw [c1]; exact not_pure_frame⟩
    rcases List.mem_singleton.mp hb with rfl
    exact ⟨o₀, g0', by rw [c0]; exact not_pure_frame⟩
  rw [hec] at fly
  have nH : ∀ b ∈ [x, F₂.L, F.L, L₀], b ∉ dom (sy pre A T post) := fun b hb => by
    rcases List.mem_cons.mp hb with rfl | hb
    · exact hx
    rcases List.mem_cons.mp hb with rfl | hb
    · exact n₁
    rcases List.mem_cons.mp hb with rfl | hb
    · exact n₀
    rcases List.mem_singleton.mp hb with rfl
    exact hn
  show wpAny _ _ _ _ _ _
  refine catch_exc (C := 52) hF rfl fly (bot' _ _ (G.wok.k _ _ (lf_cls G))) rfl (fun E' h'' P st hP => ?ht) fun E' h'' st up' => ?hs
  case ht =>
    have hk' : F.env.kindOf (Str.ofString "LinkFault") = some .globalImplicit := lookup_of_mem ok.nodup (by show _ ∈ F.sc.names; rw [e2]; exact mem_of_lookup gm__law_refused_LinkFault)
    exact Calls.Name_function_global ok.kind hk' (Calls.loadGlobal_global (env := F.env) (G.wok.g.keeps fun b o e => st _ _ (bot' b o e)) (gn_LinkFault G) hP)
  case hs =>
    refine wpAny_execs_cons (wpAny_Return_some (wpAny_Constant_bool ?_))
    have kpH : ∀ b o, b ∉ [x, F₂.L, F.L, L₀] → sr.heap.get? b = some o → h''.get? b = some o := fun b o hb e => st _ _ (hideAll_get _ e hb)
    refine ⟨rfl, St.slots SrH nB nH fr1 st rfl rfl, fun b o hb hd e => kpH _ _ (old b o hb hd e) (K₀.keep _ _ hd e), fun o e => ?_⟩
    rw [g0] at e; cases e
    exact (up.trans up') _ _ g0' d0
end

noncomputable def atoms0 : List (List Nat) := [[91, 93], [46], [123, 125], [45], [43], [42], [47], [44], [124], [59], [45, 62], [92, 43], [58, 45], [63, 45], [45, 45, 62], [33], [116, 114, 117, 101], [102, 97, 105, 108], [102, 97, 108, 115, 101], [99, 97, 108, 108], [61], [94], [101, 114, 114, 111, 114], [], [101, 110, 100, 95, 111, 102, 95, 102, 105, 108, 101], [115, 121, 115, 116, 101, 109], [36, 86, 65, 82], [99, 97, 116, 99, 104], [116, 104, 114, 111, 119]]
noncomputable def funs0 : List (List Nat × Nat) := [([46], 2), ([44], 2), ([59], 2), ([45, 62], 2), ([92, 43], 1), ([58, 45], 2), ([58, 45], 1), ([63, 45], 1), ([45, 45, 62], 2), ([123, 125], 1), ([61], 2), ([94], 2), ([45], 1), ([45], 2), ([43], 2), ([47], 2), ([101, 114, 114, 111, 114], 2), ([36, 86, 65, 82], 1), ([99, 97, 116, 99, 104], 3), ([116, 104, 114, 111, 119], 1), ([33], 0), ([116, 114, 117, 101], 0), ([102, 97, 105, 108], 0), ([102, 97, 108, 115, 101], 0), ([99, 97, 108, 108], 1), ([99, 97, 108, 108], 2), ([99, 97, 108, 108], 3), ([99, 97, 108, 108], 4), ([99, 97, 108, 108], 5), ([99, 97, 108, 108], 6), ([99, 97, 108, 108], 7), ([99, 97, 108, 108], 8)]
noncomputable def funV (p : List Nat × Nat) : V := .tup [.str (S p.1), .int (p.2 : Nat)]
noncomputable def addA (l : List (List Nat)) (T : Sym) : Sym := l.foldl (fun T x => (T.atom x).2) T
noncomputable def addF (l : List (List Nat × Nat)) (T : Sym) : Sym := l.foldl (fun T p => (T.func p.1 p.2).2) T
noncomputable def symA0 : Sym := addA atoms0 ⟨[], []⟩
noncomputable def sym0 : Sym := addF funs0 symA0
theorem addA_len : ∀ (l : List (List Nat)) (T : Sym), (addA l T).texts.length ≤ T.texts.length + l.length ∧ (addA l T).fns = T.fns
  | [], T => ⟨Nat.le_refl _, rfl⟩
  | x :: l, T => by
    obtain ⟨h1, h2⟩ := addA_len l (T.atom x).2
    have h3 : (T.atom x).2.texts.length ≤ T.texts.length + 1 ∧ (T.atom x).2.fns = T.fns := by
      unfold Sym.atom; split
      · exact ⟨Nat.le_succ _, rfl⟩
      · exact ⟨by simp, rfl⟩
    exact ⟨by simp only [List.length_cons]; exact Nat.le_trans h1 (by lia), h2.trans h3.2⟩
theorem addF_len : ∀ (l : List (List Nat × Nat)) (T : Sym), (addF l T).texts.length ≤ T.texts.length + l.length ∧ (addF l T).fns.length ≤ T.fns.length + l.length
  | [], T => ⟨Nat.le_refl _, Nat.le_refl _⟩
  | x :: l, T => by
    obtain ⟨h1, h2⟩ := addF_len l (T.func x.1 x.2).2
    have h3 : (T.func x.1 x.2).2.texts.length ≤ T.texts.length + 1 ∧ (T.func x.1 x.2).2.fns.length ≤ T.fns.length + 1 := by
      have h4 : (T.atom x.1).2.texts.length ≤ T.texts.length + 1 ∧ (T.atom x.1).2.fns = T.fns := by
        unfold Sym.atom; split
        · exact ⟨Nat.le_succ _, rfl⟩
        · exact ⟨by simp, rfl⟩
      unfold Sym.func Sym.functor; split
      · exact ⟨h4.1, by rw [h4.2]; exact Nat.le_succ _⟩
      · exact ⟨h4.1, by simp [h4.2]⟩
    exact ⟨by simp only [List.length_cons]; exact Nat.le_trans h1 (by lia), by simp only [List.length_cons]; exact Nat.le_trans h2 (by lia)⟩
theorem perm6 {α : Type} (a b c d e f : α) (l : List α) : (a :: b :: c :: d :: e :: f :: l).Perm (f :: e :: d :: c :: a :: b :: l) :=
  (((List.reverse_perm [a, b, c, d, e, f]).symm.trans ((List.Perm.swap a b []).append_left [f, e, d, c])).append_right l)
section
variable {W : Wd} (G : Gd W) {H : AHeap} {Q : V → AHeap → Prop} {k : Nat}
include G
theorem c_fixed_atoms (q : Q (.tup (textsV atoms0)) H) : CallP W (k + 1) (.ref 61) [] H Q := by
  refine @en_fixed_atoms W G k H Q fun F hsc ok => ?_
  refine SPc ?_
  refine SP_return ?_
  refine EP_tuple ?_
  refine NP_lit1 (ds := textsV atoms0) (by kernel_rfl) (by kernel_rfl) ?_
  refine ⟨by decide, ?_⟩
  exact q
theorem c_fixed_functors (q : Q (.tup (funs0.map funV)) H) : CallP W (k + 1) (.ref 68) [] H Q := by
  refine @en_fixed_functors W G k H Q fun F hsc ok => ?_
  refine SPc ?_
  refine SP_return ?_
  refine EP_tuple ?_
  refine NP_lit2 (ds := funs0.map funV) (by kernel_rfl) (by decide +kernel) (by kernel_rfl) ?_
  refine ⟨by decide, ?_⟩
  exact q
end
section
variable {W : Wd} (G : Gd W) {H : AHeap} {Q : V → AHeap → Prop} {k : Nat}
theorem sa_set (G : Gd W) : findIn W.K (.ref 155) "__setattr__" = some (some (.builtin "object.__setattr__")) := by rw [G.hK]; kernel_rfl
theorem sa_po (G : Gd W) : plainOver W.K 155 = true := by rw [G.hK]; kernel_rfl
theorem sa_t (G : Gd W) : takerIn W.K 155 (Str.ofString "texts") = some none := by rw [G.hK]; kernel_rfl
theorem sa_an (G : Gd W) : takerIn W.K 155 (Str.ofString "atom_numbers") = some none := by rw [G.hK]; kernel_rfl
theorem sa_f (G : Gd W) : takerIn W.K 155 (Str.ofString "functors") = some none := by rw [G.hK]; kernel_rfl
theorem sa_fn (G : Gd W) : takerIn W.K 155 (Str.ofString "functor_numbers") = some none := by rw [G.hK]; kernel_rfl
include G
theorem c_Symbols___init__ {x dx : Addr} (q : ∀ A : SymA, A.x = x → Q .none (sy [] A sym0 H)) : CallP W (k + 4) (.ref 82) [.ref x] ((x, .inst 155 dx) :: (dx, .ns []) :: H) Q := by
  refine en_Symbols___init__ G fun F hsc ok => SPc ?_
  have hd : hasDictIn W.K 155 = true := kg_hd G
  refine SP_setattr G.wok (sa_set G) (sa_po G) (sa_t G) hd (EP_list (NP_nil ⟨by decide, fun t => EP_local ok (.head _) ⟨rfl, .tail _ (.head _), .tail _ (.tail _ (.head _)), by simp, by simp, _, .there (.there .here), ?_⟩⟩))
  refine Thn_next (SPc ?_)
  refine SP_setattr G.wok (sa_set G) (sa_po G) (sa_an G) hd (EP_dict0s fun an => EP_local ok (.head _) ⟨rfl, .tail _ (.tail _ (.head _)), .tail _ (.tail _ (.tail _ (.head _))), (show _ ∉ [Str.ofString "texts"] by decide +kernel), by simp, _, .there (.there (.there .here)), ?_⟩)
  refine Thn_next (SPc ?_)
  refine SP_setattr G.wok (sa_set G) (sa_po G) (sa_f G) hd (EP_list (NP_nil ⟨by decide, fun f => EP_local ok (.head _) ⟨rfl, .tail _ (.tail _ (.tail _ (.head _))), .tail _ (.tail _ (.tail _ (.tail _ (.head _)))), (show _ ∉ [Str.ofString "texts", Str.ofString "atom_numbers"] by decide +kernel), by simp, _, .there (.there (.there (.there .here))), ?_⟩⟩))
  refine Thn_next (SPc ?_)
  refine SP_setattr G.wok (sa_set G) (sa_po G) (sa_fn G) hd (EP_dict0t fun fn => EP_local ok (.head _) ⟨rfl, .tail _ (.tail _ (.tail _ (.tail _ (.head _)))), .tail _ (.tail _ (.tail _ (.tail _ (.tail _ (.head _))))), (show _ ∉ [Str.ofString "texts", Str.ofString "atom_numbers", Str.ofString "functors"] by decide +kernel), by simp, _, .there (.there (.there (.there (.there .here)))), ?_⟩)
  refine Thn_next ?_
  obtain ⟨A, hA⟩ : ∃ A : SymA, A = ⟨x, dx, t, an, f, fn⟩ := ⟨_, rfl⟩
  refine SP.perm (H' := sy [] A ⟨[], []⟩ H) (by rw [hA]; exact perm6 _ _ _ _ _ _ _) ?_
  have ex : x = A.x := by rw [hA]
  rw [ex]
  refine SPc ?_
  obtain ⟨J, hJ⟩ : ∃ J : Nat → AHeap → Rho → Prop, J = fun j H' ρ' => H' = sy [] A (addA (atoms0.take j) ⟨[], []⟩) H ∧ ∃ o, ρ' = [(Str.ofString "self", some (.ref A.x)), (Str.ofString "text", o), (Str.ofString "row", none)] := ⟨_, rfl⟩
  refine SPfor ok J (textsV atoms0) ?_ ?_ ?_
  · refine EP_call0 ok G.wok (k := k + 3) (Nat.le_refl _) (kp_fixed_atoms G) (eg_fixed_atoms G ok hsc gm_Symbols___init___fixed_atoms ⟨rfl, c_fixed_atoms (k := k + 2) G ?_⟩)
    rw [hJ]
    exact ⟨ItP_tup ok.room.handled, rfl, _, rfl⟩
  · rintro j d H₁ ρ₁ hd hj
    rw [hJ] at hj
    obtain ⟨rfl, o, rfl⟩ := hj
    obtain ⟨y, hy, rfl⟩ : ∃ y, atoms0[j]? = some y ∧ d = .str (S y) := by
      rw [textsV, List.getElem?_map] at hd
      obtain ⟨y, hy, rfl⟩ := Option.map_eq_some_iff.mp hd
      exact ⟨y, hy, rfl⟩
    obtain ⟨T, hT⟩ : ∃ T, T = addA (atoms0.take j) ⟨[], []⟩ := ⟨_, rfl⟩
    have hs : T.Small := by
      obtain ⟨h1, h2⟩ := addA_len (atoms0.take j) ⟨[], []⟩
      have h3 : (atoms0.take j).length ≤ 29 := by rw [List.length_take]; exact Nat.min_le_right _ _
      rw [← hT] at h1 h2
      exact ⟨by have : T.texts.length ≤ 0 + (atoms0.take j).length := h1; lia, by rw [h2]; exact Nat.zero_le _⟩
    have hn : addA (atoms0.take (j + 1)) ⟨[], []⟩ = (T.atom y).2 := by rw [List.take_add_one, hy, hT]; simp [addA]
    rw [← hT]
    refine ⟨_, .there .here, SPc ?_⟩
    refine SP_expr ok.inn ?_
    refine EP_own (x := A.x) (k := k + 3) ok.inn G.wok (Nat.le_refl _) (om_atom G) ?_
    refine EP_local ok.inn mem0 ?_
    refine ⟨rfl, isy m_x m_dx (by decide +kernel), ?_⟩
    refine NP_loc ok.inn mem1 (NP_nil ?_)
    refine c_atom (k := k + 2) G hs ?_
    refine ⟨trivial, Thn_next (SP_nil (LpQ_next ?_))⟩
    rw [hJ]
    exact ⟨by rw [hn], _, rfl⟩
  · intro H₁ ρ₁ hj
    rw [hJ] at hj
    obtain ⟨rfl, o, rfl⟩ := hj
    refine Thn_next (SPc ?_)
    clear hJ J
    obtain ⟨J, hJ⟩ : ∃ J : Nat → AHeap → Rho → Prop, J = fun j H' ρ' => H' = sy [] A (addF (funs0.take j) symA0) H ∧ ∃ o', ρ' = [(Str.ofString "self", some (.ref A.x)), (Str.ofString "text", o), (Str.ofString "row", o')] := ⟨_, rfl⟩
    refine SPfor ok J (funs0.map funV) ?_ ?_ ?_
    · refine EP_call0 ok G.wok (k := k + 3) (Nat.le_refl _) (kp_fixed_functors G) (eg_fixed_functors G ok hsc gm_Symbols___init___fixed_functors ⟨rfl, c_fixed_functors (k := k + 2) G ?_⟩)
      rw [hJ]
      exact ⟨ItP_tup ok.room.handled, rfl, _, rfl⟩
    · rintro j d H₁ ρ₁ hd hj
      rw [hJ] at hj
      obtain ⟨rfl, o', rfl⟩ := hj
      obtain ⟨y, hy, rfl⟩ : ∃ y, funs0[j]? = some y ∧ d = .tup [.str (S y.1), .int (y.2 : Nat)] := by
        rw [List.getElem?_map] at hd
        obtain ⟨y, hy, rfl⟩ := Option.map_eq_some_iff.mp hd
        exact ⟨y, hy, rfl⟩
      obtain ⟨T, hT⟩ : ∃ T, T = addF (funs0.take j) symA0 := ⟨_, rfl⟩
      have hs : T.texts.length < 100000 ∧ T.fns.length ≤ 100000 := by
        obtain ⟨h1, h2⟩ := addF_len (funs0.take j) symA0
        obtain ⟨h4, h5⟩ := addA_len atoms0 ⟨[], []⟩
        have h3 : (funs0.take j).length ≤ 32 := by rw [List.length_take]; exact Nat.min_le_right _ _
        rw [← hT] at h1 h2
        have h4 : symA0.texts.length ≤ 0 + 29 := h4
        have h5 : symA0.fns.length = 0 := by rw [symA0, h5]; rfl
        exact ⟨by lia, by lia⟩
      have hn : addF (funs0.take (j + 1)) symA0 = (T.func y.1 y.2).2 := by rw [List.take_add_one, hy, hT]; simp [addF]
      rw [← hT]
      refine ⟨_, .there (.there .here), SPc ?_⟩
      refine SP_expr ok.inn ?_
      refine EP_own (x := A.x) (k := k + 3) ok.inn G.wok (Nat.le_refl _) (om_func G) ?_
      refine EP_local ok.inn mem0 ?_
      refine ⟨rfl, isy m_x m_dx (by decide +kernel), ?_⟩
      refine NP_cons (EP_sub (EP_local ok.inn mem2 (EP_int ?_)))
      refine op_item_tup (n := 0) (d := .str (S y.1)) rfl (by lia) ?_
      refine NP_cons (EP_sub (EP_local ok.inn mem2 (EP_int ?_)))
      refine op_item_tup (n := 1) (d := .int (y.2 : Nat)) rfl (by lia) ?_
      refine NP_nil ?_
      refine c_func (k := k + 1) G hs.1 hs.2 ?_
      refine ⟨trivial, Thn_next (SP_nil (LpQ_next ?_))⟩
      rw [hJ]
      exact ⟨by rw [hn], _, rfl⟩
    · intro H₁ ρ₁ hj
      rw [hJ] at hj
      obtain ⟨rfl, o', rfl⟩ := hj
      refine Thn_next (SP_nil (bodyQ_next ?_))
      exact q A ex.symm
theorem c_Symbols (q : ∀ A : SymA, Q (.ref A.x) (sy [] A sym0 H)) : CallP W (k + 5) (.ref 155) [] H Q :=
  CallP_make (fI := 82) G.wok (by rw [G.hK]; kernel_rfl) (by rw [G.hK]; kernel_rfl) (by rw [G.hK]; kernel_rfl) fun x dx => c_Symbols___init__ (k := k) G fun A e => ⟨rfl, e ▸ q A⟩
end
theorem full0 : sym0.Full := ⟨show ∀ x ∈ sym0.texts, x.length ≤ 100 ∧ ∀ c ∈ x, c ≤ 0x10FFFF by decide +kernel, by decide +kernel, by decide +kernel, by decide +kernel⟩
theorem room0 : sym0.texts.length ≤ 61 ∧ sym0.fns.length ≤ 32 := by decide +kernel

noncomputable def figsV (l : List Nat) : List V := l.map fun n => V.int (n : Nat)
noncomputable abbrev fg (pre : AHeap) (g : Addr) (l : List Nat) (post : AHeap) : AHeap := pre ++ (g, .list (figsV l)) :: post
theorem fg_mem {pre post : AHeap} {g : Addr} {l : List Nat} : (g, O.list (figsV l)) ∈ fg pre g l post := List.mem_append_right _ (.head _)
theorem fg_put {pre post : AHeap} {g : Addr} {l l' : List Nat} : Put g (.list (figsV l')) (fg pre g l post) (fg pre g l' post) := Put.pre .here pre
noncomputable def codes13 : List Nat := [107, 57, 32, 39, 47, 58, 66, 95, 92, 45, 960, 9, 125]
theorem emptyS : Str.ofString "" = S [] := by decide +kernel
theorem codes13_le {i c : Nat} (h : codes13[i]? = some c) : c ≤ 0x10FFFF := by
  have : ∀ c ∈ codes13, c ≤ 0x10FFFF := by decide
  exact this c (List.mem_of_getElem? h)
section
variable {W : Wd} (G : Gd W) {Q : V → AHeap → Prop} {k : Nat} {g : Addr} {l : List Nat} {pre post : AHeap}
include G
theorem c__law_draw {m : Nat} (hm : 0 < m) (hl : l.length ≤ 90) (q : ∀ n l', n < m → l'.length ≤ 90 → Q (.int (n : Nat)) (fg pre g l' post)) : CallP W (k + 1) (.ref 419) [.ref g, .int (m : Nat)] (fg pre g l post) Q := by
  refine CallP.drop (en__law_draw G fun F hsc ok => SPc ?_)
  refine SP_if (TP_cmpL ok mem0 ?_)
  refine EP_list ?_
  refine NP_nil ?_
  refine ⟨by simp, fun a => ?_⟩
  refine op_eq_nil ok (.tail _ fg_mem) (.head _) ?_
  refine ot_bool ?_
  refine ⟨fun h => ?_, fun h => ?_⟩
  · refine SPc (SP_return (EP_int ?_))
    cases l with
    | nil => exact ⟨fg pre g [] post, .cons _ (.refl _), q 0 [] hm (Nat.zero_le _)⟩
    | cons x l => cases h
  · refine SP_nil (SPc (SP_return (EP_bin ?_)))
    rcases List.eq_nil_or_concat l with rfl | ⟨l', n, rfl⟩
    · cases h
    rw [List.concat_eq_append] at hl ⊢
    rw [List.length_append] at hl
    refine EP_meth0 (id := "list.pop") ?_
    refine EP_local ok (.head _) ⟨meth_list (.tail _ fg_mem) PySem.F.slot_list_pop PySem.F.type_list_pop, ?_⟩
    refine op_pop (l := figsV l') (d := .int (n : Nat)) (H' := (a, .list []) :: fg pre g l' post) (by rw [show figsV l' ++ [V.int (n : Nat)] = figsV (l' ++ [n]) by simp [figsV]]; exact .tail _ fg_mem) (by simp only [figsV, List.length_map]; lia) (.there fg_put) ?_
    refine EP_local ok mem1 ?_
    refine op_mod_int (by lia) ?_
    refine ⟨fg pre g l' post, .cons _ (.refl _), ?_⟩
    rw [Int.fmod_eq_emod_of_nonneg _ (by lia)]
    exact q (n % m) l' (Nat.mod_lt _ hm) (by lia)
theorem EP_draw {F : Fm} {sc : Scope} {ρ : Rho} {p1 p2 p3 pos : Pos} {j : Nat} {i : Int} (m : Nat) (ok : F.Ok W (k + 1)) (hsc : F.sc = sc) (hd : sc.names.lookup (Str.ofString "_law_draw") = some .globalImplicit) (hf : (Str.ofString "figures", some (.ref g)) ∈ ρ) (hm : 0 < m) (hl : l.length ≤ 90)
    (q : ∀ n l', n < m → l'.length ≤ 90 → Q (.int (n : Nat)) (fg pre g l' post)) (hi : i = (m : Nat) := by rfl) : EP W F ρ (fg pre g l post) (eval (.Call (.Name (Str.ofString "_law_draw") p1) [.Name (Str.ofString "figures") p2, .Constant (.int i) j p3] [] pos) F.env) Q := by
  subst hi
  refine ec__law_draw G ok hsc hd ?_
  refine NP_cons (EP_local ok hf (NP_cons (EP_int (NP_nil ?_))))
  exact CallP.le (c__law_draw (k := k) G hm hl q) (Nat.le_refl _)
theorem EP_choice {F : Fm} {sc : Scope} {ρ : Rho} {elts : List Expr} {ds : List V} {p p1 p2 p3 p4 pos : Pos} {j : Nat} {i : Int} (m : Nat) (ok : F.Ok W (k + 1)) (hsc : F.sc = sc) (hd : sc.names.lookup (Str.ofString "_law_draw") = some .globalImplicit) (hf : (Str.ofString "figures", some (.ref g)) ∈ ρ) (hm : 0 < m) (hl : l.length ≤ 90)
    (hN : ∀ Q : List V → AHeap → Prop, Q ds (fg pre g l post) → NP W F ρ (fg pre g l post) (spliced (backTo p (starEach elts F.env))) Q) (hz : ds.length = m) (hz' : m ≤ 1000)
    (q : ∀ (n : Nat) (d : V) (l' : List Nat), ds[n]? = some d → l'.length ≤ 90 → Q d (fg pre g l' post)) (hi : i = (m : Nat) := by rfl) :
    EP W F ρ (fg pre g l post) (eval (.Subscript (.List elts p) (.Call (.Name (Str.ofString "_law_draw") p1) [.Name (Str.ofString "figures") p2, .Constant (.int i) j p3] [] p4) pos) F.env) Q := by
  refine EP_pick hN (by lia) fun a => ?_
  refine EP_draw (pre := (a, O.list ds) :: pre) G m ok hsc hd hf hm hl (fun n l' hn hl' => ?_) hi
  obtain ⟨d, hd⟩ : ∃ d, ds[n]? = some d := ⟨_, List.getElem?_eq_getElem (by lia)⟩
  exact ⟨n, d, fg pre g l' post, rfl, rfl, hd, by lia, q n d l' hd hl'⟩
theorem c__law_name (hl : l.length ≤ 90) (q : ∀ x l', x.length ≤ 3 → (∀ c ∈ x, c ≤ 0x10FFFF) → l'.length ≤ 90 → Q (.str (S x)) (fg pre g l' post)) : CallP W (k + 2) (.ref 426) [.ref g] (fg pre g l post) Q := by
  refine en__law_name G fun F hsc ok => SPc ?_
  refine SP_assign ok (EP_str ?_)
  refine StI1 ?_
  refine Thn_next (SPc ?_)
  refine SP_forX ok ?_
  refine ec_range G ok hsc gm__law_name_range (NP_cons ?_)
  refine EP_choice (ds := [.int 1, .int 2, .int 0, .int 3]) (k := k) G 4 ok hsc gm__law_name__law_draw (.head _) (by lia) hl (fun Q q => NP_lit1 rfl rfl q) rfl (by lia) fun n d l₁ hd hl₁ => NP_nil ?_
  obtain ⟨m, hm, rfl⟩ : ∃ m : Nat, m ≤ 3 ∧ d = .int (m : Nat) := by
    match n, hd with
    | 0, hd => cases hd; exact ⟨1, by lia, rfl⟩
    | 1, hd => cases hd; exact ⟨2, by lia, rfl⟩
    | 2, hd => cases hd; exact ⟨0, by lia, rfl⟩
    | 3, hd => cases hd; exact ⟨3, by lia, rfl⟩
  refine op_range1 ?_
  refine ⟨fun j H' ρ' => ∃ (x l' : List Nat) (o : Option V), x.length ≤ j ∧ (∀ c ∈ x, c ≤ 0x10FFFF) ∧ l'.length ≤ 90 ∧ H' = fg pre g l' post ∧ ρ' = [(Str.ofString "figures", some (.ref g)), (Str.ofString "text", some (.str (S x))), (Str.ofString "turn", o)], rangeV 0 (m : Nat), ItP_rng1 ok.room.handled (by lia) (by lia) (by lia) (by lia), ⟨[], l₁, _, Nat.le_refl _, by simp, hl₁, rfl, by rw [emptyS]⟩, ?_, ?_⟩
  · rintro j d H₁ ρ₁ hd ⟨x, l', o, hx, hc, hl', rfl, rfl⟩
    obtain ⟨rfl, hj⟩ := rangeV_get hd
    refine ⟨_, .there (.there .here), ?_⟩
    refine SPc ?_
    refine SP_aug ok.inn (.tail _ (.head _)) ?_
    refine EP_choice (ds := codes13.map fun c => .str (S [c])) (k := k) G 13 ok.inn hsc gm__law_name__law_draw (.head _) (by lia) hl' (fun Q q => ?_) rfl (by lia) fun n d l₂ hd hl₂ => ?_
    · refine NP_cons (EP_str (NP_cons (EP_str (NP_cons (EP_str (NP_cons (EP_str (NP_cons (EP_str (NP_cons (EP_str (NP_cons (EP_str (NP_cons (EP_str (NP_cons (EP_str (NP_cons (EP_str (NP_cons ?_))))))))))))))))))))
      refine ec_chr G ok.inn hsc gm__law_name_chr ?_
      refine NP_cons (EP_int (NP_nil ?_))
      refine op_chr (c := 960) (by lia) ?_
      refine NP_cons (EP_str (NP_cons (EP_str (NP_nil ?_))))
      exact q
    obtain ⟨c, hcn, rfl⟩ : ∃ c, codes13[n]? = some c ∧ d = .str (S [c]) := by
      rw [List.getElem?_map] at hd
      obtain ⟨y, hy, rfl⟩ := Option.map_eq_some_iff.mp hd
      exact ⟨y, hy, rfl⟩
    refine op_iadd_str (by rw [S_len, S_len, sizeLine_eq]; simp; lia) ?_
    rw [S_append]
    refine ⟨_, .there .here, Thn_next (SP_nil (LpQ_next ⟨x ++ [c], l₂, _, by simp; lia, fun y hy => ?_, hl₂, rfl, rfl⟩))⟩
    rcases List.mem_append.mp hy with hy | hy
    · exact hc y hy
    · rw [List.mem_singleton.mp hy]; exact codes13_le hcn
  · rintro H₁ ρ₁ ⟨x, l', o, hx, hc, hl', rfl, rfl⟩
    have hr : (rangeV 0 (m : Nat)).length = m := by simp [rangeV]
    refine SPc (SP_return (EP_local ok mem1 ?_))
    exact q x l' (by lia) hc hl'
end

noncomputable def Sym.size (T : Sym) : Nat := T.texts.length + T.fns.length
theorem atom_size (T : Sym) (x : List Nat) : (T.atom x).2.size ≤ T.size + 1 := by
  unfold Sym.atom; split
  · exact Nat.le_succ _
  · simp [Sym.size]; lia
theorem functor_size (T : Sym) (p : Nat × Nat) : (T.functor p).2.size ≤ T.size + 1 := by
  unfold Sym.functor; split
  · exact Nat.le_succ _
  · simp [Sym.size]; lia
theorem func_size (T : Sym) (x : List Nat) (n : Nat) : (T.func x n).2.size ≤ T.size + 2 := Nat.le_trans (functor_size _ _) (Nat.succ_le_succ (atom_size T x))
theorem few3 {x : List Nat} (h : x.length ≤ 3) (h' : ∀ c ∈ x, c ≤ 0x10FFFF) : Few x := ⟨by lia, h'⟩
theorem size_small {T : Sym} (h : T.size ≤ 80000) : T.Small := ⟨by unfold Sym.size at h; lia, by unfold Sym.size at h; lia⟩
section
variable {W : Wd} (G : Gd W) {Q : V → AHeap → Prop} {k : Nat} {g : Addr} {l : List Nat} {A : SymA} {T : Sym} {pre pre2 post : AHeap}
theorem fg_sy (pre : AHeap) (g : Addr) (l : List Nat) (pre2 : AHeap) (A : SymA) (T : Sym) (post : AHeap) : fg pre g l (sy pre2 A T post) = sy (pre ++ (g, .list (figsV l)) :: pre2) A T post := (List.append_assoc pre ((g, .list (figsV l)) :: pre2) (symL A T ++ post)).symm
theorem fx_x : (A.x, O.inst 155 A.dx) ∈ fg pre g l (sy pre2 A T post) := List.mem_append_right _ (.tail _ m_x)
theorem fx_dx : (A.dx, O.ns (fieldsV A)) ∈ fg pre g l (sy pre2 A T post) := List.mem_append_right _ (.tail _ m_dx)
include G
theorem c__law_constant (hl : l.length ≤ 90) (hT : T.Full) (hs : T.size ≤ 80000) (q : ∀ (c : Cell) (l' : List Nat) (T' : Sym), c.In T' → T.Le T' → T'.Full → T'.size ≤ T.size + 1 → l'.length ≤ 90 → Q c.V (fg pre g l' (sy pre2 A T' post))) : CallP W (k + 3) (.ref 433) [.ref g, .ref A.x] (fg pre g l (sy pre2 A T post)) Q := by
  refine en__law_constant G fun F hsc ok => SPc ?_
  refine SP_if (TP_cmp ?_)
  refine EP_draw (k := k + 1) G 2 ok hsc gm__law_constant__law_draw (.head _) (by lia) hl fun n l₁ hn hl₁ => ?_
  refine EP_int (op_eq_int (ot_bool ⟨fun _ => ?_, fun _ => ?_⟩))
  · refine SPc (SP_return (EP_tuple (NP_cons ?_)))
    refine eg_CON G ok hsc gm__law_constant_CON (NP_cons ?_)
    refine EP_own (x := A.x) (k := k + 1) ok G.wok (by lia) (om_atom G) ?_
    refine EP_local ok (.tail _ (.head _)) ⟨rfl, isy fx_x fx_dx (by decide +kernel), NP_cons ?_⟩
    refine ec__law_name G ok hsc gm__law_constant__law_name (NP_cons (EP_local ok (.head _) (NP_nil ?_)))
    refine CallP.le (c__law_name (k := k) G hl₁ fun x l₂ hx hc hl₂ => NP_nil ?_) (by lia)
    rw [fg_sy]
    refine c_atom (k := k) G (size_small hs) (NP_nil ⟨by simp, ?_⟩)
    rw [← fg_sy]
    exact q (.con (T.atom x).1) l₂ (T.atom x).2 (atom_get T x).1 (atom_le T x) (atom_full hT (few3 hx hc)) (atom_size T x) hl₂
  · refine SP_nil (SPc (SP_return (EP_tuple (NP_cons ?_))))
    refine eg_INT G ok hsc gm__law_constant_INT (NP_cons ?_)
    refine EP_bin (EP_bin ?_)
    refine EP_choice (ds := [.int 1, .int (-1)]) (k := k + 1) G 2 ok hsc gm__law_constant__law_draw (.head _) (by lia) hl₁ (fun Q q => NP_lit1 rfl rfl q) rfl (by lia) fun n d l₂ hd hl₂ => ?_
    obtain ⟨i, hi, rfl⟩ : ∃ i : Int, i.natAbs ≤ 1 ∧ d = .int i := by
      match n, hd with
      | 0, hd => cases hd; exact ⟨1, by decide, rfl⟩
      | 1, hd => cases hd; exact ⟨-1, by decide, rfl⟩
    refine EP_draw (k := k + 1) G 900 ok hsc gm__law_constant__law_draw (.head _) (by lia) hl₂ fun m l₃ hm hl₃ => ?_
    refine op_mul_int (IntMulOk.of_right (intBits_le_64 (by lia) (by lia))) ?_
    refine EP_bin (EP_int ?_)
    refine EP_choice (ds := [.int 0, .int 1, .int 17, .int 19]) (k := k + 1) G 4 ok hsc gm__law_constant__law_draw (.head _) (by lia) hl₃ (fun Q q => NP_lit1 rfl rfl q) rfl (by lia) fun n d l₄ hd hl₄ => ?_
    obtain ⟨e, he, rfl⟩ : ∃ e : Nat, e ≤ 19 ∧ d = .int (e : Nat) := by
      match n, hd with
      | 0, hd => cases hd; exact ⟨0, by lia, rfl⟩
      | 1, hd => cases hd; exact ⟨1, by lia, rfl⟩
      | 2, hd => cases hd; exact ⟨17, by lia, rfl⟩
      | 3, hd => cases hd; exact ⟨19, by lia, rfl⟩
    refine op_pow_int (by lia) (by lia) (by decide) ?_
    have h1 : (i * (m : Int)).natAbs ≤ 900 := by rw [Int.natAbs_mul]; exact Nat.le_trans (Nat.mul_le_mul hi (Nat.le_of_lt hm)) (by simp)
    have h2 : ((10 : Int) ^ (e : Int).toNat).natAbs ≤ 10 ^ 19 := by rw [Int.natAbs_pow]; exact Nat.pow_le_pow_right (by decide) (by lia)
    refine op_mul_int (IntMulOk.of_left (intBits_le_64 (by lia) (by lia))) (NP_nil ⟨by simp, ?_⟩)
    refine q (.int (i * (m : Int) * 10 ^ (e : Int).toNat)) l₄ T ?_ (.refl _) hT (Nat.le_succ _) hl₄
    show (i * (m : Int) * 10 ^ (e : Int).toNat).natAbs < 10 ^ 80
    rw [Int.natAbs_mul]
    exact Nat.lt_of_le_of_lt (Nat.mul_le_mul h1 h2) (by decide)
end

noncomputable def Few2 : Op → Prop
  | .tabC l => l.length ≤ 2
  | .tabF l => l.length ≤ 2
  | _ => True
structure Drawn (T : Sym) (i : Ins) : Prop where
  shape : dget shapesL i.name = some (kindsS i)
  few : i.ops.length ≤ 4
  ok : ∀ p ∈ i.ops, OpOk T p.1 p.2 ∧ Few2 p.2
  nm : i.nm.length ≤ 40
theorem Cell.In.le {T U : Sym} {c : Cell} (h : c.In T) (l : T.Le U) : c.In U := by
  cases c with
  | con n => exact (l.text h).1
  | int i => exact h
theorem OpOk.le {T U : Sym} {c : Nat} {o : Op} (h : OpOk T c o) (l : T.Le U) : OpOk U c o := by
  cases h with
  | R h h' => exact .R h h'
  | X h h' => exact .X h h'
  | Y h h' => exact .Y h h'
  | C h => exact .C (h.le l)
  | F h => exact .F (l.fn h).1
  | N h => exact .N h
  | L h => exact .L h
  | T h h' h2 => exact .T h h' fun p hp => ⟨(h2 p hp).1.le l, (h2 p hp).2⟩
  | U h h' h2 => exact .U h h' fun p hp => ⟨(l.fn (h2 p hp).1).1, (h2 p hp).2⟩
theorem Drawn.le {T U : Sym} {i : Ins} (h : Drawn T i) (l : T.Le U) : Drawn U i := ⟨h.shape, h.few, fun p hp => ⟨(h.ok p hp).1.le l, (h.ok p hp).2⟩, h.nm⟩
noncomputable def lsum (l : List (List Nat)) : Nat := (l.map (·.length)).sum + l.length
theorem lsum_app (a b : List (List Nat)) : lsum (a ++ b) = lsum a + lsum b := by simp [lsum]; lia
theorem lsum_one (a : List Nat) : lsum [a] = a.length + 1 := by simp [lsum]
theorem lsum_cons (a : List Nat) (l : List (List Nat)) : lsum (a :: l) = a.length + 1 + lsum l := by simp [lsum]; lia
theorem tabL_sum {α : Type} {f : α → List Nat} {l : List (α × Nat)} (hl : l.length ≤ 2) (hf : ∀ p ∈ l, (f p.1).length ≤ 1300 ∧ p.2 < 10 ^ 80) : lsum (tabL f l) ≤ 6000 := by
  have one : ∀ p ∈ l, (f p.1 ++ ([58] ++ numL (p.2 : Nat))).length ≤ 1382 := fun p hp => by
    have := numL_len (i := (p.2 : Int)) (by simpa using (hf p hp).2)
    have := (hf p hp).1
    simp only [List.length_append, List.length_cons, List.length_nil]; lia
  unfold tabL
  rw [lsum_app, lsum_one, lsum_cons]
  match l, hl, one with
  | [], _, _ => simp [lsum]
  | [a], _, one => have := one a (.head _); simp only [List.map_cons, List.map_nil, lsum_cons, List.length_cons, List.length_nil]; simp only [lsum, List.map_nil, List.sum_nil, List.length_nil]; lia
  | [a, b], _, one => have := one a (.head _); have := one b (.tail _ (.head _)); simp only [List.map_cons, List.map_nil, lsum_cons, List.length_cons, List.length_nil]; simp only [lsum, List.map_nil, List.sum_nil, List.length_nil]; lia
theorem wordsOp_sum {T : Sym} (g : T.Good) {c : Nat} {o : Op} (h : OpOk T c o) (h2 : Few2 o) : lsum (wordsOp T c o) ≤ 6000 := by
  have num : ∀ n : Nat, n < 10 ^ 80 → (numL (n : Nat)).length ≤ 81 := fun n hn => numL_len (i := (n : Int)) (by simpa using hn)
  cases h with
  | R _ h => have := num _ h; simp only [wordsOp, lsum_one, List.length_append]; split <;> simp only [List.length_cons, List.length_nil] <;> lia
  | X _ h => have := num _ h; simp only [wordsOp, lsum_one, List.length_append]; split <;> simp only [List.length_cons, List.length_nil] <;> lia
  | Y _ h => have := num _ h; simp only [wordsOp, lsum_one, List.length_append]; split <;> simp only [List.length_cons, List.length_nil] <;> lia
  | C h => have := cellL_len g h; simp only [wordsOp, lsum_one]; lia
  | F h => have := fnL_len g h; simp only [wordsOp, if_true, lsum_one]; lia
  | N h => have := num _ h; simp only [wordsOp, lsum_one]; rw [if_neg (by decide), lsum_one]; lia
  | L h => have := num _ h; simp only [wordsOp, lsum_one]; rw [if_neg (by decide), lsum_one]; lia
  | T _ _ h => exact tabL_sum h2 fun p hp => ⟨Nat.le_trans (cellL_len g (h p hp).1) (by decide), (h p hp).2⟩
  | U _ _ h => exact tabL_sum h2 fun p hp => ⟨fnL_len g (h p hp).1, (h p hp).2⟩
theorem wordsOps_sum {T : Sym} (g : T.Good) : ∀ {l : List (Nat × Op)}, (∀ p ∈ l, OpOk T p.1 p.2 ∧ Few2 p.2) → lsum (wordsOps T l) ≤ l.length * 6000
  | [], _ => Nat.le_refl _
  | p :: l, h => by
    have h1 := wordsOp_sum g (h p (.head _)).1 (h p (.head _)).2
    have h2 := wordsOps_sum g (l := l) fun q hq => h q (.tail _ hq)
    simp only [wordsOps, lsum_app, List.length_cons]; lia
theorem Drawn.good {T : Sym} {i : Ins} (h : Drawn T i) (g : T.Good) : i.Good T := by
  refine ⟨h.shape, by have := h.few; lia, fun p hp => (h.ok p hp).1, ?_⟩
  have h1 := wordsOps_sum g h.ok
  have h2 := h.nm
  have h3 := h.few
  show lsum (i.nm :: wordsOps T i.ops) ≤ 2 ^ 18
  rw [lsum_cons]; lia

theorem sh_get_structure : dget shapesL (Str.ofString "get_structure") = some (S [70, 88]) := by kernel_rfl
theorem nl_get_structure : (Str.ofString "get_structure").cps.toList.length ≤ 40 := by decide +kernel
theorem sh_put_constant : dget shapesL (Str.ofString "put_constant") = some (S [67, 88]) := by kernel_rfl
theorem nl_put_constant : (Str.ofString "put_constant").cps.toList.length ≤ 40 := by decide +kernel
theorem sh_switch_on_constant : dget shapesL (Str.ofString "switch_on_constant") = some (S [84, 76]) := by kernel_rfl
theorem nl_switch_on_constant : (Str.ofString "switch_on_constant").cps.toList.length ≤ 40 := by decide +kernel
theorem sh_switch_on_structure : dget shapesL (Str.ofString "switch_on_structure") = some (S [85, 76]) := by kernel_rfl
theorem nl_switch_on_structure : (Str.ofString "switch_on_structure").cps.toList.length ≤ 40 := by decide +kernel
theorem sh_unify_local_value : dget shapesL (Str.ofString "unify_local_value") = some (S [82]) := by kernel_rfl
theorem nl_unify_local_value : (Str.ofString "unify_local_value").cps.toList.length ≤ 40 := by decide +kernel
theorem sh_call : dget shapesL (Str.ofString "call") = some (S [70, 78]) := by kernel_rfl
theorem nl_call : (Str.ofString "call").cps.toList.length ≤ 40 := by decide +kernel
theorem sh_put_variable : dget shapesL (Str.ofString "put_variable") = some (S [82, 88]) := by kernel_rfl
theorem nl_put_variable : (Str.ofString "put_variable").cps.toList.length ≤ 40 := by decide +kernel
theorem sh_switch_on_term : dget shapesL (Str.ofString "switch_on_term") = some (S [76, 76, 76, 76]) := by kernel_rfl
theorem nl_switch_on_term : (Str.ofString "switch_on_term").cps.toList.length ≤ 40 := by decide +kernel
theorem sh_catch_exit : dget shapesL (Str.ofString "catch_exit") = some (S [89]) := by kernel_rfl
theorem nl_catch_exit : (Str.ofString "catch_exit").cps.toList.length ≤ 40 := by decide +kernel
theorem sh_proceed : dget shapesL (Str.ofString "proceed") = some (S []) := by kernel_rfl
theorem nl_proceed : (Str.ofString "proceed").cps.toList.length ≤ 40 := by decide +kernel
theorem sh_dyn_retry : dget shapesL (Str.ofString "dyn_retry") = some (S []) := by kernel_rfl
theorem nl_dyn_retry : (Str.ofString "dyn_retry").cps.toList.length ≤ 40 := by decide +kernel
theorem sh_neck_cut : dget shapesL (Str.ofString "neck_cut") = some (S []) := by kernel_rfl
theorem nl_neck_cut : (Str.ofString "neck_cut").cps.toList.length ≤ 40 := by decide +kernel
theorem sh_set_void : dget shapesL (Str.ofString "set_void") = some (S [78]) := by kernel_rfl
theorem nl_set_void : (Str.ofString "set_void").cps.toList.length ≤ 40 := by decide +kernel
theorem ac {α : Type} {P : α → Prop} {a : α} {l : List α} (h : P a) (t : ∀ p ∈ l, P p) : ∀ p ∈ a :: l, P p := List.forall_mem_cons.mpr ⟨h, t⟩
theorem drawn {T : Sym} (nm : Str) (ops : List (Nat × Op)) (h1 : dget shapesL nm = some (S (ops.map (·.1)))) (h2 : nm.cps.toList.length ≤ 40) (h3 : ops.length ≤ 4) (h4 : ∀ p ∈ ops, OpOk T p.1 p.2 ∧ Few2 p.2) : Drawn T ⟨nm, ops⟩ := ⟨h1, h3, h4, h2⟩
theorem dput_one {K : Type} [DecidableEq K] (a : K) (x : Int) (b : K) (y : Int) : dput [(a, x)] b y = if a = b then [(a, y)] else [(a, x), (b, y)] := by
  by_cases h : a = b <;> simp [dput, h]
theorem tabC_drawn {T : Sym} (c : Cell) (n : Nat) (h : c.In T) (hn : n < 10 ^ 80) : ∃ tl : List (Cell × Nat), dput [(c.key, (n : Int))] [5, 3] 0 = tl.map (fun p => (p.1.key, (p.2 : Int))) ∧ (tl.map (·.1)).Nodup ∧ tl.length ≤ 2 ∧ ∀ p ∈ tl, p.1.In T ∧ p.2 < 10 ^ 80 := by
  rw [dput_one]
  by_cases e : c.key = [5, 3]
  · rw [if_pos e]
    exact ⟨[(c, 0)], rfl, by simp, by simp, ac ⟨h, by show 0 < 10 ^ 80; decide⟩ fun _ h => nomatch h⟩
  · rw [if_neg e]
    exact ⟨[(c, n), (.int 3, 0)], rfl, by simp; rintro rfl; exact e rfl, by simp, ac ⟨h, hn⟩ (ac ⟨by show (3 : Int).natAbs < 10 ^ 80; decide, by show 0 < 10 ^ 80; decide⟩ fun _ h => nomatch h)⟩
theorem tabF_drawn {T : Sym} {w n : Nat} (h : w < T.fns.length) (h5 : 5 < T.fns.length) (hn : n < 10 ^ 80) : ∃ tl : List (Nat × Nat), dput [((w : Int), (n : Int))] 5 1 = tl.map (fun p => ((p.1 : Int), (p.2 : Int))) ∧ (tl.map (·.1)).Nodup ∧ tl.length ≤ 2 ∧ ∀ p ∈ tl, p.1 < T.fns.length ∧ p.2 < 10 ^ 80 := by
  rw [dput_one]
  by_cases e : w = 5
  · subst e
    exact ⟨[(5, 1)], rfl, by simp, by simp, ac ⟨h5, by show 1 < 10 ^ 80; decide⟩ fun _ h => nomatch h⟩
  · rw [if_neg (by lia)]
    exact ⟨[(w, n), (5, 1)], rfl, by simp; exact e, by simp, ac ⟨h, hn⟩ (ac ⟨h5, by show 1 < 10 ^ 80; decide⟩ fun _ h => nomatch h)⟩
theorem sum1 (n : Nat) : (1 : Int) + (n : Int) = ((1 + n : Nat) : Int) := by lia
section
variable {W : Wd} (G : Gd W) {Q : V → AHeap → Prop} {k : Nat} {g : Addr} {l : List Nat} {A : SymA} {T : Sym} {pre pre2 post : AHeap}
include G
theorem row_pick {F : Fm} {ρ : Rho} {U : Sym} {wd ct rn : Nat} {kd : Int} {y : Bool} (hsc : F.sc = scopeOf (defAt 51)) (ok : F.Ok W (k + 3)) (hl : l.length ≤ 90) (hU : U.Full) (hU5 : 5 < U.fns.length) (hs : U.size ≤ 80000) (hwd : wd < U.fns.length) (hct : ct < 500) (hrn : rn < 300)
    (mG : (Str.ofString "figures", some (.ref g)) ∈ ρ) (mS : (Str.ofString "signs", some (.ref A.x)) ∈ ρ) (mK : (Str.ofString "kind", some (.int kd)) ∈ ρ) (mC : (Str.ofString "count", some (.int (ct : Nat))) ∈ ρ) (mW : (Str.ofString "word", some (.int (wd : Nat))) ∈ ρ) (mP : (Str.ofString "spot", some (.tup [.str (regS y), .int (1 + rn : Nat)])) ∈ ρ)
    (fin : ∀ (l' : List Nat) (T' : Sym), U.Le T' → T'.Full → T'.size ≤ U.size + 1 → l'.length ≤ 90 → ∀ {i : Ins}, Drawn T' i → Q i.V (fg pre g l' (sy pre2 A T' post))) :
    SP W F ρ (fg pre g l (sy pre2 A U post)) (execs ((bodyOf (defAt 51)).drop 4) F.env) (bodyQ Q) := by
  have hb : (1000 : Nat) < 10 ^ 80 := by decide
  have c80 : ct + 5 < 10 ^ 80 := by lia
  have r80 : 1 + rn < 10 ^ 80 := by lia
  have f0 : ∀ {i : Ins}, Drawn U i → Q i.V (fg pre g l (sy pre2 A U post)) := fin l U (.refl U) hU (Nat.le_succ _) hl
  have C1 : ∀ {P : V → AHeap → Prop} {H : AHeap} {p1 p2 p3 : Pos} {j : Nat}, P (.int (1 + ct : Nat)) H → EP W F ρ H (eval (.BinOp (.Constant (.int 1) j p1) .Add (.Name (Str.ofString "count") p2) p3) F.env) P := fun q => EP_bin (EP_int (EP_local ok mC (op_add_int (sum1 ct ▸ q))))
  refine SP_ieqB ok mK (SPc (SP_return (EP_tuple (NP_cons (EP_str (NP_loc ok mW (NP_cons (EP_tuple (NP_cons (EP_str (NP_cons (C1 (NP_nil ⟨by simp, NP_nil ⟨by simp, ?_⟩⟩))))))))))))) ?_
  · exact f0 (drawn (Str.ofString "get_structure") [(70, .num wd), (88, .reg false (1 + ct))] sh_get_structure nl_get_structure (by simp) (ac ⟨.F hwd, trivial⟩ (ac ⟨.X (by lia) (by lia), trivial⟩ (fun _ h => nomatch h))))
  refine SP_ieqB ok mK (SPc (SP_return (EP_tuple (NP_cons (EP_str (NP_cons ?_)))))) ?_
  · refine ec__law_constant G ok hsc gm__law_row_drawn__law_constant (NP_loc ok mG (NP_loc ok mS (NP_nil ?_)))
    refine c__law_constant (k := k) G hl hU (by lia) fun c l₇ V hc hV1 hV2 hV3 hl₇ => NP_cons (EP_tuple (NP_cons (EP_str (NP_cons (EP_int (NP_nil ⟨by simp, NP_nil ⟨by simp, ?_⟩⟩))))))
    exact fin l₇ V hV1 hV2 hV3 hl₇ (drawn (Str.ofString "put_constant") [(67, .cell c), (88, .reg false 7)] sh_put_constant nl_put_constant (by simp) (ac ⟨.C hc, trivial⟩ (ac ⟨.X (by lia) (by lia), trivial⟩ (fun _ h => nomatch h))))
  refine SP_ieqB ok mK (SPc (SP_return (EP_tuple (NP_cons (EP_str (NP_cons ?_)))))) ?_
  · refine EP_dict2t G.wok ok fun D => ?_
    refine ec__law_constant G ok hsc gm__law_row_drawn__law_constant (NP_loc ok mG (NP_loc ok mS (NP_nil ?_)))
    refine c__law_constant (k := k) (pre := (D, O.tdict []) :: pre) G hl hU (by lia) fun c l₇ V hc hV1 hV2 hV3 hl₇ => ?_
    refine EP_local ok mC (EP_tuple (NP_cons (eg_INT G ok hsc gm__law_row_drawn_INT (NP_cons (EP_int (NP_nil ⟨by simp, EP_int ?_⟩))))))
    refine ⟨c.key, [5, 3], ct, 0, fg pre g l₇ (sy pre2 A V post), rfl, rfl, rfl, rfl, rfl, NP_cons (EP_int (NP_nil ⟨by simp, ?_⟩))⟩
    obtain ⟨tl, e, h1, h2, h3⟩ := tabC_drawn c ct hc (by lia)
    rw [e]
    exact fin l₇ V hV1 hV2 hV3 hl₇ (drawn (Str.ofString "switch_on_constant") [(84, .tabC tl), (76, .num 2)] sh_switch_on_constant nl_switch_on_constant (by simp) (ac ⟨.T h1 (by lia) h3, h2⟩ (ac ⟨.L (by lia), trivial⟩ fun _ h => nomatch h)))
  refine SP_ieqB ok mK (SPc (SP_return (EP_tuple (NP_cons (EP_str (NP_cons ?_)))))) ?_
  · refine EP_dict2i G.wok fun D => EP_local ok mW (EP_local ok mC (EP_int (EP_int ?_)))
    refine ⟨wd, 5, ct, 1, fg pre g l (sy pre2 A U post), rfl, rfl, rfl, rfl, rfl, NP_cons (EP_bin (EP_local ok mC (EP_int (op_add_int (NP_nil ⟨by simp, ?_⟩)))))⟩
    obtain ⟨tl, e, h1, h2, h3⟩ := tabF_drawn hwd hU5 (by lia : ct < 10 ^ 80)
    rw [e]
    exact f0 (drawn (Str.ofString "switch_on_structure") [(85, .tabF tl), (76, .num (ct + 1))] sh_switch_on_structure nl_switch_on_structure (by simp) (ac ⟨.U h1 (by lia) h3, h2⟩ (ac ⟨.L (by lia), trivial⟩ fun _ h => nomatch h)))
  refine SP_ieqB ok mK (SPc (SP_return (EP_tuple (NP_cons (EP_str (NP_loc ok mP (NP_nil ⟨by simp, ?_⟩))))))) ?_
  · exact f0 (drawn (Str.ofString "unify_local_value") [(82, .reg y (1 + rn))] sh_unify_local_value nl_unify_local_value (by simp) (ac ⟨.R (by lia) r80, trivial⟩ (fun _ h => nomatch h)))
  refine SP_ieqB ok mK (SPc (SP_return (EP_tuple (NP_cons (EP_str (NP_loc ok mW (NP_loc ok mC (NP_nil ⟨by simp, ?_⟩)))))))) ?_
  · exact f0 (drawn (Str.ofString "call") [(70, .num wd), (78, .num ct)] sh_call nl_call (by simp) (ac ⟨.F hwd, trivial⟩ (ac ⟨.N (by lia), trivial⟩ (fun _ h => nomatch h))))
  refine SP_ieqB ok mK (SPc (SP_return (EP_tuple (NP_cons (EP_str (NP_loc ok mP (NP_cons (EP_tuple (NP_cons (EP_str (NP_cons (C1 (NP_nil ⟨by simp, NP_nil ⟨by simp, ?_⟩⟩))))))))))))) ?_
  · exact f0 (drawn (Str.ofString "put_variable") [(82, .reg y (1 + rn)), (88, .reg false (1 + ct))] sh_put_variable nl_put_variable (by simp) (ac ⟨.R (by lia) r80, trivial⟩ (ac ⟨.X (by lia) (by lia), trivial⟩ (fun _ h => nomatch h))))
  refine SP_ieqB ok mK (SPc (SP_return (EP_tuple (NP_cons (EP_str (NP_loc ok mC (NP_cons (EP_int (NP_cons (EP_bin (EP_local ok mC (EP_int (op_add_int (NP_cons (EP_int (NP_nil ⟨by simp, ?_⟩)))))))))))))))) ?_
  · exact f0 (drawn (Str.ofString "switch_on_term") [(76, .num ct), (76, .num 2), (76, .num (ct + 3)), (76, .num 0)] sh_switch_on_term nl_switch_on_term (by simp) (ac ⟨.L (by lia), trivial⟩ (ac ⟨.L (by lia), trivial⟩ (ac ⟨.L (by lia), trivial⟩ (ac ⟨.L (by lia), trivial⟩ (fun _ h => nomatch h))))))
  refine SP_ieqB ok mK (SPc (SP_return (EP_tuple (NP_cons (EP_str (NP_cons (EP_tuple (NP_cons (EP_str (NP_cons (C1 (NP_nil ⟨by simp, NP_nil ⟨by simp, ?_⟩⟩)))))))))))) ?_
  · exact f0 (drawn (Str.ofString "catch_exit") [(89, .reg true (1 + ct))] sh_catch_exit nl_catch_exit (by simp) (ac ⟨.Y (by lia) (by lia), trivial⟩ (fun _ h => nomatch h)))
  refine SPc (SP_return (EP_choice (ds := [.tup [.str (Str.ofString "proceed")], .tup [.str (Str.ofString "dyn_retry")], .tup [.str (Str.ofString "neck_cut")], .tup [.str (Str.ofString "set_void"), .int 4]]) (k := k + 2) G 4 ok hsc gm__law_row_drawn__law_draw mG (by lia) hl (fun Q q => NP_lit2 rfl (by decide) rfl q) rfl (by lia) fun n d l₇ hd hl₇ => ?_))
  have f1 : ∀ {i : Ins}, Drawn U i → Q i.V (fg pre g l₇ (sy pre2 A U post)) := fin l₇ U (.refl U) hU (Nat.le_succ _) hl₇
  match n, hd with
  | 0, hd => cases hd; exact f1 (drawn (Str.ofString "proceed") [] sh_proceed nl_proceed (by simp) (fun _ h => nomatch h))
  | 1, hd => cases hd; exact f1 (drawn (Str.ofString "dyn_retry") [] sh_dyn_retry nl_dyn_retry (by simp) (fun _ h => nomatch h))
  | 2, hd => cases hd; exact f1 (drawn (Str.ofString "neck_cut") [] sh_neck_cut nl_neck_cut (by simp) (fun _ h => nomatch h))
  | 3, hd => cases hd; exact f1 (drawn (Str.ofString "set_void") [(78, .num 4)] sh_set_void nl_set_void (by simp) (ac ⟨.N (by lia), trivial⟩ (fun _ h => nomatch h)))
theorem c__law_row_drawn (hl : l.length ≤ 90) (hT : T.Full) (h5 : 6 ≤ T.fns.length) (hs : T.size ≤ 70000) (q : ∀ (i : Ins) (l' : List Nat) (T' : Sym), Drawn T' i → T.Le T' → T'.Full → T'.size ≤ T.size + 3 → l'.length ≤ 90 → Q i.V (fg pre g l' (sy pre2 A T' post))) :
    CallP W (k + 4) (.ref 440) [.ref g, .ref A.x] (fg pre g l (sy pre2 A T post)) Q := by
  have hb : (1000 : Nat) < 10 ^ 80 := by decide
  refine en__law_row_drawn G fun F hsc ok => SPc (SP_assign ok ?_)
  refine EP_draw (k := k + 2) G 10 ok hsc gm__law_row_drawn__law_draw (.head _) (by lia) hl fun kd l₁ hkd hl₁ => ?_
  refine StI2 ?_
  refine Thn_next (SPc (SP_assign ok ?_))
  refine EP_draw (k := k + 2) G 500 ok hsc gm__law_row_drawn__law_draw (.head _) (by lia) hl₁ fun ct l₂ hct hl₂ => ?_
  refine StI3 ?_
  refine Thn_next (SPc (SP_assign ok ?_))
  refine EP_own (x := A.x) (k := k + 3) ok G.wok (by lia) (om_func G) ?_
  refine EP_local ok (.tail _ (.head _)) ⟨rfl, isy fx_x fx_dx (by decide +kernel), NP_cons ?_⟩
  refine ec__law_name G ok hsc gm__law_row_drawn__law_name (NP_cons (EP_local ok (.head _) (NP_nil ?_)))
  refine CallP.le (c__law_name (k := k) G hl₂ fun x l₃ hx hc hl₃ => NP_cons ?_) (by lia)
  refine EP_bin (EP_int ?_)
  refine EP_draw (k := k + 2) G 20 ok hsc gm__law_row_drawn__law_draw (.head _) (by lia) hl₃ fun ar l₄ har hl₄ => op_add_int (NP_nil ?_)
  rw [fg_sy, sum1]
  have hsz : T.texts.length < 100000 ∧ T.fns.length ≤ 100000 := by unfold Sym.size at hs; lia
  refine CallP.le (c_func (k := k) G hsz.1 hsz.2 ?_) (by lia)
  rw [← fg_sy]
  have facts : (T.func x (1 + ar)).1 < (T.func x (1 + ar)).2.fns.length ∧ T.Le (T.func x (1 + ar)).2 ∧ (T.func x (1 + ar)).2.Full ∧ (T.func x (1 + ar)).2.size ≤ T.size + 2 :=
    ⟨(func_get T x _).1, func_le T x _, func_full hT (few3 hx hc) (by lia), func_size T x _⟩
  revert facts
  generalize (T.func x (1 + ar)).2 = U
  generalize (T.func x (1 + ar)).1 = wd
  rintro ⟨hwd, hle, hU, hsU⟩
  have hU5 : 5 < U.fns.length := by obtain ⟨t, e⟩ := hle.fns; rw [e, List.length_append]; lia
  refine StI4 ?_
  refine Thn_next (SPc (SP_assign ok (EP_tuple (NP_cons ?_))))
  refine EP_choice (ds := [.str (regS false), .str (regS true)]) (k := k + 2) G 2 ok hsc gm__law_row_drawn__law_draw (.head _) (by lia) hl₄ (fun Q q => NP_lit1 rfl rfl q) rfl (by lia) fun n d l₅ hd hl₅ => ?_
  obtain ⟨y, rfl⟩ : ∃ y : Bool, d = .str (regS y) := by
    match n, hd with
    | 0, hd => cases hd; exact ⟨false, rfl⟩
    | 1, hd => cases hd; exact ⟨true, rfl⟩
  refine NP_cons (EP_bin (EP_int ?_))
  refine EP_draw (k := k + 2) G 300 ok hsc gm__law_row_drawn__law_draw (.head _) (by lia) hl₅ fun rn l₆ hrn hl₆ => op_add_int (NP_nil ⟨by simp, ?_⟩)
  rw [sum1]
  refine StI5 ?_
  refine Thn_next (row_pick (k := k) G hsc ok hl₆ hU hU5 (by lia) hwd hct hrn (.head _) (.tail _ (.head _)) (.tail _ (.tail _ (.head _))) (.tail _ (.tail _ (.tail _ (.head _)))) (.tail _ (.tail _ (.tail _ (.tail _ (.head _))))) (.tail _ (.tail _ (.tail _ (.tail _ (.tail _ (.head _)))))) fun l' T' a b c d i h => q i l' T' h (hle.trans a) b (by lia) d)
end

section
variable {W : Wd} (G : Gd W) {Q : V → AHeap → Prop} {k : Nat} {H : AHeap}
include G
theorem c__law_figures {sc : List Int} (hsz : sc.length ≤ 2 ^ 20) (q : ∀ g l, l.length ≤ 90 → Q (.ref g) ((g, .list (figsV l)) :: H)) : CallP W (k + 1) (.ref 412) [.fl (sc.map V.int)] H Q := by
  refine en__law_figures G fun F hsc ok => SPc (SP_assign ok (EP_list (NP_nil ⟨by simp, fun f => ?_⟩)))
  refine StI1 ?_
  refine Thn_next (SPc ?_)
  obtain ⟨J, hJ⟩ : ∃ J : Nat → AHeap → Rho → Prop, J = fun j H' ρ' => ∃ (l : List Nat) (o o2 o3 : Option V), l.length ≤ j * 24 ∧ H' = (f, .list (figsV l)) :: H ∧ ρ' = [(Str.ofString "script", some (.fl (sc.map V.int))), (Str.ofString "figures", some (.ref f)), (Str.ofString "cell", o), (Str.ofString "whole", o2), (Str.ofString "turn", o3)] := ⟨_, rfl⟩
  refine SPfor ok J ((sc.map V.int).take 30) ?_ ?_ ?_
  · refine EP_slice_fl (EP_local ok (.head _) ⟨_, rfl, by simpa using hsz, PP_none (PP_some (EP_int ⟨30, rfl, (show (0 : Int) ≤ 30 by decide), ItP_fl ok.room.handled, ?_⟩))⟩)
    rw [hJ]
    exact ⟨[], _, _, _, Nat.zero_le _, rfl, rfl⟩
  · rintro i d H₁ ρ₁ hd hj
    rw [hJ] at hj
    obtain ⟨l, o, o2, o3, hl, rfl, rfl⟩ := hj
    have hi : i < 30 := by
      have := (List.getElem?_eq_some_iff.mp hd).1
      rw [List.length_take] at this; lia
    obtain ⟨c, rfl⟩ : ∃ c : Int, d = .int c := by
      rw [List.getElem?_take, if_pos hi, List.getElem?_map] at hd
      obtain ⟨y, hy, rfl⟩ := Option.map_eq_some_iff.mp hd
      exact ⟨y, rfl⟩
    refine StI2 ?_
    refine SPc (SP_assign ok.inn ?_)
    refine EP.mono (Q := fun d H' => ∃ n : Nat, d = .int (n : Nat) ∧ H' = (f, .list (figsV l)) :: H) ?_ ?_
    · refine EP_ifexp (TP_cmp (EP_local ok.inn (.tail _ (.tail _ (.head _))) (EP_int (op_ge_int (ot_bool ⟨fun h => ?_, fun h => ?_⟩)))))
      · have h' : 0 ≤ c := by simpa using h
        obtain ⟨n, rfl⟩ := Int.eq_ofNat_of_zero_le h'
        exact EP_local ok.inn (.tail _ (.tail _ (.head _))) ⟨n, rfl, rfl⟩
      · have h' : c < 0 := by simpa using h
        refine EP_bin (EP_int (EP_bin (EP_int (EP_local ok.inn (.tail _ (.tail _ (.head _))) ?_))))
        refine op_mul_int (IntMulOk.of_left (intBits_le_64 (by decide) (by decide))) (op_sub_int ?_)
        obtain ⟨n, e⟩ := Int.eq_ofNat_of_zero_le (show 0 ≤ 3 - 5 * c by lia)
        exact ⟨n, by rw [e], rfl⟩
    rintro d H' ⟨w, rfl, rfl⟩
    refine StI3 ?_
    refine Thn_next (SPc ?_)
    obtain ⟨I, hI⟩ : ∃ I : Nat → AHeap → Rho → Prop, I = fun j H' ρ' => ∃ (l' : List Nat) (w : Nat) (o : Option V), l'.length ≤ i * 24 + j ∧ H' = (f, .list (figsV l')) :: H ∧ ρ' = [(Str.ofString "script", some (.fl (sc.map V.int))), (Str.ofString "figures", some (.ref f)), (Str.ofString "cell", some (.int c)), (Str.ofString "whole", some (.int (w : Nat))), (Str.ofString "turn", o)] := ⟨_, rfl⟩
    refine SPfor ok.inn I (rangeV 0 24) ?_ ?_ ?_
    · refine ec_range G ok.inn hsc gm__law_figures_range (NP_cons (EP_int (NP_nil (op_range1 ⟨ItP_rng1 ok.room.handled (by lia) (by lia) (by lia) (by lia), ?_⟩))))
      rw [hI]
      exact ⟨l, w, _, hl, rfl, rfl⟩
    · rintro j d H₁ ρ₁ hd hj
      rw [hI] at hj
      obtain ⟨l', w, o, hl', rfl, rfl⟩ := hj
      obtain ⟨rfl, hj⟩ := rangeV_get hd
      refine StI4 ?_
      refine SPc (SP_expr ok.inn.inn ?_ rfl)
      refine EP_meth (id := "list.append") (EP_local ok.inn.inn (.tail _ (.head _)) ⟨meth_list (.head _) PySem.F.slot_list_append PySem.F.type_list_append, NP_cons (EP_bin (EP_local ok.inn.inn (.tail _ (.tail _ (.tail _ (.head _)))) (EP_int (op_mod_int (by decide) (NP_nil ?_)))))⟩)
      rw [Int.fmod_eq_emod_of_nonneg _ (by lia)]
      refine op_append (H' := (f, .list (figsV (l' ++ [w % 997]))) :: H) (.head _) (by simp only [figsV, List.length_map]; lia) (by simp only [figsV, List.map_append]; exact .here) ⟨trivial, ?_⟩
      refine Thn_next (SPc (SP_assign ok.inn.inn (EP_bin (EP_local ok.inn.inn (.tail _ (.tail _ (.tail _ (.head _)))) (EP_int (op_fdiv_int (by decide) (by decide) ?_))))))
      rw [Int.fdiv_eq_ediv_of_nonneg _ (by lia)]
      refine StI3 ?_
      refine Thn_next (SPc (SP_if (TP_cmp (EP_local ok.inn.inn (.tail _ (.tail _ (.tail _ (.head _)))) (EP_int (op_eq_int (ot_bool ⟨fun _ => ?_, fun _ => ?_⟩)))))))
      · refine SPc (SP_break ?_)
        refine SP_nil ?_
        rw [hJ]
        exact ⟨l' ++ [w % 997], _, _, _, by simp; lia, rfl, rfl⟩
      · refine SP_nil (Thn_next (SP_nil (LpQ_next ?_)))
        rw [hI]
        exact ⟨l' ++ [w % 997], w / 997, _, by simp; lia, rfl, rfl⟩
    · intro H₁ ρ₁ hj
      rw [hI] at hj
      obtain ⟨l', w, o, hl', rfl, rfl⟩ := hj
      refine Thn_next (SP_nil (LpQ_next ?_))
      rw [hJ]
      have : (rangeV 0 24).length = 24 := by decide
      exact ⟨l', _, _, _, by lia, rfl, rfl⟩
  · intro H₁ ρ₁ hj
    rw [hJ] at hj
    obtain ⟨l, o, o2, o3, hl, rfl, rfl⟩ := hj
    have hl2 : l.length ≤ 720 := by
      have : ((sc.map V.int).take 30).length ≤ 30 := by rw [List.length_take]; exact Nat.min_le_left _ _
      lia
    refine Thn_next (SP_frozL (.refl _) (.tail _ (.head _)) ?_)
    refine StI1 ?_
    refine SPc (SP_assign ok ?_)
    refine EP_slice_new (EP_local ok (.tail _ (.head _)) ⟨_, rfl, by simp only [figsV, List.length_map]; lia, PP_none (PP_some (EP_int ⟨90, rfl, (show (0 : Int) ≤ 90 by decide), fun g => ?_⟩))⟩)
    refine StI1 ?_
    have e : pickV (figsV l) none (some 90) = figsV (l.take 90) := by simp [pickV, figsV, List.map_take]
    rw [e]
    have h90 : (l.take 90).length ≤ 90 := by rw [List.length_take]; exact Nat.min_le_left _ _
    refine Thn_next (SPc (SP_expr ok ?_ rfl))
    refine EP_meth0 (id := "list.reverse") (EP_local ok (.tail _ (.head _)) ⟨meth_list (.head _) PySem.F.slot_list_reverse PySem.F.type_list_reverse, ?_⟩)
    refine op_reverse (H' := (g, .list (figsV (l.take 90).reverse)) :: H) (.head _) (by simp only [figsV, List.length_map]; lia) (by simp only [figsV, List.map_reverse]; exact .here) ⟨trivial, ?_⟩
    refine Thn_next (SPc (SP_return (EP_local ok (.tail _ (.head _)) ?_)))
    exact q g _ (by rw [List.length_reverse]; exact h90)
end

noncomputable def adr : Nat → List Ins → List (Nat × Ins)
  | _, [] => []
  | b, i :: l => (b, i) :: adr (b + 1) l
theorem adr_len : ∀ (l : List Ins) b, (adr b l).length = l.length
  | [], _ => rfl
  | _ :: l, b => by simp [adr, adr_len l (b + 1)]
theorem adr_map : ∀ (l : List Ins) b, (adr b l).map (·.2) = l
  | [], _ => rfl
  | _ :: l, b => by simp [adr, adr_map l (b + 1)]
theorem adr_at : ∀ {l : List Ins} {b j : Nat} {p : Nat × Ins}, (adr b l)[j]? = some p → p.1 = b + j ∧ l[j]? = some p.2
  | [], _, _, _, h => by cases h
  | i :: l, b, 0, p, h => by cases h; exact ⟨rfl, rfl⟩
  | i :: l, b, j + 1, p, h => by
    obtain ⟨h1, h2⟩ := adr_at (l := l) (b := b + 1) (j := j) (p := p) (by simpa [adr] using h)
    exact ⟨by lia, by simpa using h2⟩
theorem adr_ex {l : List Ins} {b j : Nat} (h : j < l.length) : ∃ i, (adr b l)[j]? = some (b + j, i) := by
  obtain ⟨p, hp⟩ : ∃ p, (adr b l)[j]? = some p := ⟨_, List.getElem?_eq_getElem (by rw [adr_len]; exact h)⟩
  exact ⟨p.2, by rw [hp, ← (adr_at hp).1]⟩
theorem rowsL_adr (T : Sym) : ∀ (l : List Ins) b, rowsL T b l = rowsG T (adr b l)
  | [], _ => rfl
  | i :: l, b => by show rowL T b i :: rowsL T (b + 1) l = rowL T b i :: rowsG T (adr (b + 1) l); rw [rowsL_adr T l (b + 1)]
theorem adr_take : ∀ (l : List Ins) (b c : Nat), adr b (l.take c) = (adr b l).take c
  | [], b, c => by simp [adr]
  | i :: l, b, 0 => by simp [adr]
  | i :: l, b, c + 1 => by simp [adr, adr_take l (b + 1) c]
theorem adr_drop : ∀ (l : List Ins) (b c : Nat), adr (b + c) (l.drop c) = (adr b l).drop c
  | [], b, c => by simp [adr]
  | i :: l, b, 0 => by simp
  | i :: l, b, c + 1 => by
    have := adr_drop l (b + 1) c
    rw [List.drop_succ_cons, adr, List.drop_succ_cons, ← this]; congr 1; lia
theorem pick_to (l : List (List Nat)) (c : Nat) : pickV (partsV l) none (some (c : Int)) = partsV (l.take c) := by simp [pickV, partsV, List.map_take]
theorem pick_from (l : List (List Nat)) (c : Nat) : pickV (partsV l) (some (c : Int)) none = partsV (l.drop c) := by simp [pickV, partsV, List.map_drop]
theorem pickI_to (l : List Ins) (c : Nat) : pickV (l.map Ins.V) none (some (c : Int)) = (l.take c).map Ins.V := by simp [pickV, List.map_take]
theorem pickI_from (l : List Ins) (c : Nat) : pickV (l.map Ins.V) (some (c : Int)) none = (l.drop c).map Ins.V := by simp [pickV, List.map_drop]
theorem rowsG_take (T : Sym) (l : List (Nat × Ins)) (c : Nat) : (rowsG T l).take c = rowsG T (l.take c) := by simp [rowsG, List.map_take]
theorem rowsG_drop (T : Sym) (l : List (Nat × Ins)) (c : Nat) : (rowsG T l).drop c = rowsG T (l.drop c) := by simp [rowsG, List.map_drop]
theorem rowsG_app (T : Sym) (l m : List (Nat × Ins)) : rowsG T l ++ rowsG T m = rowsG T (l ++ m) := by simp [rowsG]
theorem partsV_app (l m : List (List Nat)) : partsV l ++ partsV m = partsV (l ++ m) := by simp [partsV]
noncomputable def Seq (l : List (Nat × Ins)) : Prop := ∀ j p, l[j]? = some p → p.1 = base0 l + j
theorem seq_adr (b : Nat) (l : List Ins) : Seq (adr b l) := by
  intro j p h
  have hp := (adr_at h).1
  have : base0 (adr b l) = b := by
    cases l with
    | nil => cases h
    | cons i l => rfl
  lia
theorem seq_take (b c : Nat) (l : List Ins) : Seq ((adr b l).take c) := by rw [← adr_take]; exact seq_adr b _
theorem seq_drop (b c : Nat) (l : List Ins) : Seq ((adr b l).drop c) := by rw [← adr_drop]; exact seq_adr _ _
noncomputable def Bad (l : List (Nat × Ins)) : Prop := ∃ j p, l[j]? = some p ∧ p.1 ≠ base0 l + j
theorem base0_head {l : List (Nat × Ins)} {p : Nat × Ins} (h : l[0]? = some p) : base0 l = p.1 := by unfold base0; rw [h]; rfl
theorem bad_swap {b c : Nat} {l : List Ins} (h1 : 1 ≤ c) (h2 : c < l.length) : Bad ((adr b l).drop c ++ (adr b l).take c) := by
  obtain ⟨i, hi⟩ := adr_ex (b := b) h2
  obtain ⟨i0, hi0⟩ := adr_ex (b := b) (l := l) (j := 0) (by lia)
  have hb : base0 ((adr b l).drop c ++ (adr b l).take c) = b + c := base0_head (p := (b + c, i)) (by
    rw [List.getElem?_append_left (by rw [List.length_drop, adr_len]; lia), List.getElem?_drop]; simpa using hi)
  refine ⟨l.length - c, (b + 0, i0), ?_, ?_⟩
  · rw [List.getElem?_append_right (by rw [List.length_drop, adr_len]; exact Nat.le_refl _), List.length_drop, adr_len, Nat.sub_self, List.getElem?_take, if_pos (by lia)]; exact hi0
  · rw [hb]; show b + 0 ≠ _; lia
theorem bad_twice {b c : Nat} {l : List Ins} (h2 : c < l.length) : Bad ((adr b l).take (c + 1) ++ (adr b l).drop c) := by
  obtain ⟨i, hi⟩ := adr_ex (b := b) h2
  obtain ⟨i0, hi0⟩ := adr_ex (b := b) (l := l) (j := 0) (by lia)
  have hl : ((adr b l).take (c + 1)).length = c + 1 := by rw [List.length_take, adr_len]; lia
  have hb : base0 ((adr b l).take (c + 1) ++ (adr b l).drop c) = b + 0 := base0_head (p := (b + 0, i0)) (by
    rw [List.getElem?_append_left (by lia), List.getElem?_take, if_pos (by lia)]; exact hi0)
  refine ⟨c + 1, (b + c, i), ?_, ?_⟩
  · rw [List.getElem?_append_right (by lia), hl, Nat.sub_self, List.getElem?_drop]; simpa using hi
  · rw [hb]; show b + c ≠ _; lia
theorem bad_gap {b c : Nat} {l : List Ins} (h1 : 1 ≤ c) (h2 : c + 1 < l.length) : Bad ((adr b l).take c ++ (adr b l).drop (c + 1)) := by
  obtain ⟨i, hi⟩ := adr_ex (b := b) h2
  obtain ⟨i0, hi0⟩ := adr_ex (b := b) (l := l) (j := 0) (by lia)
  have hl : ((adr b l).take c).length = c := by rw [List.length_take, adr_len]; lia
  have hb : base0 ((adr b l).take c ++ (adr b l).drop (c + 1)) = b + 0 := base0_head (p := (b + 0, i0)) (by
    rw [List.getElem?_append_left (by lia), List.getElem?_take, if_pos (by lia)]; exact hi0)
  refine ⟨c, (b + (c + 1), i), ?_, ?_⟩
  · rw [List.getElem?_append_right (by lia), hl, Nat.sub_self, List.getElem?_drop]; simpa using hi
  · rw [hb]; show b + (c + 1) ≠ _; lia
structure RdOk (T : Sym) (l : List (Nat × Ins)) : Prop where
  ins : ∀ p ∈ l, p.2.Good T ∧ p.1 < 10 ^ 80
  few : ∀ p ∈ l, p.2.ops.length ≤ 4
  len : l.length ≤ 12
theorem rdok_adr {T : Sym} {b : Nat} {l : List Ins} (h : ∀ i ∈ l, i.Good T) (h4 : ∀ i ∈ l, i.ops.length ≤ 4) (hb : b < 10 ^ 60) (hl : l.length ≤ 5) : RdOk T (adr b l) := by
  have h60 : (10 : Nat) ^ 60 + 5 < 10 ^ 80 := by decide
  refine ⟨fun p hp => ?_, fun p hp => ?_, by rw [adr_len]; lia⟩
  rotate_left
  · obtain ⟨j, hj⟩ := List.getElem?_of_mem hp
    exact h4 _ (List.mem_of_getElem? (adr_at hj).2)
  obtain ⟨j, hj⟩ := List.getElem?_of_mem hp
  obtain ⟨h1, h2⟩ := adr_at hj
  have := (List.getElem?_eq_some_iff.mp h2).1
  exact ⟨h _ (List.mem_of_getElem? h2), by lia⟩
theorem RdOk.take {T : Sym} {l : List (Nat × Ins)} (h : RdOk T l) (c : Nat) : RdOk T (l.take c) := ⟨fun p hp => h.ins p (List.mem_of_mem_take hp), fun p hp => h.few p (List.mem_of_mem_take hp), by have := h.len; rw [List.length_take]; lia⟩
theorem RdOk.drop {T : Sym} {l : List (Nat × Ins)} (h : RdOk T l) (c : Nat) : RdOk T (l.drop c) := ⟨fun p hp => h.ins p (List.mem_of_mem_drop hp), fun p hp => h.few p (List.mem_of_mem_drop hp), by have := h.len; rw [List.length_drop]; lia⟩
theorem RdOk.app {T : Sym} {l m : List (Nat × Ins)} (h : RdOk T l) (h' : RdOk T m) (hl : l.length ≤ 6) (hm : m.length ≤ 6) : RdOk T (l ++ m) := ⟨fun p hp => (List.mem_append.mp hp).elim (h.ins p) (h'.ins p), fun p hp => (List.mem_append.mp hp).elim (h.few p) (h'.few p), by rw [List.length_append]; lia⟩
theorem wordsN_le {T : Sym} : ∀ {l : List (Nat × Ins)}, (∀ p ∈ l, p.2.ops.length ≤ 4 ∧ ∀ o ∈ p.2.ops, OpOk T o.1 o.2) → wordsN T l ≤ l.length * 4008
  | [], _ => Nat.zero_le _
  | p :: l, h => by
    have h1 := wordsN_le (l := l) fun q hq => h q (.tail _ hq)
    obtain ⟨h2, h3⟩ := h p (.head _)
    have h4 := wordsOps_len h3
    have h5 : p.2.ops.length * 1002 ≤ 4 * 1002 := Nat.mul_le_mul_right _ h2
    simp only [wordsN, List.map_cons, List.sum_cons, List.length_cons] at h1 ⊢
    lia
theorem RdOk.room {T U : Sym} {l : List (Nat × Ins)} (h : RdOk T l) (hU : U.size ≤ 1000) : U.Room (wordsN T l) := by
  have h1 := wordsN_le (T := T) (l := l) fun p hp => ⟨h.few p hp, (h.ins p hp).1.ok⟩
  have h2 := h.len
  unfold Sym.size at hU
  exact ⟨by lia, by lia⟩
theorem full_good {T : Sym} (h : T.Full) (hs : T.size ≤ 1000) : T.Good := h.good (n := 0) (by unfold Sym.size at hs; exact ⟨by lia, by lia⟩)
theorem take_snd (l : List Ins) (b c : Nat) : ((adr b l).take c).map (·.2) = l.take c := by rw [← adr_take, adr_map]
theorem drop_snd (l : List Ins) (b c : Nat) : ((adr b l).drop c).map (·.2) = l.drop c := by rw [← adr_drop, adr_map]
section
variable {W : Wd}
theorem EqV_op (o : Op) : EqV W 5 o.V := by
  cases o with
  | reg y n =>
    exact EqV_tup (n := 4) fun d hd => by
      rcases List.mem_cons.mp hd with rfl | hd
      · exact EqV_str
      · rw [List.mem_singleton.mp hd]; exact EqV_int
  | cell c =>
    exact EqV_tup (n := 4) fun d hd => by
      obtain ⟨i, _, rfl⟩ := List.mem_map.mp hd
      exact EqV_int
  | num n => exact EqV_int
  | tabC l => exact EqV_tdd (n := 3)
  | tabF l => exact EqV_idd (n := 4)
theorem EqV_ins (i : Ins) : EqV W 10 i.V := EqV_tup (n := 9) fun d hd => by
  rcases List.mem_cons.mp hd with rfl | hd
  · exact EqV_str
  · obtain ⟨o, _, rfl⟩ := List.mem_map.mp hd
    exact (EqV_op o).le (by lia)
theorem EqV_inss (l : List Ins) : ∀ d ∈ l.map Ins.V, EqV W 10 d := fun d hd => by
  obtain ⟨i, _, rfl⟩ := List.mem_map.mp hd
  exact EqV_ins i
theorem EqV_parts (l : List (List Nat)) : ∀ d ∈ partsV l, EqV W 10 d := fun d hd => by
  obtain ⟨i, _, rfl⟩ := List.mem_map.mp hd
  exact EqV_str
end

noncomputable abbrev LH (g : Addr) (l : List Nat) (A : SymA) (T : Sym) (B : SymA) (U : Sym) : AHeap := (g, .list (figsV l)) :: (symL A T ++ symL B U)
theorem LH_B (g : Addr) (l : List Nat) (A : SymA) (T : Sym) (B : SymA) (U : Sym) : LH g l A T B U = sy ((g, .list (figsV l)) :: symL A T) B U [] := by
  show _ = ((g, O.list (figsV l)) :: symL A T) ++ (symL B U ++ [])
  rw [List.append_nil]; rfl
theorem ten1000 : 10 < 2 ^ 1000 := by decide
theorem newS : Str.ofString "new" = S [110, 101, 119] := by decide +kernel
noncomputable def rho_law (sc : List Int) (g : Addr) (a b t c lo ro cu fa th pl sp : Option V) : Rho := [(Str.ofString "script", some (.fl (sc.map V.int))), (Str.ofString "figures", some (.ref g)), (Str.ofString "signs", a), (Str.ofString "others", b), (Str.ofString "turn", t), (Str.ofString "code", c), (Str.ofString "low", lo), (Str.ofString "rows", ro), (Str.ofString "cut", cu), (Str.ofString "far", fa), (Str.ofString "there", th), (Str.ofString "place", pl), (Str.ofString "spot", sp)]
section
variable {W : Wd} (G : Gd W) {k : Nat} {g : Addr} {l : List Nat} {A B : SymA} {T U : Sym}
theorem LB_x : (B.x, O.inst 155 B.dx) ∈ LH g l A T B U := by rw [LH_B]; exact m_x
theorem LB_dx : (B.dx, O.ns (fieldsV B)) ∈ LH g l A T B U := by rw [LH_B]; exact m_dx
include G
theorem EP_drawL {F : Fm} {Q : V → AHeap → Prop} {sc : Scope} {ρ : Rho} {p1 p2 p3 pos : Pos} {j : Nat} {i : Int} (m : Nat) (ok : F.Ok W (k + 1)) (hsc : F.sc = sc) (hd : sc.names.lookup (Str.ofString "_law_draw") = some .globalImplicit) (hf : (Str.ofString "figures", some (.ref g)) ∈ ρ) (hm : 0 < m) (hl : l.length ≤ 90)
    (q : ∀ n l', n < m → l'.length ≤ 90 → Q (.int (n : Nat)) (LH g l' A T B U)) (hi : i = (m : Nat) := by rfl) : EP W F ρ (LH g l A T B U) (eval (.Call (.Name (Str.ofString "_law_draw") p1) [.Name (Str.ofString "figures") p2, .Constant (.int i) j p3] [] pos) F.env) Q :=
  EP_draw (pre := []) (post := symL A T ++ symL B U) G m ok hsc hd hf hm hl q hi
theorem EP_nameL {F : Fm} {Q : V → AHeap → Prop} {sc : Scope} {ρ : Rho} {p1 p2 pos : Pos} (ok : F.Ok W (k + 2)) (hsc : F.sc = sc) (hd : sc.names.lookup (Str.ofString "_law_name") = some .globalImplicit) (hf : (Str.ofString "figures", some (.ref g)) ∈ ρ) (hl : l.length ≤ 90)
    (q : ∀ x l', Few x → x.length ≤ 3 → l'.length ≤ 90 → Q (.str (S x)) (LH g l' A T B U)) : EP W F ρ (LH g l A T B U) (eval (.Call (.Name (Str.ofString "_law_name") p1) [.Name (Str.ofString "figures") p2] [] pos) F.env) Q :=
  ec__law_name G ok hsc hd (NP_cons (EP_local ok hf (NP_nil (c__law_name (k := k) (pre := []) (post := symL A T ++ symL B U) G hl fun x l' h1 h2 h3 => q x l' (few3 h1 h2) h1 h3))))
theorem law_others {F : Fm} {sc : List Int} {j : Nat} {c lo ro cu fa th pl sp : Option V} {Q : Fl → AHeap → Rho → Prop} (hsc : F.sc = scopeOf (defAt 53)) (ok : F.Ok W (k + 12)) (hl : l.length ≤ 90) (hj : j ≤ 10) (hU : U.Full) (hs : U.size ≤ 1000)
    (q : ∀ (l' : List Nat) (V : Sym), l'.length ≤ 90 → V.Full → V.size ≤ U.size + 5 → Q .next (LH g l' A T B V) (rho_law sc g (some (.ref A.x)) (some (.ref B.x)) (some (.int (j : Nat))) c lo ro cu fa th pl sp)) :
    SP W F (rho_law sc g (some (.ref A.x)) (some (.ref B.x)) (some (.int (j : Nat))) c lo ro cu fa th pl sp) (LH g l A T B U) (execs (forBody ((bodyOf (defAt 53)).drop 3)) F.env) Q := by
  have hb0 : (1000 : Nat) < 10 ^ 80 := by decide
  unfold rho_law at *
  refine SPc (SP_expr ok ?_ rfl)
  refine EP_own (x := B.x) (k := k + 11) ok G.wok (by lia) (om_func G) ?_
  refine EP_local ok (.tail _ (.tail _ (.tail _ (.head _)))) ⟨rfl, isy LB_x LB_dx (by decide +kernel), NP_cons ?_⟩
  refine EP_nameL (k := k + 10) G ok hsc gm_law__law_name (.tail _ (.head _)) hl fun x l₁ hx hx3 hl₁ => NP_cons ?_
  refine EP_drawL (k := k + 11) G 4 ok hsc gm_law__law_draw (.tail _ (.head _)) (by lia) hl₁ fun n l₂ hn hl₂ => NP_nil ?_
  have hs' := hs
  unfold Sym.size at hs'
  rw [LH_B]
  refine CallP.le (c_func (k := k) G (by lia) (by lia) ⟨trivial, ?_⟩) (by lia)
  rw [← LH_B]
  have f1 : (U.func x n).2.Full := func_full hU hx (by lia)
  have s1 := func_size U x n
  revert f1 s1
  generalize (U.func x n).2 = V
  intro hV hVs
  have hs' := hVs
  unfold Sym.size at hs'
  refine Thn_next (SPc (SP_expr ok ?_ rfl))
  refine EP_own (x := B.x) (k := k + 11) ok G.wok (by lia) (om_atom G) ?_
  refine EP_local ok (.tail _ (.tail _ (.tail _ (.head _)))) ⟨rfl, isy LB_x LB_dx (by decide +kernel), NP_cons (EP_bin (EP_str ?_))⟩
  refine ec_str G ok hsc gm_law_str (NP_cons (EP_local ok (.tail _ (.tail _ (.tail _ (.tail _ (.head _))))) (NP_nil (op_str_int (Nat.lt_of_le_of_lt hj ten1000) ?_))))
  rw [decS, newS]
  have hd1 : (decL j).length ≤ 2 := decL_len (by lia) (by lia)
  refine op_add_str (by rw [S_len, S_len, sizeLine_eq]; simp; lia) ?_
  rw [S_append]
  refine NP_nil ?_
  rw [LH_B]
  refine CallP.le (c_atom (k := k) G (size_small (by lia)) ⟨trivial, ?_⟩) (by lia)
  rw [← LH_B]
  have hx : Few ([110, 101, 119] ++ decL j) := ⟨by simp; lia, fun y hy => by
    rcases List.mem_append.mp hy with hy | hy
    · simp at hy; lia
    · have := decL_figs j y hy; lia⟩
  have f1 : (V.atom ([110, 101, 119] ++ decL j)).2.Full := atom_full hV hx
  have s1 := atom_size V ([110, 101, 119] ++ decL j)
  revert f1 s1
  generalize (V.atom ([110, 101, 119] ++ decL j)).2 = Z
  intro hZ hZs
  have hs' := hZs
  unfold Sym.size at hs'
  refine Thn_next (SPc (SP_expr ok ?_ rfl))
  refine EP_own (x := B.x) (k := k + 11) ok G.wok (by lia) (om_func G) ?_
  refine EP_local ok (.tail _ (.tail _ (.tail _ (.head _)))) ⟨rfl, isy LB_x LB_dx (by decide +kernel), NP_cons (EP_str (NP_cons (EP_local ok (.tail _ (.tail _ (.tail _ (.tail _ (.head _))))) (NP_nil ?_))))⟩
  rw [LH_B]
  refine CallP.le (c_func (k := k) G (by lia) (by lia) ⟨trivial, ?_⟩) (by lia)
  rw [← LH_B]
  refine Thn_next (SP_nil (q l₂ _ hl₂ (func_full hZ ⟨by simp, by simp⟩ (by lia)) ?_))
  have := func_size Z [110, 101, 119] j
  lia
end

section
variable {W : Wd} (G : Gd W) {k : Nat}
include G
theorem law_code {F : Fm} {sc : List Int} {g c : Addr} {l : List Nat} {A B : SymA} {T U : Sym} {is : List Ins} {b t lo ro cu fa th pl sp : Option V} {Q : Fl → AHeap → Rho → Prop} (hsc : F.sc = scopeOf (defAt 53)) (ok : F.Ok W (k + 12)) (hl : l.length ≤ 90) (hi : is.length ≤ 10) (hT : T.Full) (h5 : 6 ≤ T.fns.length) (hs : T.size ≤ 1000)
    (q : ∀ (i : Ins) (l' : List Nat) (V : Sym), l'.length ≤ 90 → Drawn V i → T.Le V → V.Full → V.size ≤ T.size + 3 → Q .next ((c, .list ((is ++ [i]).map Ins.V)) :: LH g l' A V B U) (rho_law sc g (some (.ref A.x)) b t (some (.ref c)) lo ro cu fa th pl sp)) :
    SP W F (rho_law sc g (some (.ref A.x)) b t (some (.ref c)) lo ro cu fa th pl sp) ((c, .list (is.map Ins.V)) :: LH g l A T B U) (execs (forBody ((bodyOf (defAt 53)).drop 5)) F.env) Q := by
  unfold rho_law at *
  refine SPc (SP_expr ok ?_ rfl)
  refine EP_meth (id := "list.append") (EP_local ok (.tail _ (.tail _ (.tail _ (.tail _ (.tail _ (.head _)))))) ⟨meth_list (.head _) PySem.F.slot_list_append PySem.F.type_list_append, NP_cons ?_⟩)
  refine ec__law_row_drawn G ok hsc gm_law__law_row_drawn (NP_cons (EP_local ok (.tail _ (.head _)) (NP_cons (EP_local ok (.tail _ (.tail _ (.head _))) (NP_nil ?_)))))
  refine CallP.le (c__law_row_drawn (k := k) (pre := [(c, O.list (is.map Ins.V))]) (pre2 := []) (post := symL B U) G hl hT h5 (by lia) fun i l₁ V h1 h2 h3 h4 h6 => NP_nil ?_) (by lia)
  refine op_append (H' := (c, .list ((is ++ [i]).map Ins.V)) :: LH g l₁ A V B U) (.head _) (by rw [List.length_map]; lia) (by rw [List.map_append]; exact .here) ⟨trivial, ?_⟩
  exact Thn_next (SP_nil (q i l₁ V h6 h1 h2 h3 h4))
omit G in
theorem perm_start {α : Type} (g : α) (a b : List α) : (g :: (a ++ b)).Perm (b ++ (a ++ [g])) :=
  (List.perm_middle (a := g) (l₁ := a) (l₂ := b)).symm.trans (by rw [show a ++ g :: b = (a ++ [g]) ++ b by simp]; exact List.perm_append_comm)
noncomputable abbrev LawQ (W : Wd) (F : Fm) (sc : List Int) (Q : Fl → AHeap → Rho → Prop) : Prop := ∀ (g : Addr) (l : List Nat) (A B : SymA) (T U : Sym) (is : List Ins) (t : Option V), l.length ≤ 90 → T.Full → T.size ≤ 200 → U.Full → U.size ≤ 200 → (∀ i ∈ is, Drawn T i) → 2 ≤ is.length → is.length ≤ 5 →
      SP W F (rho_law sc g (some (.ref A.x)) (some (.ref B.x)) t (some (.fl (is.map Ins.V))) none none none none none none none) (LH g l A T B U) (execs ((bodyOf (defAt 53)).drop 6) F.env) Q
theorem law_loop2 {F : Fm} {sc : List Int} {Q : Fl → AHeap → Rho → Prop} {g : Addr} {l : List Nat} {A B : SymA} {U : Sym} {t : Option V} (hsc : F.sc = scopeOf (defAt 53)) (ok : F.Ok W (k + 12)) (z0 : sym0.size ≤ 93) (hl : l.length ≤ 90) (hU : U.Full) (hUs : U.size ≤ 200) (q : LawQ W F sc Q) :
    SP W F (rho_law sc g (some (.ref A.x)) (some (.ref B.x)) t none none none none none none none none) (LH g l A sym0 B U) (execs ((bodyOf (defAt 53)).drop 4) F.env) Q := by
  refine SPc (SP_assign ok (EP_list (NP_nil ⟨by decide, fun c => ?_⟩)))
  refine ⟨rho_law sc g (some (.ref A.x)) (some (.ref B.x)) t (some (.ref c)) none none none none none none none, .there (.there (.there (.there (.there .here)))), Thn_next (SPc (SP_forX ok ?_))⟩
  refine ec_range G ok hsc gm_law_range (NP_cons ?_)
  refine EP_choice (ds := [.int 3, .int 2, .int 4, .int 5]) (k := k + 11) (pre := [(c, O.list [])]) (post := symL A sym0 ++ symL B U) G 4 ok hsc gm_law__law_draw (.tail _ (.head _)) (by lia) hl (fun Q q => NP_lit1 rfl rfl q) rfl (by lia) fun n' d l₃ hd hl₃ => NP_nil ?_
  obtain ⟨m, hm, hm2, rfl⟩ : ∃ m : Nat, 2 ≤ m ∧ m ≤ 5 ∧ d = .int (m : Nat) := by
    match n', hd with
    | 0, hd => cases hd; exact ⟨3, by lia, by lia, rfl⟩
    | 1, hd => cases hd; exact ⟨2, by lia, by lia, rfl⟩
    | 2, hd => cases hd; exact ⟨4, by lia, by lia, rfl⟩
    | 3, hd => cases hd; exact ⟨5, by lia, by lia, rfl⟩
  obtain ⟨J, hJ⟩ : ∃ J : Nat → AHeap → Rho → Prop, J = fun j H' ρ' => ∃ (l' : List Nat) (T : Sym) (is : List Ins) (t : Option V), l'.length ≤ 90 ∧ T.Full ∧ sym0.Le T ∧ T.size ≤ 93 + 3 * j ∧ (∀ i ∈ is, Drawn T i) ∧ is.length = j ∧ H' = (c, O.list (is.map Ins.V)) :: LH g l' A T B U ∧ ρ' = rho_law sc g (some (.ref A.x)) (some (.ref B.x)) t (some (.ref c)) none none none none none none none := ⟨_, rfl⟩
  refine op_range1 ⟨J, rangeV 0 (m : Nat), ItP_rng1 ok.room.handled (by lia) (by lia) (by lia) (by lia), hJ ▸ ⟨l₃, sym0, [], _, hl₃, full0, .refl _, z0, fun i hi => (nomatch hi), rfl, rfl, rfl⟩, ?_, ?_⟩
  · intro j d H₁ ρ₁ hd hj
    rw [hJ] at hj
    obtain ⟨l', T, is, t, hl', hT, hT0, hTs, hD, rfl, rfl, rfl⟩ := hj
    obtain ⟨rfl, hj⟩ := rangeV_get hd
    have h5 : 6 ≤ T.fns.length := by
      obtain ⟨x, e⟩ := hT0.fns
      have : sym0.fns.length = 32 := by decide +kernel
      rw [e, List.length_append]; lia
    refine ⟨rho_law sc g (some (.ref A.x)) (some (.ref B.x)) (some (.int (is.length : Nat))) (some (.ref c)) none none none none none none none, .there (.there (.there (.there .here))), ?_⟩
    refine law_code (k := k) G hsc ok.inn hl' (by lia) hT h5 (by lia) fun i l'' V h1 h2 h3 h4 h6 => LpQ_next ?_
    rw [hJ]
    refine ⟨l'', V, is ++ [i], _, h1, h4, hT0.trans h3, by lia, fun p hp => ?_, by rw [List.length_append]; rfl, rfl, rfl⟩
    rcases List.mem_append.mp hp with hp | hp
    · exact (hD p hp).le h3
    · rw [List.mem_singleton.mp hp]; exact h2
  · intro H₁ ρ₁ hj
    rw [hJ, rangeV_len] at hj
    obtain ⟨l', T, is, t, hl', hT, hT0, hTs, hD, hlen, rfl, rfl⟩ := hj
    exact Thn_next (SP_frozL (x := Str.ofString "code") (.refl _) (.tail _ (.tail _ (.tail _ (.tail _ (.tail _ (.head _)))))) ⟨rho_law sc g (some (.ref A.x)) (some (.ref B.x)) t (some (.fl (is.map Ins.V))) none none none none none none none, .there (.there (.there (.there (.there .here)))), q g l' A B T U is t hl' hT (by lia) hU hUs hD (by lia) (by lia)⟩)
theorem law_loop1 {F : Fm} {sc : List Int} {Q : Fl → AHeap → Rho → Prop} {g : Addr} {l : List Nat} {A B : SymA} (hsc : F.sc = scopeOf (defAt 53)) (ok : F.Ok W (k + 12)) (z0 : sym0.size ≤ 93) (hl : l.length ≤ 90) (q : LawQ W F sc Q) :
    SP W F (rho_law sc g (some (.ref A.x)) (some (.ref B.x)) none none none none none none none none none) (LH g l A sym0 B sym0) (execs ((bodyOf (defAt 53)).drop 3) F.env) Q := by
  refine SPc (SP_forX ok ?_)
  refine ec_range G ok hsc gm_law_range (NP_cons (EP_bin (EP_int ?_)))
  refine EP_drawL (k := k + 11) G 3 ok hsc gm_law__law_draw (.tail _ (.head _)) (by lia) hl fun n l₁ hn hl₁ => op_add_int (NP_nil (op_range1 ?_))
  rw [show (1 : Int) + (n : Nat) = ((1 + n : Nat) : Int) by lia]
  obtain ⟨J, hJ⟩ : ∃ J : Nat → AHeap → Rho → Prop, J = fun j H' ρ' => ∃ (l' : List Nat) (U : Sym) (t : Option V), l'.length ≤ 90 ∧ U.Full ∧ U.size ≤ 93 + 5 * j ∧ H' = LH g l' A sym0 B U ∧ ρ' = rho_law sc g (some (.ref A.x)) (some (.ref B.x)) t none none none none none none none none := ⟨_, rfl⟩
  refine ⟨J, rangeV 0 (1 + n : Nat), ItP_rng1 ok.room.handled (by lia) (by lia) (by lia) (by lia), hJ ▸ ⟨l₁, sym0, _, hl₁, full0, z0, rfl, rfl⟩, ?_, ?_⟩
  · intro j d H₁ ρ₁ hd hj
    rw [hJ] at hj
    obtain ⟨l', U, t, hl', hU, hUs, rfl, rfl⟩ := hj
    obtain ⟨rfl, hj⟩ := rangeV_get hd
    refine ⟨rho_law sc g (some (.ref A.x)) (some (.ref B.x)) (some (.int (j : Nat))) none none none none none none none none, .there (.there (.there (.there .here))), ?_⟩
    refine law_others (k := k) G hsc ok.inn hl' (by lia) hU (by lia) fun l'' V h1 h2 h3 => LpQ_next ?_
    rw [hJ]
    exact ⟨l'', V, _, h1, h2, by lia, rfl, rfl⟩
  · intro H₁ ρ₁ hj
    rw [hJ, rangeV_len] at hj
    obtain ⟨l₂, U, t, hl₂, hU, hUs, rfl, rfl⟩ := hj
    exact Thn_next (law_loop2 (k := k) G hsc ok z0 hl₂ hU (by lia) q)
theorem law_start {F : Fm} {sc : List Int} {Q : Fl → AHeap → Rho → Prop} (hsc : F.sc = scopeOf (defAt 53)) (ok : F.Ok W (k + 12)) (hsz : sc.length ≤ 2 ^ 20) (q : LawQ W F sc Q) :
    SP W F [(Str.ofString "script", some (.fl (sc.map V.int))), (Str.ofString "figures", none), (Str.ofString "signs", none), (Str.ofString "others", none), (Str.ofString "turn", none), (Str.ofString "code", none), (Str.ofString "low", none), (Str.ofString "rows", none), (Str.ofString "cut", none), (Str.ofString "far", none), (Str.ofString "there", none), (Str.ofString "place", none), (Str.ofString "spot", none)] [] (execs (bodyOf (defAt 53)) F.env) Q := by
  have z0 : sym0.size ≤ 93 := by have := room0; unfold Sym.size; lia
  refine SPc (SP_assign ok (ec__law_figures G ok hsc gm_law__law_figures (NP_loc ok (.head _) (NP_nil (CallP.le (c__law_figures (k := k) G hsz fun g l hl => StI1 (Thn_next ?_)) (by lia))))))
  refine SPc (SP_assign ok (ec_Symbols G ok hsc gm_law_Symbols (CallP.le (c_Symbols (k := k) G fun A => StI2 (Thn_next ?_)) (by lia))))
  refine SPc (SP_assign ok (ec_Symbols G ok hsc gm_law_Symbols (CallP.le (c_Symbols (k := k) G fun B => StI3 (Thn_next ?_)) (by lia))))
  exact SP.perm (H' := LH g l A sym0 B sym0) (perm_start _ _ _) (law_loop1 (k := k) G hsc ok z0 hl q)
end

section
variable {W : Wd} (G : Gd W) {k : Nat}
theorem op_ne_fl_eq {F : Fm} {H : AHeap} {Q : V → AHeap → Prop} {k₀ : Nat} (ok : F.Ok W k₀) {l m : List V} (e : m = l) (hd : ∀ d ∈ l, EqV W 10 d) (q : Q (.bool false) H) : OP2 W F (compareOp .NotEq) (.fl l) (.fl m) H Q := by
  subst e; exact op_ne_fl ok hd q
structure LawCtx (T : Sym) (is : List Ins) (low : Nat) : Prop where
  full : T.Full
  size : T.size ≤ 200
  drawn : ∀ i ∈ is, Drawn T i
  n2 : 2 ≤ is.length
  n5 : is.length ≤ 5
  low : low < 10 ^ 20
theorem LawCtx.good {T : Sym} {is : List Ins} {low : Nat} (c : LawCtx T is low) : T.Good := full_good c.full (by have := c.size; lia)
theorem LawCtx.ins {T : Sym} {is : List Ins} {low : Nat} (c : LawCtx T is low) : ∀ i ∈ is, i.Good T := fun i hi => (c.drawn i hi).good c.good
theorem LawCtx.rd {T : Sym} {is : List Ins} {low : Nat} (c : LawCtx T is low) : RdOk T (adr low is) := rdok_adr c.ins (fun i hi => (c.drawn i hi).few) (Nat.lt_trans c.low (by decide)) c.n5
include G
theorem c_read_self {A : SymA} {T : Sym} {pre post : AHeap} {Q : V → AHeap → Prop} {l : List (Nat × Ins)} (hT : T.Full) (hs : T.size ≤ 1000) (rd : RdOk T l) (sq : Seq l) (q : Q (.fl ((l.map (·.2)).map Ins.V)) (sy pre A T post)) :
    CallP W (k + 10) (.ref 405) [.ref A.x, .fl (partsV (rowsG T l))] (sy pre A T post) Q := by
  refine c_read_listing (k := k) G hT (full_good hT hs) rd.ins hT (rd.room hs) (by have := rd.len; lia) sq ?_
  rw [readRows_self hT fun i hi => by
    obtain ⟨z, hz, rfl⟩ := List.mem_map.mp hi
    exact (rd.ins z hz).1]
  exact q
theorem law_low {F : Fm} {sc : List Int} {g : Addr} {l : List Nat} {A B : SymA} {T U : Sym} {is : List Ins} {b t : Option V} {Q : Fl → AHeap → Rho → Prop} (hsc : F.sc = scopeOf (defAt 53)) (ok : F.Ok W (k + 12)) (hl : l.length ≤ 90) (hT : T.Full) (hs : T.size ≤ 200) (hD : ∀ i ∈ is, Drawn T i) (h2 : 2 ≤ is.length) (h5 : is.length ≤ 5)
    (q : ∀ (l' : List Nat) (low cut : Nat), l'.length ≤ 90 → LawCtx T is low → low < 10 ^ 16 → 1 ≤ cut → cut < is.length → SP W F (rho_law sc g (some (.ref A.x)) b t (some (.fl (is.map Ins.V))) (some (.int (low : Nat))) (some (.fl (partsV (rowsG T (adr low is))))) (some (.int (cut : Nat))) none none none none) (LH g l' A T B U) (execs ((bodyOf (defAt 53)).drop 9) F.env) Q) :
    SP W F (rho_law sc g (some (.ref A.x)) b t (some (.fl (is.map Ins.V))) none none none none none none none) (LH g l A T B U) (execs ((bodyOf (defAt 53)).drop 6) F.env) Q := by
  unfold rho_law at *
  refine SPc (SP_assign ok (EP_bin ?_))
  refine EP_drawL (k := k + 11) G 900 ok hsc gm_law__law_draw (.tail _ (.head _)) (by lia) hl fun n l₁ hn hl₁ => EP_bin (EP_int ?_)
  refine EP_choice (ds := [.int 0, .int 1, .int 12]) (k := k + 11) (pre := []) (post := symL A T ++ symL B U) G 3 ok hsc gm_law__law_draw (.tail _ (.head _)) (by lia) hl₁ (fun Q q => NP_lit1 rfl rfl q) rfl (by lia) fun n' d l₂ hd hl₂ => ?_
  obtain ⟨e, he, rfl⟩ : ∃ e : Nat, e ≤ 12 ∧ d = .int (e : Nat) := by
    match n', hd with
    | 0, hd => cases hd; exact ⟨0, by lia, rfl⟩
    | 1, hd => cases hd; exact ⟨1, by lia, rfl⟩
    | 2, hd => cases hd; exact ⟨12, by lia, rfl⟩
  refine op_pow_int (by lia) (by lia) (by decide) (op_mul_int (IntMulOk.of_left (intBits_le_64 (by lia) (by lia))) ?_)
  obtain ⟨low, hlow, e1⟩ : ∃ low : Nat, low < 10 ^ 16 ∧ (n : Int) * 10 ^ (e : Int).toNat = (low : Nat) := by
    refine ⟨n * 10 ^ e, ?_, by simp⟩
    have : 10 ^ e ≤ 10 ^ 12 := Nat.pow_le_pow_right (by decide) he
    exact Nat.lt_of_le_of_lt (Nat.mul_le_mul (Nat.le_of_lt hn) this) (by decide)
  rw [e1]
  have cx : LawCtx T is low := ⟨hT, hs, hD, h2, h5, Nat.lt_trans hlow (by decide)⟩
  refine ⟨rho_law sc g (some (.ref A.x)) b t (some (.fl (is.map Ins.V))) (some (.int (low : Nat))) none none none none none none, .there (.there (.there (.there (.there (.there .here))))), ?_⟩
  unfold rho_law
  refine Thn_next (SPc (SP_assign ok ?_))
  refine ec_listing G ok hsc gm_law_listing (NP_cons (EP_local ok (.tail _ (.tail _ (.head _))) (NP_cons (EP_local ok (.tail _ (.tail _ (.tail _ (.tail _ (.tail _ (.head _)))))) (NP_cons (EP_local ok (.tail _ (.tail _ (.tail _ (.tail _ (.tail _ (.tail _ (.head _))))))) (NP_nil ?_)))))))
  refine CallP.le (c_listing (k := k) (A := A) (T := T) (pre := [(g, O.list (figsV l₂))]) (post := symL B U) G cx.good (Nat.lt_trans hlow (by decide)) (by lia) cx.ins ?_) (by lia)
  rw [rowsL_adr]
  refine ⟨rho_law sc g (some (.ref A.x)) b t (some (.fl (is.map Ins.V))) (some (.int (low : Nat))) (some (.fl (partsV (rowsG T (adr low is))))) none none none none none, .there (.there (.there (.there (.there (.there (.there .here)))))), ?_⟩
  unfold rho_law
  refine Thn_next (SPc (SP_assign ok (EP_bin (EP_int ?_))))
  refine ec__law_draw G ok hsc gm_law__law_draw (NP_cons (EP_local ok (.tail _ (.head _)) (NP_cons (EP_bin ?_))))
  refine ec_len G ok hsc gm_law_len (NP_cons (EP_local ok (.tail _ (.tail _ (.tail _ (.tail _ (.tail _ (.head _)))))) (NP_nil (op_len_fl (by rw [List.length_map]; lia) (EP_int (op_sub_int (NP_nil ?_)))))))
  rw [List.length_map, show ((is.length : Nat) : Int) - 1 = ((is.length - 1 : Nat) : Int) by lia]
  refine CallP.le (c__law_draw (k := k) (pre := []) (post := symL A T ++ symL B U) G (by lia) hl₂ fun c l₃ hc hl₃ => op_add_int ?_) (by lia)
  rw [sum1]
  exact ⟨rho_law sc g (some (.ref A.x)) b t (some (.fl (is.map Ins.V))) (some (.int (low : Nat))) (some (.fl (partsV (rowsG T (adr low is))))) (some (.int (1 + c : Nat))) none none none none, .there (.there (.there (.there (.there (.there (.there (.there .here))))))), Thn_next (q l₃ low (1 + c) hl₃ cx hlow (by lia) (by lia))⟩
end

section
variable {W : Wd} (G : Gd W) {k : Nat}
include G
theorem law_cut {F : Fm} {sc : List Int} {g : Addr} {l : List Nat} {A B : SymA} {T U : Sym} {is : List Ins} {low cut : Nat} {b t : Option V} {Q : Fl → AHeap → Rho → Prop} (hsc : F.sc = scopeOf (defAt 53)) (ok : F.Ok W (k + 12)) (c : LawCtx T is low) (hlow : low < 10 ^ 16) (hc1 : 1 ≤ cut) (hc2 : cut < is.length)
    (q : SP W F (rho_law sc g (some (.ref A.x)) b t (some (.fl (is.map Ins.V))) (some (.int (low : Nat))) (some (.fl (partsV (rowsG T (adr low is))))) (some (.int (cut : Nat))) none none none none) (LH g l A T B U) (execs ((bodyOf (defAt 53)).drop 11) F.env) Q) :
    SP W F (rho_law sc g (some (.ref A.x)) b t (some (.fl (is.map Ins.V))) (some (.int (low : Nat))) (some (.fl (partsV (rowsG T (adr low is))))) (some (.int (cut : Nat))) none none none none) (LH g l A T B U) (execs ((bodyOf (defAt 53)).drop 9) F.env) Q := by
  have h60 : (10 : Nat) ^ 16 + 5 < 10 ^ 60 := by decide
  have n5 := c.n5
  have lenc : (is.map Ins.V).length ≤ 2 ^ 20 := by rw [List.length_map]; lia
  have lenr : (partsV (rowsG T (adr low is))).length ≤ 2 ^ 20 := by rw [partsV_len, rowsG, List.length_map, adr_len]; lia
  have p0 : (0 : Int) ≤ (cut : Nat) := by lia
  obtain ⟨ρ, hρ⟩ : ∃ ρ, ρ = rho_law sc g (some (.ref A.x)) b t (some (.fl (is.map Ins.V))) (some (.int (low : Nat))) (some (.fl (partsV (rowsG T (adr low is))))) (some (.int (cut : Nat))) none none none none := ⟨_, rfl⟩
  rw [← hρ] at q ⊢
  have mS : (Str.ofString "signs", some (V.ref A.x)) ∈ ρ := by rw [hρ]; exact .tail _ (.tail _ (.head _))
  have mC : (Str.ofString "code", some (V.fl (is.map Ins.V))) ∈ ρ := by rw [hρ]; exact .tail _ (.tail _ (.tail _ (.tail _ (.tail _ (.head _)))))
  have mL : (Str.ofString "low", some (V.int (low : Nat))) ∈ ρ := by rw [hρ]; exact .tail _ (.tail _ (.tail _ (.tail _ (.tail _ (.tail _ (.head _))))))
  have mR : (Str.ofString "rows", some (V.fl (partsV (rowsG T (adr low is))))) ∈ ρ := by rw [hρ]; exact .tail _ (.tail _ (.tail _ (.tail _ (.tail _ (.tail _ (.tail _ (.head _)))))))
  have mK : (Str.ofString "cut", some (V.int (cut : Nat))) ∈ ρ := by rw [hρ]; exact .tail _ (.tail _ (.tail _ (.tail _ (.tail _ (.tail _ (.tail _ (.tail _ (.head _))))))))
  clear hρ
  refine SPc (SP_if (TP_boolop (TP_or_cons (TP_cmp ?_))))
  refine ec_listing G ok hsc gm_law_listing (NP_cons (EP_local ok mS (NP_cons ?_)))
  refine EP_slice_fl (EP_local ok mC ⟨_, rfl, lenc, PP_none (PP_some (EP_local ok mK ⟨_, rfl, p0, NP_cons (EP_local ok mL (NP_nil ?_))⟩))⟩)
  rw [pickI_to]
  refine CallP.le (c_listing (k := k) (A := A) (T := T) (pre := [(g, O.list (figsV l))]) (post := symL B U) G c.good (by lia) (by rw [List.length_take]; lia) (fun i hi => c.ins i (List.mem_of_mem_take hi)) ?_) (by lia)
  refine EP_slice_fl (EP_local ok mR ⟨_, rfl, lenr, PP_none (PP_some (EP_local ok mK ⟨_, rfl, p0, ?_⟩))⟩)
  refine op_ne_fl_eq ok (by rw [pick_to, rowsL_adr, adr_take, rowsG_take]) (EqV_parts _) (ot_bool ⟨fun h => (nomatch h), fun _ => TP_or_cons (TP_cmp ?_)⟩)
  refine ec_listing G ok hsc gm_law_listing (NP_cons (EP_local ok mS (NP_cons ?_)))
  refine EP_slice_fl (EP_local ok mC ⟨_, rfl, lenc, PP_some (EP_local ok mK ⟨_, rfl, PP_none ⟨p0, NP_cons (EP_bin (EP_local ok mL (EP_local ok mK (op_add_int (NP_nil ?_)))))⟩⟩)⟩)
  rw [pickI_from, show ((low : Nat) : Int) + (cut : Nat) = ((low + cut : Nat) : Int) by lia]
  refine CallP.le (c_listing (k := k) (A := A) (T := T) (pre := [(g, O.list (figsV l))]) (post := symL B U) G c.good (by lia) (by rw [List.length_drop]; lia) (fun i hi => c.ins i (List.mem_of_mem_drop hi)) ?_) (by lia)
  refine EP_slice_fl (EP_local ok mR ⟨_, rfl, lenr, PP_some (EP_local ok mK ⟨_, rfl, PP_none ⟨p0, ?_⟩⟩)⟩)
  refine op_ne_fl_eq ok (by rw [pick_from, rowsL_adr, adr_drop, rowsG_drop]) (EqV_parts _) (ot_bool ⟨fun h => (nomatch h), fun _ => TP_or_nil ⟨fun h => (nomatch h), fun _ => SP_nil (Thn_next ?_)⟩⟩)
  refine SPc (SP_if (TP_boolop (TP_or_cons (TP_cmp ?_))))
  refine ec_read_listing G ok hsc gm_law_read_listing (NP_cons (EP_local ok mS (NP_cons ?_)))
  refine EP_slice_fl (EP_local ok mR ⟨_, rfl, lenr, PP_none (PP_some (EP_local ok mK ⟨_, rfl, p0, NP_nil ?_⟩))⟩)
  rw [pick_to, rowsG_take]
  have hsz : T.size ≤ 1000 := by have := c.size; lia
  refine CallP.le (c_read_self (k := k) (pre := [(g, O.list (figsV l))]) (post := symL B U) G c.full hsz (c.rd.take cut) (seq_take _ _ _) ?_) (by lia)
  refine EP_slice_fl (EP_local ok mC ⟨_, rfl, lenc, PP_none (PP_some (EP_local ok mK ⟨_, rfl, p0, ?_⟩))⟩)
  refine op_ne_fl_eq ok (by rw [pickI_to, take_snd]) (EqV_inss _) (ot_bool ⟨fun h => (nomatch h), fun _ => TP_or_cons (TP_cmp ?_)⟩)
  refine ec_read_listing G ok hsc gm_law_read_listing (NP_cons (EP_local ok mS (NP_cons ?_)))
  refine EP_slice_fl (EP_local ok mR ⟨_, rfl, lenr, PP_some (EP_local ok mK ⟨_, rfl, PP_none ⟨p0, NP_nil ?_⟩⟩)⟩)
  rw [pick_from, rowsG_drop]
  refine CallP.le (c_read_self (k := k) (pre := [(g, O.list (figsV l))]) (post := symL B U) G c.full hsz (c.rd.drop cut) (seq_drop _ _ _) ?_) (by lia)
  refine EP_slice_fl (EP_local ok mC ⟨_, rfl, lenc, PP_some (EP_local ok mK ⟨_, rfl, PP_none ⟨p0, ?_⟩⟩)⟩)
  refine op_ne_fl_eq ok (by rw [pickI_from, drop_snd]) (EqV_inss _) (ot_bool ⟨fun h => (nomatch h), fun _ => TP_or_nil ⟨fun h => (nomatch h), fun _ => SP_nil (Thn_next q)⟩⟩)
end

section
variable {W : Wd} (G : Gd W) {k : Nat}
include G
theorem law_others2 {F : Fm} {sc : List Int} {g : Addr} {l : List Nat} {A B : SymA} {T U : Sym} {is : List Ins} {low cut : Nat} {t : Option V} {Q : Fl → AHeap → Rho → Prop} (hsc : F.sc = scopeOf (defAt 53)) (ok : F.Ok W (k + 12)) (hl : l.length ≤ 90) (c : LawCtx T is low) (hlow : low < 10 ^ 16) (hU : U.Full) (hUs : U.size ≤ 200)
    (q : ∀ (l' : List Nat) (V : Sym) (far : Nat), l'.length ≤ 90 → LawCtx T is far → SP W F (rho_law sc g (some (.ref A.x)) (some (.ref B.x)) t (some (.fl (is.map Ins.V))) (some (.int (low : Nat))) (some (.fl (partsV (rowsG T (adr low is))))) (some (.int (cut : Nat))) (some (.int (far : Nat))) (some (.fl (partsV (rowsG T (adr far is))))) none none) (LH g l' A T B V) (execs ((bodyOf (defAt 53)).drop 14) F.env) Q) :
    SP W F (rho_law sc g (some (.ref A.x)) (some (.ref B.x)) t (some (.fl (is.map Ins.V))) (some (.int (low : Nat))) (some (.fl (partsV (rowsG T (adr low is))))) (some (.int (cut : Nat))) none none none none) (LH g l A T B U) (execs ((bodyOf (defAt 53)).drop 11) F.env) Q := by
  have h60 : (10 : Nat) ^ 16 + 1000 < 10 ^ 20 := by decide
  have h61 : (10 : Nat) ^ 20 < 10 ^ 60 := by decide
  have n5 := c.n5
  have hsz : U.size ≤ 1000 := by lia
  obtain ⟨x1, x2, x3⟩ := readRows_spec c.full hU c.ins
  obtain ⟨w1, w2⟩ := RowsSame.words c.full x3 c.ins
  have room := rows_room (n := 0) c.full (l := adr low is) (U := U) (by rw [Nat.zero_add]; exact c.rd.room hsz)
  rw [adr_map] at room
  have gV := x2.good room
  have len : (readRows T U is).1.length = is.length := by show (readL (readIns T) U is).1.length = _; rw [readL_len]
  unfold rho_law at *
  refine SPc (SP_if (TP_cmp ?_))
  refine ec_listing G ok hsc gm_law_listing (NP_cons (EP_local ok (.tail _ (.tail _ (.tail _ (.head _)))) (NP_cons ?_)))
  refine ec_read_listing G ok hsc gm_law_read_listing (NP_cons (EP_local ok (.tail _ (.tail _ (.tail _ (.head _)))) (NP_cons (EP_local ok (.tail _ (.tail _ (.tail _ (.tail _ (.tail _ (.tail _ (.tail _ (.head _)))))))) (NP_nil ?_)))))
  rw [LH_B]
  refine CallP.le (c_read_listing (k := k) G c.full c.good c.rd.ins hU (c.rd.room hsz) (by have := c.rd.len; lia) (seq_adr _ _) ?_) (by lia)
  rw [adr_map]
  refine NP_cons (EP_local ok (.tail _ (.tail _ (.tail _ (.tail _ (.tail _ (.tail _ (.head _))))))) (NP_nil ?_))
  refine CallP.le (c_listing (k := k) G gV (by lia) (by lia) w1 ?_) (by lia)
  rw [← LH_B]
  refine EP_local ok (.tail _ (.tail _ (.tail _ (.tail _ (.tail _ (.tail _ (.tail _ (.head _)))))))) ?_
  refine op_ne_fl_eq ok (by rw [w2, rowsL_adr]) (EqV_parts _) (ot_bool ⟨fun h => (nomatch h), fun _ => SP_nil ?_⟩)
  generalize (readRows T U is).2 = V
  refine Thn_next (SPc (SP_assign ok (EP_bin (EP_bin (EP_local ok (.tail _ (.tail _ (.tail _ (.tail _ (.tail _ (.tail _ (.head _))))))) (EP_int (op_add_int ?_)))))))
  refine EP_drawL (k := k + 11) G 900 ok hsc gm_law__law_draw (.tail _ (.head _)) (by lia) hl fun n l₁ hn hl₁ => op_add_int ?_
  rw [show ((low : Nat) : Int) + 1 + (n : Nat) = ((low + 1 + n : Nat) : Int) by lia]
  have cf : LawCtx T is (low + 1 + n) := ⟨c.full, c.size, c.drawn, c.n2, c.n5, by lia⟩
  refine ⟨rho_law sc g (some (.ref A.x)) (some (.ref B.x)) t (some (.fl (is.map Ins.V))) (some (.int (low : Nat))) (some (.fl (partsV (rowsG T (adr low is))))) (some (.int (cut : Nat))) (some (.int (low + 1 + n : Nat))) none none none, .there (.there (.there (.there (.there (.there (.there (.there (.there .here)))))))), ?_⟩
  unfold rho_law
  refine Thn_next (SPc (SP_assign ok ?_))
  refine ec_listing G ok hsc gm_law_listing (NP_cons (EP_local ok (.tail _ (.tail _ (.head _))) (NP_cons (EP_local ok (.tail _ (.tail _ (.tail _ (.tail _ (.tail _ (.head _)))))) (NP_cons (EP_local ok (.tail _ (.tail _ (.tail _ (.tail _ (.tail _ (.tail _ (.tail _ (.tail _ (.tail _ (.head _)))))))))) (NP_nil ?_)))))))
  refine CallP.le (c_listing (k := k) (A := A) (T := T) (pre := [(g, O.list (figsV l₁))]) (post := symL B V) G c.good (by lia) (by lia) c.ins ?_) (by lia)
  rw [rowsL_adr]
  exact ⟨rho_law sc g (some (.ref A.x)) (some (.ref B.x)) t (some (.fl (is.map Ins.V))) (some (.int (low : Nat))) (some (.fl (partsV (rowsG T (adr low is))))) (some (.int (cut : Nat))) (some (.int (low + 1 + n : Nat))) (some (.fl (partsV (rowsG T (adr (low + 1 + n) is))))) none none, .there (.there (.there (.there (.there (.there (.there (.there (.there (.there .here))))))))), Thn_next (q l₁ V (low + 1 + n) hl₁ cf)⟩
end

section
variable {W : Wd} (G : Gd W) {k : Nat}
theorem EP_split {F : Fm} {ρ : Rho} {H : AHeap} {Q : V → AHeap → Prop} {k₀ : Nat} (ok : F.Ok W k₀) {x y : Str} {p1 p2 p3 p4 p5 pos : Pos} {n : Nat} {R : List (List Nat)} {j : Nat} {ws : List (List Nat)} (mx : (x, some (V.fl (partsV R))) ∈ ρ) (my : (y, some (V.int (j : Nat))) ∈ ρ) (hj : R[j]? = some (joinL [32] ws)) (hj' : j < 2 ^ 40)
    (h0 : ws ≠ []) (hn : ∀ w ∈ ws, 32 ∉ w) (hl : (joinL [32] ws).length ≤ 2 ^ 19) (q : Q (.fl (partsV ws)) H) {pl : Sem Bool}
    (hm : eval (.Call (.Attribute (.Subscript (.Name x p1) (.Name y p2) p3) (Str.ofString "split") p4) [.Constant (.str (Str.ofString " ")) n p5] [] pos) F.env = (do
      let ov ← eval (.Subscript (.Name x p1) (.Name y p2) p3) F.env
      standAt p4.atName
      let (f, first) ← holding [ov] (getMethod ov (Str.ofString "split") pl)
      callWith pos f first (backTo pos (starEach [.Constant (.str (Str.ofString " ")) n p5] F.env)) []) := by rfl) :
    EP W F ρ H (eval (.Call (.Attribute (.Subscript (.Name x p1) (.Name y p2) p3) (Str.ofString "split") p4) [.Constant (.str (Str.ofString " ")) n p5] [] pos) F.env) Q := by
  have hsp : Txt.split (S (joinL [32] ws)) (Str.ofString " ") = ws.map S := by rw [space]; exact split_joinL (by decide) h0 hn
  refine EP.frozL (EP_meth (id := "str.split") (EP_sub (EP_local ok mx (EP_local ok my ?_))) hm)
  refine op_item_fl (d := .str (S (joinL [32] ws))) (partsV_at hj) hj' ⟨meth_str PySem.F.slot_str_split PySem.F.type_str_split, NP_cons (EP_str (NP_nil ?_))⟩
  refine op_split (by decide +kernel) (by rw [S_len]; lia) ?_ fun a => ?_
  · rw [parts_len, space, occ_list]
    have := List.length_filter_le (isAt (joinL [32] ws) 32) (List.range' 0 ((joinL [32] ws).length + 1))
    rw [List.length_range'] at this
    lia
  rw [hsp]
  exact ⟨a, _, _, rfl, rfl, q⟩
theorem big1000 : (10 : Nat) ^ 20 + 10 < 2 ^ 1000 := by decide
theorem LawCtx.row {T : Sym} {is : List Ins} {low j : Nat} {i : Ins} (c : LawCtx T is low) (h : is[j]? = some i) : (rowsG T (adr low is))[j]? = some (joinL [32] (decL (low + j) :: i.words T)) ∧ (∀ w ∈ decL (low + j) :: i.words T, 32 ∉ w) ∧ (joinL [32] (decL (low + j) :: i.words T)).length ≤ 2 ^ 19 := by
  have hj := (List.getElem?_eq_some_iff.mp h).1
  have gi := c.ins i (List.mem_of_getElem? h)
  have h80 : (10 : Nat) ^ 20 + 10 < 10 ^ 80 := by decide
  have hlow := c.low
  have n5 := c.n5
  obtain ⟨i', hi'⟩ := adr_ex (b := low) hj
  have e := (adr_at hi').2
  obtain rfl : i = i' := by rw [h] at e; exact Option.some.inj e
  refine ⟨?_, fun w hw => ?_, rowL_len gi (by lia)⟩
  · show ((adr low is).map fun p => rowL T p.1 p.2)[j]? = _
    rw [List.getElem?_map, hi']; show some (rowL T (low + j) i) = _; rw [rowL_join]
  · rcases List.mem_cons.mp hw with rfl | hw
    · exact (decL_free _).1
    · exact (words_free gi w hw).1
include G
theorem law_words {F : Fm} {sc : List Int} {g : Addr} {l : List Nat} {A B : SymA} {T U : Sym} {is : List Ins} {low far cut : Nat} {b t : Option V} {Q : Fl → AHeap → Rho → Prop} (hsc : F.sc = scopeOf (defAt 53)) (ok : F.Ok W (k + 12)) (c : LawCtx T is low) (cf : LawCtx T is far)
    (q : ∀ pl : Option V, SP W F (rho_law sc g (some (.ref A.x)) b t (some (.fl (is.map Ins.V))) (some (.int (low : Nat))) (some (.fl (partsV (rowsG T (adr low is))))) (some (.int (cut : Nat))) (some (.int (far : Nat))) (some (.fl (partsV (rowsG T (adr far is))))) pl none) (LH g l A T B U) (execs ((bodyOf (defAt 53)).drop 15) F.env) Q) :
    SP W F (rho_law sc g (some (.ref A.x)) b t (some (.fl (is.map Ins.V))) (some (.int (low : Nat))) (some (.fl (partsV (rowsG T (adr low is))))) (some (.int (cut : Nat))) (some (.int (far : Nat))) (some (.fl (partsV (rowsG T (adr far is))))) none none) (LH g l A T B U) (execs ((bodyOf (defAt 53)).drop 14) F.env) Q := by
  have n5 := c.n5
  obtain ⟨J, hJ⟩ : ∃ J : Nat → AHeap → Rho → Prop, J = fun j H' ρ' => H' = LH g l A T B U ∧ ∃ o, ρ' = rho_law sc g (some (.ref A.x)) b t (some (.fl (is.map Ins.V))) (some (.int (low : Nat))) (some (.fl (partsV (rowsG T (adr low is))))) (some (.int (cut : Nat))) (some (.int (far : Nat))) (some (.fl (partsV (rowsG T (adr far is))))) o none := ⟨_, rfl⟩
  refine SPc (SPfor ok J (rangeV 0 (is.length : Nat)) ?_ ?_ ?_)
  · refine ec_range G ok hsc gm_law_range (NP_cons ?_)
    refine ec_len G ok hsc gm_law_len (NP_cons (EP_local ok (.tail _ (.tail _ (.tail _ (.tail _ (.tail _ (.head _)))))) (NP_nil (op_len_fl (by rw [List.length_map]; lia) (NP_nil (op_range1 ?_))))))
    rw [List.length_map, hJ]
    exact ⟨ItP_rng1 ok.room.handled (by lia) (by lia) (by lia) (by lia), rfl, _, rfl⟩
  · rintro j d H₁ ρ₁ hd hj
    rw [hJ] at hj
    obtain ⟨rfl, o, rfl⟩ := hj
    obtain ⟨rfl, hj⟩ := rangeV_get hd
    have hj' : j < is.length := by lia
    obtain ⟨i, hi⟩ : ∃ i, is[j]? = some i := ⟨_, List.getElem?_eq_getElem hj'⟩
    obtain ⟨r1, r2, r3⟩ := c.row hi
    obtain ⟨s1, s2, s3⟩ := cf.row hi
    have hf := cf.low
    obtain ⟨ρ, hρ⟩ : ∃ ρ, ρ = rho_law sc g (some (.ref A.x)) b t (some (.fl (is.map Ins.V))) (some (.int (low : Nat))) (some (.fl (partsV (rowsG T (adr low is))))) (some (.int (cut : Nat))) (some (.int (far : Nat))) (some (.fl (partsV (rowsG T (adr far is))))) (some (.int (j : Nat))) none := ⟨_, rfl⟩
    have fin : J (j + 1) (LH g l A T B U) ρ := by rw [hJ, hρ]; exact ⟨rfl, _, rfl⟩
    have mR : (Str.ofString "rows", some (V.fl (partsV (rowsG T (adr low is))))) ∈ ρ := by rw [hρ]; exact .tail _ (.tail _ (.tail _ (.tail _ (.tail _ (.tail _ (.tail _ (.head _)))))))
    have mF : (Str.ofString "far", some (V.int (far : Nat))) ∈ ρ := by rw [hρ]; exact .tail _ (.tail _ (.tail _ (.tail _ (.tail _ (.tail _ (.tail _ (.tail _ (.tail _ (.head _)))))))))
    have mT : (Str.ofString "there", some (V.fl (partsV (rowsG T (adr far is))))) ∈ ρ := by rw [hρ]; exact .tail _ (.tail _ (.tail _ (.tail _ (.tail _ (.tail _ (.tail _ (.tail _ (.tail _ (.tail _ (.head _))))))))))
    have mP : (Str.ofString "place", some (V.int (j : Nat))) ∈ ρ := by rw [hρ]; exact .tail _ (.tail _ (.tail _ (.tail _ (.tail _ (.tail _ (.tail _ (.tail _ (.tail _ (.tail _ (.tail _ (.head _)))))))))))
    refine ⟨ρ, by rw [hρ]; exact .there (.there (.there (.there (.there (.there (.there (.there (.there (.there (.there .here)))))))))), ?_⟩
    clear hρ hJ
    have hw : (partsV (i.words T)).length ≤ 2 ^ 19 := by
      have := (c.ins i (List.mem_of_getElem? hi)).sum
      rw [partsV_len]; lia
    refine SPc (SP_if (TP_boolop (TP_or_cons (TP_cmp ?_))))
    refine EP_slice_fl (EP_split ok.inn mT mP s1 (by lia) (by simp) s2 s3 ⟨_, rfl, ?_, PP_some (EP_int ⟨_, rfl, PP_none ⟨(show (0 : Int) ≤ 1 by decide), ?_⟩⟩)⟩)
    · rw [partsV_len] at hw ⊢; simp only [List.length_cons]; lia
    refine EP_slice_fl (EP_split ok.inn mR mP r1 (by lia) (by simp) r2 r3 ⟨_, rfl, ?_, PP_some (EP_int ⟨_, rfl, PP_none ⟨(show (0 : Int) ≤ 1 by decide), ?_⟩⟩)⟩)
    · rw [partsV_len] at hw ⊢; simp only [List.length_cons]; lia
    refine op_ne_fl_eq ok.inn rfl (show ∀ d ∈ partsV (i.words T), EqV W 10 d from EqV_parts _) (ot_bool ⟨fun h => (nomatch h), fun _ => TP_or_cons (TP_cmp ?_)⟩)
    refine EP_sub (EP_split ok.inn mT mP s1 (by lia) (by simp) s2 s3 (EP_int ?_))
    refine op_item_fl (n := 0) (d := .str (S (decL (far + j)))) rfl (by lia) ?_
    refine ec_str G ok.inn hsc gm_law_str (NP_cons (EP_bin (EP_local ok.inn mF (EP_local ok.inn mP (op_add_int (NP_nil ?_))))))
    rw [show ((far : Nat) : Int) + (j : Nat) = ((far + j : Nat) : Int) by lia]
    refine op_str_int (Nat.lt_of_le_of_lt (by show far + j ≤ 10 ^ 20 + 10; lia) big1000) ?_
    rw [decS]
    refine op_ne_str (ot_bool ⟨fun h => absurd h (by simp), fun _ => TP_or_nil ⟨fun h => (nomatch h), fun _ => SP_nil (Thn_next (SP_nil (LpQ_next fin)))⟩⟩)
  · intro H₁ ρ₁ hj
    rw [hJ] at hj
    obtain ⟨rfl, o, rfl⟩ := hj
    exact Thn_next (q o)
end

section
variable {W : Wd} (G : Gd W) {k : Nat}
include G
theorem et_refused {F : Fm} {ρ : Rho} {g : Addr} {l : List Nat} {A B : SymA} {T U : Sym} {is : List Ins} {low : Nat} {e₂ : Expr} {p p1 pos : Pos} (hsc : F.sc = scopeOf (defAt 53)) (ok : F.Ok W (k + 12)) (hfr : F.A.frames = some [F.env]) (c : LawCtx T is low)
    (mS : (Str.ofString "signs", some (V.ref A.x)) ∈ ρ) {m : List (Nat × Ins)} (rd : RdOk T m) (bad : Bad m) (h : ∀ Q : V → AHeap → Prop, Q (.fl (partsV (rowsG T m))) (LH g l A T B U) → EP W F ρ (LH g l A T B U) (eval e₂ F.env) Q)
    (he2 : starEach [e₂] F.env = (false, eval e₂ F.env) :: starEach [] F.env := by rfl) (hpl : (backTo pos (starEach [e₂] F.env)).any (·.1) = false := by rfl) :
    ETrue W F ρ (LH g l A T B U) (eval (.Call (.Name (Str.ofString "_law_refused") p) [.Name (Str.ofString "signs") p1, e₂] [] pos) F.env) := by
  refine ETrue_call G.wok (kp__law_refused G) (eg__law_refused G ok hsc gm_law__law_refused ⟨rfl, NP_cons (EP_local ok mS (NP_cons (h _ (NP_nil ⟨rfl, fun s vs S lo n rs => ?_⟩)) he2))⟩) rfl rfl hpl
  exact c__law_refused (k := k) (A := A) (T := T) (pre := [(g, O.list (figsV l))]) (post := symL B U) G hfr (fun q => nomatch ok.kind.symm.trans q) rfl lo.frame_of ok.base n (ok.room.le (by lia)) S rs c.full c.good rd.ins (rd.room (by have := c.size; lia)) (by have := rd.len; lia) bad
theorem law_end {F : Fm} {sc : List Int} {g : Addr} {l : List Nat} {A B : SymA} {T U : Sym} {is : List Ins} {low far cut : Nat} {b t pl : Option V} {Q : Fl → AHeap → Rho → Prop} (hsc : F.sc = scopeOf (defAt 53)) (ok : F.Ok W (k + 12)) (hfr : F.A.frames = some [F.env]) (hl : l.length ≤ 90) (c : LawCtx T is low) (cf : LawCtx T is far) (hc1 : 1 ≤ cut) (hc2 : cut < is.length)
    (q : ∀ H ρ, Q (.ret (.bool true)) H ρ) :
    SP W F (rho_law sc g (some (.ref A.x)) b t (some (.fl (is.map Ins.V))) (some (.int (low : Nat))) (some (.fl (partsV (rowsG T (adr low is))))) (some (.int (cut : Nat))) (some (.int (far : Nat))) (some (.fl (partsV (rowsG T (adr far is))))) pl none) (LH g l A T B U) (execs ((bodyOf (defAt 53)).drop 15) F.env) Q := by
  have n5 := c.n5
  have n2 := c.n2
  have hsz : T.size ≤ 1000 := by have := c.size; lia
  have lenA : (adr low is).length = is.length := adr_len _ _
  have lenr : (partsV (rowsG T (adr low is))).length ≤ 2 ^ 20 := by rw [partsV_len, rowsG, List.length_map, adr_len]; lia
  have lenC : (is.map Ins.V).length ≤ 2 ^ 20 := by rw [List.length_map]; lia
  have p0 : (0 : Int) ≤ (cut : Nat) := by lia
  refine SPc (SP_if (TP_cmp ?_))
  refine ec_read_listing G ok hsc gm_law_read_listing (NP_cons (EP_local ok (.tail _ (.tail _ (.head _))) (NP_cons (EP_local ok (.tail _ (.tail _ (.tail _ (.tail _ (.tail _ (.tail _ (.tail _ (.tail _ (.tail _ (.tail _ (.head _))))))))))) (NP_nil ?_)))))
  refine CallP.le (c_read_self (k := k) (pre := [(g, O.list (figsV l))]) (post := symL B U) G c.full hsz cf.rd (seq_adr _ _) ?_) (by lia)
  refine EP_local ok (.tail _ (.tail _ (.tail _ (.tail _ (.tail _ (.head _)))))) ?_
  refine op_ne_fl_eq ok (by rw [adr_map]) (EqV_inss _) (ot_bool ⟨fun h => (nomatch h), fun _ => SP_nil ?_⟩)
  refine Thn_next (SPc (SP_assign ok ?_))
  refine ec__law_draw G ok hsc gm_law__law_draw (NP_cons (EP_local ok (.tail _ (.head _)) (NP_cons ?_)))
  refine ec_len G ok hsc gm_law_len (NP_cons (EP_local ok (.tail _ (.tail _ (.tail _ (.tail _ (.tail _ (.head _)))))) (NP_nil (op_len_fl lenC (NP_nil ?_)))))
  rw [List.length_map]
  refine CallP.le (c__law_draw (k := k) (pre := []) (post := symL A T ++ symL B U) G (by lia) hl fun s l₁ hs hl₁ => ?_) (by lia)
  obtain ⟨ρ, hρ⟩ : ∃ ρ, ρ = rho_law sc g (some (.ref A.x)) b t (some (.fl (is.map Ins.V))) (some (.int (low : Nat))) (some (.fl (partsV (rowsG T (adr low is))))) (some (.int (cut : Nat))) (some (.int (far : Nat))) (some (.fl (partsV (rowsG T (adr far is))))) pl (some (.int (s : Nat))) := ⟨_, rfl⟩
  refine ⟨ρ, by rw [hρ]; exact .there (.there (.there (.there (.there (.there (.there (.there (.there (.there (.there (.there .here))))))))))), Thn_next ?_⟩
  have mS : (Str.ofString "signs", some (V.ref A.x)) ∈ ρ := by rw [hρ]; exact .tail _ (.tail _ (.head _))
  have mC : (Str.ofString "code", some (V.fl (is.map Ins.V))) ∈ ρ := by rw [hρ]; exact .tail _ (.tail _ (.tail _ (.tail _ (.tail _ (.head _)))))
  have mR : (Str.ofString "rows", some (V.fl (partsV (rowsG T (adr low is))))) ∈ ρ := by rw [hρ]; exact .tail _ (.tail _ (.tail _ (.tail _ (.tail _ (.tail _ (.tail _ (.head _)))))))
  have mK : (Str.ofString "cut", some (V.int (cut : Nat))) ∈ ρ := by rw [hρ]; exact .tail _ (.tail _ (.tail _ (.tail _ (.tail _ (.tail _ (.tail _ (.tail _ (.head _))))))))
  have mP : (Str.ofString "spot", some (V.int (s : Nat))) ∈ ρ := by rw [hρ]; exact .tail _ (.tail _ (.tail _ (.tail _ (.tail _ (.tail _ (.tail _ (.tail _ (.tail _ (.tail _ (.tail _ (.tail _ (.head _))))))))))))
  clear hρ
  have p1 : (0 : Int) ≤ (s : Nat) := by lia
  have e1 : ((s : Nat) : Int) + 1 = ((s + 1 : Nat) : Int) := by lia
  have p2 : (0 : Int) ≤ ((s + 1 : Nat) : Int) := by lia
  have lt : ∀ a : Nat, ((adr low is).take a).length ≤ 6 := fun a => by rw [List.length_take]; lia
  have ld : ∀ a : Nat, ((adr low is).drop a).length ≤ 6 := fun a => by rw [List.length_drop]; lia
  have lenp : ∀ m : List (Nat × Ins), m.length ≤ 6 → (partsV (rowsG T m)).length ≤ 6 := fun m h => by rw [partsV_len, rowsG, List.length_map]; exact h
  refine SPc (SP_unless (et_refused (m := (adr low is).drop cut ++ (adr low is).take cut) G hsc ok hfr c mS ((c.rd.drop _).app (c.rd.take _) (ld _) (lt _)) (bad_swap hc1 hc2) fun Q' q' => ?_)
    (et_refused (m := (adr low is).take (s + 1) ++ (adr low is).drop s) G hsc ok hfr c mS ((c.rd.take _).app (c.rd.drop _) (lt _) (ld _)) (bad_twice hs) fun Q' q' => ?_) (Thn_next ?_))
  · refine EP_bin (EP_slice_fl (EP_local ok mR ⟨_, rfl, lenr, PP_some (EP_local ok mK ⟨_, rfl, PP_none ⟨p0, EP_slice_fl (EP_local ok mR ⟨_, rfl, lenr, PP_none (PP_some (EP_local ok mK ⟨_, rfl, p0, ?_⟩))⟩)⟩⟩)⟩))
    rw [pick_from, pick_to, rowsG_drop, rowsG_take]
    refine op_add_fl (Nat.le_trans (Nat.add_le_add (lenp _ (ld _)) (lenp _ (lt _))) (by decide)) ?_
    rw [partsV_app, rowsG_app]; exact q'
  · refine EP_bin (EP_slice_fl (EP_local ok mR ⟨_, rfl, lenr, PP_none (PP_some (EP_bin (EP_local ok mP (EP_int (op_add_int ?_)))))⟩))
    rw [e1]
    refine ⟨_, rfl, p2, EP_slice_fl (EP_local ok mR ⟨_, rfl, lenr, PP_some (EP_local ok mP ⟨_, rfl, PP_none ⟨p1, ?_⟩⟩)⟩)⟩
    rw [pick_from, pick_to, rowsG_drop, rowsG_take]
    refine op_add_fl (Nat.le_trans (Nat.add_le_add (lenp _ (lt _)) (lenp _ (ld _))) (by decide)) ?_
    rw [partsV_app, rowsG_app]; exact q'
  refine SPc (SP_if (TP_boolop (TP_and_cons (TP_cmp (EP_local ok mP (EP_int (op_gt_int (ot_bool ⟨fun h1 => ?_, fun _ => ?_⟩))))))))
  rotate_left
  · exact ⟨fun h => (nomatch h), fun _ => SP_nil (Thn_next (SPc (SP_return (EP_bool (Thn_ret (q _ _))))))⟩
  refine TP_and_cons (TP_cmp (EP_bin (EP_local ok mP (EP_int (op_add_int ?_)))))
  rw [e1]
  refine ec_len G ok hsc gm_law_len (NP_cons (EP_local ok mC (NP_nil (op_len_fl lenC (op_lt_int (ot_bool ⟨fun h2 => TP_and_nil ⟨fun _ => ?_, fun h => (nomatch h)⟩, fun _ => ⟨fun h => (nomatch h), fun _ => SP_nil (Thn_next (SPc (SP_return (EP_bool (Thn_ret (q _ _))))))⟩⟩))))))
  rw [List.length_map] at h2
  have h1 := of_decide_eq_true h1
  have h2 := of_decide_eq_true h2
  refine SPc (SP_returnL (et_refused (m := (adr low is).take s ++ (adr low is).drop (s + 1)) G hsc ok hfr c mS ((c.rd.take _).app (c.rd.drop _) (lt _) (ld _)) (bad_gap (by lia) (by lia)) fun Q' q' => ?_) (Thn_ret (Thn_ret (q _ _))))
  refine EP_bin (EP_slice_fl (EP_local ok mR ⟨_, rfl, lenr, PP_none (PP_some (EP_local ok mP ⟨_, rfl, p1, EP_slice_fl (EP_local ok mR ⟨_, rfl, lenr, PP_some (EP_bin (EP_local ok mP (EP_int (op_add_int ?_))))⟩)⟩))⟩))
  rw [e1]
  refine ⟨_, rfl, PP_none ⟨p2, ?_⟩⟩
  rw [pick_from, pick_to, rowsG_drop, rowsG_take]
  refine op_add_fl (Nat.le_trans (Nat.add_le_add (lenp _ (lt _)) (lenp _ (ld _))) (by decide)) ?_
  rw [partsV_app, rowsG_app]; exact q'
end

section
variable {W : Wd} (G : Gd W)
include G
theorem law_all {k : Nat} {F : Fm} {sc : List Int} {Q : Fl → AHeap → Rho → Prop} (hsc : F.sc = scopeOf (defAt 53)) (ok : F.Ok W (k + 12)) (hfr : F.A.frames = some [F.env]) (hsz : sc.length ≤ 2 ^ 20) (q : ∀ H ρ, Q (.ret (.bool true)) H ρ) :
    SP W F [(Str.ofString "script", some (.fl (sc.map V.int))), (Str.ofString "figures", none), (Str.ofString "signs", none), (Str.ofString "others", none), (Str.ofString "turn", none), (Str.ofString "code", none), (Str.ofString "low", none), (Str.ofString "rows", none), (Str.ofString "cut", none), (Str.ofString "far", none), (Str.ofString "there", none), (Str.ofString "place", none), (Str.ofString "spot", none)] [] (execs (bodyOf (defAt 53)) F.env) Q := by
  refine law_start (k := k) G hsc ok hsz fun g l A B T U is t hl hT hTs hU hUs hD h2 h5 => ?_
  refine law_low (k := k) G hsc ok hl hT hTs hD h2 h5 fun l₁ low cut hl₁ c hlow hc1 hc2 => ?_
  refine law_cut (k := k) G hsc ok c hlow hc1 hc2 ?_
  refine law_others2 (k := k) G hsc ok hl₁ c hlow hU hUs fun l₂ V far hl₂ cf => ?_
  refine law_words (k := k) G hsc ok c cf fun pl => ?_
  exact law_end (k := k) G hsc ok hfr hl₂ c cf hc1 hc2 q
theorem run_law {xs : List Int} (hx : xs.length ≤ 2 ^ 20) {s : Shared} {v : Value} (S : W.St [] s) (r : W.Rep [] s.heap v (.fl (xs.map V.int))) :
    codeAny W.M callerA (.call (.ref 454) ⟨[v], []⟩) (fun res s' => res = .ok (.ret (.bool true)) ∧ (∀ b o, s.heap.get? b = some o → s'.heap.get? b = some o) ∧ s'.os = s.os ∧ s'.gens = s.gens) s := by
  refine enterR (W := W) (H := []) (k := 12) (ds := [.fl (xs.map V.int)]) (ps := [Str.ofString "script"]) (more := [Str.ofString "figures", Str.ofString "signs", Str.ofString "others", Str.ofString "turn", Str.ofString "code", Str.ofString "low", Str.ofString "rows", Str.ofString "cut", Str.ofString "far", Str.ofString "there", Str.ofString "place", Str.ofString "spot"]) G.wok nm_law ⟨by decide, by decide, rfl⟩ S (.cons r .nil) ((congrArg (·.lookup 454) G.hK).trans (lk454 _)) (by rw [G.hK]; kernel_rfl) rfl (BindsTo.of_eq (by kernel_rfl)) ?_
  rintro F e1 e2 e3 e4 e5 e6 ok ⟨s₀, S₀, l₀, n₀, k₀, no⟩
  refine no ?_
  have hfr : F.A.frames = some [F.env] := by rw [e6]; rfl
  have h := law_all (k := 0) (F := { F with E := fun _ _ => False }) (sc := xs) (Q := fun fl _ _ => fl = .ret (.bool true)) G e2 ⟨ok.kind, ok.nodup, ok.nodebug, ok.base, ok.room⟩ hfr hx fun _ _ => rfl
  refine wpAny_mono (h.go s₀ S₀ l₀ n₀) (fun fl s₁ o => o.to fun f' H₁ ρ₁ rf S₁ K₁ l₁ q => ?_) fun _ _ e => e.elim
  subst q
  cases rf with
  | ret rv =>
    refine Rep.bool_elim rv ?_
    refine ⟨rfl, fun b o e => K₁.keep b o ?_ (fun h => (nomatch h)) (k₀ b o e), S₁.os.trans S.os.symm, S₁.gens.trans S.gens.symm⟩
    rintro rfl
    have := e3 ▸ get_size s.heap
    rw [this] at e; cases e
end

end Mine
namespace Mine
open PySem PySem.W PyProof.Rows PySem.Calls
theorem rep_ints {prog : Program} {w : World} {D : List Addr} {h : Heap} {vs : List Value} {xs : List Int} (x : IntsAre vs xs) : Reps prog w D h vs (xs.map V.int) := by
  induction x with
  | nil => exact .nil
  | cons _ _ _ ih => exact .cons (.int _ _) ih
theorem rep_script {prog : Program} {w : World} {P : Params} {h : Heap} {l : Addr} {vs : List Value} {xs : List Int} (hL : h.IsList l vs.toArray) (hw : Well P h (.ref l) (ofPy (.list (xs.map PyData.int)))) (hI : IntsAre vs xs) : Rep prog w [] h (.ref l) (.fl (xs.map V.int)) := by
  obtain ⟨o, ho, hc, n, hd⟩ := hL
  have : ∃ us, h.get? l = some { cls := .type "list", data := .seq us } := by
    cases hw with
    | list e _ => exact ⟨_, e⟩
  obtain ⟨us, e⟩ := this
  rw [e] at ho; cases ho
  cases hd
  exact .fl (fun h => (nomatch h)) e (rep_ints hI)
theorem walkL : WalkO viewP LOs (XL viewP []) (Hook.says HK) PySem.Challenge.rw_rr0023_01.row.toRowW dLaw [] fun f vs => PySem.call f vs := by
  intro w s₀ s₁ mg mb G Y fa o pm cd doc dV kV ho hd hcd hD hmg hg args vals as hpre hlay hrd hwl hlo
  have KX : (KK w.params).In s₁.heap := kIn_of Y
  have hmods : ∃ o, s₁.heap.get? sysModules = some o := by
    obtain ⟨mm, ⟨o, _, _, e, _⟩, _⟩ := (G.T.seer (by decide +kernel)).mods
    exact ⟨o, e⟩
  have wok : Wd.Ok ⟨PW, w, s₁, mg, mb, KK w.params⟩ := ⟨G.T.g, G.T.b, G.T.nolimit, G.T.nodigits, G.T.builtins, KX, hg, hmods⟩
  have GG : Gd ⟨PW, w, s₁, mg, mb, KK w.params⟩ := ⟨wok, rfl⟩
  clear ho hd hcd hD Y G
  wrow_args hpre hlay hrd hwl hlo
  rename_i xs _ _ hL _ _ _ _ l vs _ hIL _ hwell _ hI _ hlen _
  have hfa : fa = 454 := by
    have e : mg (Str.ofString "law") = some (.ref 454) := mg_of GG.wok.k GG.wok.g (by kernel_rfl)
    have e' : mg (Str.ofString "law") = some (.ref fa) := hmg
    rw [e] at e'; cases e'; rfl
  subst hfa
  have S : Wd.St ⟨PW, w, s₁, mg, mb, KK w.params⟩ [] s₁ := ⟨fun _ _ e => e, rfl, rfl, .nil, fun p hp => (nomatch hp)⟩
  have rx : Wd.Rep ⟨PW, w, s₁, mg, mb, KK w.params⟩ [] s₁.heap (.ref l) (.fl (xs.map V.int)) := rep_script hIL hwell hI
  refine enter_call (codeAny_mono (run_law GG (xs := xs) (by omega) S rx) fun res s' ⟨e, k, ho, hgn⟩ => ?_)
  subst e
  refine GoodW.toG ⟨.inl ⟨.bool true, .bool true, [], rfl, fun _ => rfl, .bool true, ?_, fun _ => ⟨.nil, fun a ha => (nomatch ha)⟩⟩, k, ho, hgn.trans hg⟩
  wrow_post
end Mine
theorem PySem.Challenge.cw_rr0023_01_holds : PySem.Challenge.rw_rr0023_01.Holds :=
  Mine.hdC Mine.walkL
