import PyProof.Rows.All
import Wide.All
import OpenK.AllK
import Wide.FinOn
import KE.KTreeB
import KE.KTryDeep
import KE.KDictAnyGet
import KE.KLcTest
import KE.IntBitsLaws
import KE.KListLetter
import PyProof.ExcInit
import PyProof.ExcBaseAll.Exception
import PyProof.ExcAttrAll.Exception
import PySem.Challenge.RW_sa0162_01
open PySem PySem.W PySem.Spec PySem.Calls PyProof.Rows
set_option Elab.async false
set_option genInjectivity false
set_option genSizeOf false
set_option genSizeOfSpec false
set_option maxRecDepth 100000
set_option maxHeartbeats 8000000
set_option linter.all false
set_option compiler.extract_closed false
namespace Mine
/-! H1 -/
noncomputable abbrev pw : Program := PySem.Challenge.pw_sa0162_01
abbrev lit {α : Type} (x : α) {y : α} (_ : x = y) : α := y
noncomputable def stAt (i : Nat) : Option Stmt := pw.main.body[i]?
noncomputable def subAt (i j : Nat) : Option Stmt := match stAt i with
  | some (.ClassDef _ _ _ b _ _ _ _ _ _ _) => b[j]?
  | _ => none
noncomputable def bodyOf : Option Stmt → List Stmt
  | some (.FunctionDef _ _ b _ _ _ _ _ _ _) => b
  | _ => []
noncomputable def argsOf : Option Stmt → Arguments
  | some (.FunctionDef _ a _ _ _ _ _ _ _ _) => a
  | _ => default
noncomputable def scopeOf : Option Stmt → Scope
  | some (.FunctionDef _ _ _ _ _ _ s _ _ _) => s
  | _ => default
noncomputable abbrev c3_0b : List Stmt := lit (bodyOf (subAt 3 0)) (by conv => lhs; whnf)
noncomputable abbrev c3_0a : Arguments := lit (argsOf (subAt 3 0)) (by conv => lhs; whnf)
noncomputable abbrev c3_0s : Scope := lit (scopeOf (subAt 3 0)) (by conv => lhs; whnf)
noncomputable abbrev c7b : List Stmt := lit (bodyOf (stAt 7)) (by conv => lhs; whnf)
noncomputable abbrev c7a : Arguments := lit (argsOf (stAt 7)) (by conv => lhs; whnf)
noncomputable abbrev c7s : Scope := lit (scopeOf (stAt 7)) (by conv => lhs; whnf)
noncomputable abbrev c8b : List Stmt := lit (bodyOf (stAt 8)) (by conv => lhs; whnf)
noncomputable abbrev c8a : Arguments := lit (argsOf (stAt 8)) (by conv => lhs; whnf)
noncomputable abbrev c8s : Scope := lit (scopeOf (stAt 8)) (by conv => lhs; whnf)
noncomputable abbrev c9_0b : List Stmt := lit (bodyOf (subAt 9 0)) (by conv => lhs; whnf)
noncomputable abbrev c9_0a : Arguments := lit (argsOf (subAt 9 0)) (by conv => lhs; whnf)
noncomputable abbrev c9_0s : Scope := lit (scopeOf (subAt 9 0)) (by conv => lhs; whnf)
noncomputable abbrev c9_1b : List Stmt := lit (bodyOf (subAt 9 1)) (by conv => lhs; whnf)
noncomputable abbrev c9_1a : Arguments := lit (argsOf (subAt 9 1)) (by conv => lhs; whnf)
noncomputable abbrev c9_1s : Scope := lit (scopeOf (subAt 9 1)) (by conv => lhs; whnf)
noncomputable abbrev c9_3b : List Stmt := lit (bodyOf (subAt 9 3)) (by conv => lhs; whnf)
noncomputable abbrev c9_3a : Arguments := lit (argsOf (subAt 9 3)) (by conv => lhs; whnf)
noncomputable abbrev c9_3s : Scope := lit (scopeOf (subAt 9 3)) (by conv => lhs; whnf)
noncomputable abbrev c9_4b : List Stmt := lit (bodyOf (subAt 9 4)) (by conv => lhs; whnf)
noncomputable abbrev c9_4a : Arguments := lit (argsOf (subAt 9 4)) (by conv => lhs; whnf)
noncomputable abbrev c9_4s : Scope := lit (scopeOf (subAt 9 4)) (by conv => lhs; whnf)
noncomputable abbrev c12b : List Stmt := lit (bodyOf (stAt 12)) (by conv => lhs; whnf)
noncomputable abbrev c12a : Arguments := lit (argsOf (stAt 12)) (by conv => lhs; whnf)
noncomputable abbrev c12s : Scope := lit (scopeOf (stAt 12)) (by conv => lhs; whnf)
noncomputable abbrev c14b : List Stmt := lit (bodyOf (stAt 14)) (by conv => lhs; whnf)
noncomputable abbrev c14a : Arguments := lit (argsOf (stAt 14)) (by conv => lhs; whnf)
noncomputable abbrev c14s : Scope := lit (scopeOf (stAt 14)) (by conv => lhs; whnf)
noncomputable abbrev c27_0b : List Stmt := lit (bodyOf (subAt 27 0)) (by conv => lhs; whnf)
noncomputable abbrev c27_0a : Arguments := lit (argsOf (subAt 27 0)) (by conv => lhs; whnf)
noncomputable abbrev c27_0s : Scope := lit (scopeOf (subAt 27 0)) (by conv => lhs; whnf)
noncomputable abbrev c27_1b : List Stmt := lit (bodyOf (subAt 27 1)) (by conv => lhs; whnf)
noncomputable abbrev c27_1a : Arguments := lit (argsOf (subAt 27 1)) (by conv => lhs; whnf)
noncomputable abbrev c27_1s : Scope := lit (scopeOf (subAt 27 1)) (by conv => lhs; whnf)
noncomputable abbrev c27_2b : List Stmt := lit (bodyOf (subAt 27 2)) (by conv => lhs; whnf)
noncomputable abbrev c27_2a : Arguments := lit (argsOf (subAt 27 2)) (by conv => lhs; whnf)
noncomputable abbrev c27_2s : Scope := lit (scopeOf (subAt 27 2)) (by conv => lhs; whnf)
noncomputable abbrev c27_5b : List Stmt := lit (bodyOf (subAt 27 5)) (by conv => lhs; whnf)
noncomputable abbrev c27_5a : Arguments := lit (argsOf (subAt 27 5)) (by conv => lhs; whnf)
noncomputable abbrev c27_5s : Scope := lit (scopeOf (subAt 27 5)) (by conv => lhs; whnf)
noncomputable abbrev c27_6b : List Stmt := lit (bodyOf (subAt 27 6)) (by conv => lhs; whnf)
noncomputable abbrev c27_6a : Arguments := lit (argsOf (subAt 27 6)) (by conv => lhs; whnf)
noncomputable abbrev c27_6s : Scope := lit (scopeOf (subAt 27 6)) (by conv => lhs; whnf)
noncomputable abbrev c27_7b : List Stmt := lit (bodyOf (subAt 27 7)) (by conv => lhs; whnf)
noncomputable abbrev c27_7a : Arguments := lit (argsOf (subAt 27 7)) (by conv => lhs; whnf)
noncomputable abbrev c27_7s : Scope := lit (scopeOf (subAt 27 7)) (by conv => lhs; whnf)
noncomputable abbrev c27_9b : List Stmt := lit (bodyOf (subAt 27 9)) (by conv => lhs; whnf)
noncomputable abbrev c27_9a : Arguments := lit (argsOf (subAt 27 9)) (by conv => lhs; whnf)
noncomputable abbrev c27_9s : Scope := lit (scopeOf (subAt 27 9)) (by conv => lhs; whnf)
noncomputable abbrev c27_13b : List Stmt := lit (bodyOf (subAt 27 13)) (by conv => lhs; whnf)
noncomputable abbrev c27_13a : Arguments := lit (argsOf (subAt 27 13)) (by conv => lhs; whnf)
noncomputable abbrev c27_13s : Scope := lit (scopeOf (subAt 27 13)) (by conv => lhs; whnf)
noncomputable abbrev c30b : List Stmt := lit (bodyOf (stAt 30)) (by conv => lhs; whnf)
noncomputable abbrev c30a : Arguments := lit (argsOf (stAt 30)) (by conv => lhs; whnf)
noncomputable abbrev c30s : Scope := lit (scopeOf (stAt 30)) (by conv => lhs; whnf)
noncomputable abbrev c31b : List Stmt := lit (bodyOf (stAt 31)) (by conv => lhs; whnf)
noncomputable abbrev c31a : Arguments := lit (argsOf (stAt 31)) (by conv => lhs; whnf)
noncomputable abbrev c31s : Scope := lit (scopeOf (stAt 31)) (by conv => lhs; whnf)
noncomputable abbrev c32b : List Stmt := lit (bodyOf (stAt 32)) (by conv => lhs; whnf)
noncomputable abbrev c32a : Arguments := lit (argsOf (stAt 32)) (by conv => lhs; whnf)
noncomputable abbrev c32s : Scope := lit (scopeOf (stAt 32)) (by conv => lhs; whnf)
noncomputable abbrev c33b : List Stmt := lit (bodyOf (stAt 33)) (by conv => lhs; whnf)
noncomputable abbrev c33a : Arguments := lit (argsOf (stAt 33)) (by conv => lhs; whnf)
noncomputable abbrev c33s : Scope := lit (scopeOf (stAt 33)) (by conv => lhs; whnf)
noncomputable abbrev c34b : List Stmt := lit (bodyOf (stAt 34)) (by conv => lhs; whnf)
noncomputable abbrev c34a : Arguments := lit (argsOf (stAt 34)) (by conv => lhs; whnf)
noncomputable abbrev c34s : Scope := lit (scopeOf (stAt 34)) (by conv => lhs; whnf)
noncomputable abbrev c36_0b : List Stmt := lit (bodyOf (subAt 36 0)) (by conv => lhs; whnf)
noncomputable abbrev c36_0a : Arguments := lit (argsOf (subAt 36 0)) (by conv => lhs; whnf)
noncomputable abbrev c36_0s : Scope := lit (scopeOf (subAt 36 0)) (by conv => lhs; whnf)
noncomputable abbrev c40b : List Stmt := lit (bodyOf (stAt 40)) (by conv => lhs; whnf)
noncomputable abbrev c40a : Arguments := lit (argsOf (stAt 40)) (by conv => lhs; whnf)
noncomputable abbrev c40s : Scope := lit (scopeOf (stAt 40)) (by conv => lhs; whnf)
noncomputable abbrev c41b : List Stmt := lit (bodyOf (stAt 41)) (by conv => lhs; whnf)
noncomputable abbrev c41a : Arguments := lit (argsOf (stAt 41)) (by conv => lhs; whnf)
noncomputable abbrev c41s : Scope := lit (scopeOf (stAt 41)) (by conv => lhs; whnf)
noncomputable abbrev c43b : List Stmt := lit (bodyOf (stAt 43)) (by conv => lhs; whnf)
noncomputable abbrev c43a : Arguments := lit (argsOf (stAt 43)) (by conv => lhs; whnf)
noncomputable abbrev c43s : Scope := lit (scopeOf (stAt 43)) (by conv => lhs; whnf)
noncomputable abbrev c44b : List Stmt := lit (bodyOf (stAt 44)) (by conv => lhs; whnf)
noncomputable abbrev c44a : Arguments := lit (argsOf (stAt 44)) (by conv => lhs; whnf)
noncomputable abbrev c44s : Scope := lit (scopeOf (stAt 44)) (by conv => lhs; whnf)
noncomputable abbrev c48_0b : List Stmt := lit (bodyOf (subAt 48 0)) (by conv => lhs; whnf)
noncomputable abbrev c48_0a : Arguments := lit (argsOf (subAt 48 0)) (by conv => lhs; whnf)
noncomputable abbrev c48_0s : Scope := lit (scopeOf (subAt 48 0)) (by conv => lhs; whnf)
noncomputable abbrev c48_1b : List Stmt := lit (bodyOf (subAt 48 1)) (by conv => lhs; whnf)
noncomputable abbrev c48_1a : Arguments := lit (argsOf (subAt 48 1)) (by conv => lhs; whnf)
noncomputable abbrev c48_1s : Scope := lit (scopeOf (subAt 48 1)) (by conv => lhs; whnf)
noncomputable abbrev c48_2b : List Stmt := lit (bodyOf (subAt 48 2)) (by conv => lhs; whnf)
noncomputable abbrev c48_2a : Arguments := lit (argsOf (subAt 48 2)) (by conv => lhs; whnf)
noncomputable abbrev c48_2s : Scope := lit (scopeOf (subAt 48 2)) (by conv => lhs; whnf)
noncomputable abbrev c48_3b : List Stmt := lit (bodyOf (subAt 48 3)) (by conv => lhs; whnf)
noncomputable abbrev c48_3a : Arguments := lit (argsOf (subAt 48 3)) (by conv => lhs; whnf)
noncomputable abbrev c48_3s : Scope := lit (scopeOf (subAt 48 3)) (by conv => lhs; whnf)
noncomputable abbrev c48_4b : List Stmt := lit (bodyOf (subAt 48 4)) (by conv => lhs; whnf)
noncomputable abbrev c48_4a : Arguments := lit (argsOf (subAt 48 4)) (by conv => lhs; whnf)
noncomputable abbrev c48_4s : Scope := lit (scopeOf (subAt 48 4)) (by conv => lhs; whnf)
noncomputable abbrev c48_5b : List Stmt := lit (bodyOf (subAt 48 5)) (by conv => lhs; whnf)
noncomputable abbrev c48_5a : Arguments := lit (argsOf (subAt 48 5)) (by conv => lhs; whnf)
noncomputable abbrev c48_5s : Scope := lit (scopeOf (subAt 48 5)) (by conv => lhs; whnf)
noncomputable abbrev c50b : List Stmt := lit (bodyOf (stAt 50)) (by conv => lhs; whnf)
noncomputable abbrev c50a : Arguments := lit (argsOf (stAt 50)) (by conv => lhs; whnf)
noncomputable abbrev c50s : Scope := lit (scopeOf (stAt 50)) (by conv => lhs; whnf)
noncomputable abbrev c51b : List Stmt := lit (bodyOf (stAt 51)) (by conv => lhs; whnf)
noncomputable abbrev c51a : Arguments := lit (argsOf (stAt 51)) (by conv => lhs; whnf)
noncomputable abbrev c51s : Scope := lit (scopeOf (stAt 51)) (by conv => lhs; whnf)
noncomputable abbrev c52b : List Stmt := lit (bodyOf (stAt 52)) (by conv => lhs; whnf)
noncomputable abbrev c52a : Arguments := lit (argsOf (stAt 52)) (by conv => lhs; whnf)
noncomputable abbrev c52s : Scope := lit (scopeOf (stAt 52)) (by conv => lhs; whnf)
noncomputable abbrev c53b : List Stmt := lit (bodyOf (stAt 53)) (by conv => lhs; whnf)
noncomputable abbrev c53a : Arguments := lit (argsOf (stAt 53)) (by conv => lhs; whnf)
noncomputable abbrev c53s : Scope := lit (scopeOf (stAt 53)) (by conv => lhs; whnf)
noncomputable abbrev c54b : List Stmt := lit (bodyOf (stAt 54)) (by conv => lhs; whnf)
noncomputable abbrev c54a : Arguments := lit (argsOf (stAt 54)) (by conv => lhs; whnf)
noncomputable abbrev c54s : Scope := lit (scopeOf (stAt 54)) (by conv => lhs; whnf)
noncomputable abbrev c55b : List Stmt := lit (bodyOf (stAt 55)) (by conv => lhs; whnf)
noncomputable abbrev c55a : Arguments := lit (argsOf (stAt 55)) (by conv => lhs; whnf)
noncomputable abbrev c55s : Scope := lit (scopeOf (stAt 55)) (by conv => lhs; whnf)
noncomputable def K : Params → Frag := fun P =>
  (nat_lit 2, ⟨.none, none, (.dict #[⟨PyData.keyHash P (Str.ofString "type.__subclasses__.Exception.0"), .str (Str.ofString "type.__subclasses__.Exception.0") 212, (.int (31) 0)⟩, ⟨PyData.keyHash P (Str.ofString "type.__subclasses__.Exception.n"), .str (Str.ofString "type.__subclasses__.Exception.n") 213, (.int (1) 0)⟩] 2), #[]⟩) ::
  (nat_lit 3, ⟨(.type "dict"), none, (.dict #[⟨PyData.keyHash P (Str.ofString "__name__"), .str (Str.ofString "__name__") 165, (.str (Str.ofString "law_sa0162_01") 1110)⟩, ⟨PyData.keyHash P (Str.ofString "__doc__"), .str (Str.ofString "__doc__") 166, .none⟩, ⟨PyData.keyHash P (Str.ofString "__package__"), .str (Str.ofString "__package__") 167, .none⟩, ⟨PyData.keyHash P (Str.ofString "__loader__"), .str (Str.ofString "__loader__") 168, (.builtin "__main__.__loader__#opaque")⟩, ⟨PyData.keyHash P (Str.ofString "__spec__"), .str (Str.ofString "__spec__") 169, .none⟩, ⟨PyData.keyHash P (Str.ofString "__annotations__"), .str (Str.ofString "__annotations__") 170, (.ref 6)⟩, ⟨PyData.keyHash P (Str.ofString "__builtins__"), .str (Str.ofString "__builtins__") 171, (.ref 4)⟩, ⟨PyData.keyHash P (Str.ofString "__file__"), .str (Str.ofString "__file__") 173, (.str (Str.ofString "/claim/cut.py") 172)⟩, ⟨PyData.keyHash P (Str.ofString "__cached__"), .str (Str.ofString "__cached__") 174, .none⟩, ⟨PyData.keyHash P (Str.ofString "_wall"), .str (Str.ofString "_wall") 193, (.ref 21)⟩, ⟨PyData.keyHash P (Str.ofString "ClausemillError"), .str (Str.ofString "ClausemillError") 215, (.ref 31)⟩, ⟨PyData.keyHash P (Str.ofString "PrologError"), .str (Str.ofString "PrologError") 240, (.ref 51)⟩, ⟨PyData.keyHash P (Str.ofString "A_SYSTEM"), .str (Str.ofString "A_SYSTEM") 242, (.int (25) 241)⟩, ⟨PyData.keyHash P (Str.ofString "F_DOT"), .str (Str.ofString "F_DOT") 244, (.int (0) 243)⟩, ⟨PyData.keyHash P (Str.ofString "F_ERROR"), .str (Str.ofString "F_ERROR") 246, (.int (16) 245)⟩, ⟨PyData.keyHash P (Str.ofString "fixed_atoms"), .str (Str.ofString "fixed_atoms") 252, (.ref 60)⟩, ⟨PyData.keyHash P (Str.ofString "fixed_functors"), .str (Str.ofString "fixed_functors") 258, (.ref 67)⟩, ⟨PyData.keyHash P (Str.ofString "Symbols"), .str (Str.ofString "Symbols") 378, (.ref 154)⟩, ⟨PyData.keyHash P (Str.ofString "integer"), .str (Str.ofString "integer") 387, (.ref 165)⟩, ⟨PyData.keyHash P (Str.ofString "system_error"), .str (Str.ofString "system_error") 394, (.ref 172)⟩, ⟨PyData.keyHash P (Str.ofString "formal_of"), .str (Str.ofString "formal_of") 405, (.ref 179)⟩, ⟨PyData.keyHash P (Str.ofString "instantiation_error"), .str (Str.ofString "instantiation_error") 412, (.ref 186)⟩, ⟨PyData.keyHash P (Str.ofString "type_error"), .str (Str.ofString "type_error") 421, (.ref 193)⟩, ⟨PyData.keyHash P (Str.ofString "resource_error"), .str (Str.ofString "resource_error") 429, (.ref 200)⟩, ⟨PyData.keyHash P (Str.ofString "REF"), .str (Str.ofString "REF") 433, (.int (0) 432)⟩, ⟨PyData.keyHash P (Str.ofString "SRF"), .str (Str.ofString "SRF") 435, (.int (1) 434)⟩, ⟨PyData.keyHash P (Str.ofString "STR"), .str (Str.ofString "STR") 437, (.int (2) 436)⟩, ⟨PyData.keyHash P (Str.ofString "LIS"), .str (Str.ofString "LIS") 439, (.int (3) 438)⟩, ⟨PyData.keyHash P (Str.ofString "CON"), .str (Str.ofString "CON") 441, (.int (4) 440)⟩, ⟨PyData.keyHash P (Str.ofString "INT"), .str (Str.ofString "INT") 443, (.int (5) 442)⟩, ⟨PyData.keyHash P (Str.ofString "VOID"), .str (Str.ofString "VOID") 445, (.ref 201)⟩, ⟨PyData.keyHash P (Str.ofString "VISIT"), .str (Str.ofString "VISIT") 447, (.int (0) 446)⟩, ⟨PyData.keyHash P (Str.ofString "BUILD"), .str (Str.ofString "BUILD") 449, (.int (1) 448)⟩, ⟨PyData.keyHash P (Str.ofString "Cells"), .str (Str.ofString "Cells") 640, (.ref 345)⟩, ⟨PyData.keyHash P (Str.ofString "Store"), .str (Str.ofString "Store") 724, (.ref 402)⟩, ⟨PyData.keyHash P (Str.ofString "check_size"), .str (Str.ofString "check_size") 735, (.ref 411)⟩, ⟨PyData.keyHash P (Str.ofString "integer_or_variable"), .str (Str.ofString "integer_or_variable") 744, (.ref 418)⟩, ⟨PyData.keyHash P (Str.ofString "natural_or_variable"), .str (Str.ofString "natural_or_variable") 753, (.ref 425)⟩, ⟨PyData.keyHash P (Str.ofString "successor"), .str (Str.ofString "successor") 763, (.ref 432)⟩, ⟨PyData.keyHash P (Str.ofString "sum_of_two"), .str (Str.ofString "sum_of_two") 775, (.ref 439)⟩, ⟨PyData.keyHash P (Str.ofString "PairSet"), .str (Str.ofString "PairSet") 817, (.ref 463)⟩, ⟨PyData.keyHash P (Str.ofString "push_arguments"), .str (Str.ofString "push_arguments") 828, (.ref 474)⟩, ⟨PyData.keyHash P (Str.ofString "push_pairs"), .str (Str.ofString "push_pairs") 841, (.ref 481)⟩, ⟨PyData.keyHash P (Str.ofString "same_shape"), .str (Str.ofString "same_shape") 850, (.ref 488)⟩, ⟨PyData.keyHash P (Str.ofString "is_variable"), .str (Str.ofString "is_variable") 857, (.ref 495)⟩, ⟨PyData.keyHash P (Str.ofString "unify"), .str (Str.ofString "unify") 871, (.ref 502)⟩, ⟨PyData.keyHash P (Str.ofString "unify_unify"), .str (Str.ofString "unify_unify") 872, (.ref 502)⟩, ⟨PyData.keyHash P (Str.ofString "bind_checked"), .str (Str.ofString "bind_checked") 882, (.ref 509)⟩, ⟨PyData.keyHash P (Str.ofString "occurs_in"), .str (Str.ofString "occurs_in") 893, (.ref 516)⟩, ⟨PyData.keyHash P (Str.ofString "READ"), .str (Str.ofString "READ") 897, (.str (Str.ofString "read") 896)⟩, ⟨PyData.keyHash P (Str.ofString "EXTRA"), .str (Str.ofString "EXTRA") 899, (.int (8) 898)⟩, ⟨PyData.keyHash P (Str.ofString "Areas"), .str (Str.ofString "Areas") 1109, (.ref 674)⟩, ⟨PyData.keyHash P (Str.ofString "_law_draw"), .str (Str.ofString "_law_draw") 1120, (.ref 685)⟩, ⟨PyData.keyHash P (Str.ofString "_law_whole"), .str (Str.ofString "_law_whole") 1127, (.ref 692)⟩, ⟨PyData.keyHash P (Str.ofString "_law_cell"), .str (Str.ofString "_law_cell") 1137, (.ref 699)⟩, ⟨PyData.keyHash P (Str.ofString "_law_sum"), .str (Str.ofString "_law_sum") 1148, (.ref 706)⟩, ⟨PyData.keyHash P (Str.ofString "_law_next"), .str (Str.ofString "_law_next") 1157, (.ref 713)⟩, ⟨PyData.keyHash P (Str.ofString "law"), .str (Str.ofString "law") 1163, (.ref 718)⟩] 58), #[]⟩) ::
  (nat_lit 30, ⟨(.type "dict"), none, (.dict #[⟨PyData.keyHash P (Str.ofString "__module__"), .str (Str.ofString "__module__") 203, (.str (Str.ofString "clausemill.symbols") 194)⟩, ⟨PyData.keyHash P (Str.ofString "__firstlineno__"), .str (Str.ofString "__firstlineno__") 207, (.int (5) 206)⟩, ⟨PyData.keyHash P (Str.ofString "__static_attributes__"), .str (Str.ofString "__static_attributes__") 208, (.ref 29)⟩, ⟨PyData.keyHash P (Str.ofString "__weakref__"), .str (Str.ofString "__weakref__") 210, (.ref 32)⟩, ⟨PyData.keyHash P (Str.ofString "__doc__"), .str (Str.ofString "__doc__") 211, .none⟩] 3), #[]⟩) ::
  (nat_lit 31, ⟨(.type "type"), none, (.cls ⟨(Str.ofString "ClausemillError"), [(.type "Exception")], [(.ref 31), (.type "Exception"), (.type "BaseException"), (.type "object")], 30, (Str.ofString "ClausemillError"), true, [], [(.ref 51)], false, none, false⟩), #[(some (.ref 22)), none, (some (.str (Str.ofString "ClausemillError") 196)), (some (.str (Str.ofString "ClausemillError") 204)), (some (.builtin "Exception.__new__")), (some (.bool true))]⟩) ::
  (nat_lit 32, ⟨(.type "getset_descriptor"), none, (.fields #[(.str (Str.ofString "__weakref__") 209), (.ref 31), (.builtin "ExceptionGroup.__weakref__"), .none]), #[]⟩) ::
  (nat_lit 47, ⟨(.type "code"), none, (.fields #[(.str (Str.ofString "__init__") 228), (.str (Str.ofString "PrologError.__init__") 229), (.str (Str.ofString "/claim/cut.py") 230), (.int (9) 0), (.int (2) 0), (.int (0) 0), (.int (0) 0), (.int (3) 0), (.ref 42), (.bool true), (.int (181) 0), (.ref 43), .none, (.ref 44), (.ref 45), (.ref 46), (.int (233) 0), (.int (9) 0), (.str (Str.ofString "/claim/cut.py") 234)]), #[]⟩) ::
  (nat_lit 48, ⟨(.type "function"), none, (.func ⟨(Str.ofString "__init__"), (Str.ofString "PrologError.__init__"), c3_0a, .stmts c3_0b, c3_0s, 3, [], .none, .none, .none, (.str (Str.ofString "clausemill.symbols") 194), none, (.ref 47), .none, 0⟩), #[]⟩) ::
  (nat_lit 50, ⟨(.type "dict"), none, (.dict #[⟨PyData.keyHash P (Str.ofString "__module__"), .str (Str.ofString "__module__") 223, (.str (Str.ofString "clausemill.symbols") 194)⟩, ⟨PyData.keyHash P (Str.ofString "__firstlineno__"), .str (Str.ofString "__firstlineno__") 227, (.int (7) 226)⟩, ⟨PyData.keyHash P (Str.ofString "__init__"), .str (Str.ofString "__init__") 235, (.ref 48)⟩, ⟨PyData.keyHash P (Str.ofString "__static_attributes__"), .str (Str.ofString "__static_attributes__") 237, (.ref 49)⟩, ⟨PyData.keyHash P (Str.ofString "__doc__"), .str (Str.ofString "__doc__") 238, .none⟩] 2), #[]⟩) ::
  (nat_lit 51, ⟨(.type "type"), none, (.cls ⟨(Str.ofString "PrologError"), [(.ref 31)], [(.ref 51), (.ref 31), (.type "Exception"), (.type "BaseException"), (.type "object")], 50, (Str.ofString "PrologError"), true, [], [], false, none, false⟩), #[(some (.ref 35)), none, (some (.str (Str.ofString "PrologError") 216)), (some (.str (Str.ofString "PrologError") 224)), (some (.builtin "Exception.__new__")), (some (.bool true))]⟩) ::
  (nat_lit 59, ⟨(.type "code"), none, (.fields #[(.str (Str.ofString "fixed_atoms") 247), (.str (Str.ofString "fixed_atoms") 248), (.str (Str.ofString "/claim/cut.py") 249), (.int (14) 0), (.int (0) 0), (.int (0) 0), (.int (0) 0), (.int (3) 0), (.ref 54), (.bool true), (.int (181) 0), (.ref 55), .none, (.ref 56), (.ref 57), (.ref 58), (.int (250) 0), (.int (14) 0), (.str (Str.ofString "/claim/cut.py") 251)]), #[]⟩) ::
  (nat_lit 60, ⟨(.type "function"), none, (.func ⟨(Str.ofString "fixed_atoms"), (Str.ofString "fixed_atoms"), c7a, .stmts c7b, c7s, 3, [], .none, .none, .none, (.str (Str.ofString "clausemill.symbols") 194), none, (.ref 59), .none, 0⟩), #[]⟩) ::
  (nat_lit 66, ⟨(.type "code"), none, (.fields #[(.str (Str.ofString "fixed_functors") 253), (.str (Str.ofString "fixed_functors") 254), (.str (Str.ofString "/claim/cut.py") 255), (.int (16) 0), (.int (0) 0), (.int (0) 0), (.int (0) 0), (.int (3) 0), (.ref 61), (.bool true), (.int (181) 0), (.ref 62), .none, (.ref 63), (.ref 64), (.ref 65), (.int (256) 0), (.int (16) 0), (.str (Str.ofString "/claim/cut.py") 257)]), #[]⟩) ::
  (nat_lit 67, ⟨(.type "function"), none, (.func ⟨(Str.ofString "fixed_functors"), (Str.ofString "fixed_functors"), c8a, .stmts c8b, c8s, 3, [], .none, .none, .none, (.str (Str.ofString "clausemill.symbols") 194), none, (.ref 66), .none, 0⟩), #[]⟩) ::
  (nat_lit 80, ⟨(.type "code"), none, (.fields #[(.str (Str.ofString "__init__") 271), (.str (Str.ofString "Symbols.__init__") 272), (.str (Str.ofString "/claim/cut.py") 273), (.int (20) 0), (.int (1) 0), (.int (0) 0), (.int (0) 0), (.int (3) 0), (.ref 75), (.bool true), (.int (181) 0), (.ref 76), .none, (.ref 77), (.ref 78), (.ref 79), (.int (277) 0), (.int (20) 0), (.str (Str.ofString "/claim/cut.py") 278)]), #[]⟩) ::
  (nat_lit 81, ⟨(.type "function"), none, (.func ⟨(Str.ofString "__init__"), (Str.ofString "Symbols.__init__"), c9_0a, .stmts c9_0b, c9_0s, 3, [], .none, .none, .none, (.str (Str.ofString "clausemill.symbols") 194), none, (.ref 80), .none, 0⟩), #[]⟩) ::
  (nat_lit 87, ⟨(.type "code"), none, (.fields #[(.str (Str.ofString "atom") 280), (.str (Str.ofString "Symbols.atom") 281), (.str (Str.ofString "/claim/cut.py") 282), (.int (30) 0), (.int (2) 0), (.int (0) 0), (.int (0) 0), (.int (3) 0), (.ref 82), (.bool true), (.int (181) 0), (.ref 83), .none, (.ref 84), (.ref 85), (.ref 86), (.int (287) 0), (.int (30) 0), (.str (Str.ofString "/claim/cut.py") 288)]), #[]⟩) ::
  (nat_lit 88, ⟨(.type "function"), none, (.func ⟨(Str.ofString "atom"), (Str.ofString "Symbols.atom"), c9_1a, .stmts c9_1b, c9_1s, 3, [], .none, .none, .none, (.str (Str.ofString "clausemill.symbols") 194), none, (.ref 87), .none, 0⟩), #[]⟩) ::
  (nat_lit 101, ⟨(.type "code"), none, (.fields #[(.str (Str.ofString "functor") 298), (.str (Str.ofString "Symbols.functor") 299), (.str (Str.ofString "/claim/cut.py") 300), (.int (42) 0), (.int (3) 0), (.int (0) 0), (.int (0) 0), (.int (3) 0), (.ref 96), (.bool true), (.int (181) 0), (.ref 97), .none, (.ref 98), (.ref 99), (.ref 100), (.int (307) 0), (.int (42) 0), (.str (Str.ofString "/claim/cut.py") 308)]), #[]⟩) ::
  (nat_lit 102, ⟨(.type "function"), none, (.func ⟨(Str.ofString "functor"), (Str.ofString "Symbols.functor"), c9_3a, .stmts c9_3b, c9_3s, 3, [], .none, .none, .none, (.str (Str.ofString "clausemill.symbols") 194), none, (.ref 101), .none, 0⟩), #[]⟩) ::
  (nat_lit 108, ⟨(.type "code"), none, (.fields #[(.str (Str.ofString "func") 310), (.str (Str.ofString "Symbols.func") 311), (.str (Str.ofString "/claim/cut.py") 312), (.int (52) 0), (.int (3) 0), (.int (0) 0), (.int (0) 0), (.int (3) 0), (.ref 103), (.bool true), (.int (181) 0), (.ref 104), .none, (.ref 105), (.ref 106), (.ref 107), (.int (316) 0), (.int (52) 0), (.str (Str.ofString "/claim/cut.py") 317)]), #[]⟩) ::
  (nat_lit 109, ⟨(.type "function"), none, (.func ⟨(Str.ofString "func"), (Str.ofString "Symbols.func"), c9_4a, .stmts c9_4b, c9_4s, 3, [], .none, .none, .none, (.str (Str.ofString "clausemill.symbols") 194), none, (.ref 108), .none, 0⟩), #[]⟩) ::
  (nat_lit 153, ⟨(.type "dict"), none, (.dict #[⟨PyData.keyHash P (Str.ofString "__module__"), .str (Str.ofString "__module__") 266, (.str (Str.ofString "clausemill.symbols") 194)⟩, ⟨PyData.keyHash P (Str.ofString "__firstlineno__"), .str (Str.ofString "__firstlineno__") 270, (.int (18) 269)⟩, ⟨PyData.keyHash P (Str.ofString "__init__"), .str (Str.ofString "__init__") 279, (.ref 81)⟩, ⟨PyData.keyHash P (Str.ofString "atom"), .str (Str.ofString "atom") 289, (.ref 88)⟩, ⟨PyData.keyHash P (Str.ofString "text"), .str (Str.ofString "text") 297, (.ref 95)⟩, ⟨PyData.keyHash P (Str.ofString "functor"), .str (Str.ofString "functor") 309, (.ref 102)⟩, ⟨PyData.keyHash P (Str.ofString "func"), .str (Str.ofString "func") 318, (.ref 109)⟩, ⟨PyData.keyHash P (Str.ofString "name"), .str (Str.ofString "name") 326, (.ref 116)⟩, ⟨PyData.keyHash P (Str.ofString "arity"), .str (Str.ofString "arity") 334, (.ref 123)⟩, ⟨PyData.keyHash P (Str.ofString "label"), .str (Str.ofString "label") 342, (.ref 130)⟩, ⟨PyData.keyHash P (Str.ofString "count"), .str (Str.ofString "count") 349, (.ref 137)⟩, ⟨PyData.keyHash P (Str.ofString "functor_count"), .str (Str.ofString "functor_count") 356, (.ref 144)⟩, ⟨PyData.keyHash P (Str.ofString "known"), .str (Str.ofString "known") 366, (.ref 151)⟩, ⟨PyData.keyHash P (Str.ofString "__static_attributes__"), .str (Str.ofString "__static_attributes__") 371, (.ref 152)⟩, ⟨PyData.keyHash P (Str.ofString "__dict__"), .str (Str.ofString "__dict__") 373, (.ref 155)⟩, ⟨PyData.keyHash P (Str.ofString "__weakref__"), .str (Str.ofString "__weakref__") 375, (.ref 156)⟩, ⟨PyData.keyHash P (Str.ofString "__doc__"), .str (Str.ofString "__doc__") 376, .none⟩] 4), #[]⟩) ::
  (nat_lit 154, ⟨(.type "type"), none, (.cls ⟨(Str.ofString "Symbols"), [(.type "object")], [(.ref 154), (.type "object")], 153, (Str.ofString "Symbols"), true, [], [], false, none, false⟩), #[none, none, (some (.str (Str.ofString "Symbols") 259)), (some (.str (Str.ofString "Symbols") 267)), (some (.builtin "object.__new__")), (some (.bool true))]⟩) ::
  (nat_lit 155, ⟨(.type "getset_descriptor"), none, (.fields #[(.str (Str.ofString "__dict__") 372), (.ref 154), (.builtin "function.__dict__"), (.builtin "function.__dict__#set")]), #[]⟩) ::
  (nat_lit 156, ⟨(.type "getset_descriptor"), none, (.fields #[(.str (Str.ofString "__weakref__") 374), (.ref 154), (.builtin "ExceptionGroup.__weakref__"), .none]), #[]⟩) ::
  (nat_lit 171, ⟨(.type "code"), none, (.fields #[(.str (Str.ofString "system_error") 388), (.str (Str.ofString "system_error") 389), (.str (Str.ofString "/claim/cut.py") 390), (.int (78) 0), (.int (1) 0), (.int (0) 0), (.int (0) 0), (.int (3) 0), (.ref 166), (.bool true), (.int (181) 0), (.ref 167), .none, (.ref 168), (.ref 169), (.ref 170), (.int (392) 0), (.int (78) 0), (.str (Str.ofString "/claim/cut.py") 393)]), #[]⟩) ::
  (nat_lit 172, ⟨(.type "function"), none, (.func ⟨(Str.ofString "system_error"), (Str.ofString "system_error"), c12a, .stmts c12b, c12s, 3, [], .none, .none, .none, (.str (Str.ofString "clausemill.terms") 379), none, (.ref 171), .none, 0⟩), #[]⟩) ::
  (nat_lit 185, ⟨(.type "code"), none, (.fields #[(.str (Str.ofString "instantiation_error") 406), (.str (Str.ofString "instantiation_error") 407), (.str (Str.ofString "/claim/cut.py") 408), (.int (85) 0), (.int (1) 0), (.int (0) 0), (.int (0) 0), (.int (3) 0), (.ref 180), (.bool true), (.int (181) 0), (.ref 181), .none, (.ref 182), (.ref 183), (.ref 184), (.int (410) 0), (.int (85) 0), (.str (Str.ofString "/claim/cut.py") 411)]), #[]⟩) ::
  (nat_lit 186, ⟨(.type "function"), none, (.func ⟨(Str.ofString "instantiation_error"), (Str.ofString "instantiation_error"), c14a, .stmts c14b, c14s, 3, [], .none, .none, .none, (.str (Str.ofString "clausemill.terms") 379), none, (.ref 185), .none, 0⟩), #[]⟩) ::
  (nat_lit 201, ⟨(.type "tuple"), none, (.seq #[(.int (5) 442), (.int (0) 444)] 0), #[]⟩) ::
  (nat_lit 209, ⟨(.type "tuple"), none, (.seq #[(.int (100000) 462)] 0), #[]⟩) ::
  (nat_lit 215, ⟨(.type "code"), none, (.fields #[(.str (Str.ofString "__init__") 463), (.str (Str.ofString "Cells.__init__") 464), (.str (Str.ofString "/claim/cut.py") 465), (.int (103) 0), (.int (3) 0), (.int (0) 0), (.int (0) 0), (.int (3) 0), (.ref 210), (.bool true), (.int (181) 0), (.ref 211), .none, (.ref 212), (.ref 213), (.ref 214), (.int (469) 0), (.int (103) 0), (.str (Str.ofString "/claim/cut.py") 470)]), #[]⟩) ::
  (nat_lit 216, ⟨(.type "function"), none, (.func ⟨(Str.ofString "__init__"), (Str.ofString "Cells.__init__"), c27_0a, .stmts c27_0b, c27_0s, 3, [], (.ref 209), .none, .none, (.str (Str.ofString "clausemill.store") 430), none, (.ref 215), .none, 0⟩), #[]⟩) ::
  (nat_lit 222, ⟨(.type "code"), none, (.fields #[(.str (Str.ofString "push") 472), (.str (Str.ofString "Cells.push") 473), (.str (Str.ofString "/claim/cut.py") 474), (.int (112) 0), (.int (2) 0), (.int (0) 0), (.int (0) 0), (.int (3) 0), (.ref 217), (.bool true), (.int (181) 0), (.ref 218), .none, (.ref 219), (.ref 220), (.ref 221), (.int (478) 0), (.int (112) 0), (.str (Str.ofString "/claim/cut.py") 479)]), #[]⟩) ::
  (nat_lit 223, ⟨(.type "function"), none, (.func ⟨(Str.ofString "push"), (Str.ofString "Cells.push"), c27_1a, .stmts c27_1b, c27_1s, 3, [], .none, .none, .none, (.str (Str.ofString "clausemill.store") 430), none, (.ref 222), .none, 0⟩), #[]⟩) ::
  (nat_lit 229, ⟨(.type "code"), none, (.fields #[(.str (Str.ofString "new_var") 481), (.str (Str.ofString "Cells.new_var") 482), (.str (Str.ofString "/claim/cut.py") 483), (.int (119) 0), (.int (1) 0), (.int (0) 0), (.int (0) 0), (.int (3) 0), (.ref 224), (.bool true), (.int (181) 0), (.ref 225), .none, (.ref 226), (.ref 227), (.ref 228), (.int (486) 0), (.int (119) 0), (.str (Str.ofString "/claim/cut.py") 487)]), #[]⟩) ::
  (nat_lit 230, ⟨(.type "function"), none, (.func ⟨(Str.ofString "new_var"), (Str.ofString "Cells.new_var"), c27_2a, .stmts c27_2b, c27_2s, 3, [], .none, .none, .none, (.str (Str.ofString "clausemill.store") 430), none, (.ref 229), .none, 0⟩), #[]⟩) ::
  (nat_lit 250, ⟨(.type "code"), none, (.fields #[(.str (Str.ofString "deref") 505), (.str (Str.ofString "Cells.deref") 506), (.str (Str.ofString "/claim/cut.py") 507), (.int (130) 0), (.int (2) 0), (.int (0) 0), (.int (0) 0), (.int (3) 0), (.ref 245), (.bool true), (.int (181) 0), (.ref 246), .none, (.ref 247), (.ref 248), (.ref 249), (.int (512) 0), (.int (130) 0), (.str (Str.ofString "/claim/cut.py") 513)]), #[]⟩) ::
  (nat_lit 251, ⟨(.type "function"), none, (.func ⟨(Str.ofString "deref"), (Str.ofString "Cells.deref"), c27_5a, .stmts c27_5b, c27_5s, 3, [], .none, .none, .none, (.str (Str.ofString "clausemill.store") 430), none, (.ref 250), .none, 0⟩), #[]⟩) ::
  (nat_lit 257, ⟨(.type "code"), none, (.fields #[(.str (Str.ofString "is_unbound") 515), (.str (Str.ofString "Cells.is_unbound") 516), (.str (Str.ofString "/claim/cut.py") 517), (.int (143) 0), (.int (2) 0), (.int (0) 0), (.int (0) 0), (.int (3) 0), (.ref 252), (.bool true), (.int (181) 0), (.ref 253), .none, (.ref 254), (.ref 255), (.ref 256), (.int (520) 0), (.int (143) 0), (.str (Str.ofString "/claim/cut.py") 521)]), #[]⟩) ::
  (nat_lit 258, ⟨(.type "function"), none, (.func ⟨(Str.ofString "is_unbound"), (Str.ofString "Cells.is_unbound"), c27_6a, .stmts c27_6b, c27_6s, 3, [], .none, .none, .none, (.str (Str.ofString "clausemill.store") 430), none, (.ref 257), .none, 0⟩), #[]⟩) ::
  (nat_lit 264, ⟨(.type "code"), none, (.fields #[(.str (Str.ofString "bind") 523), (.str (Str.ofString "Cells.bind") 524), (.str (Str.ofString "/claim/cut.py") 525), (.int (150) 0), (.int (3) 0), (.int (0) 0), (.int (0) 0), (.int (3) 0), (.ref 259), (.bool true), (.int (181) 0), (.ref 260), .none, (.ref 261), (.ref 262), (.ref 263), (.int (530) 0), (.int (150) 0), (.str (Str.ofString "/claim/cut.py") 531)]), #[]⟩) ::
  (nat_lit 265, ⟨(.type "function"), none, (.func ⟨(Str.ofString "bind"), (Str.ofString "Cells.bind"), c27_7a, .stmts c27_7b, c27_7s, 3, [], .none, .none, .none, (.str (Str.ofString "clausemill.store") 430), none, (.ref 264), .none, 0⟩), #[]⟩) ::
  (nat_lit 278, ⟨(.type "code"), none, (.fields #[(.str (Str.ofString "globalise") 542), (.str (Str.ofString "Cells.globalise") 543), (.str (Str.ofString "/claim/cut.py") 544), (.int (174) 0), (.int (2) 0), (.int (0) 0), (.int (0) 0), (.int (3) 0), (.ref 273), (.bool true), (.int (181) 0), (.ref 274), .none, (.ref 275), (.ref 276), (.ref 277), (.int (548) 0), (.int (174) 0), (.str (Str.ofString "/claim/cut.py") 549)]), #[]⟩) ::
  (nat_lit 279, ⟨(.type "function"), none, (.func ⟨(Str.ofString "globalise"), (Str.ofString "Cells.globalise"), c27_9a, .stmts c27_9b, c27_9s, 3, [], .none, .none, .none, (.str (Str.ofString "clausemill.store") 430), none, (.ref 278), .none, 0⟩), #[]⟩) ::
  (nat_lit 306, ⟨(.type "code"), none, (.fields #[(.str (Str.ofString "is_compound") 575), (.str (Str.ofString "Cells.is_compound") 576), (.str (Str.ofString "/claim/cut.py") 577), (.int (191) 0), (.int (2) 0), (.int (0) 0), (.int (0) 0), (.int (3) 0), (.ref 301), (.bool true), (.int (181) 0), (.ref 302), .none, (.ref 303), (.ref 304), (.ref 305), (.int (580) 0), (.int (191) 0), (.str (Str.ofString "/claim/cut.py") 581)]), #[]⟩) ::
  (nat_lit 307, ⟨(.type "function"), none, (.func ⟨(Str.ofString "is_compound"), (Str.ofString "Cells.is_compound"), c27_13a, .stmts c27_13b, c27_13s, 3, [], .none, .none, .none, (.str (Str.ofString "clausemill.store") 430), none, (.ref 306), .none, 0⟩), #[]⟩) ::
  (nat_lit 344, ⟨(.type "dict"), none, (.dict #[⟨PyData.keyHash P (Str.ofString "__module__"), .str (Str.ofString "__module__") 457, (.str (Str.ofString "clausemill.store") 430)⟩, ⟨PyData.keyHash P (Str.ofString "__firstlineno__"), .str (Str.ofString "__firstlineno__") 461, (.int (101) 460)⟩, ⟨PyData.keyHash P (Str.ofString "__init__"), .str (Str.ofString "__init__") 471, (.ref 216)⟩, ⟨PyData.keyHash P (Str.ofString "push"), .str (Str.ofString "push") 480, (.ref 223)⟩, ⟨PyData.keyHash P (Str.ofString "new_var"), .str (Str.ofString "new_var") 488, (.ref 230)⟩, ⟨PyData.keyHash P (Str.ofString "reserve"), .str (Str.ofString "reserve") 496, (.ref 237)⟩, ⟨PyData.keyHash P (Str.ofString "trim"), .str (Str.ofString "trim") 504, (.ref 244)⟩, ⟨PyData.keyHash P (Str.ofString "deref"), .str (Str.ofString "deref") 514, (.ref 251)⟩, ⟨PyData.keyHash P (Str.ofString "is_unbound"), .str (Str.ofString "is_unbound") 522, (.ref 258)⟩, ⟨PyData.keyHash P (Str.ofString "bind"), .str (Str.ofString "bind") 532, (.ref 265)⟩, ⟨PyData.keyHash P (Str.ofString "bind_pair"), .str (Str.ofString "bind_pair") 541, (.ref 272)⟩, ⟨PyData.keyHash P (Str.ofString "globalise"), .str (Str.ofString "globalise") 550, (.ref 279)⟩, ⟨PyData.keyHash P (Str.ofString "mark"), .str (Str.ofString "mark") 557, (.ref 286)⟩, ⟨PyData.keyHash P (Str.ofString "undo_to"), .str (Str.ofString "undo_to") 565, (.ref 293)⟩, ⟨PyData.keyHash P (Str.ofString "stack_put"), .str (Str.ofString "stack_put") 574, (.ref 300)⟩, ⟨PyData.keyHash P (Str.ofString "is_compound"), .str (Str.ofString "is_compound") 582, (.ref 307)⟩, ⟨PyData.keyHash P (Str.ofString "functor_of"), .str (Str.ofString "functor_of") 591, (.ref 314)⟩, ⟨PyData.keyHash P (Str.ofString "width"), .str (Str.ofString "width") 600, (.ref 321)⟩, ⟨PyData.keyHash P (Str.ofString "base"), .str (Str.ofString "base") 608, (.ref 328)⟩, ⟨PyData.keyHash P (Str.ofString "arg"), .str (Str.ofString "arg") 617, (.ref 335)⟩, ⟨PyData.keyHash P (Str.ofString "new_block"), .str (Str.ofString "new_block") 625, (.ref 342)⟩, ⟨PyData.keyHash P (Str.ofString "__static_attributes__"), .str (Str.ofString "__static_attributes__") 633, (.ref 343)⟩, ⟨PyData.keyHash P (Str.ofString "__dict__"), .str (Str.ofString "__dict__") 635, (.ref 346)⟩, ⟨PyData.keyHash P (Str.ofString "__weakref__"), .str (Str.ofString "__weakref__") 637, (.ref 347)⟩, ⟨PyData.keyHash P (Str.ofString "__doc__"), .str (Str.ofString "__doc__") 638, .none⟩] 4), #[]⟩) ::
  (nat_lit 345, ⟨(.type "type"), none, (.cls ⟨(Str.ofString "Cells"), [(.type "object")], [(.ref 345), (.type "object")], 344, (Str.ofString "Cells"), true, [], [(.ref 402)], false, none, false⟩), #[none, none, (some (.str (Str.ofString "Cells") 450)), (some (.str (Str.ofString "Cells") 458)), (some (.builtin "object.__new__")), (some (.bool true))]⟩) ::
  (nat_lit 346, ⟨(.type "getset_descriptor"), none, (.fields #[(.str (Str.ofString "__dict__") 634), (.ref 345), (.builtin "function.__dict__"), (.builtin "function.__dict__#set")]), #[]⟩) ::
  (nat_lit 347, ⟨(.type "getset_descriptor"), none, (.fields #[(.str (Str.ofString "__weakref__") 636), (.ref 345), (.builtin "ExceptionGroup.__weakref__"), .none]), #[]⟩) ::
  (nat_lit 401, ⟨(.type "dict"), none, (.dict #[⟨PyData.keyHash P (Str.ofString "__module__"), .str (Str.ofString "__module__") 648, (.str (Str.ofString "clausemill.store") 430)⟩, ⟨PyData.keyHash P (Str.ofString "__firstlineno__"), .str (Str.ofString "__firstlineno__") 652, (.int (222) 651)⟩, ⟨PyData.keyHash P (Str.ofString "new_struct"), .str (Str.ofString "new_struct") 661, (.ref 363)⟩, ⟨PyData.keyHash P (Str.ofString "build_list"), .str (Str.ofString "build_list") 670, (.ref 371)⟩, ⟨PyData.keyHash P (Str.ofString "list_cells"), .str (Str.ofString "list_cells") 678, (.ref 378)⟩, ⟨PyData.keyHash P (Str.ofString "put_term"), .str (Str.ofString "put_term") 687, (.ref 385)⟩, ⟨PyData.keyHash P (Str.ofString "whole_size"), .str (Str.ofString "whole_size") 700, (.ref 392)⟩, ⟨PyData.keyHash P (Str.ofString "take_term"), .str (Str.ofString "take_term") 720, (.ref 399)⟩, ⟨PyData.keyHash P (Str.ofString "__static_attributes__"), .str (Str.ofString "__static_attributes__") 721, (.ref 400)⟩, ⟨PyData.keyHash P (Str.ofString "__doc__"), .str (Str.ofString "__doc__") 722, .none⟩] 2), #[]⟩) ::
  (nat_lit 402, ⟨(.type "type"), none, (.cls ⟨(Str.ofString "Store"), [(.ref 345)], [(.ref 402), (.ref 345), (.type "object")], 401, (Str.ofString "Store"), true, [], [], false, none, false⟩), #[(some (.ref 350)), none, (some (.str (Str.ofString "Store") 641)), (some (.str (Str.ofString "Store") 649)), (some (.builtin "object.__new__")), (some (.bool true))]⟩) ::
  (nat_lit 410, ⟨(.type "code"), none, (.fields #[(.str (Str.ofString "check_size") 727), (.str (Str.ofString "check_size") 728), (.str (Str.ofString "/claim/cut.py") 729), (.int (288) 0), (.int (3) 0), (.int (0) 0), (.int (0) 0), (.int (3) 0), (.ref 405), (.bool true), (.int (181) 0), (.ref 406), .none, (.ref 407), (.ref 408), (.ref 409), (.int (733) 0), (.int (288) 0), (.str (Str.ofString "/claim/cut.py") 734)]), #[]⟩) ::
  (nat_lit 411, ⟨(.type "function"), none, (.func ⟨(Str.ofString "check_size"), (Str.ofString "check_size"), c30a, .stmts c30b, c30s, 3, [], .none, .none, .none, (.str (Str.ofString "clausemill.arith") 725), none, (.ref 410), .none, 0⟩), #[]⟩) ::
  (nat_lit 417, ⟨(.type "code"), none, (.fields #[(.str (Str.ofString "integer_or_variable") 736), (.str (Str.ofString "integer_or_variable") 737), (.str (Str.ofString "/claim/cut.py") 738), (.int (292) 0), (.int (2) 0), (.int (0) 0), (.int (0) 0), (.int (3) 0), (.ref 412), (.bool true), (.int (181) 0), (.ref 413), .none, (.ref 414), (.ref 415), (.ref 416), (.int (742) 0), (.int (292) 0), (.str (Str.ofString "/claim/cut.py") 743)]), #[]⟩) ::
  (nat_lit 418, ⟨(.type "function"), none, (.func ⟨(Str.ofString "integer_or_variable"), (Str.ofString "integer_or_variable"), c31a, .stmts c31b, c31s, 3, [], .none, .none, .none, (.str (Str.ofString "clausemill.arith") 725), none, (.ref 417), .none, 0⟩), #[]⟩) ::
  (nat_lit 424, ⟨(.type "code"), none, (.fields #[(.str (Str.ofString "natural_or_variable") 745), (.str (Str.ofString "natural_or_variable") 746), (.str (Str.ofString "/claim/cut.py") 747), (.int (299) 0), (.int (2) 0), (.int (0) 0), (.int (0) 0), (.int (3) 0), (.ref 419), (.bool true), (.int (181) 0), (.ref 420), .none, (.ref 421), (.ref 422), (.ref 423), (.int (751) 0), (.int (299) 0), (.str (Str.ofString "/claim/cut.py") 752)]), #[]⟩) ::
  (nat_lit 425, ⟨(.type "function"), none, (.func ⟨(Str.ofString "natural_or_variable"), (Str.ofString "natural_or_variable"), c32a, .stmts c32b, c32s, 3, [], .none, .none, .none, (.str (Str.ofString "clausemill.arith") 725), none, (.ref 424), .none, 0⟩), #[]⟩) ::
  (nat_lit 431, ⟨(.type "code"), none, (.fields #[(.str (Str.ofString "successor") 754), (.str (Str.ofString "successor") 755), (.str (Str.ofString "/claim/cut.py") 756), (.int (304) 0), (.int (1) 0), (.int (0) 0), (.int (0) 0), (.int (3) 0), (.ref 426), (.bool true), (.int (181) 0), (.ref 427), .none, (.ref 428), (.ref 429), (.ref 430), (.int (761) 0), (.int (304) 0), (.str (Str.ofString "/claim/cut.py") 762)]), #[]⟩) ::
  (nat_lit 432, ⟨(.type "function"), none, (.func ⟨(Str.ofString "successor"), (Str.ofString "successor"), c33a, .stmts c33b, c33s, 3, [], .none, .none, .none, (.str (Str.ofString "clausemill.arith") 725), none, (.ref 431), .none, 0⟩), #[]⟩) ::
  (nat_lit 438, ⟨(.type "code"), none, (.fields #[(.str (Str.ofString "sum_of_two") 764), (.str (Str.ofString "sum_of_two") 765), (.str (Str.ofString "/claim/cut.py") 766), (.int (315) 0), (.int (1) 0), (.int (0) 0), (.int (0) 0), (.int (3) 0), (.ref 433), (.bool true), (.int (181) 0), (.ref 434), .none, (.ref 435), (.ref 436), (.ref 437), (.int (773) 0), (.int (315) 0), (.str (Str.ofString "/claim/cut.py") 774)]), #[]⟩) ::
  (nat_lit 439, ⟨(.type "function"), none, (.func ⟨(Str.ofString "sum_of_two"), (Str.ofString "sum_of_two"), c34a, .stmts c34b, c34s, 3, [], .none, .none, .none, (.str (Str.ofString "clausemill.arith") 725), none, (.ref 438), .none, 0⟩), #[]⟩) ::
  (nat_lit 452, ⟨(.type "code"), none, (.fields #[(.str (Str.ofString "__init__") 790), (.str (Str.ofString "PairSet.__init__") 791), (.str (Str.ofString "/claim/cut.py") 792), (.int (337) 0), (.int (2) 0), (.int (0) 0), (.int (0) 0), (.int (3) 0), (.ref 447), (.bool true), (.int (181) 0), (.ref 448), .none, (.ref 449), (.ref 450), (.ref 451), (.int (795) 0), (.int (337) 0), (.str (Str.ofString "/claim/cut.py") 796)]), #[]⟩) ::
  (nat_lit 453, ⟨(.type "function"), none, (.func ⟨(Str.ofString "__init__"), (Str.ofString "PairSet.__init__"), c36_0a, .stmts c36_0b, c36_0s, 3, [], .none, .none, .none, (.str (Str.ofString "clausemill.unify") 776), none, (.ref 452), .none, 0⟩), #[]⟩) ::
  (nat_lit 462, ⟨(.type "dict"), none, (.dict #[⟨PyData.keyHash P (Str.ofString "__module__"), .str (Str.ofString "__module__") 785, (.str (Str.ofString "clausemill.unify") 776)⟩, ⟨PyData.keyHash P (Str.ofString "__firstlineno__"), .str (Str.ofString "__firstlineno__") 789, (.int (335) 788)⟩, ⟨PyData.keyHash P (Str.ofString "__init__"), .str (Str.ofString "__init__") 797, (.ref 453)⟩, ⟨PyData.keyHash P (Str.ofString "add"), .str (Str.ofString "add") 807, (.ref 460)⟩, ⟨PyData.keyHash P (Str.ofString "__static_attributes__"), .str (Str.ofString "__static_attributes__") 810, (.ref 461)⟩, ⟨PyData.keyHash P (Str.ofString "__dict__"), .str (Str.ofString "__dict__") 812, (.ref 464)⟩, ⟨PyData.keyHash P (Str.ofString "__weakref__"), .str (Str.ofString "__weakref__") 814, (.ref 465)⟩, ⟨PyData.keyHash P (Str.ofString "__doc__"), .str (Str.ofString "__doc__") 815, .none⟩] 4), #[]⟩) ::
  (nat_lit 463, ⟨(.type "type"), none, (.cls ⟨(Str.ofString "PairSet"), [(.type "object")], [(.ref 463), (.type "object")], 462, (Str.ofString "PairSet"), true, [], [], false, none, false⟩), #[none, none, (some (.str (Str.ofString "PairSet") 778)), (some (.str (Str.ofString "PairSet") 786)), (some (.builtin "object.__new__")), (some (.bool true))]⟩) ::
  (nat_lit 464, ⟨(.type "getset_descriptor"), none, (.fields #[(.str (Str.ofString "__dict__") 811), (.ref 463), (.builtin "function.__dict__"), (.builtin "function.__dict__#set")]), #[]⟩) ::
  (nat_lit 465, ⟨(.type "getset_descriptor"), none, (.fields #[(.str (Str.ofString "__weakref__") 813), (.ref 463), (.builtin "ExceptionGroup.__weakref__"), .none]), #[]⟩) ::
  (nat_lit 494, ⟨(.type "code"), none, (.fields #[(.str (Str.ofString "is_variable") 851), (.str (Str.ofString "is_variable") 852), (.str (Str.ofString "/claim/cut.py") 853), (.int (362) 0), (.int (1) 0), (.int (0) 0), (.int (0) 0), (.int (3) 0), (.ref 489), (.bool true), (.int (181) 0), (.ref 490), .none, (.ref 491), (.ref 492), (.ref 493), (.int (855) 0), (.int (362) 0), (.str (Str.ofString "/claim/cut.py") 856)]), #[]⟩) ::
  (nat_lit 495, ⟨(.type "function"), none, (.func ⟨(Str.ofString "is_variable"), (Str.ofString "is_variable"), c40a, .stmts c40b, c40s, 3, [], .none, .none, .none, (.str (Str.ofString "clausemill.unify") 776), none, (.ref 494), .none, 0⟩), #[]⟩) ::
  (nat_lit 501, ⟨(.type "code"), none, (.fields #[(.str (Str.ofString "unify") 858), (.str (Str.ofString "unify") 859), (.str (Str.ofString "/claim/cut.py") 860), (.int (364) 0), (.int (4) 0), (.int (0) 0), (.int (0) 0), (.int (3) 0), (.ref 496), (.bool true), (.int (181) 0), (.ref 497), .none, (.ref 498), (.ref 499), (.ref 500), (.int (869) 0), (.int (364) 0), (.str (Str.ofString "/claim/cut.py") 870)]), #[]⟩) ::
  (nat_lit 502, ⟨(.type "function"), none, (.func ⟨(Str.ofString "unify"), (Str.ofString "unify"), c41a, .stmts c41b, c41s, 3, [], .none, .none, .none, (.str (Str.ofString "clausemill.unify") 776), none, (.ref 501), .none, 0⟩), #[]⟩) ::
  (nat_lit 508, ⟨(.type "code"), none, (.fields #[(.str (Str.ofString "bind_checked") 873), (.str (Str.ofString "bind_checked") 874), (.str (Str.ofString "/claim/cut.py") 875), (.int (388) 0), (.int (4) 0), (.int (0) 0), (.int (0) 0), (.int (3) 0), (.ref 503), (.bool true), (.int (181) 0), (.ref 504), .none, (.ref 505), (.ref 506), (.ref 507), (.int (880) 0), (.int (388) 0), (.str (Str.ofString "/claim/cut.py") 881)]), #[]⟩) ::
  (nat_lit 509, ⟨(.type "function"), none, (.func ⟨(Str.ofString "bind_checked"), (Str.ofString "bind_checked"), c43a, .stmts c43b, c43s, 3, [], .none, .none, .none, (.str (Str.ofString "clausemill.unify") 776), none, (.ref 508), .none, 0⟩), #[]⟩) ::
  (nat_lit 515, ⟨(.type "code"), none, (.fields #[(.str (Str.ofString "occurs_in") 883), (.str (Str.ofString "occurs_in") 884), (.str (Str.ofString "/claim/cut.py") 885), (.int (393) 0), (.int (3) 0), (.int (0) 0), (.int (0) 0), (.int (3) 0), (.ref 510), (.bool true), (.int (181) 0), (.ref 511), .none, (.ref 512), (.ref 513), (.ref 514), (.int (891) 0), (.int (393) 0), (.str (Str.ofString "/claim/cut.py") 892)]), #[]⟩) ::
  (nat_lit 516, ⟨(.type "function"), none, (.func ⟨(Str.ofString "occurs_in"), (Str.ofString "occurs_in"), c44a, .stmts c44b, c44s, 3, [], .none, .none, .none, (.str (Str.ofString "clausemill.unify") 776), none, (.ref 515), .none, 0⟩), #[]⟩) ::
  (nat_lit 524, ⟨(.type "tuple"), none, (.seq #[(.int (100000) 912), (.bool true), (.int (4096) 913)] 0), #[]⟩) ::
  (nat_lit 530, ⟨(.type "code"), none, (.fields #[(.str (Str.ofString "__init__") 914), (.str (Str.ofString "Areas.__init__") 915), (.str (Str.ofString "/claim/cut.py") 916), (.int (414) 0), (.int (6) 0), (.int (0) 0), (.int (0) 0), (.int (3) 0), (.ref 525), (.bool true), (.int (181) 0), (.ref 526), .none, (.ref 527), (.ref 528), (.ref 529), (.int (923) 0), (.int (414) 0), (.str (Str.ofString "/claim/cut.py") 924)]), #[]⟩) ::
  (nat_lit 531, ⟨(.type "function"), none, (.func ⟨(Str.ofString "__init__"), (Str.ofString "Areas.__init__"), c48_0a, .stmts c48_0b, c48_0s, 3, [], (.ref 524), .none, .none, (.str (Str.ofString "clausemill.areas") 894), none, (.ref 530), .none, 0⟩), #[]⟩) ::
  (nat_lit 537, ⟨(.type "code"), none, (.fields #[(.str (Str.ofString "reset") 926), (.str (Str.ofString "Areas.reset") 927), (.str (Str.ofString "/claim/cut.py") 928), (.int (422) 0), (.int (1) 0), (.int (0) 0), (.int (0) 0), (.int (3) 0), (.ref 532), (.bool true), (.int (181) 0), (.ref 533), .none, (.ref 534), (.ref 535), (.ref 536), (.int (930) 0), (.int (422) 0), (.str (Str.ofString "/claim/cut.py") 931)]), #[]⟩) ::
  (nat_lit 538, ⟨(.type "function"), none, (.func ⟨(Str.ofString "reset"), (Str.ofString "Areas.reset"), c48_1a, .stmts c48_1b, c48_1s, 3, [], .none, .none, .none, (.str (Str.ofString "clausemill.areas") 894), none, (.ref 537), .none, 0⟩), #[]⟩) ::
  (nat_lit 544, ⟨(.type "code"), none, (.fields #[(.str (Str.ofString "set_x") 933), (.str (Str.ofString "Areas.set_x") 934), (.str (Str.ofString "/claim/cut.py") 935), (.int (437) 0), (.int (3) 0), (.int (0) 0), (.int (0) 0), (.int (3) 0), (.ref 539), (.bool true), (.int (181) 0), (.ref 540), .none, (.ref 541), (.ref 542), (.ref 543), (.int (939) 0), (.int (437) 0), (.str (Str.ofString "/claim/cut.py") 940)]), #[]⟩) ::
  (nat_lit 545, ⟨(.type "function"), none, (.func ⟨(Str.ofString "set_x"), (Str.ofString "Areas.set_x"), c48_2a, .stmts c48_2b, c48_2s, 3, [], .none, .none, .none, (.str (Str.ofString "clausemill.areas") 894), none, (.ref 544), .none, 0⟩), #[]⟩) ::
  (nat_lit 551, ⟨(.type "code"), none, (.fields #[(.str (Str.ofString "set_arguments") 942), (.str (Str.ofString "Areas.set_arguments") 943), (.str (Str.ofString "/claim/cut.py") 944), (.int (442) 0), (.int (2) 0), (.int (0) 0), (.int (0) 0), (.int (3) 0), (.ref 546), (.bool true), (.int (181) 0), (.ref 547), .none, (.ref 548), (.ref 549), (.ref 550), (.int (949) 0), (.int (442) 0), (.str (Str.ofString "/claim/cut.py") 950)]), #[]⟩) ::
  (nat_lit 552, ⟨(.type "function"), none, (.func ⟨(Str.ofString "set_arguments"), (Str.ofString "Areas.set_arguments"), c48_3a, .stmts c48_3b, c48_3s, 3, [], .none, .none, .none, (.str (Str.ofString "clausemill.areas") 894), none, (.ref 551), .none, 0⟩), #[]⟩) ::
  (nat_lit 558, ⟨(.type "code"), none, (.fields #[(.str (Str.ofString "arg") 952), (.str (Str.ofString "Areas.arg") 953), (.str (Str.ofString "/claim/cut.py") 954), (.int (448) 0), (.int (2) 0), (.int (0) 0), (.int (0) 0), (.int (3) 0), (.ref 553), (.bool true), (.int (181) 0), (.ref 554), .none, (.ref 555), (.ref 556), (.ref 557), (.int (957) 0), (.int (448) 0), (.str (Str.ofString "/claim/cut.py") 958)]), #[]⟩) ::
  (nat_lit 559, ⟨(.type "function"), none, (.func ⟨(Str.ofString "arg"), (Str.ofString "Areas.arg"), c48_4a, .stmts c48_4b, c48_4s, 3, [], .none, .none, .none, (.str (Str.ofString "clausemill.areas") 894), none, (.ref 558), .none, 0⟩), #[]⟩) ::
  (nat_lit 565, ⟨(.type "code"), none, (.fields #[(.str (Str.ofString "unify") 960), (.str (Str.ofString "Areas.unify") 961), (.str (Str.ofString "/claim/cut.py") 962), (.int (451) 0), (.int (3) 0), (.int (0) 0), (.int (0) 0), (.int (3) 0), (.ref 560), (.bool true), (.int (181) 0), (.ref 561), .none, (.ref 562), (.ref 563), (.ref 564), (.int (966) 0), (.int (451) 0), (.str (Str.ofString "/claim/cut.py") 967)]), #[]⟩) ::
  (nat_lit 566, ⟨(.type "function"), none, (.func ⟨(Str.ofString "unify"), (Str.ofString "Areas.unify"), c48_5a, .stmts c48_5b, c48_5s, 3, [], .none, .none, .none, (.str (Str.ofString "clausemill.areas") 894), none, (.ref 565), .none, 0⟩), #[]⟩) ::
  (nat_lit 673, ⟨(.type "dict"), none, (.dict #[⟨PyData.keyHash P (Str.ofString "__module__"), .str (Str.ofString "__module__") 907, (.str (Str.ofString "clausemill.areas") 894)⟩, ⟨PyData.keyHash P (Str.ofString "__firstlineno__"), .str (Str.ofString "__firstlineno__") 911, (.int (412) 910)⟩, ⟨PyData.keyHash P (Str.ofString "__init__"), .str (Str.ofString "__init__") 925, (.ref 531)⟩, ⟨PyData.keyHash P (Str.ofString "reset"), .str (Str.ofString "reset") 932, (.ref 538)⟩, ⟨PyData.keyHash P (Str.ofString "set_x"), .str (Str.ofString "set_x") 941, (.ref 545)⟩, ⟨PyData.keyHash P (Str.ofString "set_arguments"), .str (Str.ofString "set_arguments") 951, (.ref 552)⟩, ⟨PyData.keyHash P (Str.ofString "arg"), .str (Str.ofString "arg") 959, (.ref 559)⟩, ⟨PyData.keyHash P (Str.ofString "unify"), .str (Str.ofString "unify") 968, (.ref 566)⟩, ⟨PyData.keyHash P (Str.ofString "take"), .str (Str.ofString "take") 976, (.ref 573)⟩, ⟨PyData.keyHash P (Str.ofString "put"), .str (Str.ofString "put") 984, (.ref 580)⟩, ⟨PyData.keyHash P (Str.ofString "top"), .str (Str.ofString "top") 991, (.ref 587)⟩, ⟨PyData.keyHash P (Str.ofString "push_environment"), .str (Str.ofString "push_environment") 999, (.ref 594)⟩, ⟨PyData.keyHash P (Str.ofString "pop_environment"), .str (Str.ofString "pop_environment") 1006, (.ref 601)⟩, ⟨PyData.keyHash P (Str.ofString "in_chain"), .str (Str.ofString "in_chain") 1014, (.ref 608)⟩, ⟨PyData.keyHash P (Str.ofString "set_choice"), .str (Str.ofString "set_choice") 1022, (.ref 615)⟩, ⟨PyData.keyHash P (Str.ofString "push_choice"), .str (Str.ofString "push_choice") 1031, (.ref 622)⟩, ⟨PyData.keyHash P (Str.ofString "set_alternative"), .str (Str.ofString "set_alternative") 1039, (.ref 629)⟩, ⟨PyData.keyHash P (Str.ofString "choice_part"), .str (Str.ofString "choice_part") 1047, (.ref 636)⟩, ⟨PyData.keyHash P (Str.ofString "restore_choice"), .str (Str.ofString "restore_choice") 1054, (.ref 643)⟩, ⟨PyData.keyHash P (Str.ofString "pop_choice"), .str (Str.ofString "pop_choice") 1061, (.ref 650)⟩, ⟨PyData.keyHash P (Str.ofString "cut_back"), .str (Str.ofString "cut_back") 1069, (.ref 657)⟩, ⟨PyData.keyHash P (Str.ofString "choices"), .str (Str.ofString "choices") 1076, (.ref 664)⟩, ⟨PyData.keyHash P (Str.ofString "environments"), .str (Str.ofString "environments") 1083, (.ref 671)⟩, ⟨PyData.keyHash P (Str.ofString "__static_attributes__"), .str (Str.ofString "__static_attributes__") 1102, (.ref 672)⟩, ⟨PyData.keyHash P (Str.ofString "__dict__"), .str (Str.ofString "__dict__") 1104, (.ref 675)⟩, ⟨PyData.keyHash P (Str.ofString "__weakref__"), .str (Str.ofString "__weakref__") 1106, (.ref 676)⟩, ⟨PyData.keyHash P (Str.ofString "__doc__"), .str (Str.ofString "__doc__") 1107, .none⟩] 4), #[]⟩) ::
  (nat_lit 674, ⟨(.type "type"), none, (.cls ⟨(Str.ofString "Areas"), [(.type "object")], [(.ref 674), (.type "object")], 673, (Str.ofString "Areas"), true, [], [], false, none, false⟩), #[none, none, (some (.str (Str.ofString "Areas") 900)), (some (.str (Str.ofString "Areas") 908)), (some (.builtin "object.__new__")), (some (.bool true))]⟩) ::
  (nat_lit 675, ⟨(.type "getset_descriptor"), none, (.fields #[(.str (Str.ofString "__dict__") 1103), (.ref 674), (.builtin "function.__dict__"), (.builtin "function.__dict__#set")]), #[]⟩) ::
  (nat_lit 676, ⟨(.type "getset_descriptor"), none, (.fields #[(.str (Str.ofString "__weakref__") 1105), (.ref 674), (.builtin "ExceptionGroup.__weakref__"), .none]), #[]⟩) ::
  (nat_lit 684, ⟨(.type "code"), none, (.fields #[(.str (Str.ofString "_law_draw") 1112), (.str (Str.ofString "_law_draw") 1113), (.str (Str.ofString "/claim/cut.py") 1114), (.int (503) 0), (.int (2) 0), (.int (0) 0), (.int (0) 0), (.int (3) 0), (.ref 679), (.bool true), (.int (181) 0), (.ref 680), .none, (.ref 681), (.ref 682), (.ref 683), (.int (1118) 0), (.int (503) 0), (.str (Str.ofString "/claim/cut.py") 1119)]), #[]⟩) ::
  (nat_lit 685, ⟨(.type "function"), none, (.func ⟨(Str.ofString "_law_draw"), (Str.ofString "_law_draw"), c50a, .stmts c50b, c50s, 3, [], .none, .none, .none, (.str (Str.ofString "law_sa0162_01") 1110), none, (.ref 684), .none, 0⟩), #[]⟩) ::
  (nat_lit 691, ⟨(.type "code"), none, (.fields #[(.str (Str.ofString "_law_whole") 1121), (.str (Str.ofString "_law_whole") 1122), (.str (Str.ofString "/claim/cut.py") 1123), (.int (513) 0), (.int (1) 0), (.int (0) 0), (.int (0) 0), (.int (3) 0), (.ref 686), (.bool true), (.int (181) 0), (.ref 687), .none, (.ref 688), (.ref 689), (.ref 690), (.int (1125) 0), (.int (513) 0), (.str (Str.ofString "/claim/cut.py") 1126)]), #[]⟩) ::
  (nat_lit 692, ⟨(.type "function"), none, (.func ⟨(Str.ofString "_law_whole"), (Str.ofString "_law_whole"), c51a, .stmts c51b, c51s, 3, [], .none, .none, .none, (.str (Str.ofString "law_sa0162_01") 1110), none, (.ref 691), .none, 0⟩), #[]⟩) ::
  (nat_lit 698, ⟨(.type "code"), none, (.fields #[(.str (Str.ofString "_law_cell") 1128), (.str (Str.ofString "_law_cell") 1129), (.str (Str.ofString "/claim/cut.py") 1130), (.int (517) 0), (.int (3) 0), (.int (0) 0), (.int (0) 0), (.int (3) 0), (.ref 693), (.bool true), (.int (181) 0), (.ref 694), .none, (.ref 695), (.ref 696), (.ref 697), (.int (1135) 0), (.int (517) 0), (.str (Str.ofString "/claim/cut.py") 1136)]), #[]⟩) ::
  (nat_lit 699, ⟨(.type "function"), none, (.func ⟨(Str.ofString "_law_cell"), (Str.ofString "_law_cell"), c52a, .stmts c52b, c52s, 3, [], .none, .none, .none, (.str (Str.ofString "law_sa0162_01") 1110), none, (.ref 698), .none, 0⟩), #[]⟩) ::
  (nat_lit 705, ⟨(.type "code"), none, (.fields #[(.str (Str.ofString "_law_sum") 1138), (.str (Str.ofString "_law_sum") 1139), (.str (Str.ofString "/claim/cut.py") 1140), (.int (522) 0), (.int (4) 0), (.int (0) 0), (.int (0) 0), (.int (3) 0), (.ref 700), (.bool true), (.int (181) 0), (.ref 701), .none, (.ref 702), (.ref 703), (.ref 704), (.int (1146) 0), (.int (522) 0), (.str (Str.ofString "/claim/cut.py") 1147)]), #[]⟩) ::
  (nat_lit 706, ⟨(.type "function"), none, (.func ⟨(Str.ofString "_law_sum"), (Str.ofString "_law_sum"), c53a, .stmts c53b, c53s, 3, [], .none, .none, .none, (.str (Str.ofString "law_sa0162_01") 1110), none, (.ref 705), .none, 0⟩), #[]⟩) ::
  (nat_lit 712, ⟨(.type "code"), none, (.fields #[(.str (Str.ofString "_law_next") 1149), (.str (Str.ofString "_law_next") 1150), (.str (Str.ofString "/claim/cut.py") 1151), (.int (528) 0), (.int (3) 0), (.int (0) 0), (.int (0) 0), (.int (3) 0), (.ref 707), (.bool true), (.int (181) 0), (.ref 708), .none, (.ref 709), (.ref 710), (.ref 711), (.int (1155) 0), (.int (528) 0), (.str (Str.ofString "/claim/cut.py") 1156)]), #[]⟩) ::
  (nat_lit 713, ⟨(.type "function"), none, (.func ⟨(Str.ofString "_law_next"), (Str.ofString "_law_next"), c54a, .stmts c54b, c54s, 3, [], .none, .none, .none, (.str (Str.ofString "law_sa0162_01") 1110), none, (.ref 712), .none, 0⟩), #[]⟩) ::
  (nat_lit 717, ⟨(.type "code"), none, (.fields #[(.str (Str.ofString "law") 1158), (.str (Str.ofString "law") 1159), (.str (Str.ofString "/claim/cut.py") 1160), (.int (531) 0), (.int (1) 0), (.int (0) 0), (.int (0) 0), (.int (3) 0), (.ref 714), (.bool true), (.int (181) 0), (.ref 715), .none, .none, .none, (.ref 716), (.int (1161) 0), (.int (531) 0), (.str (Str.ofString "/claim/cut.py") 1162)]), #[]⟩) ::
  (nat_lit 718, ⟨(.type "function"), none, (.func ⟨(Str.ofString "law"), (Str.ofString "law"), c55a, .stmts c55b, c55s, 3, [], .none, .none, .none, (.str (Str.ofString "law_sa0162_01") 1110), none, (.ref 717), .none, 0⟩), #[]⟩) :: []
noncomputable abbrev as : List Addr := [nat_lit 2, nat_lit 3, nat_lit 30, nat_lit 31, nat_lit 32, nat_lit 47, nat_lit 48, nat_lit 50, nat_lit 51, nat_lit 59, nat_lit 60, nat_lit 66, nat_lit 67, nat_lit 80, nat_lit 81, nat_lit 87, nat_lit 88, nat_lit 101, nat_lit 102, nat_lit 108, nat_lit 109, nat_lit 153, nat_lit 154, nat_lit 155, nat_lit 156, nat_lit 171, nat_lit 172, nat_lit 185, nat_lit 186, nat_lit 201, nat_lit 209, nat_lit 215, nat_lit 216, nat_lit 222, nat_lit 223, nat_lit 229, nat_lit 230, nat_lit 250, nat_lit 251, nat_lit 257, nat_lit 258, nat_lit 264, nat_lit 265, nat_lit 278, nat_lit 279, nat_lit 306, nat_lit 307, nat_lit 344, nat_lit 345, nat_lit 346, nat_lit 347, nat_lit 401, nat_lit 402, nat_lit 410, nat_lit 411, nat_lit 417, nat_lit 418, nat_lit 424, nat_lit 425, nat_lit 431, nat_lit 432, nat_lit 438, nat_lit 439, nat_lit 452, nat_lit 453, nat_lit 462, nat_lit 463, nat_lit 464, nat_lit 465, nat_lit 494, nat_lit 495, nat_lit 501, nat_lit 502, nat_lit 508, nat_lit 509, nat_lit 515, nat_lit 516, nat_lit 524, nat_lit 530, nat_lit 531, nat_lit 537, nat_lit 538, nat_lit 544, nat_lit 545, nat_lit 551, nat_lit 552, nat_lit 558, nat_lit 559, nat_lit 565, nat_lit 566, nat_lit 673, nat_lit 674, nat_lit 675, nat_lit 676, nat_lit 684, nat_lit 685, nat_lit 691, nat_lit 692, nat_lit 698, nat_lit 699, nat_lit 705, nat_lit 706, nat_lit 712, nat_lit 713, nat_lit 717, nat_lit 718]
noncomputable abbrev LOOSE : List Str := [Str.ofString "_wall", Str.ofString "ClausemillError", Str.ofString "PrologError", Str.ofString "A_SYSTEM", Str.ofString "F_DOT", Str.ofString "F_ERROR", Str.ofString "fixed_atoms", Str.ofString "fixed_functors", Str.ofString "Symbols", Str.ofString "integer", Str.ofString "system_error", Str.ofString "formal_of", Str.ofString "instantiation_error", Str.ofString "type_error", Str.ofString "resource_error", Str.ofString "REF", Str.ofString "SRF", Str.ofString "STR", Str.ofString "LIS", Str.ofString "CON", Str.ofString "INT", Str.ofString "VOID", Str.ofString "VISIT", Str.ofString "BUILD", Str.ofString "Cells", Str.ofString "Store", Str.ofString "check_size", Str.ofString "integer_or_variable", Str.ofString "natural_or_variable", Str.ofString "successor", Str.ofString "sum_of_two", Str.ofString "PairSet", Str.ofString "push_arguments", Str.ofString "push_pairs", Str.ofString "same_shape", Str.ofString "is_variable", Str.ofString "unify", Str.ofString "unify_unify", Str.ofString "bind_checked", Str.ofString "occurs_in", Str.ofString "READ", Str.ofString "EXTRA", Str.ofString "Areas", Str.ofString "_law_draw", Str.ofString "_law_whole", Str.ofString "_law_cell", Str.ofString "_law_sum", Str.ofString "_law_next"]
noncomputable def vw : Program := { pw with main := { pw.main with body := lit ([stAt 55].filterMap id) (by conv => lhs; whnf) } }
/-! H2 -/
abbrev rr := PySem.Challenge.rw_sa0162_01.row
noncomputable abbrev HK : Hook := kHook K as (fun _ => by kernel_rfl)
theorem left_of {p q : Program} {loose : List Str} {Xt : Shared → Bool} {α : Type} {Yf : Shared → α} {Ya : World → α} {N : Nat} {g0 : Bool} {H₀ : Params → Heap} {gs₀ : Array GenState} {d₀ : Drawn} {k₀ : Nat} {m₀ : Nat} {ann : Option Value} {M : Nat}
    (open_ : ∀ w : World, (fencedOpening treeTable p w N).map (fun s => (s.heap, s.gens, s.drawn, s.toks)) = some (H₀ w.params, gs₀, d₀, k₀))
    (size : ∀ w : World, ((H₀ w.params).isNs mainGlobals && gs₀.size == 0, (H₀ w.params).objs.size, (H₀ w.params).nsMap mainGlobals "__annotations__") = (true, m₀, ann))
    (run : ∀ (w : World) (os : OsState), ∃ s₁, topRun treeTable p w m₀ ann M ⟨H₀ w.params, gs₀, d₀, k₀, os⟩ (topStub p) = some s₁ ∧
      ((staticsOk (importedModules p.main.body) (H₀ w.params) s₁.heap && namesBound p s₁.heap && gensDone s₁ && laidKept (H₀ w.params) s₁.heap), openSeen q loose (importedModules p.main.body) Xt g0 s₁, Yf s₁) = (true, openGood q loose, Ya w)) (le : Nat.ble M N = true) : LeftO p q loose Xt Yf Ya N g0 := fun w => by
  obtain ⟨⟨h, gs, d, k, os⟩, e, e'⟩ := Option.map_eq_some_iff.mp (open_ w)
  obtain ⟨rfl, rfl, rfl, rfl⟩ : h = H₀ w.params ∧ gs = gs₀ ∧ d = d₀ ∧ k = k₀ := by simpa using e'
  obtain ⟨z1, z2, z3⟩ : _ ∧ _ ∧ _ := by simpa only [Prod.mk.injEq] using size w
  obtain ⟨s₁, r, l⟩ := run w os
  obtain ⟨l1, l2, l3⟩ : _ ∧ _ ∧ _ := by simpa only [Prod.mk.injEq] using l
  have r := topRun_mono (N - M) _ _ _ _ r
  rw [show M + (N - M) = N by have := Nat.le_of_ble_eq_true le; omega] at r
  have t : topFrom treeTable p w N ⟨H₀ w.params, gs, d, k, os⟩ = some s₁ := by
    unfold topFrom
    dsimp only
    rw [z1, z2, z3, r]
    show (match staticsOk (importedModules p.main.body) (H₀ w.params) s₁.heap && namesBound p s₁.heap && gensDone s₁ && laidKept (H₀ w.params) s₁.heap with | true => _ | false => _) = _
    rw [l1]
  unfold openEnds
  rw [e]
  show (topFrom treeTable p w N _).map _ = _
  rw [t]
  exact congrArg some (Prod.ext l2 l3)
noncomputable abbrev bd : List Stmt := behindTheImports pw
noncomputable def envT : Env := { scope := pw.main.scope, locals := mainNs, globals := mainNs, cells := [], code := .ref 13, frame := some 14 }
noncomputable abbrev cT : Code := .body bd envT
abbrev P0 : Pos := ⟨0, 0, 0, 0⟩
noncomputable abbrev S0 (w : World) (os : OsState) : Shared := ⟨boot_heap w.params, Array.mk [], boot_drawn, boot_toks, os⟩
noncomputable def Sa (w : World) (os : OsState) : Shared := ((topGo treeTable pw w 11 (some (.ref 6)) 12 (S0 w os) (topStub pw)).map (·.1)).getD (S0 w os)
theorem preT (w : World) (os : OsState) : topGo treeTable pw w 11 (some (.ref 6)) 12 (S0 w os) (topStub pw) = some (Sa w os, ⟨denote treeTable cT, cT, P0, [topFrame P0]⟩) := by kernel_rfl
theorem blockT (w : World) (os : OsState) : segRun treeTable pw w 11 (some (.ref 6)) 1 1 (Sa w os) (blockOf bd envT cT P0 [topFrame P0]) = some (.next, Sa w os, cT, P0) := by kernel_rfl
noncomputable def treeOf : List Obj → Nat → BT → BT
  | [], _, t => t
  | o :: r, n, t => treeOf r (n + 1) (t.ins n o)
noncomputable def SaT (w : World) (os : OsState) : SharedT := ⟨treeOf (Sa w os).heap.objs.toList 0 .nil, 15, (Sa w os).heap.life, (Sa w os).gens, (Sa w os).drawn, (Sa w os).toks, os⟩
theorem absT (w : World) (os : OsState) : (SaT w os).abs = Sa w os := by kernel_rfl
/-! H3 -/
noncomputable abbrev looks (s₁ : Shared) (w : World) := ((staticsOk (importedModules pw.main.body) (boot_heap w.params) s₁.heap && namesBound pw s₁.heap && gensDone s₁ && laidKept (boot_heap w.params) s₁.heap), openSeen vw LOOSE (importedModules pw.main.body) (fun s => xlAt vw [] s && recOk (RowW.records rr.toRowW) s) true s₁, Hook.obs HK s₁)
theorem runT (w : World) (os : OsState) : (segRunT treeTable pw w 11 (some (.ref 6)) 1 4600 (SaT w os) (piecesOf bd envT cT P0 [topFrame P0])).map (fun r => (r.1, r.2.2.1, (topRun treeTable pw w 11 (some (.ref 6)) 10 r.2.1.abs ⟨doneF .next, cT, r.2.2.2, [topFrame P0]⟩).map (fun s₁ => looks s₁ w))) = some (.next, cT, some (true, openGood vw LOOSE, Hook.val HK w)) := by
  rw [PySem.W.Fast.te10110043849684766642, PySem.W.Fast.te14364793385576792824]
  kernel_rfl
/-! H4x -/
theorem runTop (w : World) (os : OsState) : ∃ s₁, topRun treeTable pw w 11 (some (.ref 6)) (12 + (1 + (4600 + 10))) (S0 w os) (topStub pw) = some s₁ ∧ looks s₁ w = (true, openGood vw LOOSE, Hook.val HK w) := by
  have h := runT w os
  obtain ⟨r, hr, he⟩ := Option.map_eq_some_iff.mp h
  obtain ⟨f, s', c', p'⟩ := r
  simp only [Prod.mk.injEq] at he
  obtain ⟨rfl, rfl, he⟩ := he
  obtain ⟨s₁, hs, hl⟩ := Option.map_eq_some_iff.mp he
  refine ⟨s₁, go_top (preT w os) (piece_block (blockT w os) ?_), hl⟩
  have hb : bd = bd ++ [] := (List.append_nil _).symm
  have k := segRun_of hr
  rw [absT] at k
  have := piece_app (rest := []) k (piece_nil hs)
  rw [List.append_nil] at this
  exact this
theorem openT : ∀ w : World, (fencedOpening treeTable pw w 9000).map (fun s => (s.heap, s.gens, s.drawn, s.toks)) = some (boot_heap w.params, Array.mk [], boot_drawn, boot_toks) :=
  boot_open (by kernel_rfl) (by decide +kernel) (fun s => by kernel_rfl)
theorem sizeT (w : World) : ((boot_heap w.params).isNs mainGlobals && (Array.mk [] : Array GenState).size == 0, (boot_heap w.params).objs.size, (boot_heap w.params).nsMap mainGlobals "__annotations__") = (true, 11, some (.ref 6)) := by kernel_rfl
theorem leftT : LeftO pw vw LOOSE (fun s => xlAt vw [] s && recOk (RowW.records rr.toRowW) s) (Hook.obs HK) (Hook.val HK) 9000 :=
  left_of openT sizeT (fun w os => runTop w os) (by decide +kernel)
noncomputable abbrev dL : DefRec := ⟨Str.ofString "law", c55a, c55b, c55s, ⟨531, 0, 579, 56⟩⟩
theorem hd (walk : WalkO vw LOOSE (XL vw []) (Hook.says HK) rr.toRowW dL [] (fun f vs => PySem.call f vs)) : PySem.Challenge.rw_sa0162_01.Holds := by
  w_on
  refine holds_law (by rw [PySem.W.Fast.te9446332074065402090]; kernel_rfl) fun said => ?_
  refine holds_open (q := vw) (loose := LOOSE) (Xt := fun s => xlAt vw [] s && recOk (RowW.records rr.toRowW) s) (XP := XL vw []) (Yf := Hook.obs HK) (Ya := Hook.val HK) (YP := Hook.says HK) (N := 9000) leftT (Hook.of HK) (Hook.keeps HK) (fun s e => xl_of s (Bool.and_eq_true_iff.mp e).1) XL.keeps (by kernel_rfl) (by kernel_rfl) (by kernel_rfl) (fun s e => recFacts_of (Bool.and_eq_true_iff.mp e).2) (by rfl) (by first | assumption | decide +kernel) (by decide +kernel) ⟨rfl, rfl, rfl, rfl, rfl, by decide +kernel⟩ ?hw walk
  case hw => w_witness2
/-- the walk's switch, back as it was -/
theorem switch_off : True := by w_top off; trivial
/-! Base -/
noncomputable abbrev VW := Mine.vw
noncomputable abbrev LO : List Str := looseW Mine.vw LOOSE

/-- A call of the def at f with vs, from any frame whose ledger is E. D: what may come back. -/
def Cut (w : World) (f : Addr) (vs : List Value) (d u : Nat) (E : List (Addr × Obj)) {D : Type} (Post : D → Prop) (V : D → Value) (E' : D → List (Addr × Obj)) : Prop :=
  ∀ (mean : ExcName → Option Value) (mg mb : Str → Option Value) (dp un : Nat) (gd : Option (List Code)) (cn : Str) (cs : Scope) (a : Addr) (ccd : Value) (cl : List (Str × Addr)) (outer : List Env) (A₀ : Around) (base h₀ : Heap) (L : Addr) (m : Str → Option Value) (s : Shared)
    (Q X : Value → Shared → Prop),
    Below A₀ base outer h₀ → Fr h₀ L s.heap m → (Mine.K w.params).In h₀ → News h₀ L s.heap E → Top VW LO mean mg mb h₀ → cs.kind = .function → dp + d < recursionLimit → un + u < cLine →
    (∀ x h' tk', Post x → Fr h₀ L h' m → News h₀ L h' (E' x) → Q (V x) { s with heap := h', toks := tk' }) →
    wpAny (model PySem.Challenge.rw_sa0162_01.row.prog w) (ktrTop dp un gd cn cs L a ccd cl outer) (call (.ref f) vs) Q X s

theorem Cut.use {w : World} {f : Addr} {vs : List Value} {d u : Nat} {E : List (Addr × Obj)} {D : Type} {Post : D → Prop} {V : D → Value} {E' : D → List (Addr × Obj)} (C : Cut w f vs d u E Post V E')
    {mean : ExcName → Option Value} {mg mb : Str → Option Value} {dp un : Nat} {gd : Option (List Code)} {cn : Str} {cs : Scope} {a : Addr} {ccd : Value} {cl : List (Str × Addr)} {outer : List Env} {A₀ : Around} {base h₀ : Heap} {L : Addr} {m : Str → Option Value} {s : Shared}
    {Q X : Value → Shared → Prop} {news : List (Addr × Obj)}
    (B : Below A₀ base outer h₀) (F : Fr h₀ L s.heap m) (X₀ : (Mine.K w.params).In h₀) (N : News h₀ L s.heap news) (hE : ∀ q ∈ E, q ∈ news) (T : Top VW LO mean mg mb h₀) (hk : cs.kind = .function) (hd : dp + d < recursionLimit) (hu : un + u < cLine)
    (ret : ∀ x h' tk', Post x → Fr h₀ L h' m → News h₀ L h' (E' x) → Q (V x) { s with heap := h', toks := tk' }) :
    wpAny (model PySem.Challenge.rw_sa0162_01.row.prog w) (ktrTop dp un gd cn cs L a ccd cl outer) (call (.ref f) vs) Q X s :=
  C _ _ _ _ _ _ _ _ _ _ _ _ _ _ _ _ _ _ _ _ B F X₀ (fun q hq => N q (hE q hq)) T hk hd hu ret

theorem allNe_lt {d : Addr} {l : List (Addr × Obj)} (h : AllLt d l) : ∀ p ∈ l, p.1 ≠ d := fun p hp => Nat.ne_of_lt (tb_ltOf h p hp)
theorem sub_cons {q : Addr × Obj} {l m : List (Addr × Obj)} (h : q ∈ m) (hs : ∀ p ∈ l, p ∈ m) : ∀ p ∈ q :: l, p ∈ m := by
  intro p hp
  rcases List.mem_cons.mp hp with rfl | hp
  · exact h
  · exact hs p hp
theorem sub_self {l : List (Addr × Obj)} : ∀ p ∈ l, p ∈ l := fun _ h => h
theorem sub_tail {q : Addr × Obj} {l m : List (Addr × Obj)} (hs : ∀ p ∈ l, p ∈ m) : ∀ p ∈ l, p ∈ q :: m := fun p hp => .tail _ (hs p hp)
section
variable {prog : Program} {w : World} {A : Around} {E : Value → Shared → Prop} {s : Shared} {h₀ : Heap} {L : Addr} {news : List (Addr × Obj)}
theorem item_led {value slice : PySem.Expr} {l : Addr} {vs : List Value} {n : Nat} {k : Int} {u : Tok} {v : Value} {Q : Value → Shared → Prop} (N : News h₀ L s.heap news) (hm : (l, listOf vs.toArray n) ∈ news)
    (h0 : 0 ≤ k) (hhi : k < 2 ^ 63) (hx : vs[k.toNat]? = some v) (h : Q v s)
    (hs : subscripted slice false (.ref l) (.int k u) = operate [.ref l, .int k u] (getItem (.ref l) (.int k u)) := by with_unfolding_all rfl) :
    wpAny (model prog w) A (subscriptTail value slice (.ref l) (.int k u)) Q E s :=
  item_litK ⟨_, (N _ hm).1, rfl, _, rfl⟩ h0 hhi hx h hs
end
noncomputable abbrev tup (vs : Array Value) (n : Nat) : Obj := { cls := .type "tuple", data := .seq vs n }
theorem pair_reads {h : Heap} {q : Addr} {a b : Int} {ta tb : Tok} {n : Nat} (e : h.get? q = some (tup #[.int a ta, .int b tb] n)) : Reads h (.ref q) (.tuple [.int a, .int b]) [] :=
  .tuple e rfl rfl (.cons (.int a ta) (.cons (.int b tb) .nil))
section
variable {prog : Program} {w : World} {A : Around} {E : Value → Shared → Prop} {s : Shared} {h₀ : Heap} {L : Addr} {news : List (Addr × Obj)} {q q' : Addr} {a b c d : Int} {ta tb tc td : Tok} {n n' : Nat} {Q : Value → Shared → Prop}
theorem pair_eq (N : News h₀ L s.heap news) (h1 : (q, tup #[.int a ta, .int b tb] n) ∈ news) (h2 : (q', tup #[.int c tc, .int d td] n') ∈ news) (hu : A.units + 64 < cLine) (h : Q (.bool (decide (a = c) && decide (b = d))) s) :
    wpAny (model prog w) A (compareOp .Eq (.ref q) (.ref q')) Q E s := by
  refine eq_dataH_same (pair_reads (N _ h1).1) (pair_reads (N _ h2).1) (by rfl) (by rfl) hu (by rfl) ?_
  have e : PySem.Spec.same (.tuple [.int a, .int b]) (.tuple [.int c, .int d]) = (decide (a = c) && decide (b = d)) := by
    simp only [PySem.Spec.same, PySem.Spec.sameAll, Bool.and_true]; rfl
  rw [e]; exact h
theorem pair_ne (N : News h₀ L s.heap news) (h1 : (q, tup #[.int a ta, .int b tb] n) ∈ news) (h2 : (q', tup #[.int c tc, .int d td] n') ∈ news) (hu : A.units + 64 < cLine) (h : Q (.bool (!(decide (a = c) && decide (b = d)))) s) :
    wpAny (model prog w) A (compareOp .NotEq (.ref q) (.ref q')) Q E s := by
  refine ne_dataH_same (pair_reads (N _ h1).1) (pair_reads (N _ h2).1) (by rfl) (by rfl) hu (by rfl) ?_
  have e : PySem.Spec.same (.tuple [.int a, .int b]) (.tuple [.int c, .int d]) = (decide (a = c) && decide (b = d)) := by
    simp only [PySem.Spec.same, PySem.Spec.sameAll, Bool.and_true]; rfl
  rw [e]; exact h
theorem pair_eq_same (N : News h₀ L s.heap news) (h1 : (q, tup #[.int a ta, .int b tb] n) ∈ news) (h2 : (q', tup #[.int a tc, .int b td] n') ∈ news) (hu : A.units + 64 < cLine) (h : Q (.bool true) s) :
    wpAny (model prog w) A (compareOp .Eq (.ref q) (.ref q')) Q E s := pair_eq N h1 h2 hu (by simpa using h)
theorem pair_eq_tag (N : News h₀ L s.heap news) (h1 : (q, tup #[.int a ta, .int b tb] n) ∈ news) (h2 : (q', tup #[.int c tc, .int d td] n') ∈ news) (hu : A.units + 64 < cLine) (hac : decide (a = c) = false) (h : Q (.bool false) s) :
    wpAny (model prog w) A (compareOp .Eq (.ref q) (.ref q')) Q E s := pair_eq N h1 h2 hu (by rw [hac]; exact h)
end
section
variable {prog : Program} {w : World} {A : Around} {E : Value → Shared → Prop} {s : Shared} {h₀ : Heap} {L D : Addr} {m : Str → Option Value} {news news' : List (Addr × Obj)} {vs : List Value} {n : Nat} {k : Int} {t : Tok} {v : Value}
theorem set_led {Q : Unit → Shared → Prop} (F : Fr h₀ L s.heap m) (N : News h₀ L s.heap news) (U : Upd D (listOf vs.toArray n) (listOf (vs.set k.toNat v).toArray n) news news') (h0 : 0 ≤ k) (h1 : k < vs.length) (hfit : k < 2 ^ 63)
    (h : ∀ h', Fr h₀ L h' m → News h₀ L h' news' → Q () { s with heap := h' }) :
    wpAny (model prog w) A (setItem (.ref D) (.int k t) v) Q E s := by
  obtain ⟨pre, post, rfl, rfl, a, b⟩ := U.split
  have z := N (D, listOf vs.toArray n) (List.mem_append.mpr (.inr (.head _)))
  have hs : vs.toArray.size = vs.length := by rw [List.size_toArray]
  have hj : k.toNat < vs.length := by omega
  refine ki_setAt z.1 h0 hfit (by omega) (h _ (F.change (Heap.SameBut.update ..) z.2.1 z.2.2) (ki_turn _ N a b ?_ ?_))
  · show vs.toArray.setIfInBounds k.toNat v = (vs.set k.toNat v).toArray
    apply Array.toList_inj.mp
    simp
  · simp
end
section
variable {prog : Program} {w : World} {A : Around} {E : Value → Shared → Prop} {s : Shared} {h₀ : Heap} {L : Addr} {news : List (Addr × Obj)} {vs : List Value} {n : Nat} {l : Addr}
theorem len_led {Q : Value → Shared → Prop} (N : News h₀ L s.heap news) (hm : (l, listOf vs.toArray n) ∈ news) (hz : vs.length ≤ 16384) (h : Q (.int (vs.length : Int) (s.toks + 1)) { s with toks := s.toks + 1 + 1 }) :
    wpAny (model prog w) A (call (.builtin "len") [.ref l]) Q E s :=
  kun_lenL ⟨_, (N _ hm).1, rfl, _, rfl⟩ (by rw [List.size_toArray]) (by omega) h
end
section
variable {prog : Program} {w : World} {A : Around} {E : Value → Shared → Prop} {s : Shared} {h₀ : Heap} {L : Addr} {news : List (Addr × Obj)} {q q' : Addr} {a b c d : Int} {ta tb tc td : Tok} {n n' : Nat} {Q : Value → Shared → Prop}
theorem pair_eq_val (N : News h₀ L s.heap news) (h1 : (q, tup #[.int a ta, .int b tb] n) ∈ news) (h2 : (q', tup #[.int c tc, .int d td] n') ∈ news) (hu : A.units + 64 < cLine) (hbd : b ≠ d) (h : Q (.bool false) s) :
    wpAny (model prog w) A (compareOp .Eq (.ref q) (.ref q')) Q E s := pair_eq N h1 h2 hu (by rw [decide_eq_false hbd, Bool.and_false]; exact h)
end
section
variable {prog : Program} {w : World} {A : Around} {E : Value → Shared → Prop} {s : Shared} {h₀ : Heap} {L D : Addr} {m : Str → Option Value} {news news' : List (Addr × Obj)}
theorem append_led {vs : List Value} {n : Nat} {x : Value} {Q : Value → Shared → Prop} (F : Fr h₀ L s.heap m) (N : News h₀ L s.heap news) (U : Upd D (listOf vs.toArray n) (listOf (vs ++ [x]).toArray (n + 1)) news news')
    (hsz : vs.length ≤ 16384) (h : ∀ h', Fr h₀ L h' m → News h₀ L h' news' → Q .none { s with heap := h' }) : wpAny (model prog w) A (call (.builtin "list.append") [.ref D, x]) Q E s :=
  append_K (its := vs.toArray) F N (by rw [List.push_toArray]; exact U) h (by rw [List.size_toArray, sizeLine_eq]; omega)
end

theorem Cut.conseq {w : World} {f : Addr} {vs : List Value} {d u : Nat} {E : List (Addr × Obj)} {D D' : Type} {Post : D → Prop} {V : D → Value} {E' : D → List (Addr × Obj)} {Post' : D' → Prop} {V' : D' → Value} {E'' : D' → List (Addr × Obj)}
    (C : Cut w f vs d u E Post V E') (h : ∀ x, Post x → ∃ y, Post' y ∧ V x = V' y ∧ ∀ p ∈ E'' y, p ∈ E' x) : Cut w f vs d u E Post' V' E'' := by
  intro mean mg mb dp un gd cn cs a ccd cl outer A₀ base h₀ L m s Q Xx B F XX N T hks hd hu hret
  refine C mean mg mb dp un gd cn cs a ccd cl outer A₀ base h₀ L m s Q Xx B F XX N T hks hd hu fun x h' tk' hp F' N' => ?_
  obtain ⟨y, p1, p2, p3⟩ := h x hp
  rw [p2]
  exact hret y h' tk' p1 F' fun q hq => N' q (p3 q hq)
theorem Cut.upd_use {w : World} {f P : Addr} {o : Obj} {vs : List Value} {d u : Nat} {D : Type} {Post : D → Prop} {V : D → Value} {O : D → Obj}
    {mean : ExcName → Option Value} {mg mb : Str → Option Value} {dp un : Nat} {gd : Option (List Code)} {cn : Str} {cs : Scope} {a : Addr} {ccd : Value} {cl : List (Str × Addr)} {outer : List Env} {A₀ : Around} {base h₀ : Heap} {L : Addr} {m : Str → Option Value} {s : Shared}
    {Q X : Value → Shared → Prop} {news : List (Addr × Obj)} {nf : Obj → List (Addr × Obj)}
    (B : Below A₀ base outer h₀) (F : Fr h₀ L s.heap m) (X₀ : (Mine.K w.params).In h₀) (N : News h₀ L s.heap news) (T : Top VW LO mean mg mb h₀) (hk : cs.kind = .function) (U : UpdF P o news nf)
    (C : ∀ rest, (∀ p ∈ rest, p.1 ≠ P) → (∀ p ∈ news, p.1 ≠ P → p ∈ rest) → Cut w f vs d u ((P, o) :: rest) Post V (fun x => (P, O x) :: rest)) (hd : dp + d < recursionLimit) (hu : un + u < cLine)
    (ret : ∀ x h' tk', Post x → Fr h₀ L h' m → News h₀ L h' (nf (O x)) → Q (V x) { s with heap := h', toks := tk' }) :
    wpAny (model PySem.Challenge.rw_sa0162_01.row.prog w) (ktrTop dp un gd cn cs L a ccd cl outer) (call (.ref f) vs) Q X s := by
  obtain ⟨pre, post, rfl, hg, ha, hb⟩ := U.split
  refine (C (pre ++ post) (fun p hp => (List.mem_append.mp hp).elim (ha p) (hb p)) (fun p hp hn => ?_)).use B F X₀ N (fun q hq => ?_) T hk hd hu fun x h' tk' hp F' N' => ret x h' tk' hp F' fun q hq => N' q ?_
  · rcases List.mem_append.mp hp with hp | hp
    · exact List.mem_append.mpr (.inl hp)
    · rcases List.mem_cons.mp hp with rfl | hp
      · exact absurd rfl hn
      · exact List.mem_append.mpr (.inr hp)
  · rcases List.mem_cons.mp hq with rfl | hq
    · exact List.mem_append.mpr (.inr (.head _))
    · exact (List.mem_append.mp hq).elim (fun h => List.mem_append.mpr (.inl h)) fun h => List.mem_append.mpr (.inr (.tail _ h))
  · rw [hg] at hq
    rcases List.mem_append.mp hq with hq | hq
    · exact .tail _ (List.mem_append.mpr (.inl hq))
    · rcases List.mem_cons.mp hq with rfl | hq
      · exact .head _
      · exact .tail _ (List.mem_append.mpr (.inr hq))
theorem look2 (y a b : Str) (va vb : Value) : List.lookup y [(a, va), (b, vb)] = if y = a then some va else if y = b then some vb else none := by
  have e : ∀ c : Str, (y == c) = decide (y = c) := fun c => by
    by_cases h : y = c
    · subst h; simp
    · simp [h]
  unfold List.lookup
  rw [e a]
  by_cases h : y = a
  · simp [h]
  · simp only [h, decide_false, if_false]
    unfold List.lookup
    rw [e b]
    by_cases h : y = b
    · simp [h]
    · simp [h, List.lookup]

theorem neA {x y : Addr} {o : Obj} {l : List (Addr × Obj)} (h : AllLt y l) (m : (x, o) ∈ l) : x ≠ y := Nat.ne_of_lt (tb_ltOf h _ m)
theorem neB {x y : Addr} {o : Obj} {l : List (Addr × Obj)} (h : AllLt x l) (m : (y, o) ∈ l) : x ≠ y := (Nat.ne_of_lt (tb_ltOf h _ m)).symm
theorem neL {x y : Addr} (h : @LT.lt Nat _ x y) : x ≠ y := Nat.ne_of_lt h
theorem neG {x y : Addr} (h : @LT.lt Nat _ y x) : x ≠ y := (Nat.ne_of_lt h).symm
theorem ltA {x y : Addr} {o : Obj} {l : List (Addr × Obj)} (h : AllLt y l) (m : (x, o) ∈ l) : @LT.lt Nat _ x y := tb_ltOf h _ m
theorem room0 {d k n l : Nat} (h : d + n < l) (hk : Nat.ble k n = true) : d + k < l := Nat.lt_of_le_of_lt (Nat.add_le_add_left (Nat.le_of_ble_eq_true hk) d) h
theorem room1 {d j k n l : Nat} (h : d + n < l) (hk : Nat.ble (j + k) n = true) : d + j + k < l := by rw [Nat.add_assoc]; exact room0 h hk
theorem room2 {d i j k n l : Nat} (h : d + n < l) (hk : Nat.ble (i + (j + k)) n = true) : d + i + j + k < l := by rw [Nat.add_assoc (d + i)]; exact room1 h hk
theorem room3 {d a i j k n l : Nat} (h : d + n < l) (hk : Nat.ble (a + (i + (j + k))) n = true) : d + a + i + j + k < l := by rw [Nat.add_assoc (d + a + i)]; exact room2 h hk
theorem room4 {d b a i j k n l : Nat} (h : d + n < l) (hk : Nat.ble (b + (a + (i + (j + k)))) n = true) : d + b + a + i + j + k < l := by rw [Nat.add_assoc (d + b + a + i)]; exact room3 h hk
theorem room5 {d c b a i j k n l : Nat} (h : d + n < l) (hk : Nat.ble (c + (b + (a + (i + (j + k))))) n = true) : d + c + b + a + i + j + k < l := by rw [Nat.add_assoc (d + c + b + a + i)]; exact room4 h hk
theorem norm {M : Model} {A : Around} {α : Type} {t : Sem α} {Q : α → Shared → Prop} {E : Value → Shared → Prop} (s : Shared) (h : Heap) (k : Tok) (H : ∀ k, wpAny M A t Q E { s with heap := h, toks := k }) : wpAny M A t Q E ⟨h, s.gens, s.drawn, k, s.os⟩ := H k
theorem lenA {a n k m : Nat} (h : a ≤ n) (hk : Nat.ble (n + k) m = true) : a + k ≤ m := Nat.le_trans (Nat.add_le_add_right h k) (Nat.le_of_ble_eq_true hk)
theorem lenB {a n m : Nat} (h : a ≤ n) (hk : Nat.ble n m = true) : a ≤ m := Nat.le_trans h (Nat.le_of_ble_eq_true hk)
theorem bindsN0 {s : Shared} {fd : FuncData} (h : bindArgs fd ⟨[], []⟩ = pure []) : BindsTo s fd ⟨[], []⟩ [] := .of_eq h
theorem bindsN1 {s : Shared} {fd : FuncData} {v1 : Value} {n1 : Str} {a1 : Option PySem.Expr} {p1 : Pos} (_ : fd.params.args = [⟨n1, a1, p1⟩]) (h : bindArgs fd ⟨[v1], []⟩ = pure [(n1, v1)]) : BindsTo s fd ⟨[v1], []⟩ [(n1, v1)] := .of_eq h
theorem bindsN2 {s : Shared} {fd : FuncData} {v1 v2 : Value} {n1 n2 : Str} {a1 a2 : Option PySem.Expr} {p1 p2 : Pos} (_ : fd.params.args = [⟨n1, a1, p1⟩, ⟨n2, a2, p2⟩]) (h : bindArgs fd ⟨[v1, v2], []⟩ = pure [(n1, v1), (n2, v2)]) : BindsTo s fd ⟨[v1, v2], []⟩ [(n1, v1), (n2, v2)] := .of_eq h
theorem bindsN3 {s : Shared} {fd : FuncData} {v1 v2 v3 : Value} {n1 n2 n3 : Str} {a1 a2 a3 : Option PySem.Expr} {p1 p2 p3 : Pos} (_ : fd.params.args = [⟨n1, a1, p1⟩, ⟨n2, a2, p2⟩, ⟨n3, a3, p3⟩]) (h : bindArgs fd ⟨[v1, v2, v3], []⟩ = pure [(n1, v1), (n2, v2), (n3, v3)]) : BindsTo s fd ⟨[v1, v2, v3], []⟩ [(n1, v1), (n2, v2), (n3, v3)] := .of_eq h
theorem bindsN4 {s : Shared} {fd : FuncData} {v1 v2 v3 v4 : Value} {n1 n2 n3 n4 : Str} {a1 a2 a3 a4 : Option PySem.Expr} {p1 p2 p3 p4 : Pos} (_ : fd.params.args = [⟨n1, a1, p1⟩, ⟨n2, a2, p2⟩, ⟨n3, a3, p3⟩, ⟨n4, a4, p4⟩]) (h : bindArgs fd ⟨[v1, v2, v3, v4], []⟩ = pure [(n1, v1), (n2, v2), (n3, v3), (n4, v4)]) : BindsTo s fd ⟨[v1, v2, v3, v4], []⟩ [(n1, v1), (n2, v2), (n3, v3), (n4, v4)] := .of_eq h
theorem enter {prog : Program} {w : World} {A A₀ : Around} {s : Shared} {K : Frag} {L : Addr} {h₀ base : Heap} {m mg mb : Str → Option Value} {news : List (Addr × Obj)} {p : Program} {loose : List Str} {mean : ExcName → Option Value}
    {env : Env} {outer : List Env} {R : Result → Shared → Prop} {name qual : Str} {params : Arguments} {body : List Stmt} {scope : Scope} {dV kV doc pm cdv ct oc : Value} {an od : Option Addr} {osl : Array (Option Value)} {f : Addr} {args : Args} {binds : List (Str × Value)}
    (B : Below A₀ base outer h₀) (F : Fr h₀ L s.heap m) (X₀ : K.In h₀) (N : News h₀ L s.heap news) (T : Top p loose mean mg mb h₀) (hA : A.frames = some (env :: outer)) (hf : env.frame = some L) (hke : env.scope.kind = .function)
    (ho : K.lookup f = some ⟨oc, od, .func (fnOf name qual params body scope dV kV doc pm an cdv ct), osl⟩) (hcd : codeIn K cdv qual = true) (hroom : A.depth < recursionLimit)
    (hbind : BindsTo s (fnOf name qual params body scope dV kV doc pm an cdv ct) args binds) (hloc : ∀ y ∈ binds, scope.names.lookup y.1 = some .local)
    (h : ∀ g L' h₁ tk, Fr h₀ L g m → Fr g L' h₁ (fun y => binds.reverse.lookup y) → News g L' h₁ news → Below A base (env :: outer) g → K.In g → Top p loose mean mg mb g →
      let env' := envOf qual scope L' f cdv; let A' := A.deeper env'
      wpAny (model prog w) A' (execs body env')
        (fun fl s' => LeaveK h₀ L m g R (match fl with | .ret v => v | _ => .none) s')
        (fun e s' => wpAny (model prog w) A' (leaving env' e) (fun _ s'' => R (.error e) s'') (fun e' s'' => R (.error e') s'') s')
        { s with heap := h₁, toks := tk })
    (hco : scope.isCoroutine = false) (hgen : scope.isGenerator = false) (hk : scope.kind = .function)
    (hcell : ∀ x ∈ scope.names, x.2 ≠ .cell) : codeAny (model prog w) A (.call (.ref f) args) R s :=
  code_def B F X₀ N T hA hf hke ho hcd hroom hbind hloc (fun g L' h₁ a b c d e f => h g L' h₁ _ a b c d e f) hco hgen hk hcell
theorem execs_consF {M : Model} {A : Around} {env : Env} {st : Stmt} {rest : List Stmt} {Q : Flow → Shared → Prop} {E : Value → Shared → Prop} {s : Shared}
    (h : let Q' : Flow → Shared → Prop := fun f s' => match f with | .next => wpAny M A (execs rest env) Q E s' | f => Q f s'; wpAny M A (exec st env) Q' E s) : wpAny M A (execs (st :: rest) env) Q E s := wpAny_execs_cons h
theorem foldQ {M : Model} {A : Around} {α : Type} {t : Sem α} {Q : α → Shared → Prop} {E : Value → Shared → Prop} {s : Shared} (H : let Q' : α → Shared → Prop := Q; wpAny M A t Q' E s) : wpAny M A t Q E s := H
theorem foldAE {M : Model} {A : Around} {env : Env} {b : List Stmt} {Q : Flow → Shared → Prop} {E : Value → Shared → Prop} {s : Shared} (H : let env' : Env := env; let A' : Around := A; wpAny M A' (execs b env') Q E s) : wpAny M A (execs b env) Q E s := H
theorem and2 {a0 a1 G : Prop} (p : a0 ∧ a1) (h : a0 → a1 → G) : G := h p.1 p.2
theorem and3 {a0 a1 a2 G : Prop} (p : a0 ∧ a1 ∧ a2) (h : a0 → a1 → a2 → G) : G := h p.1 p.2.1 p.2.2
theorem and4 {a0 a1 a2 a3 G : Prop} (p : a0 ∧ a1 ∧ a2 ∧ a3) (h : a0 → a1 → a2 → a3 → G) : G := h p.1 p.2.1 p.2.2.1 p.2.2.2
theorem and6 {a0 a1 a2 a3 a4 a5 G : Prop} (p : a0 ∧ a1 ∧ a2 ∧ a3 ∧ a4 ∧ a5) (h : a0 → a1 → a2 → a3 → a4 → a5 → G) : G := h p.1 p.2.1 p.2.2.1 p.2.2.2.1 p.2.2.2.2.1 p.2.2.2.2.2
theorem and7 {a0 a1 a2 a3 a4 a5 a6 G : Prop} (p : a0 ∧ a1 ∧ a2 ∧ a3 ∧ a4 ∧ a5 ∧ a6) (h : a0 → a1 → a2 → a3 → a4 → a5 → a6 → G) : G := h p.1 p.2.1 p.2.2.1 p.2.2.2.1 p.2.2.2.2.1 p.2.2.2.2.2.1 p.2.2.2.2.2.2
theorem and8 {a0 a1 a2 a3 a4 a5 a6 a7 G : Prop} (p : a0 ∧ a1 ∧ a2 ∧ a3 ∧ a4 ∧ a5 ∧ a6 ∧ a7) (h : a0 → a1 → a2 → a3 → a4 → a5 → a6 → a7 → G) : G := h p.1 p.2.1 p.2.2.1 p.2.2.2.1 p.2.2.2.2.1 p.2.2.2.2.2.1 p.2.2.2.2.2.2.1 p.2.2.2.2.2.2.2
theorem and9 {a0 a1 a2 a3 a4 a5 a6 a7 a8 G : Prop} (p : a0 ∧ a1 ∧ a2 ∧ a3 ∧ a4 ∧ a5 ∧ a6 ∧ a7 ∧ a8) (h : a0 → a1 → a2 → a3 → a4 → a5 → a6 → a7 → a8 → G) : G := h p.1 p.2.1 p.2.2.1 p.2.2.2.1 p.2.2.2.2.1 p.2.2.2.2.2.1 p.2.2.2.2.2.2.1 p.2.2.2.2.2.2.2.1 p.2.2.2.2.2.2.2.2
theorem and12 {a0 a1 a2 a3 a4 a5 a6 a7 a8 a9 a10 a11 G : Prop} (p : a0 ∧ a1 ∧ a2 ∧ a3 ∧ a4 ∧ a5 ∧ a6 ∧ a7 ∧ a8 ∧ a9 ∧ a10 ∧ a11) (h : a0 → a1 → a2 → a3 → a4 → a5 → a6 → a7 → a8 → a9 → a10 → a11 → G) : G := h p.1 p.2.1 p.2.2.1 p.2.2.2.1 p.2.2.2.2.1 p.2.2.2.2.2.1 p.2.2.2.2.2.2.1 p.2.2.2.2.2.2.2.1 p.2.2.2.2.2.2.2.2.1 p.2.2.2.2.2.2.2.2.2.1 p.2.2.2.2.2.2.2.2.2.2.1 p.2.2.2.2.2.2.2.2.2.2.2
theorem andNest {a b c d e f g h i G : Prop} (p : (a ∧ b ∧ c) ∧ (d ∧ e ∧ f) ∧ g ∧ h ∧ i) (k : a → b → c → d → e → f → g → h → i → G) : G := k p.1.1 p.1.2.1 p.1.2.2 p.2.1.1 p.2.1.2.1 p.2.1.2.2 p.2.2.1 p.2.2.2.1 p.2.2.2.2
theorem alMono {a b : Addr} (hab : @LT.lt Nat _ a b) : ∀ {l : List (Addr × Obj)}, AllLt a l → AllLt b l
  | [], _ => trivial
  | _ :: _, h => ⟨Nat.lt_trans h.1 hab, alMono hab h.2⟩
theorem alUp {a b : Addr} {o : Obj} {l : List (Addr × Obj)} (h : AllLt a l) (hab : @LT.lt Nat _ a b) : AllLt b ((a, o) :: l) := ⟨hab, alMono hab h⟩
theorem nab {a b : Int} {n m K : Nat} (ha : a.natAbs ≤ n) (hb : b.natAbs ≤ m) (h : n + m ≤ K) : (a + b).natAbs ≤ K := Nat.le_trans (Int.natAbs_add_le a b) (Nat.le_trans (Nat.add_le_add ha hb) h)
theorem nab1 : (1 : Int).natAbs ≤ 1 := Nat.le_refl 1
theorem max_up {n i : Nat} : max (max n (i + 1)) (i + 1 + 1) = max n (i + 1 + 1) := by rw [Nat.max_assoc, Nat.max_eq_right (Nat.le_succ _)]
/-! FD -/
noncomputable abbrev ik (w : World) := intKind PySem.Challenge.rw_sa0162_01.row.prog w
def FD (w : World) (o : Obj) (KS : List (Addr × Obj)) (xs : List (List Int × Addr × Value)) : Prop :=
  o.ExactDict ∧ (∃ es ep, o.data = .dict es ep ∧ es.toList = xs.map (entryOfKey (tupleKind (ik w)))) ∧ (xs.map (·.1)).Nodup ∧ (∀ x ∈ xs, ∃ ok, (x.2.1, ok) ∈ KS ∧ TupKeyObj (ik w) x.1 ok) ∧ (∀ x ∈ xs, ∃ i t, x.2.2 = Value.int i t)
theorem FD.ofEmpty {w : World} {knd' : KeyKind PySem.Challenge.rw_sa0162_01.row.prog w Str} {o : Obj} (hd : o.IsDictOf knd' []) : FD w o [] [] := by
  obtain ⟨es, ep, hc, hdat, _, hp, _⟩ := hd
  have he : es.toList = [] := List.length_eq_zero_iff.mp hp.length
  exact ⟨hc, ⟨es, ep, hdat, he⟩, List.nodup_nil, (fun _ hx => by simp at hx), fun _ hx => by simp at hx⟩
theorem FD.dict {w : World} {o : Obj} {KS xs} (T : FD w o KS xs) {h₀ h : Heap} {L d : Addr} {news : List (Addr × Obj)} (N : News h₀ L h news) (hp : (d, o) ∈ news) (hKS : ∀ p ∈ KS, p ∈ news) : h.DictOfH (tupleKind (ik w)) d xs :=
  let ⟨hc, ⟨es, ep, hd, he⟩, hn, hk, _⟩ := T
  ⟨o, es, ep, N.get hp, hc, hd, he, fun x hx => let ⟨_, hmk, t⟩ := hk x hx; t.key (N.get (hKS _ hmk)), hn⟩
section
variable {w : World} {A : Around} {E : Value → Shared → Prop} {s : Shared} {h₀ : Heap} {L d a : Addr} {m : Str → Option Value} {news KS : List (Addr × Obj)} {o ok : Obj} {xs : List (List Int × Addr × Value)} {ks : List Int}
theorem fd_method {pl : Sem Bool} {Q : Value × List Value → Shared → Prop} (N : News h₀ L s.heap news) (hp : (d, o) ∈ news) (hKS : ∀ p ∈ KS, p ∈ news) (T : FD w o KS xs) (h : Q (.builtin "dict.get", [.ref d]) s) :
    wpAny (model PySem.Challenge.rw_sa0162_01.row.prog w) A (getMethod (.ref d) (Str.ofString "get") pl) Q E s :=
  getMethod_builtin (T.dict N hp hKS).typeIs PySem.F.plainAttrs_dict PySem.F.slot_dict_get PySem.F.type_dict_get (dictOfH_noDict (T.dict N hp hKS)) h
theorem fd_get {Q : Value → Shared → Prop} {j : Int} {u : Tok} (N : News h₀ L s.heap news) (hp : (d, o) ∈ news) (hKS : ∀ p ∈ KS, p ∈ news) (T : FD w o KS xs) (lo : (d == sysModules) = false) (hka : (a, ok) ∈ news) (tk : TupKeyObj (ik w) ks ok) (hu : A.units + 1 < cLine)
    (h : ∀ i t, Q (.int i t) { s with toks := s.toks + (ks.length + 1) }) : wpAny (model PySem.Challenge.rw_sa0162_01.row.prog w) A (call (.builtin "dict.get") [.ref d, .ref a, .int j u]) Q E s := by
  have hd := T.dict N hp hKS
  refine call_meetsIn PySem.F.slot_dict_get hd.typeIs PySem.F.entry_dict_get (PySem.F.args_dict_get_3 _ _ _) (meetsH_dict_get_default (tupleKind (ik w)) d a lo (.int j u)) ⟨tupleKind_room_in1 hu, ks, xs, tk.key (N.get hka), hd, ?_⟩
  cases hf : atKey xs ks with
  | none => exact h j u
  | some p =>
    unfold atKey at hf
    obtain ⟨x, hx, rfl⟩ := Option.map_eq_some_iff.mp hf
    obtain ⟨i, t, e⟩ := T.2.2.2.2 x (List.mem_of_find?_eq_some hx)
    show Q (x.2.2) _
    rw [e]; exact h i t
theorem fd_set {Q : Unit → Shared → Prop} {i : Int} {t : Tok} {nf : Obj → List (Addr × Obj)} (F : Fr h₀ L s.heap m) (N : News h₀ L s.heap news) (U : UpdF d o news nf) (hKS : ∀ p ∈ KS, p ∈ news) (T : FD w o KS xs) (hka : (a, ok) ∈ KS) (tk : TupKeyObj (ik w) ks ok) (hu : A.units + 1 < cLine) (hsz : xs.length ≤ 1000)
    (h : ∀ h' o' xs', Fr h₀ L h' m → News h₀ L h' (nf o') → FD w o' KS xs' → xs'.length ≤ xs.length + 1 → Q () { s with heap := h', toks := s.toks + (ks.length + 1) }) : wpAny (model PySem.Challenge.rw_sa0162_01.row.prog w) A (setItem (.ref d) (.ref a) (.int i t)) Q E s := by
  obtain ⟨pre, post, rfl, hg, ha, hb⟩ := U.split
  have hm := N (d, o) (List.mem_append_right _ (.head _))
  have hD := T.dict N (List.mem_append_right _ (.head _)) hKS
  refine wpAny_setItem_heap (hsz := by rw [sizeLine_eq]; omega) (tupleKind_room_in1 hu) (tk.key (N.get (hKS _ hka))) hD fun h' hmm hs => ?_
  obtain ⟨o', es', ep', ho', hc', hd', he', _, hn'⟩ := hmm
  refine h h' o' (storedH xs ks a (.int i t)) (F.change hs hm.2.1 hm.2.2) (hg o' ▸ N.setIn ha hb hs ho') ⟨hc', ⟨es', ep', hd', he'⟩, hn', fun x hx => ?_, fun x hx => ?_⟩ ?_
  · rcases mem_storedH hx with ⟨y, hy, e1, e2⟩ | ⟨e1, e2⟩
    · obtain ⟨oky, hmk, t⟩ := T.2.2.2.1 y hy
      exact ⟨oky, by rw [e2]; exact hmk, by rw [e1]; exact t⟩
    · exact ⟨ok, by rw [e2]; exact hka, by rw [e1]; exact tk⟩
  · unfold storedH at hx
    split at hx
    · obtain ⟨y, hy, rfl⟩ := List.mem_map.mp hx
      unfold putAt
      split
      · exact ⟨i, t, rfl⟩
      · exact T.2.2.2.2 y hy
    · rcases List.mem_append.mp hx with hx | hx
      · exact T.2.2.2.2 x hx
      · simp only [List.mem_singleton] at hx
        subst hx
        exact ⟨i, t, rfl⟩
  · unfold storedH
    split <;> simp
theorem FD.more {p : Addr × Obj} (T : FD w o KS xs) : FD w o (p :: KS) xs :=
  ⟨T.1, T.2.1, T.2.2.1, fun x hx => let ⟨ok, h1, h2⟩ := T.2.2.2.1 x hx; ⟨ok, .tail _ h1, h2⟩, T.2.2.2.2⟩
theorem pair_key {w : World} {a b : Int} {ta tb : Tok} {n : Nat} : TupKeyObj (ik w) [a, b] { cls := .type "tuple", data := .seq #[.int a ta, .int b tb] n } :=
  ⟨rfl, _, _, rfl, .cons (intKind_is _ _ _ _) (.cons (intKind_is _ _ _ _) .nil)⟩
end
/-! SyB -/
structure Sy where
  D : Addr
  TL : Addr
  AN : Addr
  FL : Addr
  FN : Addr
  τ : Nat → Tok
  n : Nat
noncomputable abbrev symsD (p : Params) (S : Sy) : Obj := dictOf [
  ⟨PyData.keyHash p (Str.ofString "texts"), .str (Str.ofString "texts") (S.τ 0), .ref S.TL⟩,
  ⟨PyData.keyHash p (Str.ofString "atom_numbers"), .str (Str.ofString "atom_numbers") (S.τ 1), .ref S.AN⟩,
  ⟨PyData.keyHash p (Str.ofString "functors"), .str (Str.ofString "functors") (S.τ 2), .ref S.FL⟩,
  ⟨PyData.keyHash p (Str.ofString "functor_numbers"), .str (Str.ofString "functor_numbers") (S.τ 3), .ref S.FN⟩] S.n
noncomputable abbrev strK (w : World) := PySem.strKind PySem.Challenge.rw_sa0162_01.row.prog w
theorem lt3a {a b q : Addr} {l : List (Addr × Obj)} (h : a < q ∧ b < q ∧ AllLt q l) : a < q ∧ b < q ∧ ∀ p ∈ l, p.1 < q := ⟨h.1, h.2.1, tb_ltOf h.2.2⟩
/-! Loop -/
section
variable {prog : Program} {w : World} {A : Around} {E : Value → Shared → Prop} {s : Shared} {env : Env} {h₀ : Heap} {x : Str} {body : List Stmt} {Q : Flow → Shared → Prop}
def TurnEnd (h₀ : Heap) (L : Addr) (I : Addr) (io : Obj) (J : (Str → Option Value) → List (Addr × Obj) → Prop) (s₁ s₂ : Shared) : Prop :=
  ∃ h' tk m' nx, s₂ = { s₁ with heap := h', toks := tk } ∧ Fr h₀ L h' m' ∧ News h₀ L h' ((I, io) :: nx) ∧ (∀ p ∈ nx, p.1 ≠ I) ∧ J m' nx
def TurnPost (h₀ : Heap) (L : Addr) (I : Addr) (io : Obj) (J : (Str → Option Value) → List (Addr × Obj) → Prop) (s₁ : Shared) (Q : Flow → Shared → Prop) (f : Flow) (s₂ : Shared) : Prop :=
  match f with
  | .ret v => Q (.ret v) s₂
  | .brk => Q .next s₂
  | _ => TurnEnd h₀ L I io J s₁ s₂

theorem iter_ledI {t : Addr} {items : Array Value} {n : Nat} {m₀ : Str → Option Value} {news : List (Addr × Obj)} (J : Nat → (Str → Option Value) → List (Addr × Obj) → Prop)
    (hh : A.handled = none) (F : Fr h₀ env.locals s.heap m₀) (N : News h₀ env.locals s.heap news) (hm : (t, listOf items n) ∈ news) (hJ : ∀ i m nx, J i m nx → (t, listOf items n) ∈ nx) (hj : J 0 m₀ news)
    (turn : ∀ i v m nx h tk I io, io.cls = .type "list_iterator" → items[i]? = some v → J i m nx → (∀ p ∈ nx, p.1 ≠ I) → Fr h₀ env.locals h (fun y => if y = x then some v else m y) → News h₀ env.locals h ((I, io) :: nx) →
      wpAny (model prog w) A (execs body env) (TurnPost h₀ env.locals I io (J (i + 1)) { s with heap := h, toks := tk } Q) E { s with heap := h, toks := tk })
    (done : ∀ m nx h tk, J items.size m nx → Fr h₀ env.locals h m → News h₀ env.locals h nx → Q .next { s with heap := h, toks := tk }) :
    wpAny (model prog w) A (pyIter (.ref t)) (fun it s₂ => LoopAtV prog w A h₀ env x body Q E it s₂) E s := by
  have ht : s.heap.IsList t items := ⟨_, (N _ hm).1, rfl, _, rfl⟩
  have hlt : t < s.heap.objs.size := Heap.lt_size (N _ hm).1
  have hnew : h₀.get? s.heap.objs.size = none := Heap.get?_none_of_le (Nat.le_of_lt (Nat.lt_of_le_of_lt F.above F.ns.lt))
  refine wpAny_pyIter_list ht ?_
  refine ⟨s.heap.objs.size, [s.heap.objs.size, t], [s.heap.objs.size], items.size, _, _, m₀, news, J, rfl, Walks.list hh _ t (Nat.ne_of_lt hlt) items, ?_, ?_, ?_,
    ⟨⟨_, Heap.get?_push_size _ rfl, rfl, rfl⟩, ht.at fun o e => Heap.get?_push_of_some _ e⟩, F.push _, fun p hp => ⟨Heap.get?_push_of_some _ (N p hp).1, (N p hp).2⟩, hj, ?_, ?_⟩
  · intro h
    rcases List.mem_cons.mp h with e | h
    · exact absurd F.ns.lt (e ▸ Nat.lt_irrefl _)
    · exact (N _ hm).2.1 (List.mem_singleton.mp h).symm
  · intro b hb
    rw [List.mem_singleton.mp hb]; exact hnew
  · intro p hp hI
    exact absurd (Heap.lt_size (N p hp).1) ((List.mem_singleton.mp hI) ▸ Nat.lt_irrefl _)
  · rintro i v m₁ nx s₁ own ⟨hh', tk', rfl⟩ hin hP hJ₁ hoff hown hget hall st F₁ N₁
    obtain ⟨⟨io, hio, hcl, _⟩, _⟩ := st
    have hI := hall s.heap.objs.size (.head _) hnew io hio
    have hne : ∀ p ∈ nx, p.1 ≠ s.heap.objs.size := fun p hp e => hoff p hp (by rw [e]; exact .head _)
    have N₂ : News h₀ env.locals hh' ((s.heap.objs.size, io) :: nx) := fun p hp => by
      rcases List.mem_cons.mp hp with rfl | hp
      · exact N₁ _ (List.mem_append_left _ hI)
      · exact N₁ _ (List.mem_append_right _ hp)
    refine wpAny_mono (turn i v m₁ nx hh' tk' s.heap.objs.size io hcl hP hJ₁ hne F₁ N₂) (fun f s₂ p => ?_) fun _ _ e => e
    have htn := N₂ _ (List.mem_cons_of_mem _ (hJ i m₁ nx hJ₁))
    have fin : TurnEnd h₀ env.locals s.heap.objs.size io (J (i + 1)) { s with heap := hh', toks := tk' } s₂ → LoopStepU h₀ env.locals [s.heap.objs.size] own (J (i + 1)) { s with heap := hh', toks := tk' } .next s₂ := by
      rintro ⟨h', tk, m', nx', e, F', N', hn, hJ'⟩
      refine ⟨rfl, h', tk, m', nx', e, F', fun p hp => ?_, fun p hp hq => hn p hp (List.mem_singleton.mp hq), hJ'⟩
      rcases List.mem_append.mp hp with hp | hp
      · have hg := hget p hp
        rcases List.mem_cons.mp (hown p hp) with e1 | e1
        · have : p = (s.heap.objs.size, io) := by
            refine Prod.ext e1 ?_
            rw [e1] at hg
            exact Option.some.inj (hg.symm.trans hio)
          rw [this]; exact N' _ (.head _)
        · have e2 := List.mem_singleton.mp e1
          have : p = (t, listOf items n) := by
            refine Prod.ext e2 ?_
            rw [e2] at hg
            exact Option.some.inj (hg.symm.trans htn.1)
          rw [this]; exact N' _ (.tail _ (hJ _ _ _ hJ'))
      · exact N' p (.tail _ hp)
    cases f with
    | ret v => exact p
    | brk => exact p
    | next => exact fin p
    | cont => exact fin p
  · rintro h' tk m' nx F' N' _ hJ'
    exact done m' nx h' tk hJ' F' N'
theorem iter_led {t : Addr} {items : Array Value} {n : Nat} {m₀ : Str → Option Value} {news : List (Addr × Obj)} (J : Nat → (Str → Option Value) → List (Addr × Obj) → Prop)
    (hh : A.handled = none) (F : Fr h₀ env.locals s.heap m₀) (N : News h₀ env.locals s.heap news) (hm : (t, listOf items n) ∈ news) (hJ : ∀ i m nx, J i m nx → (t, listOf items n) ∈ nx) (hj : J 0 m₀ news)
    (turn : ∀ i v m nx h tk I io, items[i]? = some v → J i m nx → (∀ p ∈ nx, p.1 ≠ I) → Fr h₀ env.locals h (fun y => if y = x then some v else m y) → News h₀ env.locals h ((I, io) :: nx) →
      wpAny (model prog w) A (execs body env) (TurnPost h₀ env.locals I io (J (i + 1)) { s with heap := h, toks := tk } Q) E { s with heap := h, toks := tk })
    (done : ∀ m nx h tk, J items.size m nx → Fr h₀ env.locals h m → News h₀ env.locals h nx → Q .next { s with heap := h, toks := tk }) :
    wpAny (model prog w) A (pyIter (.ref t)) (fun it s₂ => LoopAtV prog w A h₀ env x body Q E it s₂) E s :=
  iter_ledI J hh F N hm hJ hj (fun i v m nx h tk I io _ => turn i v m nx h tk I io) done

theorem iter_tup {t : Addr} {items : Array Value} {n : Nat} {m₀ : Str → Option Value} {news : List (Addr × Obj)} (J : Nat → (Str → Option Value) → List (Addr × Obj) → Prop)
    (hh : A.handled = none) (F : Fr h₀ env.locals s.heap m₀) (N : News h₀ env.locals s.heap news) (hm : (t, tup items n) ∈ news) (hJ : ∀ i m nx, J i m nx → (t, tup items n) ∈ nx) (hj : J 0 m₀ news)
    (turn : ∀ i v m nx h tk I io, items[i]? = some v → J i m nx → (∀ p ∈ nx, p.1 ≠ I) → Fr h₀ env.locals h (fun y => if y = x then some v else m y) → News h₀ env.locals h ((I, io) :: nx) →
      wpAny (model prog w) A (execs body env) (TurnPost h₀ env.locals I io (J (i + 1)) { s with heap := h, toks := tk } Q) E { s with heap := h, toks := tk })
    (done : ∀ m nx h tk, J items.size m nx → Fr h₀ env.locals h m → News h₀ env.locals h nx → Q .next { s with heap := h, toks := tk }) :
    wpAny (model prog w) A (pyIter (.ref t)) (fun it s₂ => LoopAtV prog w A h₀ env x body Q E it s₂) E s := by
  have ht : s.heap.IsTuple t items := ⟨_, (N _ hm).1, rfl, _, rfl⟩
  have hlt : t < s.heap.objs.size := Heap.lt_size (N _ hm).1
  have hnew : h₀.get? s.heap.objs.size = none := Heap.get?_none_of_le (Nat.le_of_lt (Nat.lt_of_le_of_lt F.above F.ns.lt))
  refine wpAny_pyIter_tuple ht ?_
  refine ⟨s.heap.objs.size, [s.heap.objs.size, t], [s.heap.objs.size], items.size, _, _, m₀, news, J, rfl, Walks.tuple hh _ t (Nat.ne_of_lt hlt) items, ?_, ?_, ?_,
    ⟨⟨_, Heap.get?_push_size _ rfl, rfl, rfl⟩, ht.at fun o e => Heap.get?_push_of_some _ e⟩, F.push _, fun p hp => ⟨Heap.get?_push_of_some _ (N p hp).1, (N p hp).2⟩, hj, ?_, ?_⟩
  · intro h
    rcases List.mem_cons.mp h with e | h
    · exact absurd F.ns.lt (e ▸ Nat.lt_irrefl _)
    · exact (N _ hm).2.1 (List.mem_singleton.mp h).symm
  · intro b hb
    rw [List.mem_singleton.mp hb]; exact hnew
  · intro p hp hI
    exact absurd (Heap.lt_size (N p hp).1) ((List.mem_singleton.mp hI) ▸ Nat.lt_irrefl _)
  · rintro i v m₁ nx s₁ own ⟨hh', tk', rfl⟩ hin hP hJ₁ hoff hown hget hall st F₁ N₁
    obtain ⟨⟨io, hio, _, _⟩, _⟩ := st
    have hI := hall s.heap.objs.size (.head _) hnew io hio
    have hne : ∀ p ∈ nx, p.1 ≠ s.heap.objs.size := fun p hp e => hoff p hp (by rw [e]; exact .head _)
    have N₂ : News h₀ env.locals hh' ((s.heap.objs.size, io) :: nx) := fun p hp => by
      rcases List.mem_cons.mp hp with rfl | hp
      · exact N₁ _ (List.mem_append_left _ hI)
      · exact N₁ _ (List.mem_append_right _ hp)
    refine wpAny_mono (turn i v m₁ nx hh' tk' s.heap.objs.size io hP hJ₁ hne F₁ N₂) (fun f s₂ p => ?_) fun _ _ e => e
    have htn := N₂ _ (List.mem_cons_of_mem _ (hJ i m₁ nx hJ₁))
    have fin : TurnEnd h₀ env.locals s.heap.objs.size io (J (i + 1)) { s with heap := hh', toks := tk' } s₂ → LoopStepU h₀ env.locals [s.heap.objs.size] own (J (i + 1)) { s with heap := hh', toks := tk' } .next s₂ := by
      rintro ⟨h', tk, m', nx', e, F', N', hn, hJ'⟩
      refine ⟨rfl, h', tk, m', nx', e, F', fun p hp => ?_, fun p hp hq => hn p hp (List.mem_singleton.mp hq), hJ'⟩
      rcases List.mem_append.mp hp with hp | hp
      · have hg := hget p hp
        rcases List.mem_cons.mp (hown p hp) with e1 | e1
        · have : p = (s.heap.objs.size, io) := by
            refine Prod.ext e1 ?_
            rw [e1] at hg
            exact Option.some.inj (hg.symm.trans hio)
          rw [this]; exact N' _ (.head _)
        · have e2 := List.mem_singleton.mp e1
          have : p = (t, tup items n) := by
            refine Prod.ext e2 ?_
            rw [e2] at hg
            exact Option.some.inj (hg.symm.trans htn.1)
          rw [this]; exact N' _ (.tail _ (hJ _ _ _ hJ'))
      · exact N' p (.tail _ hp)
    cases f with
    | ret v => exact p
    | brk => exact p
    | next => exact fin p
    | cont => exact fin p
  · rintro h' tk m' nx F' N' _ hJ'
    exact done m' nx h' tk hJ' F' N'
end
/-! Loop2 -/
noncomputable abbrev rng (a b : Int) (t u v : Tok) : Obj := { cls := .type "range", dict := none, data := .fields #[.int a t, .int b u, .int 1 v], slots := #[] }
section
variable {prog : Program} {w : World} {A : Around} {E : Value → Shared → Prop} {s : Shared} {h₀ : Heap} {L : Addr} {m : Str → Option Value} {news : List (Addr × Obj)} {Q : Value → Shared → Prop}
theorem range1_led {n : Int} {t : Tok} (F : Fr h₀ L s.heap m) (N : News h₀ L s.heap news) (h : ∀ r h' tk t₁ u₁ v₁, Fr h₀ L h' m → News h₀ L h' ((r, rng 0 n t₁ u₁ v₁) :: news) → (∀ p ∈ news, p.1 < r) → Q (.ref r) { s with heap := h', toks := tk }) :
    wpAny (model prog w) A (call (.type "range") [.int n t]) Q E s :=
  call_range_1 (h _ _ _ _ _ _ (F.push _) (N.push F _) fun p hp => Heap.lt_size (N p hp).1)
theorem range2_led {a b : Int} {t u : Tok} (F : Fr h₀ L s.heap m) (N : News h₀ L s.heap news) (h : ∀ r h' tk t₁ u₁ v₁, Fr h₀ L h' m → News h₀ L h' ((r, rng a b t₁ u₁ v₁) :: news) → (∀ p ∈ news, p.1 < r) → Q (.ref r) { s with heap := h', toks := tk }) :
    wpAny (model prog w) A (call (.type "range") [.int a t, .int b u]) Q E s :=
  call_range_2 (h _ _ _ _ _ _ (F.push _) (N.push F _) fun p hp => Heap.lt_size (N p hp).1)
end
section
variable {prog : Program} {w : World} {A : Around} {E : Value → Shared → Prop} {s : Shared} {env : Env} {h₀ : Heap} {x : Str} {body : List Stmt} {Q : Flow → Shared → Prop}
theorem iter_rng {r : Addr} {a b : Int} {t u v : Tok} {k : Nat} {m₀ : Str → Option Value} {news : List (Addr × Obj)} (J : Nat → (Str → Option Value) → List (Addr × Obj) → Prop)
    (hh : A.handled = none) (F : Fr h₀ env.locals s.heap m₀) (N : News h₀ env.locals s.heap news) (hm : (r, rng a b t u v) ∈ news) (hsm : Builtin.Range.small a b 1 = true) (hn : Builtin.Range.rangeSize a b 1 = ((k : Nat) : Int)) (hj : J 0 m₀ news)
    (turn : ∀ i tv m nx h tk I io, i < k → J i m nx → (∀ p ∈ nx, p.1 ≠ I) → Fr h₀ env.locals h (fun y => if y = x then some (.int (a + (i : Int)) tv) else m y) → News h₀ env.locals h ((I, io) :: nx) →
      wpAny (model prog w) A (execs body env) (TurnPost h₀ env.locals I io (J (i + 1)) { s with heap := h, toks := tk } Q) E { s with heap := h, toks := tk })
    (done : ∀ m nx h tk, J k m nx → Fr h₀ env.locals h m → News h₀ env.locals h nx → Q .next { s with heap := h, toks := tk }) :
    wpAny (model prog w) A (pyIter (.ref r)) (fun it s₂ => LoopAtV prog w A h₀ env x body Q E it s₂) E s := by
  have hr : IsRange s.heap r a b 1 t u v := (N _ hm).1
  have hnew : h₀.get? s.heap.objs.size = none := Heap.get?_none_of_le (Nat.le_of_lt (Nat.lt_of_le_of_lt F.above F.ns.lt))
  refine wpAny_pyIter_range hr hsm ?_
  refine ⟨s.heap.objs.size, [s.heap.objs.size], [s.heap.objs.size], k, _, _, m₀, news, J, rfl, PyProof.Rows.LCg.range_walks hh a k, ?_, ?_, ?_, ?_, F.push _, fun p hp => ⟨Heap.get?_push_of_some _ (N p hp).1, (N p hp).2⟩, hj, ?_, ?_⟩
  · intro h
    rw [List.mem_singleton] at h
    exact absurd F.ns.lt (h ▸ Nat.lt_irrefl _)
  · intro b hb
    rw [List.mem_singleton.mp hb]; exact hnew
  · intro p hp hI
    exact absurd (Heap.lt_size (N p hp).1) ((List.mem_singleton.mp hI) ▸ Nat.lt_irrefl _)
  · show IsRangeIter _ _ _ _ _
    rw [hn]; simpa using Heap.get?_push_size _ rfl
  · rintro i v' m₁ nx s₁ own ⟨hh', tk', rfl⟩ hin ⟨tv, rfl⟩ hJ₁ hoff hown hget hall st F₁ N₁
    obtain ⟨io, hio⟩ : ∃ io, hh'.get? s.heap.objs.size = some io := ⟨_, st⟩
    have hI := hall s.heap.objs.size (.head _) hnew _ hio
    have hne : ∀ p ∈ nx, p.1 ≠ s.heap.objs.size := fun p hp e => hoff p hp (by rw [e]; exact .head _)
    have N₂ : News h₀ env.locals hh' ((s.heap.objs.size, io) :: nx) := fun p hp => by
      rcases List.mem_cons.mp hp with rfl | hp
      · exact N₁ _ (List.mem_append_left _ hI)
      · exact N₁ _ (List.mem_append_right _ hp)
    refine wpAny_mono (turn i tv m₁ nx hh' tk' s.heap.objs.size io hin hJ₁ hne F₁ N₂) (fun f s₂ p => ?_) fun _ _ e => e
    have fin : TurnEnd h₀ env.locals s.heap.objs.size io (J (i + 1)) { s with heap := hh', toks := tk' } s₂ → LoopStepU h₀ env.locals [s.heap.objs.size] own (J (i + 1)) { s with heap := hh', toks := tk' } .next s₂ := by
      rintro ⟨h', tk, m', nx', e, F', N', hn, hJ'⟩
      refine ⟨rfl, h', tk, m', nx', e, F', fun p hp => ?_, fun p hp hq => hn p hp (List.mem_singleton.mp hq), hJ'⟩
      rcases List.mem_append.mp hp with hp | hp
      · have hg := hget p hp
        have e1 := List.mem_singleton.mp (hown p hp)
        have : p = (s.heap.objs.size, io) := by
          refine Prod.ext e1 ?_
          rw [e1] at hg
          exact Option.some.inj (hg.symm.trans hio)
        rw [this]; exact N' _ (.head _)
      · exact N' p (.tail _ hp)
    cases f with
    | ret v => exact p
    | brk => exact p
    | next => exact fin p
    | cont => exact fin p
  · rintro h' tk m' nx F' N' _ hJ'
    exact done m' nx h' tk hJ' F' N'
end
/-! Lst -/
section
variable {prog : Program} {w : World} {A : Around} {E : Value → Shared → Prop} {s : Shared} {h₀ : Heap} {L : Addr} {news : List (Addr × Obj)}
theorem item_last {value slice : PySem.Expr} {l : Addr} {vs : List Value} {n : Nat} {u : Tok} {v : Value} {Q : Value → Shared → Prop} (N : News h₀ L s.heap news) (hm : (l, listOf vs.toArray n) ∈ news)
    (hx : vs[vs.length - 1]? = some v) (h : Q v s)
    (hs : subscripted slice false (.ref l) (.int (-1) u) = operate [.ref l, .int (-1) u] (getItem (.ref l) (.int (-1) u)) := by with_unfolding_all rfl) :
    wpAny (model prog w) A (subscriptTail value slice (.ref l) (.int (-1) u)) Q E s := by
  have hl : s.heap.IsList l vs.toArray := ⟨_, (N _ hm).1, rfl, _, rfl⟩
  have hlt : vs.length - 1 < vs.length := (List.getElem?_eq_some_iff.mp hx).1
  refine tail_any hl.typeIs slot_list_getitem.lookup (wpAny_getItem_list_neg hl (by decide) ?_ (by decide) ?_ h) hs
  · rw [List.size_toArray]; omega
  · rw [List.size_toArray, show ((-1 : Int) + (vs.length : Int)).toNat = vs.length - 1 by omega]
    simpa using hx
theorem last_at {l : List Value} {a : Value} : (l ++ [a])[(l ++ [a]).length - 1]? = some a := by simp
end
theorem rng_size {d : Int} (h : 0 ≤ d) : Builtin.Range.rangeSize 0 d 1 = ((d.toNat : Nat) : Int) := by
  rw [rangeSize_one]; split <;> omega
theorem neV {l : List (Addr × Obj)} {P q : Addr} {o : Obj} (h : ∀ p ∈ l, p.1 ≠ P) (hm : (q, o) ∈ l) : q ≠ P := h _ hm
theorem Cut.uz {w : World} {f : Addr} {vs : List Value} {d u : Nat} {E : List (Addr × Obj)} {D : Type} {Post : D → Prop} {V : D → Value} {E' : D → List (Addr × Obj)}
    {mean : ExcName → Option Value} {mg mb : Str → Option Value} {dp un : Nat} {gd : Option (List Code)} {cn : Str} {cs : Scope} {a : Addr} {ccd : Value} {cl : List (Str × Addr)} {outer : List Env} {A₀ : Around} {base h₀ : Heap} {L : Addr} {m : Str → Option Value} {s : Shared}
    {Q X : Value → Shared → Prop} {news : List (Addr × Obj)}
    (B : Below A₀ base outer h₀) (F : Fr h₀ L s.heap m) (X₀ : (Mine.K w.params).In h₀) (N : News h₀ L s.heap news) (hE : ∀ q ∈ E, q ∈ news) (T : Top VW LO mean mg mb h₀) (hk : cs.kind = .function) (hd : dp + d < recursionLimit) (hu : un + u < cLine) (C : Cut w f vs d u E Post V E')
    (ret : ∀ x h' tk', Post x → Fr h₀ L h' m → News h₀ L h' (E' x) → Q (V x) { s with heap := h', toks := tk' }) :
    wpAny (model PySem.Challenge.rw_sa0162_01.row.prog w) (ktrTop dp un gd cn cs L a ccd cl outer) (call (.ref f) vs) Q X s := C.use B F X₀ N hE T hk hd hu ret
local macro_rules | `(tactic| walk_at "S") => `(tactic| repeat (first | exact sub_self | refine sub_tail ?_))
local macro_rules | `(tactic| walk_at "M") => `(tactic| first | assumption | (refine .mono (by assumption) ?_; walk_at "S"))
local macro_rules | `(tactic| walk_at "N") => `(tactic| first | assumption | k_ne | exact neV (by assumption) (by assumption))
local macro_rules | `(tactic| walk_at "A") => `(tactic| repeat (first | assumption | exact List.forall_mem_nil _ | refine List.forall_mem_cons.mpr ⟨by k_ne, ?_⟩))
local macro_rules | `(tactic| walk_at "R") => `(tactic| first | exact rfl | assumption)
local macro_rules | `(tactic| walk_at "O") => `(tactic| first | assumption | decide | omega | decide +kernel)
local macro_rules | `(tactic| walk_at "E") => `(tactic| first | assumption | omega | decide +kernel)
local macro_rules | `(tactic| walk_at "L") => `(tactic| ((try simp only [List.length_append, List.length_cons, List.length_nil, List.length_set]); first | exact lenB (by assumption) rfl | exact lenA (by assumption) rfl | omega))
local macro_rules | `(tactic| walk_at "W") => `(tactic| with_unfolding_all rfl)
local macro_rules | `(tactic| walk_at "Z") => `(tactic| ((try dsimp only); (try k_fold)))
local macro_rules | `(tactic| walk_at "ent") => `(tactic| (refine' enter (by k_asm) (by k_asm) (by k_asm) (by k_asm) (by k_asm) rfl rfl (by walk_at "R") (by k_is) (by k_is) (by ktr_room) (by first | with_reducible exact bindsN0 (by k_dflt exact rfl) | with_reducible exact bindsN1 (by k_dflt exact rfl) (by k_dflt exact rfl) | with_reducible exact bindsN2 (by k_dflt exact rfl) (by k_dflt exact rfl) | with_reducible exact bindsN3 (by k_dflt exact rfl) (by k_dflt exact rfl) | with_reducible exact bindsN4 (by k_dflt exact rfl) (by k_dflt exact rfl) | exact BindsTo.of_eq rfl | exact binds_K (by k_in) rfl (by k_is) rfl rfl rfl) (by exact locs rfl) ?_ rfl rfl rfl (by decide); k_whole; intro g' L' h' tke FG' F' N' B' X' T' ev' A'; (try dsimp only); (try k_lift B'); (try k_fold)))
local macro_rules | `(tactic| walk_at "subscriptTail") => `(tactic| (k_here; (with_reducible show wpAny _ _ (subscriptTail _ _ (Value.ref _) (Value.int (-1) _)) _ _ _); (with_unfolding_all refine' item_last (by assumption) (by k_mem) (by first | assumption | exact last_at) ?_ (by walk_at "W"); k_whole)))
local macro_rules | `(tactic| k_all) => `(tactic| first | assumption | exact allNe_lt (by assumption))
local macro_rules | `(tactic| k_mem) => `(tactic| assumption)
local macro_rules | `(tactic| walk_at "subscriptTail") => `(tactic| (k_here; (with_reducible show wpAny _ _ (subscriptTail _ _ (Value.ref _) (Value.int _ _)) _ _ _); (with_unfolding_all refine' item_led ?k0 ?k1 ?k2 ?k3 ?k4 ?_ ?k6; (case k0 => assumption); (case k1 => k_mem); (case k4 => assumption); (case k2 => walk_at "O"); (case k3 => walk_at "O"); (case k6 => walk_at "W"); k_whole)))
local macro_rules | `(tactic| walk_at "exec While") => `(tactic| (k_here; k_dflt (refine whl_start 10 ?_)))
local macro_rules | `(tactic| walk_at "compareOp Eq ref ref") => `(tactic| (k_here; k_dflt (first | (refine pair_eq_same (by k_asm) (by k_mem) (by k_mem) (by ktr_units) ?_) | (refine pair_eq_tag (by k_asm) (by k_mem) (by k_mem) (by ktr_units) (by decide) ?_) | (refine pair_eq_val (by k_asm) (by k_mem) (by k_mem) (by ktr_units) (by assumption) ?_))))
local macro_rules | `(tactic| walk_at "call ref") => `(tactic| (k_here; refine wpAny_call ?_; k_dflt (walk_at "ent")))
local macro_rules | `(tactic| walk_at "call ref") => `(tactic| (k_here; k_dflt (refine' call_cls (by k_asm) (by k_asm) (by k_asm) (by k_is) (by k_is) (by k_is) ?_; k_whole; intro x' d' h' F' N' l1 l2; (try k_lt l1); (try k_lt2 l2); (try k_sweep); walk_at "ent")))
local macro_rules | `(tactic| walk_at "setItem ref int") => `(tactic| (k_here; k_dflt (refine' set_led (by k_asm) (by k_asm) (by k_upd) (by omega) (by walk_at "L") (by omega) ?_; k_whole); intro h' F' N'; (try k_sweep)))
local macro_rules | `(tactic| walk_at "call builtin:len") => `(tactic| (k_here; (with_reducible show wpAny _ _ (call (Value.builtin "len") [Value.ref _]) _ _ _); k_dflt (refine' len_led (by k_asm) (by k_mem) (by walk_at "L") ?_; k_whole)))
local macro_rules | `(tactic| walk_at "WhlIf") => `(tactic| (first | refine WhlIf.no (decide_eq_false (by (try simp only [List.length_append, List.length_cons, List.length_nil, List.length_set]); omega)) ?_ | refine WhlIf.yes (decide_eq_true (by (try simp only [List.length_append, List.length_cons, List.length_nil, List.length_set]); omega)) ?_))
local macro_rules | `(tactic| walk_at "call builtin:list.append") => `(tactic| (k_here; k_dflt (refine' append_led (by k_asm) (by k_asm) (by k_upd) (by walk_at "L") ?_; k_whole); intro h' F' N'; (try k_sweep)))
local macro_rules | `(tactic| walk_at "room") => `(tactic| first | exact room0 (by assumption) rfl | exact room1 (by assumption) rfl | exact room2 (by assumption) rfl | exact room3 (by assumption) rfl | exact room4 (by assumption) rfl | exact room5 (by assumption) rfl)
local macro_rules | `(tactic| ktr_room) => `(tactic| ((try dsimp +zetaDelta only [depth_under_make, depth_under_kw, depth_in1, depth_deeper, depth_caller, units_in1, units_deeper, Around.mark_units, units_caller, ktrTop]); walk_at "room"))
local macro_rules | `(tactic| ktr_units) => `(tactic| ((try dsimp +zetaDelta only [depth_under_make, depth_under_kw, depth_in1, depth_deeper, depth_caller, units_in1, units_deeper, Around.mark_units, units_caller, ktrTop]); walk_at "room"))
local macro_rules | `(tactic| k_lt $h:ident) => `(tactic| replace $h := allLt_of $h)
local macro_rules | `(tactic| walk_at "in") => `(tactic| repeat (first | with_reducible exact List.mem_cons_self | refine List.mem_cons_of_mem _ ?_))
local macro_rules | `(tactic| k_ne) => `(tactic| first | with_reducible assumption | (refine Ne.symm ?_; with_reducible assumption) | exact neL (by with_reducible assumption) | exact neG (by with_reducible assumption) | exact neA (by with_reducible assumption) (by walk_at "in") | exact neB (by with_reducible assumption) (by walk_at "in") | ((try simp only [AllLt, and_true] at *); refine neN ?_; (try dsimp only); omega))
local macro_rules | `(tactic| cell_enter) => `(tactic| (walk_at "ent"))
local macro_rules | `(tactic| walk_at "execs cons") => `(tactic| (k_here; first | k_gentoks | (refine execs_consF ?_; intro qk9)))
section Sec1
/-! S19 -/
local macro_rules | `(tactic| walk_at "getMethod ref") => `(tactic| (k_here; (with_reducible show wpAny _ _ (getMethod (Value.ref _) (Str.ofString "get") _) _ _ _); k_dflt (refine kdg_method (knd := PySem.strKind _ _) (by k_asm) (by k_mem) (by assumption) ?_)))
local macro_rules | `(tactic| walk_at "call builtin:dict.get") => `(tactic| (k_here; k_dflt (refine kdg_get2 (knd := PySem.strKind _ _) (by k_asm) (by k_mem) (by assumption) (by assumption) (strKind_is _ _ _ _) _ (by assumption) ?_; (try dsimp only [Option.getD]))))
local macro_rules | `(tactic| walk_at "setItem ref str") => `(tactic| (k_here; k_dflt (refine' kda_set (knd := PySem.strKind _ _) (by k_asm) (by k_asm) (by k_updF) (by assumption) (by exact strKind_is _ _ _ _) (by rw [sizeLine_eq]; omega) ?_; k_whole; intro h' o' F' N' hd'; (try dsimp only at N'))))
structure AtD where
  v : Int
  t : Tok
  ts : List Value
  n : Nat
  o : Obj
  kvs : List (Str × Value)
theorem atom_found (w : World) (Y : Addr) (S : Sy) (oN : Obj) (kvs : List (Str × Value)) (k : Str) (tk : Tok) (i : Int) (ti : Tok) (rest : List (Addr × Obj)) (h1 : (Y, instObj 154 S.D) ∈ rest) (h2 : (S.D, symsD w.params S) ∈ rest) (h3 : (S.AN, oN) ∈ rest) (hD : oN.IsDictOf (strK w) kvs) (lo : (S.AN == sysModules) = false)
    (hv : valueAt kvs k = some (.int i ti)) (hi : 0 ≤ i) :
    Cut w 88 [.ref Y, .str k tk] 5 100 rest (fun _ : Unit => True) (fun _ => .int i ti) (fun _ => rest) := by
  unfold Cut; k_fill; intro mean mg mb dp un gd cn cs a ccd cl outer A₀ base h₀ L m s Q Xx B F XX N TT hks hd hu hret
  refine wpAny_call ?_
  k_dflt cell_enter
  repeat' (first | (k_unfold; (try dsimp only)) | (k_end; wrow_close) | walk1 | (dsimp only; walk1) | (leave1; try dsimp only) | fail "no step")
  all_goals first | exact hret () _ _ trivial (by k_asm) (by k_asm) | walk_report
theorem atom_new (w : World) (Y : Addr) (S : Sy) (oN : Obj) (kvs : List (Str × Value)) (k : Str) (tk : Tok) (ts : List Value) (nt : Nat) (rest : List (Addr × Obj)) (h1 : (Y, instObj 154 S.D) ∈ rest) (h2 : (S.D, symsD w.params S) ∈ rest) (hD : oN.IsDictOf (strK w) kvs) (lo : (S.AN == sysModules) = false)
    (hr1 : ∀ p ∈ rest, p.1 ≠ S.TL) (hr2 : ∀ p ∈ rest, p.1 ≠ S.AN) (hne : S.TL ≠ S.AN) (hl : ts.length ≤ 1000) (hk : kvs.length ≤ 1000)
    (hv : valueAt kvs k = none) :
    Cut w 88 [.ref Y, .str k tk] 5 100 ((S.TL, listOf ts.toArray nt) :: (S.AN, oN) :: rest) (fun x : AtD => x.v = ts.length ∧ x.ts = ts ++ [.str k tk] ∧ x.o.IsDictOf (strK w) x.kvs ∧ x.kvs = stored kvs k (.int ts.length x.t)) (fun x => .int x.v x.t) (fun x => (S.TL, listOf x.ts.toArray x.n) :: (S.AN, x.o) :: rest) := by
  have nn := neN hne
  unfold Cut; k_fill; intro mean mg mb dp un gd cn cs a ccd cl outer A₀ base h₀ L m s Q Xx B F XX N TT hks hd hu hret
  refine wpAny_call ?_
  k_dflt cell_enter
  repeat' (first | (k_unfold; (try dsimp only)) | (k_end; wrow_close) | walk1 | (dsimp only; walk1) | (leave1; try dsimp only) | fail "no step")
  all_goals first | exact hret ⟨_, _, _, _, _, _⟩ _ _ ⟨rfl, rfl, by assumption, rfl⟩ (by k_asm) (by k_asm) | walk_report
def KV (kvs : List (Str × Value)) : Prop := ∀ k v, valueAt kvs k = some v → ∃ i t, v = .int i t ∧ 0 ≤ i
theorem stored_new {kvs : List (Str × Value)} {k : Str} {v : Value} (h : valueAt kvs k = none) : stored kvs k v = kvs ++ [(k, v)] := by
  unfold stored
  rw [if_neg]
  intro e
  rw [List.any_eq_true] at e
  (first | (refine and3 e ?_; (try clear e); intro x hx hk) | obtain ⟨x, hx, hk⟩ := e)
  unfold valueAt at h
  rw [Option.map_eq_none_iff, List.find?_eq_none] at h
  exact h x hx hk
theorem valueAt_app {kvs : List (Str × Value)} {k k' : Str} {v : Value} (h : valueAt kvs k = none) : valueAt (kvs ++ [(k, v)]) k' = if k = k' then some v else valueAt kvs k' := by
  unfold valueAt at *
  rw [List.find?_append]
  by_cases e : k = k'
  · subst e
    rw [if_pos rfl]
    rw [Option.map_eq_none_iff] at h
    rw [h]; simp
  · rw [if_neg e]
    have : List.find? (fun kv : Str × Value => decide (kv.1 = k')) [(k, v)] = none := by simp [e]
    rw [this]
    simp
theorem KV.stored {kvs : List (Str × Value)} {k : Str} {i : Int} {t : Tok} (K : KV kvs) (h : valueAt kvs k = none) (hi : 0 ≤ i) : KV (PySem.stored kvs k (.int i t)) := by
  rw [stored_new h]
  intro k' v' e
  rw [valueAt_app h] at e
  split at e
  · cases e; exact ⟨i, t, rfl, hi⟩
  · exact K k' v' e
abbrev AtP (w : World) (ts : List Value) (kvs : List (Str × Value)) (k : Str) (x : AtD) : Prop := 0 ≤ x.v ∧ x.ts.length ≤ ts.length + 1 ∧ x.o.IsDictOf (strK w) x.kvs ∧ KV x.kvs ∧ x.kvs.length ≤ kvs.length + 1 ∧ valueAt x.kvs k = some (.int x.v x.t)
theorem atom (w : World) (Y : Addr) (S : Sy) (oN : Obj) (kvs : List (Str × Value)) (k : Str) (tk : Tok) (ts : List Value) (nt : Nat) (rest : List (Addr × Obj)) (h1 : (Y, instObj 154 S.D) ∈ rest) (h2 : (S.D, symsD w.params S) ∈ rest) (hD : oN.IsDictOf (strK w) kvs) (lo : (S.AN == sysModules) = false)
    (hr1 : ∀ p ∈ rest, p.1 ≠ S.TL) (hr2 : ∀ p ∈ rest, p.1 ≠ S.AN) (hne : S.TL ≠ S.AN) (hl : ts.length ≤ 1000) (hk : kvs.length ≤ 1000) (K : KV kvs) :
    Cut w 88 [.ref Y, .str k tk] 5 100 ((S.TL, listOf ts.toArray nt) :: (S.AN, oN) :: rest) (AtP w ts kvs k) (fun x => .int x.v x.t) (fun x => (S.TL, listOf x.ts.toArray x.n) :: (S.AN, x.o) :: rest) := by
  cases hv : valueAt kvs k with
  | none =>
    refine (atom_new w Y S oN kvs k tk ts nt rest h1 h2 hD lo hr1 hr2 hne hl hk hv).conseq fun x hx => ⟨x, ?_, rfl, fun _ h => h⟩
    (first | (refine and4 hx ?_; (try clear hx); intro a1 a2 a3 a4) | obtain ⟨a1, a2, a3, a4⟩ := hx)
    refine ⟨by omega, by rw [a2]; simp, a3, ?_, ?_, ?_⟩
    · rw [a4]; exact K.stored hv (by omega)
    · rw [a4]; exact stored_length_le _ _ _
    · rw [a4, stored_new hv, valueAt_app hv, if_pos rfl, a1]
  | some v =>
    obtain ⟨i, ti, rfl, hi⟩ := K _ _ hv
    refine (atom_found w Y S oN kvs k tk i ti _ (.tail _ (.tail _ h1)) (.tail _ (.tail _ h2)) (.tail _ (.head _)) hD lo hv hi).conseq fun _ _ => ⟨⟨i, ti, ts, nt, oN, kvs⟩, ⟨hi, by simp, hD, K, by simp, hv⟩, rfl, fun _ h => h⟩
end Sec1
section Sec2
/-! S20 -/
local macro_rules | `(tactic| walk_at "getMethod ref") => `(tactic| (k_here; (with_reducible show wpAny _ _ (getMethod (Value.ref _) (Str.ofString "get") _) _ _ _); k_dflt (refine' fd_method ?k1 ?k2 ?k3 ?k4 ?_; (case k1 => k_asm); (case k4 => assumption); (case k2 => k_mem); (case k3 => repeat (first | assumption | refine sub_tail ?_)); k_whole)))
local macro_rules | `(tactic| walk_at "call builtin:dict.get") => `(tactic| (k_here; k_dflt (refine' fd_get ?k1 ?k2 ?k3 ?k4 ?k5 ?k6 ?k7 ?k8 ?_; (case k1 => k_asm); (case k4 => assumption); (case k2 => k_mem); (case k3 => repeat (first | assumption | refine sub_tail ?_)); (case k5 => assumption); (case k6 => k_mem); (case k7 => exact pair_key); (case k8 => ktr_units); k_whole; intro i9 t9)))
local macro_rules | `(tactic| walk_at "setItem ref ref") => `(tactic| (k_here; k_dflt (refine' fd_set ?k1 ?k2 ?k3 (sub_cons ?k4 ?k5) (FD.more ?k6) (List.Mem.head _) ?k7 ?k8 ?k9 ?_; (case k1 => k_asm); (case k2 => k_asm); (case k6 => assumption); (case k3 => k_updF); (case k4 => k_mem); (case k5 => repeat (first | assumption | refine sub_tail ?_)); (case k7 => exact pair_key); (case k8 => ktr_units); (case k9 => omega); k_whole; intro h' o' xs9 F' N' fd9 le9; (try dsimp only at N'); (try k_sweep))))
local macro_rules | `(tactic| walk_at "d1") => `(tactic| skip)
structure FuD where
  v : Int
  t : Tok
  k : Addr
  n : Nat
  fs : List Value
  nf : Nat
  o : Obj
  xs : List (List Int × Addr × Value)
theorem functor (w : World) (Y : Addr) (S : Sy) (a b : Int) (ta tb : Tok) (fs : List Value) (nf : Nat) (oF : Obj) (xs : List (List Int × Addr × Value)) (KS rest : List (Addr × Obj)) (h1 : (Y, instObj 154 S.D) ∈ rest) (h2 : (S.D, symsD w.params S) ∈ rest) (hKS : ∀ p ∈ KS, p ∈ rest) (T : FD w oF KS xs) (lo : (S.FN == sysModules) = false)
    (hr1 : ∀ p ∈ rest, p.1 ≠ S.FL) (hr2 : ∀ p ∈ rest, p.1 ≠ S.FN) (hne : S.FL ≠ S.FN) (hl : fs.length ≤ 1000) (hk : xs.length ≤ 1000) :
    Cut w 102 [.ref Y, .int a ta, .int b tb] 5 100 ((S.FL, listOf fs.toArray nf) :: (S.FN, oF) :: rest) (fun x : FuD => x.fs.length ≤ fs.length + 1 ∧ FD w x.o ((x.k, tup #[.int a ta, .int b tb] x.n) :: KS) x.xs ∧ x.xs.length ≤ xs.length + 1 ∧ S.FL < x.k ∧ S.FN < x.k ∧ ∀ p ∈ rest, p.1 < x.k) (fun x => .int x.v x.t) (fun x => (x.k, tup #[.int a ta, .int b tb] x.n) :: (S.FL, listOf x.fs.toArray x.nf) :: (S.FN, x.o) :: rest) := by
  have nn := neN hne
  unfold Cut; k_fill; intro mean mg mb dp un gd cn cs a ccd cl outer A₀ base h₀ L m s Q Xx B F XX N TT hks hd hu hret
  refine wpAny_call ?_
  k_dflt cell_enter
  repeat' (first | (k_unfold; (try dsimp only)) | (k_end; wrow_close) | walk1 | (dsimp only; walk1) | (leave1; try dsimp only) | fail "no step")
  all_goals (have N9 := ‹News h₀ L _ _›)
  all_goals first
    | exact hret ⟨_, _, _, _, fs, _, _, xs⟩ _ _ ⟨Nat.le_succ _, FD.more T, Nat.le_succ _, lt3a (by assumption)⟩ (by k_asm) N9
    | exact hret ⟨_, _, _, _, fs ++ [_], _, _, _⟩ _ _ ⟨(by rw [List.length_append]; exact Nat.le_refl _), by assumption, by assumption, lt3a (by assumption)⟩ (by k_asm) N9
    | walk_report
end Sec2
section Sec3
/-! S21 -/
theorem Cut.perm {w : World} {f : Addr} {vs : List Value} {d u : Nat} {E E₂ : List (Addr × Obj)} {D : Type} {Post : D → Prop} {V : D → Value} {E' E₂' : D → List (Addr × Obj)}
    (C : Cut w f vs d u E Post V E') (h1 : ∀ q ∈ E, q ∈ E₂) (h2 : ∀ x, ∀ q ∈ E₂' x, q ∈ E' x) : Cut w f vs d u E₂ Post V E₂' := by
  intro mean mg mb dp un gd cn cs a ccd cl outer A₀ base h₀ L m s Q Xx B F XX N T hks hd hu hret
  exact C.use B F XX N h1 T hks hd hu fun x h' tk' hp F' N' => hret x h' tk' hp F' fun q hq => N' q (h2 x q hq)
structure SyOk (S : Sy) (rest : List (Addr × Obj)) : Prop where
  n1 : S.TL ≠ S.AN
  n2 : S.TL ≠ S.FL
  n3 : S.TL ≠ S.FN
  n4 : S.AN ≠ S.FL
  n5 : S.AN ≠ S.FN
  n6 : S.FL ≠ S.FN
  r1 : ∀ p ∈ rest, p.1 ≠ S.TL
  r2 : ∀ p ∈ rest, p.1 ≠ S.AN
  r3 : ∀ p ∈ rest, p.1 ≠ S.FL
  r4 : ∀ p ∈ rest, p.1 ≠ S.FN
theorem all2 {P : Addr} {a b : Addr × Obj} {l : List (Addr × Obj)} (h1 : a.1 ≠ P) (h2 : b.1 ≠ P) (h : ∀ p ∈ l, p.1 ≠ P) : ∀ p ∈ a :: b :: l, p.1 ≠ P := fun p hp => by
  rcases List.mem_cons.mp hp with rfl | hp
  · exact h1
  rcases List.mem_cons.mp hp with rfl | hp
  · exact h2
  · exact h p hp
theorem swap4 {a b c d : Addr × Obj} {l : List (Addr × Obj)} : ∀ q ∈ a :: b :: c :: d :: l, q ∈ c :: d :: a :: b :: l := by
  repeat (first | exact sub_self | refine List.forall_mem_cons.mpr ⟨by repeat (first | exact List.Mem.head _ | refine List.Mem.tail _ ?_), ?_⟩ | refine sub_tail ?_)
theorem functor4 (w : World) (Y : Addr) (S : Sy) (a b : Int) (ta tb : Tok) (fs : List Value) (nf : Nat) (oF oT oA : Obj) (xs : List (List Int × Addr × Value)) (KS rest : List (Addr × Obj)) (h1 : (Y, instObj 154 S.D) ∈ rest) (h2 : (S.D, symsD w.params S) ∈ rest) (hKS : ∀ p ∈ KS, p ∈ rest) (T : FD w oF KS xs) (lo : (S.FN == sysModules) = false)
    (hr1 : ∀ p ∈ rest, p.1 ≠ S.FL) (hr2 : ∀ p ∈ rest, p.1 ≠ S.FN) (ok : SyOk S rest) (hl : fs.length ≤ 1000) (hk : xs.length ≤ 1000) (_ : True) :
    Cut w 102 [.ref Y, .int a ta, .int b tb] 5 100 ((S.TL, oT) :: (S.AN, oA) :: (S.FL, listOf fs.toArray nf) :: (S.FN, oF) :: rest) (fun x : FuD => x.fs.length ≤ fs.length + 1 ∧ FD w x.o ((x.k, tup #[.int a ta, .int b tb] x.n) :: KS) x.xs ∧ x.xs.length ≤ xs.length + 1 ∧ S.FL < x.k ∧ S.FN < x.k ∧ S.TL < x.k ∧ S.AN < x.k ∧ ∀ p ∈ rest, p.1 < x.k) (fun x => .int x.v x.t)
      (fun x => (x.k, tup #[.int a ta, .int b tb] x.n) :: (S.TL, oT) :: (S.AN, oA) :: (S.FL, listOf x.fs.toArray x.nf) :: (S.FN, x.o) :: rest) := by
  have C := functor w Y S a b ta tb fs nf oF xs KS ((S.TL, oT) :: (S.AN, oA) :: rest) (.tail _ (.tail _ h1)) (.tail _ (.tail _ h2)) (fun p hp => .tail _ (.tail _ (hKS p hp))) T lo (all2 ok.n2 ok.n4 hr1) (all2 ok.n3 ok.n5 hr2) ok.n6 hl hk
  refine Cut.conseq (C.perm (E₂' := fun x => (x.k, tup #[.int a ta, .int b tb] x.n) :: (S.TL, oT) :: (S.AN, oA) :: (S.FL, listOf x.fs.toArray x.nf) :: (S.FN, x.o) :: rest) swap4 (fun x q hq => ?_)) (fun x hx => ⟨x, ⟨hx.1, hx.2.1, hx.2.2.1, hx.2.2.2.1, hx.2.2.2.2.1, hx.2.2.2.2.2 _ (.head _), hx.2.2.2.2.2 _ (.tail _ (.head _)), fun p hp => hx.2.2.2.2.2 p (.tail _ (.tail _ hp))⟩, rfl, fun _ h => h⟩)
  rcases List.mem_cons.mp hq with rfl | hq
  · exact .head _
  · exact .tail _ (swap4 q hq)
structure FnD where
  v : Int
  t : Tok
  at_ : AtD
  fu : FuD
  i : Int
  ti : Tok
abbrev FnP (w : World) (S : Sy) (ts : List Value) (kvs : List (Str × Value)) (fs : List Value) (xs : List (List Int × Addr × Value)) (KS rest : List (Addr × Obj)) (b : Int) (tb : Tok) (x : FnD) : Prop :=
  x.at_.ts.length ≤ ts.length + 1 ∧ x.at_.o.IsDictOf (strK w) x.at_.kvs ∧ KV x.at_.kvs ∧ x.at_.kvs.length ≤ kvs.length + 1 ∧ x.fu.fs.length ≤ fs.length + 1 ∧ FD w x.fu.o ((x.fu.k, tup #[.int x.i x.ti, .int b tb] x.fu.n) :: KS) x.fu.xs ∧ x.fu.xs.length ≤ xs.length + 1 ∧ S.FL < x.fu.k ∧ S.FN < x.fu.k ∧ S.TL < x.fu.k ∧ S.AN < x.fu.k ∧ ∀ p ∈ rest, p.1 < x.fu.k
theorem func (w : World) (Y : Addr) (S : Sy) (oN : Obj) (kvs : List (Str × Value)) (k : Str) (tk : Tok) (ts : List Value) (nt : Nat) (b : Int) (tb : Tok) (fs : List Value) (nf : Nat) (oF : Obj) (xs : List (List Int × Addr × Value)) (KS rest : List (Addr × Obj)) (h1 : (Y, instObj 154 S.D) ∈ rest) (h2 : (S.D, symsD w.params S) ∈ rest) (hD : oN.IsDictOf (strK w) kvs) (lo : (S.AN == sysModules) = false) (K0 : KV kvs)
    (hKS : ∀ p ∈ KS, p ∈ rest) (T : FD w oF KS xs) (lo2 : (S.FN == sysModules) = false) (ok : SyOk S rest) (hl : ts.length ≤ 500) (hk : kvs.length ≤ 500) (hl2 : fs.length ≤ 500) (hk2 : xs.length ≤ 500) :
    Cut w 109 [.ref Y, .str k tk, .int b tb] 10 300 ((S.TL, listOf ts.toArray nt) :: (S.AN, oN) :: (S.FL, listOf fs.toArray nf) :: (S.FN, oF) :: rest) (FnP w S ts kvs fs xs KS rest b tb) (fun x => .int x.v x.t)
      (fun x => (x.fu.k, tup #[.int x.i x.ti, .int b tb] x.fu.n) :: (S.TL, listOf x.at_.ts.toArray x.at_.n) :: (S.AN, x.at_.o) :: (S.FL, listOf x.fu.fs.toArray x.fu.nf) :: (S.FN, x.fu.o) :: rest) := by
  have n1 := neN ok.n1; have n2 := neN ok.n2; have n3 := neN ok.n3; have n4 := neN ok.n4; have n5 := neN ok.n5; have n6 := neN ok.n6; have r1 := ok.r1; have r2 := ok.r2; have r3 := ok.r3; have r4 := ok.r4
  have tt := True.intro
  unfold Cut; k_fill; intro mean mg mb dp un gd cn cs a ccd cl outer A₀ base h₀ L m s Q Xx B F XX N TT hks hd hu hret
  refine wpAny_call ?_
  k_dflt cell_enter
  repeat' (first | (k_here; (with_reducible show wpAny _ _ (call (Value.ref 102) _ _) _ _ _); k_dflt (refine' Cut.uz (by k_asm) (by k_asm) (by k_asm) (by k_asm) sub_self (by k_asm) (by walk_at "R") (by ktr_room) (by ktr_units) (functor4 _ _ _ _ _ _ _ _ _ _ _ _ _ _ _ (by k_mem) (by k_mem) (by assumption) (by assumption) (by assumption) (by assumption) (by assumption) (by assumption) (by omega) (by omega) (by assumption)) ?_; k_whole; intro x9z h9z tk9z p9z F9z N9z; ((first | (refine and8 p9z ?_; (try clear p9z); intro qa9z qb9z qc9z qd9z qe9z qf9z qg9z qh9z) | obtain ⟨qa9z, qb9z, qc9z, qd9z, qe9z, qf9z, qg9z, qh9z⟩ := p9z)); (try dsimp only at N9z); walk_at "Z")) | (k_here; (with_reducible show wpAny _ _ (call (Value.ref 88) _ _) _ _ _); k_dflt (refine' Cut.uz (by k_asm) (by k_asm) (by k_asm) (by k_asm) sub_self (by k_asm) (by walk_at "R") (by ktr_room) (by ktr_units) (atom _ _ _ _ _ _ _ _ _ _ (by k_mem) (by k_mem) (by assumption) (by assumption) (by k_all) (by k_all) (by assumption) (by omega) (by omega) (by assumption)) ?_; k_whole; intro x9z h9z tk9z p9z F9z N9z; ((first | (refine and6 p9z ?_; (try clear p9z); intro pa9z pb9z pc9z pd9z pe9z pf9z) | obtain ⟨pa9z, pb9z, pc9z, pd9z, pe9z, pf9z⟩ := p9z)); (try dsimp only at N9z); walk_at "Z")) | (k_unfold; (try dsimp only)) | (k_end; wrow_close) | walk1 | (dsimp only; walk1) | (leave1; try dsimp only) | fail "no step")
  all_goals (have N9 := ‹News h₀ L _ _›)
  all_goals first
    | exact hret ⟨_, _, _, _, _, _⟩ _ _ ⟨by assumption, by assumption, by assumption, by assumption, by assumption, by assumption, by assumption, by assumption, by assumption, by assumption, by assumption, by assumption⟩ (by k_asm) N9
    | walk_report
end Sec3
/-! FE -/
noncomputable def isStrC : Expr → Bool
  | .Constant (.str _) _ _ => true
  | _ => false
noncomputable def isIntC : Expr → Bool
  | .Constant (.int _) _ _ => true
  | _ => false
noncomputable def isRowC : Expr → Bool
  | .Tuple [a, b] _ _ => isStrC a && isIntC b
  | _ => false
theorem isStrC_of {e : Expr} (h : isStrC e = true) : ∃ x k p, e = .Constant (.str x) k p := by
  unfold isStrC at h
  split at h
  · exact ⟨_, _, _, rfl⟩
  · cases h
theorem isIntC_of {e : Expr} (h : isIntC e = true) : ∃ x k p, e = .Constant (.int x) k p := by
  unfold isIntC at h
  split at h
  · exact ⟨_, _, _, rfl⟩
  · cases h
theorem isRowC_of {e : Expr} (h : isRowC e = true) : ∃ x k p y k' p' k2 p2, e = .Tuple [.Constant (.str x) k p, .Constant (.int y) k' p'] k2 p2 := by
  unfold isRowC at h
  split at h
  · obtain ⟨h1, h2⟩ := Bool.and_eq_true_iff.mp h
    obtain ⟨x, k, p, rfl⟩ := isStrC_of h1
    obtain ⟨y, k', p', rfl⟩ := isIntC_of h2
    exact ⟨_, _, _, _, _, _, _, _, rfl⟩
  · cases h
section
variable {M : Model} {A : Around} {E : Value → Shared → Prop} {env : Env} {pos : Pos} {h₀ : Heap} {L : Addr} {m : Str → Option Value}
theorem strs_eval : ∀ (es : List Expr) (s : Shared) (Q : List Value → Shared → Prop), es.all isStrC = true → (∀ vs tk, vs.length = es.length → (∀ v ∈ vs, ∃ x t, v = Value.str x t) → Q vs { s with toks := tk }) → wpAny M A (spliced (backTo pos (starEach es env))) Q E s
  | [], s, Q, _, h => args_nil (h [] s.toks rfl (fun _ h => nomatch h))
  | e :: es, s, Q, he, h => by
    obtain ⟨h1, h2⟩ := Bool.and_eq_true_iff.mp (List.all_cons.symm.trans he)
    obtain ⟨x, k, p, rfl⟩ := isStrC_of h1
    refine args_cons (wpAny_Constant_str ?_)
    refine strs_eval es _ _ h2 fun vs tk l q => ?_
    refine h (_ :: vs) tk (by simp [l]) fun v hv => ?_
    rcases List.mem_cons.mp hv with rfl | hv
    · exact ⟨_, _, rfl⟩
    · exact q v hv
theorem rows_eval {news : List (Addr × Obj)} : ∀ (es : List Expr) (s : Shared) (Q : List Value → Shared → Prop) (KS : List (Addr × Obj)), es.all isRowC = true → Fr h₀ L s.heap m → News h₀ L s.heap (KS ++ news) → (∀ p ∈ news, ∀ k ∈ KS, p.1 < k.1) →
    (∀ vs tk h' KS', Fr h₀ L h' m → News h₀ L h' (KS' ++ news) → (∀ p ∈ news, ∀ k ∈ KS', p.1 < k.1) → (∀ k ∈ KS, k ∈ KS') → vs.length = es.length → (∀ v ∈ vs, ∃ q x t i t' n, v = Value.ref q ∧ (q, ({ cls := .type "tuple", data := .seq #[.str x t, .int i t'] n } : Obj)) ∈ KS') → Q vs { s with heap := h', toks := tk }) → wpAny M A (spliced (backTo pos (starEach es env))) Q E s
  | [], s, Q, KS, _, F, N, L0, h => args_nil (h [] s.toks s.heap KS F N L0 (fun _ h => h) rfl (fun _ h => nomatch h))
  | e :: es, s, Q, KS, he, F, N, L0, h => by
    obtain ⟨h1, h2⟩ := Bool.and_eq_true_iff.mp (List.all_cons.symm.trans he)
    obtain ⟨x, k, p, y, k', p', k2, p2, rfl⟩ := isRowC_of h1
    refine args_cons (Tuple_ (args_cons (wpAny_Constant_str (args_cons (wpAny_Constant_int (args_nil (newTuple_N F N (fun h' F' N' => ?_) (by show 2 ≤ sizeLine; decide))))))))
    refine rows_eval es _ _ (_ :: KS) h2 F' N' (fun p hp k hk => ?_) fun vs tk h2 KS' F2 N2 L2 sub l q => ?_
    · rcases List.mem_cons.mp hk with rfl | hk
      · exact Heap.lt_size (N p (List.mem_append_right _ hp)).1
      · exact L0 p hp k hk
    · refine h (_ :: vs) tk h2 KS' F2 N2 L2 (fun k hk => sub k (.tail _ hk)) (by simp [l]) fun v hv => ?_
      rcases List.mem_cons.mp hv with rfl | hv
      · exact ⟨_, _, _, _, _, _, rfl, sub _ (.head _)⟩
      · exact q v hv
theorem rows_eval0 {news : List (Addr × Obj)} {es : List Expr} {s : Shared} {Q : List Value → Shared → Prop} (he : es.all isRowC = true) (F : Fr h₀ L s.heap m) (N : News h₀ L s.heap news)
    (h : ∀ vs tk h' KS, Fr h₀ L h' m → News h₀ L h' (KS ++ news) → (∀ p ∈ news, ∀ k ∈ KS, p.1 < k.1) → vs.length = es.length → (∀ v ∈ vs, ∃ q x t i t' n, v = Value.ref q ∧ (q, ({ cls := .type "tuple", data := .seq #[.str x t, .int i t'] n } : Obj)) ∈ KS) → Q vs { s with heap := h', toks := tk }) : wpAny M A (spliced (backTo pos (starEach es env))) Q E s :=
  rows_eval es s Q [] he F N (fun _ _ _ h => nomatch h) fun vs tk h' KS F' N' l _ e p => h vs tk h' KS F' N' l e p
end
section Sec4
/-! S22 -/
theorem le_trans40 {vs : List Value} {es : List Expr} (h : vs.length = es.length) (k : es.length ≤ 40 := by decide) : vs.length ≤ 40 := h ▸ k
local macro_rules | `(tactic| walk_at "eval Tuple") => `(tactic| (k_here; refine Tuple_ ?_; with_reducible refine' strs_eval _ _ _ ?k1 ?_; (case k1 => kernel_rfl); intro vs9 tk9 l9 p9))
structure FaD where
  q : Addr
  vs : List Value
  n : Nat
  KS : List (Addr × Obj)
theorem fatoms (w : World) (rest : List (Addr × Obj)) :
    Cut w 60 [] 5 100 rest (fun x : FaD => (∀ p ∈ rest, p.1 < x.q) ∧ x.vs.length ≤ 40 ∧ ∀ v ∈ x.vs, ∃ y t, v = Value.str y t) (fun x => .ref x.q) (fun x => (x.q, tup x.vs.toArray x.n) :: rest) := by
  unfold Cut; k_fill; intro mean mg mb dp un gd cn cs a ccd cl outer A₀ base h₀ L m s Q Xx B F XX N TT hks hd hu hret
  refine wpAny_call ?_
  k_dflt cell_enter
  repeat' (first | (k_unfold; (try dsimp only)) | (k_end; wrow_close) | walk1 | (dsimp only; walk1) | (leave1; try dsimp only) | fail "no step")
  all_goals (rename List.length _ = List.length _ => e9)
  all_goals (have N9 := ‹News h₀ L _ _›)
  exact hret ⟨_, _, _, []⟩ _ _ ⟨(by first | assumption | exact tb_ltOf (by assumption)), le_trans40 e9, by assumption⟩ (by k_asm) N9
end Sec4
section Sec5
/-! S22b -/
local macro_rules | `(tactic| walk_at "eval Tuple") => `(tactic| (k_here; (with_reducible rename Fr _ _ _ _ => kF); (with_reducible rename News _ _ _ _ => kN); refine Tuple_ ?_; with_reducible refine' rows_eval0 ?k1 kF kN ?_; (case k1 => kernel_rfl); intro vs9 tk9 h9 KS9 F9 N9 l9 e9 p9; (try dsimp only)))
local macro_rules | `(tactic| walk_at "d2") => `(tactic| skip)
theorem ffuncs (w : World) (rest : List (Addr × Obj)) :
    Cut w 67 [] 5 100 rest (fun x : FaD => (∀ p ∈ rest, p.1 < x.q) ∧ x.vs.length ≤ 40 ∧ (∀ v ∈ x.vs, ∃ q y t i t' n, v = Value.ref q ∧ (q, tup #[.str y t, .int i t'] n) ∈ x.KS) ∧ (∀ p ∈ rest, ∀ k ∈ x.KS, p.1 < k.1)) (fun x => .ref x.q) (fun x => (x.q, tup x.vs.toArray x.n) :: (x.KS ++ rest)) := by
  unfold Cut; k_fill; intro mean mg mb dp un gd cn cs a ccd cl outer A₀ base h₀ L m s Q Xx B F XX N TT hks hd hu hret
  refine wpAny_call ?_
  k_dflt cell_enter
  repeat' (first | (k_unfold; (try dsimp only)) | (k_end; wrow_close) | walk1 | (dsimp only; walk1) | (leave1; try dsimp only) | fail "no step")
  all_goals (rename List.length _ = List.length _ => e9)
  all_goals (have N9 := ‹News h₀ L _ _›)
  all_goals first
    | exact hret ⟨_, _, _, _⟩ _ _ ⟨fun p hp => (by first | assumption | exact tb_ltOf (by assumption) : ∀ q ∈ _ ++ rest, q.1 < _) p (List.mem_append_right _ hp), le_trans40 e9, by assumption, by assumption⟩ (by k_asm) N9
    | (rw [e9]; decide)
end Sec5
section Sec6
/-! S23 -/
local macro_rules | `(tactic| walk_at "execs cons") => `(tactic| (k_here; first | k_gentoks | ((with_reducible refine wpAny_execs_cons ?_); try dsimp only)))
local macro_rules | `(tactic| walk_at "d3") => `(tactic| skip)
local macro_rules | `(tactic| walk_at "d4") => `(tactic| skip)
local macro_rules | `(tactic| walk_at "d5") => `(tactic| skip)
local macro_rules | `(tactic| walk_at "d6") => `(tactic| skip)
theorem pA {a b c d e f : Addr × Obj} {l : List (Addr × Obj)} : ∀ q ∈ f :: e :: a :: b :: c :: d :: l, q ∈ a :: b :: c :: d :: e :: f :: l := by
  repeat (first | exact sub_self | refine List.forall_mem_cons.mpr ⟨by repeat (first | exact List.Mem.head _ | refine List.Mem.tail _ ?_), ?_⟩ | refine sub_tail ?_)
theorem pA' {a b c d e f : Addr × Obj} {l : List (Addr × Obj)} : ∀ q ∈ a :: b :: c :: d :: e :: f :: l, q ∈ f :: e :: a :: b :: c :: d :: l := by
  repeat (first | exact sub_self | refine List.forall_mem_cons.mpr ⟨by repeat (first | exact List.Mem.head _ | refine List.Mem.tail _ ?_), ?_⟩ | refine sub_tail ?_)
theorem all4 {P : Addr} {a b c d : Addr × Obj} {l : List (Addr × Obj)} (h1 : a.1 ≠ P ∧ b.1 ≠ P ∧ c.1 ≠ P ∧ d.1 ≠ P) (h : ∀ p ∈ l, p.1 ≠ P) : ∀ p ∈ a :: b :: c :: d :: l, p.1 ≠ P := all2 h1.1 h1.2.1 (all2 h1.2.2.1 h1.2.2.2 h)
theorem atomP (w : World) (Y : Addr) (S : Sy) (oN : Obj) (kvs : List (Str × Value)) (k : Str) (tk : Tok) (ts : List Value) (nt : Nat) (i0 i1 i2 i3 : Addr × Obj) (rest : List (Addr × Obj)) (h0 : i0.1 ≠ S.TL ∧ i1.1 ≠ S.TL ∧ i2.1 ≠ S.TL ∧ i3.1 ≠ S.TL) (h0' : i0.1 ≠ S.AN ∧ i1.1 ≠ S.AN ∧ i2.1 ≠ S.AN ∧ i3.1 ≠ S.AN) (h1 : (Y, instObj 154 S.D) ∈ rest) (h2 : (S.D, symsD w.params S) ∈ rest) (hD : oN.IsDictOf (strK w) kvs) (lo : (S.AN == sysModules) = false)
    (hr1 : ∀ p ∈ rest, p.1 ≠ S.TL) (hr2 : ∀ p ∈ rest, p.1 ≠ S.AN) (hne : S.TL ≠ S.AN) (hl : ts.length ≤ 1000) (hk : kvs.length ≤ 1000) (K : KV kvs) :
    Cut w 88 [.ref Y, .str k tk] 5 100 (i0 :: i1 :: i2 :: i3 :: (S.AN, oN) :: (S.TL, listOf ts.toArray nt) :: rest) (AtP w ts kvs k) (fun x => .int x.v x.t) (fun x => i0 :: i1 :: i2 :: i3 :: (S.AN, x.o) :: (S.TL, listOf x.ts.toArray x.n) :: rest) :=
  Cut.perm (atom w Y S oN kvs k tk ts nt (i0 :: i1 :: i2 :: i3 :: rest) (.tail _ (.tail _ (.tail _ (.tail _ h1)))) (.tail _ (.tail _ (.tail _ (.tail _ h2)))) hD lo (all4 h0 hr1) (all4 h0' hr2) hne hl hk K) pA (fun _ => pA')
theorem pF {a b c d e f : Addr × Obj} {l : List (Addr × Obj)} : ∀ q ∈ f :: e :: d :: c :: a :: b :: l, q ∈ a :: b :: c :: d :: e :: f :: l := by
  repeat (first | exact sub_self | refine List.forall_mem_cons.mpr ⟨by repeat (first | exact List.Mem.head _ | refine List.Mem.tail _ ?_), ?_⟩ | refine sub_tail ?_)
theorem pF' {a b c d e f g : Addr × Obj} {l : List (Addr × Obj)} : ∀ q ∈ g :: a :: b :: c :: d :: e :: f :: l, q ∈ g :: f :: e :: d :: c :: a :: b :: l := by
  repeat (first | exact sub_self | refine List.forall_mem_cons.mpr ⟨by repeat (first | exact List.Mem.head _ | refine List.Mem.tail _ ?_), ?_⟩ | refine sub_tail ?_)
theorem funcP (w : World) (Y : Addr) (S : Sy) (oN : Obj) (kvs : List (Str × Value)) (k : Str) (tk : Tok) (ts : List Value) (nt : Nat) (b : Int) (tb : Tok) (fs : List Value) (nf : Nat) (oF : Obj) (xs : List (List Int × Addr × Value)) (i0 i1 : Addr × Obj) (KS rest : List (Addr × Obj)) (h1 : (Y, instObj 154 S.D) ∈ rest) (h2 : (S.D, symsD w.params S) ∈ rest) (hD : oN.IsDictOf (strK w) kvs) (lo : (S.AN == sysModules) = false) (K0 : KV kvs)
    (hKS : ∀ p ∈ KS, p ∈ rest) (T : FD w oF KS xs) (lo2 : (S.FN == sysModules) = false) (ok : SyOk S (i0 :: i1 :: rest)) (hl : ts.length ≤ 500) (hk : kvs.length ≤ 500) (hl2 : fs.length ≤ 500) (hk2 : xs.length ≤ 500) :
    Cut w 109 [.ref Y, .str k tk, .int b tb] 10 300 (i0 :: i1 :: (S.FN, oF) :: (S.FL, listOf fs.toArray nf) :: (S.AN, oN) :: (S.TL, listOf ts.toArray nt) :: rest) (FnP w S ts kvs fs xs KS (i0 :: i1 :: rest) b tb) (fun x => .int x.v x.t)
      (fun x => (x.fu.k, tup #[.int x.i x.ti, .int b tb] x.fu.n) :: i0 :: i1 :: (S.FN, x.fu.o) :: (S.FL, listOf x.fu.fs.toArray x.fu.nf) :: (S.AN, x.at_.o) :: (S.TL, listOf x.at_.ts.toArray x.at_.n) :: rest) :=
  Cut.perm (func w Y S oN kvs k tk ts nt b tb fs nf oF xs KS (i0 :: i1 :: rest) (.tail _ (.tail _ h1)) (.tail _ (.tail _ h2)) hD lo K0 (fun p hp => .tail _ (.tail _ (hKS p hp))) T lo2 ok hl hk hl2 hk2) pF (fun _ => pF')
theorem pI {a b c d e f g x : Addr × Obj} {KS l : List (Addr × Obj)} : ∀ q ∈ a :: b :: c :: d :: e :: f :: g :: ([] ++ (KS ++ l)), q ∈ a :: (KS ++ x :: b :: c :: d :: e :: f :: g :: l) := fun q hq => by
  simp only [List.mem_cons, List.mem_append, List.nil_append] at *
  rcases hq with h | h | h | h | h | h | h | h | h <;> simp [h]
theorem pK {i a b c d e f g k : Addr × Obj} {KF l : List (Addr × Obj)} : ∀ q ∈ i :: a :: b :: c :: d :: e :: f :: g :: ((k :: KF) ++ l), q ∈ k :: i :: a :: b :: c :: d :: e :: f :: g :: (KF ++ l) := fun q hq => by
  simp only [List.mem_cons, List.mem_append, List.cons_append] at *
  rcases hq with h | h | h | h | h | h | h | h | h | h | h <;> simp [h]
theorem pZ {a b c d e f g : Addr × Obj} {KF KS l : List (Addr × Obj)} : ∀ q ∈ d :: e :: f :: g :: l, q ∈ a :: b :: c :: d :: e :: f :: g :: (KF ++ (KS ++ l)) := fun q hq => by
  simp only [List.mem_cons, List.mem_append] at *
  rcases hq with h | h | h | h | h <;> simp [h]
theorem look1 (y a : Str) (va : Value) : List.lookup y [(a, va)] = if y = a then some va else none := by
  have e : ∀ c : Str, (y == c) = decide (y = c) := fun c => by
    by_cases h : y = c
    · subst h; simp
    · simp [h]
  unfold List.lookup
  rw [e a]
  by_cases h : y = a
  · simp [h]
  · simp [h, List.lookup]
local macro_rules | `(tactic| ktr_units) => `(tactic| ((simp only [units_under_make, units_in1, units_deeper, Around.mark_units]); omega))
local macro_rules | `(tactic| walk_at "call ref") => `(tactic| (k_here; (with_reducible show wpAny _ _ (call (Value.ref 60) _ _) _ _ _); k_dflt (refine' Cut.uz (by k_asm) (by k_asm) (by k_asm) (by k_asm) sub_self (by k_asm) (by walk_at "R") (by ktr_room) (by ktr_units) (fatoms _ _) ?_; k_whole; intro x9 h9 tk9 p9 F9 N9; ((first | (refine and3 p9 ?_; (try clear p9); intro pa9 pb9 pc9) | obtain ⟨pa9, pb9, pc9⟩ := p9)); (try k_lt pa9); (try dsimp only at N9); (try dsimp only); (try k_sweep); (try k_fold))))
local macro_rules | `(tactic| walk_at "call ref") => `(tactic| (k_here; (with_reducible show wpAny _ _ (call (Value.ref 67) _ _) _ _ _); k_dflt (refine' Cut.uz (by k_asm) (by k_asm) (by k_asm) (by k_asm) sub_self (by k_asm) (by walk_at "R") (by ktr_room) (by ktr_units) (ffuncs _ _) ?_; k_whole; intro x9 h9 tk9 p9 F9 N9; ((first | (refine and4 p9 ?_; (try clear p9); intro pa9 pb9 pc9 pd9) | obtain ⟨pa9, pb9, pc9, pd9⟩ := p9)); (try k_lt pa9); (try dsimp only at N9); (try dsimp only); (try k_sweep); (try k_fold))))
local macro_rules | `(tactic| walk_at "call ref") => `(tactic| (k_here; (with_reducible show wpAny _ _ (call (Value.ref 88) _ _) _ _ _); k_dflt (refine' Cut.uz (by k_asm) (by k_asm) (by k_asm) (by k_asm) sub_self (by k_asm) (by walk_at "R") (by ktr_room) (by ktr_units) (atomP _ _ _ _ _ _ _ _ _ _ _ _ _ _ (by assumption) (by assumption) (by assumption) (by assumption) (by assumption) (by assumption) (by assumption) (by assumption) (by assumption) (by omega) (by omega) (by assumption)) ?_; k_whole; intro x9 h9 tk9 p9 F9 N9; ((first | (refine and6 p9 ?_; (try clear p9); intro pa9 pb9 pc9 pd9 pe9 pf9) | obtain ⟨pa9, pb9, pc9, pd9, pe9, pf9⟩ := p9)); (try dsimp only at N9); walk_at "Z")))
local macro_rules | `(tactic| walk_at "call ref") => `(tactic| (k_here; (with_reducible show wpAny _ _ (call (Value.ref 109) _ _) _ _ _); k_dflt (refine' Cut.uz (by k_asm) (by k_asm) (by k_asm) (by k_asm) sub_self (by k_asm) (by walk_at "R") (by ktr_room) (by ktr_units) (funcP _ _ _ _ _ _ _ _ _ _ _ _ _ _ _ _ _ _ _ (by assumption) (by assumption) (by assumption) (by assumption) (by assumption) (by assumption) (by assumption) (by assumption) (by assumption) (by omega) (by omega) (by omega) (by omega)) ?_; k_whole; intro x9 h9 tk9 p9 F9 N9; (try dsimp only at N9); walk_at "Z")))
structure SyD where
  Y : Addr
  S : Sy
  ts : List Value
  nt : Nat
  oN : Obj
  kvs : List (Str × Value)
inductive JS1 (w : World) (rest : List (Addr × Obj)) (q : Addr) (vs : List Value) (n : Nat) (S : Sy) (Y : Addr) (oF : Obj) (i : Nat) (m : Str → Option Value) (nx : List (Addr × Obj)) : Prop
  | mk (ts : List Value) (nt : Nat) (oN : Obj) (kvs : List (Str × Value)) (h0 : nx = (q, tup vs.toArray n) :: (S.FN, oF) :: (S.FL, listOf #[] 0) :: (S.AN, oN) :: (S.TL, listOf ts.toArray nt) :: (Y, instObj 154 S.D) :: (S.D, symsD w.params S) :: rest)
     (h1 : ts.length ≤ i) (h2 : kvs.length ≤ i) (h3 : oN.IsDictOf (strK w) kvs) (h4 : KV kvs) (u : Option Value) (h5 : m = fun y => if y = Str.ofString "text" then u else if y = Str.ofString "self" then some (.ref Y) else none) : JS1 w rest q vs n S Y oF i m nx
inductive JS2 (w : World) (rest KS : List (Addr × Obj)) (q : Addr) (vs : List Value) (n : Nat) (S : Sy) (Y : Addr) (i : Nat) (m : Str → Option Value) (nx : List (Addr × Obj)) : Prop
  | mk (ts : List Value) (nt : Nat) (oN : Obj) (kvs : List (Str × Value)) (fs : List Value) (nf : Nat) (oF : Obj) (xs : List (List Int × Addr × Value)) (KF : List (Addr × Obj)) (h0 : nx = (q, tup vs.toArray n) :: (S.FN, oF) :: (S.FL, listOf fs.toArray nf) :: (S.AN, oN) :: (S.TL, listOf ts.toArray nt) :: (Y, instObj 154 S.D) :: (S.D, symsD w.params S) :: (KF ++ (KS ++ rest)))
       (h1 : ts.length ≤ 40 + i) (h2 : kvs.length ≤ 40 + i) (h3 : fs.length ≤ i) (h4 : xs.length ≤ i) (h5 : oN.IsDictOf (strK w) kvs) (h6 : KV kvs) (h7 : FD w oF KF xs) (h8 : ∀ k ∈ KF, S.TL < k.1 ∧ S.AN < k.1 ∧ S.FL < k.1 ∧ S.FN < k.1) (u u2 : Option Value) (h9 : m = fun y => if y = Str.ofString "row" then u2 else if y = Str.ofString "text" then u else if y = Str.ofString "self" then some (.ref Y) else none) : JS2 w rest KS q vs n S Y i m nx
theorem symbols (w : World) (rest : List (Addr × Obj)) :
    Cut w 154 [] 30 1000 rest (fun x : SyD => (∀ p ∈ rest, p.1 < x.S.D) ∧ x.S.D < x.Y ∧ x.Y < x.S.TL ∧ x.S.TL < x.S.AN ∧ (x.S.AN == sysModules) = false ∧ x.ts.length ≤ 200 ∧ x.kvs.length ≤ 200 ∧ x.oN.IsDictOf (strK w) x.kvs ∧ KV x.kvs) (fun x => .ref x.Y) (fun x => (x.S.AN, x.oN) :: (x.S.TL, listOf x.ts.toArray x.nt) :: (x.Y, instObj 154 x.S.D) :: (x.S.D, symsD w.params x.S) :: rest) := by
  unfold Cut; k_fill; intro mean mg mb dp un gd cn cs a ccd cl outer A₀ base h₀ L m s Q Xx B F XX N TT hks hd hu hret
  repeat' (first | (k_unfold; (try dsimp only)) | (k_end; wrow_close) | walk1 | (dsimp only; walk1) | (leave1; try dsimp only) | fail "no step")
  rename_i Y D h01 F01 N01 lD lY g' Lc h02 tkA FGc Bc Xc Tc evc Ac TL h03 lTL h04 tkB AN h05 oA loA hsA fsA hiA fiA lAN h06 FL h07 lFL h08 FN h09 oF loF hsF fsF hiF fiF lFN h10 x9 h11 tk11 F1 N1 p1 p2 p3
  obtain ⟨S, hSD, hTL, hAN, hFL, hFN, hob⟩ : ∃ S : Sy, D = S.D ∧ TL = S.TL ∧ AN = S.AN ∧ FL = S.FL ∧ FN = S.FN ∧ dictOf [⟨PyData.keyHash w.params (Str.ofString "texts"), .str (Str.ofString "texts") (tkA + 1), .ref TL⟩, ⟨PyData.keyHash w.params (Str.ofString "atom_numbers"), .str (Str.ofString "atom_numbers") (tkB + 1), .ref AN⟩, ⟨PyData.keyHash w.params (Str.ofString "functors"), .str (Str.ofString "functors") (tkB + 2 + 1), .ref FL⟩, ⟨PyData.keyHash w.params (Str.ofString "functor_numbers"), .str (Str.ofString "functor_numbers") (tk + 1), .ref FN⟩] 4 = symsD w.params S :=
    ⟨⟨D, TL, AN, FL, FN, fun n => match n with | 0 => tkA + 1 | 1 => tkB + 1 | 2 => tkB + 2 + 1 | _ => tk + 1, 4⟩, rfl, rfl, rfl, rfl, rfl, rfl⟩
  rw [hob] at N1
  subst hSD hTL hAN hFL hFN
  have neq : ∀ {a b : Addr}, a < b → a ≠ b := fun h => Nat.ne_of_lt h
  have b1 : x9.q ≠ S.TL ∧ x9.q ≠ S.AN ∧ x9.q ≠ S.FL ∧ x9.q ≠ S.FN := ⟨(neq p3.2.2.2.1).symm, (neq p3.2.2.1).symm, (neq p3.2.1).symm, (neq p3.1).symm⟩
  have b2 : S.FN ≠ S.TL ∧ S.FL ≠ S.TL ∧ S.FN ≠ S.AN ∧ S.FL ≠ S.AN ∧ S.TL ≠ S.AN ∧ S.FL ≠ S.FN := ⟨(neq lFN.2.2.1).symm, (neq lFL.2.1).symm, (neq lFN.2.1).symm, (neq lFL.1).symm, neq lAN.1, neq lFN.1⟩
  have hr1 : ∀ p ∈ (Y, instObj 154 S.D) :: (S.D, symsD w.params S) :: rest, p.1 ≠ S.TL := all2 (neq lTL.1) (neq lTL.2.1) (allNe_lt lTL.2.2)
  have hr2 : ∀ p ∈ (Y, instObj 154 S.D) :: (S.D, symsD w.params S) :: rest, p.1 ≠ S.AN := all2 (neq lAN.2.1) (neq lAN.2.2.1) (allNe_lt lAN.2.2.2)
  have hne := b2.2.2.2.2.1
  refine iter_tup (JS1 w rest x9.q x9.vs x9.n S Y oF) rfl (by k_asm) (by k_asm) (.head _) ?_ ?_ ?_ ?_
  · rintro i m nx ⟨ts, nt, oN, kvs, rfl, _⟩; exact .head _
  · refine' ⟨[], 0, oA, [], rfl, Nat.le_refl _, Nat.le_refl _, hsA, (fun k v h => nomatch h), none, _⟩
    funext y
    show List.lookup y [(Str.ofString "self", Value.ref Y)] = _
    rw [look1]
    by_cases c : y = Str.ofString "text"
    · subst c; rfl
    · rw [if_neg c]
  · rintro i v m nx h tk I io hv ⟨ts, nt, oN, kvs, rfl, hl1, hl2, hD, hK, u, rfl⟩ hI F' N'
    have hi : i < x9.vs.length := (List.getElem?_eq_some_iff.mp (show x9.vs[i]? = some v by simpa using hv)).1
    obtain ⟨y, t, rfl⟩ := p2 v (List.mem_of_getElem? (l := x9.vs) (i := i) (by simpa using hv))
    have c1 : I ≠ S.TL ∧ x9.q ≠ S.TL ∧ S.FN ≠ S.TL ∧ S.FL ≠ S.TL := ⟨(hI (S.TL, listOf ts.toArray nt) (.tail _ (.tail _ (.tail _ (.tail _ (.head _)))))).symm, b1.1, b2.1, b2.2.1⟩
    have c2 : I ≠ S.AN ∧ x9.q ≠ S.AN ∧ S.FN ≠ S.AN ∧ S.FL ≠ S.AN := ⟨(hI (S.AN, oN) (.tail _ (.tail _ (.tail _ (.head _))))).symm, b1.2.1, b2.2.2.1, b2.2.2.2.1⟩
    have c3 : (Y, instObj 154 S.D) ∈ (Y, instObj 154 S.D) :: (S.D, symsD w.params S) :: rest := .head _
    have c4 : (S.D, symsD w.params S) ∈ (Y, instObj 154 S.D) :: (S.D, symsD w.params S) :: rest := .tail _ (.head _)
    (try dsimp only [envOf] at F' N')
    (try (refine foldQ ?_; intro qkT2))
    repeat' (first | (k_unfold; (try dsimp only)) | (k_end; wrow_close) | walk1 | (dsimp only; walk1) | (leave1; try dsimp only) | fail "no step")
    rename_i z9 h9 tk9 F9 N9 qa qb qc qd qe qf
    refine ⟨_, _, _, _, rfl, F9, N9, fun p hp => ?_, z9.ts, z9.n, z9.o, z9.kvs, rfl, by omega, by omega, qc, qd, some (.str y t), ?_⟩
    · rcases List.mem_cons.mp hp with rfl | hp
      · exact hI _ (.head _)
      rcases List.mem_cons.mp hp with rfl | hp
      · exact hI (S.FN, oF) (.tail _ (.head _))
      rcases List.mem_cons.mp hp with rfl | hp
      · exact hI (S.FL, listOf #[] 0) (.tail _ (.tail _ (.head _)))
      rcases List.mem_cons.mp hp with rfl | hp
      · exact c2.1.symm
      rcases List.mem_cons.mp hp with rfl | hp
      · exact c1.1.symm
      · exact hI p (.tail _ (.tail _ (.tail _ (.tail _ (.tail _ hp)))))
    · funext y'
      by_cases e1 : y' = Str.ofString "text"
      · subst e1; rfl
      · simp only [if_neg e1]
  · rintro m nx h tk ⟨ts, nt, oN, kvs, rfl, hl1, hl2, hD, hK, u, rfl⟩ F' N'
    (try dsimp only [envOf] at F' N')
    have hsz : x9.vs.toArray.size = x9.vs.length := by simp
    rw [hsz] at hl1 hl2
    (try (refine foldQ ?_; intro qkT3))
    repeat' (first | (k_unfold; (try dsimp only)) | (k_end; wrow_close) | walk1 | (dsimp only; walk1) | (leave1; try dsimp only) | fail "no step")
    rename_i z2 h20 tk20 F2 N2 pb pc pd pa
    have pdq : ∀ k ∈ z2.KS, S.TL < k.1 ∧ S.AN < k.1 ∧ S.FL < k.1 ∧ S.FN < k.1 := fun k hk => ⟨pd _ (.tail _ (.tail _ (.tail _ (.tail _ (.head _))))) k hk, pd _ (.tail _ (.tail _ (.tail _ (.head _)))) k hk, pd _ (.tail _ (.tail _ (.head _))) k hk, pd _ (.tail _ (.head _)) k hk⟩
    have a0 := pa.2.1
    have a1 := pa.2.2.1
    have a2 := pa.2.2.2.1
    have a3 := pa.2.2.2.2.1
    refine iter_tup (JS2 w rest z2.KS z2.q z2.vs z2.n S Y) rfl (by k_asm) (fun q hq => N2 q (pI q hq)) (.head _) ?_ ?_ ?_ ?_
    · rintro i m nx ⟨ts, nt, oN, kvs, fs, nf, oF, xs, KF, rfl, _⟩; exact .head _
    · refine' ⟨ts, nt, oN, kvs, [], 0, oF, [], [], rfl, by omega, by omega, Nat.le_refl _, Nat.le_refl _, hD, hK, FD.ofEmpty hsF, (fun k hk => nomatch hk), u, none, _⟩
      funext y
      by_cases c : y = Str.ofString "row"
      · subst c; rfl
      · simp only [if_neg c]
    · rintro i v m nx h tk I io hv ⟨ts, nt, oN, kvs, fs, nf, oF, xs, KF, rfl, l1, l2, l3, l4, hD, hK, hF, hKF, u, u2, rfl⟩ hI F' N'
      have hi : i < z2.vs.length := (List.getElem?_eq_some_iff.mp (show z2.vs[i]? = some v by simpa using hv)).1
      obtain ⟨q, y, t, i', t', n', rfl, hq⟩ := pc v (List.mem_of_getElem? (l := z2.vs) (i := i) (by simpa using hv))
      have hq' : (q, tup #[.str y t, .int i' t'] n') ∈ (I, io) :: (z2.q, tup z2.vs.toArray z2.n) :: (S.FN, oF) :: (S.FL, listOf fs.toArray nf) :: (S.AN, oN) :: (S.TL, listOf ts.toArray nt) :: (Y, instObj 154 S.D) :: (S.D, symsD w.params S) :: (KF ++ (z2.KS ++ rest)) := .tail _ (.tail _ (.tail _ (.tail _ (.tail _ (.tail _ (.tail _ (.tail _ (List.mem_append_right _ (List.mem_append_left _ hq)))))))))
      have c3 : (Y, instObj 154 S.D) ∈ (Y, instObj 154 S.D) :: (S.D, symsD w.params S) :: (KF ++ (z2.KS ++ rest)) := .head _
      have c4 : (S.D, symsD w.params S) ∈ (Y, instObj 154 S.D) :: (S.D, symsD w.params S) :: (KF ++ (z2.KS ++ rest)) := .tail _ (.head _)
      have c5 : ∀ p ∈ KF, p ∈ (Y, instObj 154 S.D) :: (S.D, symsD w.params S) :: (KF ++ (z2.KS ++ rest)) := fun p hp => .tail _ (.tail _ (List.mem_append_left _ hp))
      have e1 := hI (S.FN, oF) (.tail _ (.head _))
      have e2 := hI (S.FL, listOf fs.toArray nf) (.tail _ (.tail _ (.head _)))
      have e3 := hI (S.AN, oN) (.tail _ (.tail _ (.tail _ (.head _))))
      have e4 := hI (S.TL, listOf ts.toArray nt) (.tail _ (.tail _ (.tail _ (.tail _ (.head _)))))
      dsimp only at e1 e2 e3 e4
      have away : ∀ {P : Addr}, I ≠ P → z2.q ≠ P → Y ≠ P → S.D ≠ P → (∀ k ∈ KF, k.1 ≠ P) → (∀ k ∈ z2.KS, k.1 ≠ P) → (∀ p ∈ rest, p.1 ≠ P) → ∀ p ∈ (I, io) :: (z2.q, tup z2.vs.toArray z2.n) :: (Y, instObj 154 S.D) :: (S.D, symsD w.params S) :: (KF ++ (z2.KS ++ rest)), p.1 ≠ P := fun g1 g2 g3 g4 g5 g6 g7 => all4 ⟨g1, g2, g3, g4⟩ fun p hp => by
        rcases List.mem_append.mp hp with hp | hp
        · exact g5 p hp
        rcases List.mem_append.mp hp with hp | hp
        · exact g6 p hp
        · exact g7 p hp
      have ok : SyOk S ((I, io) :: (z2.q, tup z2.vs.toArray z2.n) :: (Y, instObj 154 S.D) :: (S.D, symsD w.params S) :: (KF ++ (z2.KS ++ rest))) :=
        ⟨b2.2.2.2.2.1, b2.2.1.symm, b2.1.symm, b2.2.2.2.1.symm, b2.2.2.1.symm, b2.2.2.2.2.2,
          away e4.symm (neq a3).symm (neq lTL.1) (neq lTL.2.1) (fun k hk => (neq (hKF k hk).1).symm) (fun k hk => (neq (pdq k hk).1).symm) (allNe_lt lTL.2.2),
          away e3.symm (neq a2).symm (neq lAN.2.1) (neq lAN.2.2.1) (fun k hk => (neq (hKF k hk).2.1).symm) (fun k hk => (neq (pdq k hk).2.1).symm) (allNe_lt lAN.2.2.2),
          away e2.symm (neq a1).symm (neq lFL.2.2.1) (neq lFL.2.2.2.1) (fun k hk => (neq (hKF k hk).2.2.1).symm) (fun k hk => (neq (pdq k hk).2.2.1).symm) (allNe_lt lFL.2.2.2.2),
          away e1.symm (neq a0).symm (neq lFN.2.2.2.1) (neq lFN.2.2.2.2.1) (fun k hk => (neq (hKF k hk).2.2.2).symm) (fun k hk => (neq (pdq k hk).2.2.2).symm) (allNe_lt lFN.2.2.2.2.2)⟩
      (try dsimp only [envOf] at F' N')
      (try (refine foldQ ?_; intro qkT4))
      repeat' (first | (k_unfold; (try dsimp only)) | (k_end; wrow_close) | walk1 | (dsimp only; walk1) | (leave1; try dsimp only) | fail "no step")
      rename_i z9 h9 tk9 p9 F9 N9
      (first | (refine and12 p9 ?_; (try clear p9); intro qa qb qc qd qe qf qg k1 k2 k3 k4 kr) | obtain ⟨qa, qb, qc, qd, qe, qf, qg, k1, k2, k3, k4, kr⟩ := p9)
      refine ⟨_, _, _, _, rfl, F9, fun q' hq' => N9 q' (pK q' hq'), fun p hp => ?_, z9.at_.ts, z9.at_.n, z9.at_.o, z9.at_.kvs, z9.fu.fs, z9.fu.nf, z9.fu.o, z9.fu.xs, _ :: KF, rfl, by omega, by omega, by omega, by omega, qb, qc, qf, ?_, u, some (.ref q), ?_⟩
      · rcases List.mem_cons.mp hp with rfl | hp
        · exact hI _ (.head _)
        rcases List.mem_cons.mp hp with rfl | hp
        · exact e1
        rcases List.mem_cons.mp hp with rfl | hp
        · exact e2
        rcases List.mem_cons.mp hp with rfl | hp
        · exact e3
        rcases List.mem_cons.mp hp with rfl | hp
        · exact e4
        rcases List.mem_cons.mp hp with rfl | hp
        · exact hI (Y, instObj 154 S.D) (.tail _ (.tail _ (.tail _ (.tail _ (.tail _ (.head _))))))
        rcases List.mem_cons.mp hp with rfl | hp
        · exact hI (S.D, symsD w.params S) (.tail _ (.tail _ (.tail _ (.tail _ (.tail _ (.tail _ (.head _)))))))
        rcases List.mem_cons.mp hp with rfl | hp
        · exact (neq (kr (I, io) (.head _))).symm
        · exact hI p (.tail _ (.tail _ (.tail _ (.tail _ (.tail _ (.tail _ (.tail _ hp)))))))
      · intro k hk
        rcases List.mem_cons.mp hk with rfl | hk
        · exact ⟨k3, k4, k1, k2⟩
        · exact hKF k hk
      · funext y'
        by_cases e5 : y' = Str.ofString "row"
        · subst e5; rfl
        · simp only [if_neg e5]
    · rintro m nx h tk ⟨ts, nt, oN, kvs, fs, nf, oF, xs, KF, rfl, l1, l2, l3, l4, hD, hK, hF, hKF, u, u2, rfl⟩ F' N'
      (try dsimp only [envOf] at F' N')
      have hsz : z2.vs.toArray.size = z2.vs.length := by simp
      rw [hsz] at l1 l2
      (try (refine foldQ ?_; intro qkT5))
      repeat' (first | (k_unfold; (try dsimp only)) | (k_end; wrow_close) | walk1 | (dsimp only; walk1) | (leave1; try dsimp only) | fail "no step")
      have N9 := ‹News h₀ L _ _›
      refine hret ⟨Y, S, ts, nt, oN, kvs⟩ _ _ ⟨(by first | exact lD | exact tb_ltOf lD), (by first | exact lY | exact tb_ltOf lY), lTL.1, lAN.1, loA, by dsimp only; omega, by dsimp only; omega, hD, hK⟩ (by k_asm) (fun q hq => N9 q (pZ q hq))
end Sec6
/-! M1 -/
noncomputable abbrev storeD (p : Params) (Y H T R : Addr) (τ : Nat → Tok) (n : Nat) : Obj := dictOf [
  ⟨PyData.keyHash p (Str.ofString "symbols"), .str (Str.ofString "symbols") (τ 0), .ref Y⟩,
  ⟨PyData.keyHash p (Str.ofString "max_heap"), .str (Str.ofString "max_heap") (τ 1), .int 100000 (τ 2)⟩,
  ⟨PyData.keyHash p (Str.ofString "heap"), .str (Str.ofString "heap") (τ 3), .ref H⟩,
  ⟨PyData.keyHash p (Str.ofString "stack"), .str (Str.ofString "stack") (τ 4), .ref T⟩,
  ⟨PyData.keyHash p (Str.ofString "trail"), .str (Str.ofString "trail") (τ 5), .ref R⟩,
  ⟨PyData.keyHash p (Str.ofString "hb"), .str (Str.ofString "hb") (τ 6), .int 0 (τ 7)⟩,
  ⟨PyData.keyHash p (Str.ofString "bb"), .str (Str.ofString "bb") (τ 8), .int 0 (τ 9)⟩] n

structure DrfD where
  tk : Unit

/-- deref of a cell that holds an int -/
theorem deref_int (w : World) (X Xd Y H T R q : Addr) (τ : Nat → Tok) (n1 n2 n3 : Nat) (v : Int) (t1 t2 : Tok) (rest : List (Addr × Obj))
   (h1 : (X, instObj 402 Xd) ∈ rest) (h2 : (Xd, storeD w.params Y H T R τ n1) ∈ rest) (h3 : (q, tup #[.int 5 t1, .int v t2] n3) ∈ rest) :
   Cut w 251 [.ref X, .ref q] 5 200 rest (fun _ : Unit => True) (fun _ => .ref q) (fun _ => rest) := by
  unfold Cut; k_fill; intro mean mg mb dp un gd cn cs a ccd cl outer A₀ base h₀ L m s Q Xx B F XX N TT hks hd hu hret
  refine wpAny_call ?_
  k_dflt cell_enter
  repeat' (first | (k_unfold; (try dsimp only)) | (k_end; wrow_close) | walk1 | (dsimp only; walk1) | (leave1; try dsimp only) | fail "no step")
  all_goals exact hret () _ _ trivial (by k_asm) (by k_asm)

theorem deref_bound (w : World) (X Xd Y H T R q q' : Addr) (τ : Nat → Tok) (n1 n2 n3 n4 : Nat) (i v : Int) (t1 t2 t3 t4 : Tok) (hs : List Value) (rest : List (Addr × Obj))
   (h1 : (X, instObj 402 Xd) ∈ rest) (h2 : (Xd, storeD w.params Y H T R τ n1) ∈ rest) (h3 : (q, tup #[.int 0 t1, .int i t2] n3) ∈ rest) (h4 : (H, listOf hs.toArray n2) ∈ rest)
   (h5 : hs[i.toNat]? = some (.ref q')) (h6 : 0 ≤ i) (h7 : i < 2 ^ 63) (h8 : (q', tup #[.int 5 t3, .int v t4] n4) ∈ rest) :
   Cut w 251 [.ref X, .ref q] 5 200 rest (fun _ : Unit => True) (fun _ => .ref q') (fun _ => rest) := by
  unfold Cut; k_fill; intro mean mg mb dp un gd cn cs a ccd cl outer A₀ base h₀ L m s Q Xx B F XX N TT hks hd hu hret
  refine wpAny_call ?_
  k_dflt cell_enter
  repeat' (first | (k_unfold; (try dsimp only)) | (k_end; wrow_close) | walk1 | (dsimp only; walk1) | (leave1; try dsimp only) | fail "no step")
  all_goals exact hret () _ _ trivial (by k_asm) (by k_asm)

theorem deref_free (w : World) (X Xd Y H T R q : Addr) (τ : Nat → Tok) (n1 n2 n3 : Nat) (i : Int) (t1 t2 : Tok) (hs : List Value) (rest : List (Addr × Obj))
   (h1 : (X, instObj 402 Xd) ∈ rest) (h2 : (Xd, storeD w.params Y H T R τ n1) ∈ rest) (h3 : (q, tup #[.int 0 t1, .int i t2] n3) ∈ rest) (h4 : (H, listOf hs.toArray n2) ∈ rest)
   (h5 : hs[i.toNat]? = some (.ref q)) (h6 : 0 ≤ i) (h7 : i < 2 ^ 63) :
   Cut w 251 [.ref X, .ref q] 5 200 rest (fun _ : Unit => True) (fun _ => .ref q) (fun _ => rest) := by
  unfold Cut; k_fill; intro mean mg mb dp un gd cn cs a ccd cl outer A₀ base h₀ L m s Q Xx B F XX N TT hks hd hu hret
  refine wpAny_call ?_
  k_dflt cell_enter
  repeat' (first | (k_unfold; (try dsimp only)) | (k_end; wrow_close) | walk1 | (dsimp only; walk1) | (leave1; try dsimp only) | fail "no step")
  all_goals exact hret () _ _ trivial (by k_asm) (by k_asm)
/-! M2 -/
theorem Cut.pure_use {w : World} {f : Addr} {vs : List Value} {d u : Nat} {D : Type} {Post : D → Prop} {V : D → Value}
    {mean : ExcName → Option Value} {mg mb : Str → Option Value} {dp un : Nat} {gd : Option (List Code)} {cn : Str} {cs : Scope} {a : Addr} {ccd : Value} {cl : List (Str × Addr)} {outer : List Env} {A₀ : Around} {base h₀ : Heap} {L : Addr} {m : Str → Option Value} {s : Shared}
    {Q X : Value → Shared → Prop} {news : List (Addr × Obj)}
    (B : Below A₀ base outer h₀) (F : Fr h₀ L s.heap m) (X₀ : (Mine.K w.params).In h₀) (N : News h₀ L s.heap news) (T : Top VW LO mean mg mb h₀) (hk : cs.kind = .function)
    (C : Cut w f vs d u news Post V (fun _ => news)) (hd : dp + d < recursionLimit) (hu : un + u < cLine)
    (ret : ∀ x h' tk', Post x → Fr h₀ L h' m → News h₀ L h' news → Q (V x) { s with heap := h', toks := tk' }) :
    wpAny (model PySem.Challenge.rw_sa0162_01.row.prog w) (ktrTop dp un gd cn cs L a ccd cl outer) (call (.ref f) vs) Q X s :=
  C.use B F X₀ N sub_self T hk hd hu ret

structure Ad where
  X : Addr
  Xd : Addr
  Y : Addr
  H : Addr
  T : Addr
  R : Addr
  M : Addr
  Md : Addr
  XL : Addr
  CO : Addr
  RO : Addr
  BG : Addr
  τ : Nat → Tok
  σ : Nat → Tok
  n1 : Nat
  n2 : Nat

noncomputable abbrev areasD (p : Params) (A : Ad) : Obj := dictOf [
  ⟨PyData.keyHash p (Str.ofString "symbols"), .str (Str.ofString "symbols") (A.σ 0), .ref A.Y⟩,
  ⟨PyData.keyHash p (Str.ofString "code"), .str (Str.ofString "code") (A.σ 1), .ref A.CO⟩,
  ⟨PyData.keyHash p (Str.ofString "max_heap"), .str (Str.ofString "max_heap") (A.σ 2), .int 100000 (A.σ 3)⟩,
  ⟨PyData.keyHash p (Str.ofString "occurs"), .str (Str.ofString "occurs") (A.σ 4), .bool true⟩,
  ⟨PyData.keyHash p (Str.ofString "max_bits"), .str (Str.ofString "max_bits") (A.σ 5), .int 4096 (A.σ 6)⟩,
  ⟨PyData.keyHash p (Str.ofString "store"), .str (Str.ofString "store") (A.σ 7), .ref A.X⟩,
  ⟨PyData.keyHash p (Str.ofString "x"), .str (Str.ofString "x") (A.σ 8), .ref A.XL⟩,
  ⟨PyData.keyHash p (Str.ofString "p"), .str (Str.ofString "p") (A.σ 9), .int 0 (A.σ 10)⟩,
  ⟨PyData.keyHash p (Str.ofString "cp"), .str (Str.ofString "cp") (A.σ 11), .int 0 (A.σ 12)⟩,
  ⟨PyData.keyHash p (Str.ofString "e"), .str (Str.ofString "e") (A.σ 13), .int (-1) (A.σ 14)⟩,
  ⟨PyData.keyHash p (Str.ofString "b"), .str (Str.ofString "b") (A.σ 15), .int (-1) (A.σ 16)⟩,
  ⟨PyData.keyHash p (Str.ofString "b0"), .str (Str.ofString "b0") (A.σ 17), .int (-1) (A.σ 18)⟩,
  ⟨PyData.keyHash p (Str.ofString "mode"), .str (Str.ofString "mode") (A.σ 19), .str (Str.ofString "read") (A.σ 20)⟩,
  ⟨PyData.keyHash p (Str.ofString "s"), .str (Str.ofString "s") (A.σ 21), .int 0 (A.σ 22)⟩,
  ⟨PyData.keyHash p (Str.ofString "guard"), .str (Str.ofString "guard") (A.σ 23), .ref 201⟩,
  ⟨PyData.keyHash p (Str.ofString "roots"), .str (Str.ofString "roots") (A.σ 24), .ref A.RO⟩,
  ⟨PyData.keyHash p (Str.ofString "bags"), .str (Str.ofString "bags") (A.σ 25), .ref A.BG⟩,
  ⟨PyData.keyHash p (Str.ofString "collect_wanted"), .str (Str.ofString "collect_wanted") (A.σ 26), .bool false⟩] A.n2

/-- the machine's lasting part -/
structure Mach (p : Params) (A : Ad) (l : List (Addr × Obj)) : Prop where
  x : (A.X, instObj 402 A.Xd) ∈ l
  xd : (A.Xd, storeD p A.Y A.H A.T A.R A.τ A.n1) ∈ l
  m : (A.M, instObj 674 A.Md) ∈ l
  md : (A.Md, areasD p A) ∈ l
  nH : A.X ≠ A.H ∧ A.Xd ≠ A.H ∧ A.M ≠ A.H ∧ A.Md ≠ A.H
  nX : A.X ≠ A.XL ∧ A.Xd ≠ A.XL ∧ A.M ≠ A.XL ∧ A.Md ≠ A.XL
  nHX : A.H ≠ A.XL

inductive Der (l : List (Addr × Obj)) (hs : List Value) : Addr → Addr → Prop
  | int {q v t1 t2 n} : (q, tup #[.int 5 t1, .int v t2] n) ∈ l → Der l hs q q
  | bound {q q' i v t1 t2 t3 t4 n n'} : (q, tup #[.int 0 t1, .int i t2] n) ∈ l → hs[i.toNat]? = some (.ref q') → 0 ≤ i → i < 2 ^ 63 → (q', tup #[.int 5 t3, .int v t4] n') ∈ l → Der l hs q q'
  | free {q i t1 t2 n} : (q, tup #[.int 0 t1, .int i t2] n) ∈ l → hs[i.toNat]? = some (.ref q) → 0 ≤ i → i < 2 ^ 63 → Der l hs q q

theorem deref (w : World) (A : Ad) (q r : Addr) (hs : List Value) (n2 : Nat) (rest : List (Addr × Obj)) (M : Mach w.params A rest) (h4 : (A.H, listOf hs.toArray n2) ∈ rest) (D : Der rest hs q r) :
    Cut w 251 [.ref A.X, .ref q] 5 200 rest (fun _ : Unit => True) (fun _ => .ref r) (fun _ => rest) := by
  cases D with
  | int h => exact deref_int w _ _ _ _ _ _ _ _ _ 0 _ _ _ _ _ M.x M.xd h
  | bound h1 h2 h3 h5 h6 => exact deref_bound w _ _ _ _ _ _ _ _ _ _ _ _ _ _ _ _ _ _ _ _ _ M.x M.xd h1 h4 h2 h3 h5 h6
  | free h1 h2 h3 h5 => exact deref_free w _ _ _ _ _ _ _ _ _ _ _ _ _ _ _ _ M.x M.xd h1 h4 h2 h3 h5
theorem globalise_int (w : World) (A : Ad) (q r : Addr) (v : Int) (t1 t2 : Tok) (n : Nat) (hs : List Value) (n2 : Nat) (rest : List (Addr × Obj)) (M : Mach w.params A rest) (h4 : (A.H, listOf hs.toArray n2) ∈ rest) (D : Der rest hs q r) (h5 : (r, tup #[.int 5 t1, .int v t2] n) ∈ rest) :
    Cut w 279 [.ref A.X, .ref q] 10 400 rest (fun _ : Unit => True) (fun _ => .ref r) (fun _ => rest) := by
  have m1 := M.x; have m2 := M.xd
  unfold Cut; k_fill; intro mean mg mb dp un gd cn cs a ccd cl outer A₀ base h₀ L m s Q Xx B F XX N TT hks hd hu hret
  refine wpAny_call ?_
  k_dflt cell_enter
  repeat' (first | (k_here; (with_reducible show wpAny _ _ (call (Value.ref 251) _ _) _ _ _); k_dflt (refine Cut.pure_use (by k_asm) (by k_asm) (by k_asm) (by k_asm) (by k_asm) (by first | exact rfl | assumption) (deref _ _ _ _ _ _ _ (by assumption) (by assumption) (by assumption)) (by ktr_room) (by ktr_units) ?_; intro x9z h9z tk9z p9z F9z N9z; clear p9z; walk_at "Z")) | (k_unfold; (try dsimp only)) | (k_end; wrow_close) | walk1 | (dsimp only; walk1) | (leave1; try dsimp only) | fail "no step")
  all_goals exact hret () _ _ trivial (by k_asm) (by k_asm)
theorem globalise_free (w : World) (A : Ad) (q : Addr) (i : Int) (t1 t2 : Tok) (n : Nat) (hs : List Value) (n2 : Nat) (rest : List (Addr × Obj)) (M : Mach w.params A rest) (h4 : (A.H, listOf hs.toArray n2) ∈ rest) (D : Der rest hs q q) (h5 : (q, tup #[.int 0 t1, .int i t2] n) ∈ rest) :
    Cut w 279 [.ref A.X, .ref q] 10 400 rest (fun _ : Unit => True) (fun _ => .ref q) (fun _ => rest) := by
  have m1 := M.x; have m2 := M.xd
  unfold Cut; k_fill; intro mean mg mb dp un gd cn cs a ccd cl outer A₀ base h₀ L m s Q Xx B F XX N TT hks hd hu hret
  refine wpAny_call ?_
  k_dflt cell_enter
  repeat' (first | (k_here; (with_reducible show wpAny _ _ (call (Value.ref 251) _ _) _ _ _); k_dflt (refine Cut.pure_use (by k_asm) (by k_asm) (by k_asm) (by k_asm) (by k_asm) (by first | exact rfl | assumption) (deref _ _ _ _ _ _ _ (by assumption) (by assumption) (by assumption)) (by ktr_room) (by ktr_units) ?_; intro x9z h9z tk9z p9z F9z N9z; clear p9z; walk_at "Z")) | (k_unfold; (try dsimp only)) | (k_end; wrow_close) | walk1 | (dsimp only; walk1) | (leave1; try dsimp only) | fail "no step")
  all_goals exact hret () _ _ trivial (by k_asm) (by k_asm)
theorem unbound_int (w : World) (A : Ad) (r : Addr) (v : Int) (t1 t2 : Tok) (n : Nat) (rest : List (Addr × Obj)) (M : Mach w.params A rest) (h5 : (r, tup #[.int 5 t1, .int v t2] n) ∈ rest) :
    Cut w 258 [.ref A.X, .ref r] 10 400 rest (fun _ : Unit => True) (fun _ => .bool false) (fun _ => rest) := by
  have m1 := M.x; have m2 := M.xd
  unfold Cut; k_fill; intro mean mg mb dp un gd cn cs a ccd cl outer A₀ base h₀ L m s Q Xx B F XX N TT hks hd hu hret
  refine wpAny_call ?_
  k_dflt cell_enter
  repeat' (first | (k_here; (with_reducible show wpAny _ _ (call (Value.ref 251) _ _) _ _ _); k_dflt (refine Cut.pure_use (by k_asm) (by k_asm) (by k_asm) (by k_asm) (by k_asm) (by first | exact rfl | assumption) (deref _ _ _ _ _ _ _ (by assumption) (by assumption) (by assumption)) (by ktr_room) (by ktr_units) ?_; intro x9z h9z tk9z p9z F9z N9z; clear p9z; walk_at "Z")) | (k_unfold; (try dsimp only)) | (k_end; wrow_close) | walk1 | (dsimp only; walk1) | (leave1; try dsimp only) | fail "no step")
  all_goals exact hret () _ _ trivial (by k_asm) (by k_asm)
theorem unbound_free (w : World) (A : Ad) (q : Addr) (i : Int) (t1 t2 : Tok) (n : Nat) (hs : List Value) (n2 : Nat) (rest : List (Addr × Obj)) (M : Mach w.params A rest) (h4 : (A.H, listOf hs.toArray n2) ∈ rest) (h5 : (q, tup #[.int 0 t1, .int i t2] n) ∈ rest) (h6 : hs[i.toNat]? = some (.ref q)) (h7 : 0 ≤ i) (h8 : i < 2 ^ 63) :
    Cut w 258 [.ref A.X, .ref q] 10 400 rest (fun _ : Unit => True) (fun _ => .bool true) (fun _ => rest) := by
  have m1 := M.x; have m2 := M.xd
  unfold Cut; k_fill; intro mean mg mb dp un gd cn cs a ccd cl outer A₀ base h₀ L m s Q Xx B F XX N TT hks hd hu hret
  refine wpAny_call ?_
  k_dflt cell_enter
  repeat' (first | (k_here; (with_reducible show wpAny _ _ (call (Value.ref 251) _ _) _ _ _); k_dflt (refine Cut.pure_use (by k_asm) (by k_asm) (by k_asm) (by k_asm) (by k_asm) (by first | exact rfl | assumption) (deref _ _ _ _ _ _ _ (by assumption) (by assumption) (by assumption)) (by ktr_room) (by ktr_units) ?_; intro x9z h9z tk9z p9z F9z N9z; clear p9z; walk_at "Z")) | (k_unfold; (try dsimp only)) | (k_end; wrow_close) | walk1 | (dsimp only; walk1) | (leave1; try dsimp only) | fail "no step")
  all_goals exact hret () _ _ trivial (by k_asm) (by k_asm)
/-! M3 -/
theorem iov_int (w : World) (A : Ad) (q r : Addr) (j v : Int) (t1 t2 tj : Tok) (n : Nat) (hs xs : List Value) (n2 n3 : Nat) (rest : List (Addr × Obj)) (M : Mach w.params A rest) (h4 : (A.H, listOf hs.toArray n2) ∈ rest) (h6 : (A.XL, listOf xs.toArray n3) ∈ rest)
    (h7 : xs[j.toNat]? = some (.ref q)) (h8 : 0 ≤ j) (h9 : j < 2 ^ 63) (D : Der rest hs q r) (h5 : (r, tup #[.int 5 t1, .int v t2] n) ∈ rest) :
    Cut w 418 [.ref A.M, .int j tj] 20 800 rest (fun _ : Unit => True) (fun _ => .int v t2) (fun _ => rest) := by
  have m1 := M.x; have m2 := M.xd; have m3 := M.m; have m4 := M.md
  unfold Cut; k_fill; intro mean mg mb dp un gd cn cs a ccd cl outer A₀ base h₀ L m s Q Xx B F XX N TT hks hd hu hret
  refine wpAny_call ?_
  k_dflt cell_enter
  repeat' (first | (k_here; (with_reducible show wpAny _ _ (call (Value.ref 258) _ _) _ _ _); k_dflt (first | (refine Cut.pure_use (by k_asm) (by k_asm) (by k_asm) (by k_asm) (by k_asm) (by first | exact rfl | assumption) (unbound_int _ _ _ _ _ _ _ _ (by assumption) (by assumption)) (by ktr_room) (by ktr_units) ?_; intro x9z h9z tk9z p9z F9z N9z; clear p9z; walk_at "Z") | (refine Cut.pure_use (by k_asm) (by k_asm) (by k_asm) (by k_asm) (by k_asm) (by first | exact rfl | assumption) (unbound_free _ _ _ _ _ _ _ _ _ _ (by assumption) (by assumption) (by assumption) (by assumption) (by assumption) (by assumption)) (by ktr_room) (by ktr_units) ?_; intro x9z h9z tk9z p9z F9z N9z; clear p9z; walk_at "Z"))) | (k_here; (with_reducible show wpAny _ _ (call (Value.ref 279) _ _) _ _ _); k_dflt (first | (refine Cut.pure_use (by k_asm) (by k_asm) (by k_asm) (by k_asm) (by k_asm) (by first | exact rfl | assumption) (globalise_int _ _ _ _ _ _ _ _ _ _ _ (by assumption) (by assumption) (by assumption) (by assumption)) (by ktr_room) (by ktr_units) ?_; intro x9z h9z tk9z p9z F9z N9z; clear p9z; walk_at "Z") | (refine Cut.pure_use (by k_asm) (by k_asm) (by k_asm) (by k_asm) (by k_asm) (by first | exact rfl | assumption) (globalise_free _ _ _ _ _ _ _ _ _ _ (by assumption) (by assumption) (by assumption) (by assumption)) (by ktr_room) (by ktr_units) ?_; intro x9z h9z tk9z p9z F9z N9z; clear p9z; walk_at "Z"))) | (k_unfold; (try dsimp only)) | (k_end; wrow_close) | walk1 | (dsimp only; walk1) | (leave1; try dsimp only) | fail "no step")
  all_goals first | exact hret () _ _ trivial (by k_asm) (by k_asm) | walk_report
theorem iov_free (w : World) (A : Ad) (q : Addr) (j i : Int) (t1 t2 tj : Tok) (n : Nat) (hs xs : List Value) (n2 n3 : Nat) (rest : List (Addr × Obj)) (M : Mach w.params A rest) (h4 : (A.H, listOf hs.toArray n2) ∈ rest) (h6 : (A.XL, listOf xs.toArray n3) ∈ rest)
    (h7 : xs[j.toNat]? = some (.ref q)) (h8 : 0 ≤ j) (h9 : j < 2 ^ 63) (h5 : (q, tup #[.int 0 t1, .int i t2] n) ∈ rest) (g1 : hs[i.toNat]? = some (.ref q)) (g2 : 0 ≤ i) (g3 : i < 2 ^ 63) :
    Cut w 418 [.ref A.M, .int j tj] 20 800 rest (fun _ : Unit => True) (fun _ => .none) (fun _ => rest) := by
  have m1 := M.x; have m2 := M.xd; have m3 := M.m; have m4 := M.md; have D := Der.free h5 g1 g2 g3
  unfold Cut; k_fill; intro mean mg mb dp un gd cn cs a ccd cl outer A₀ base h₀ L m s Q Xx B F XX N TT hks hd hu hret
  refine wpAny_call ?_
  k_dflt cell_enter
  repeat' (first | (k_here; (with_reducible show wpAny _ _ (call (Value.ref 258) _ _) _ _ _); k_dflt (first | (refine Cut.pure_use (by k_asm) (by k_asm) (by k_asm) (by k_asm) (by k_asm) (by first | exact rfl | assumption) (unbound_int _ _ _ _ _ _ _ _ (by assumption) (by assumption)) (by ktr_room) (by ktr_units) ?_; intro x9z h9z tk9z p9z F9z N9z; clear p9z; walk_at "Z") | (refine Cut.pure_use (by k_asm) (by k_asm) (by k_asm) (by k_asm) (by k_asm) (by first | exact rfl | assumption) (unbound_free _ _ _ _ _ _ _ _ _ _ (by assumption) (by assumption) (by assumption) (by assumption) (by assumption) (by assumption)) (by ktr_room) (by ktr_units) ?_; intro x9z h9z tk9z p9z F9z N9z; clear p9z; walk_at "Z"))) | (k_here; (with_reducible show wpAny _ _ (call (Value.ref 279) _ _) _ _ _); k_dflt (first | (refine Cut.pure_use (by k_asm) (by k_asm) (by k_asm) (by k_asm) (by k_asm) (by first | exact rfl | assumption) (globalise_int _ _ _ _ _ _ _ _ _ _ _ (by assumption) (by assumption) (by assumption) (by assumption)) (by ktr_room) (by ktr_units) ?_; intro x9z h9z tk9z p9z F9z N9z; clear p9z; walk_at "Z") | (refine Cut.pure_use (by k_asm) (by k_asm) (by k_asm) (by k_asm) (by k_asm) (by first | exact rfl | assumption) (globalise_free _ _ _ _ _ _ _ _ _ _ (by assumption) (by assumption) (by assumption) (by assumption)) (by ktr_room) (by ktr_units) ?_; intro x9z h9z tk9z p9z F9z N9z; clear p9z; walk_at "Z"))) | (k_unfold; (try dsimp only)) | (k_end; wrow_close) | walk1 | (dsimp only; walk1) | (leave1; try dsimp only) | fail "no step")
  all_goals first | exact hret () _ _ trivial (by k_asm) (by k_asm) | walk_report
/-! M4 -/
theorem Mach.mono {p A l l'} (M : Mach p A l) (h : ∀ x ∈ l, x ∈ l') : Mach p A l' := ⟨h _ M.x, h _ M.xd, h _ M.m, h _ M.md, M.nH, M.nX, M.nHX⟩
theorem Mach.awayH {p A l l'} (M : Mach p A l) (h : ∀ x ∈ l, x.1 ≠ A.H → x ∈ l') : Mach p A l' := ⟨h _ M.x M.nH.1, h _ M.xd M.nH.2.1, h _ M.m M.nH.2.2.1, h _ M.md M.nH.2.2.2, M.nH, M.nX, M.nHX⟩
theorem Mach.awayX {p A l l'} (M : Mach p A l) (h : ∀ x ∈ l, x.1 ≠ A.XL → x ∈ l') : Mach p A l' := ⟨h _ M.x M.nX.1, h _ M.xd M.nX.2.1, h _ M.m M.nX.2.2.1, h _ M.md M.nX.2.2.2, M.nH, M.nX, M.nHX⟩
structure NvD where
  q : Addr
  t1 : Tok
  t2 : Tok
  n : Nat
  n2 : Nat
theorem bind (w : World) (A : Ad) (q v : Addr) (i : Int) (t1 t2 : Tok) (n n2 : Nat) (hs : List Value) (rest : List (Addr × Obj)) (M : Mach w.params A rest) (hne : ∀ p ∈ rest, p.1 ≠ A.H)
    (h5 : (q, tup #[.int 0 t1, .int i t2] n) ∈ rest) (g1 : 0 ≤ i) (g2 : i < hs.length) (g3 : i < 2 ^ 63) :
    Cut w 265 [.ref A.X, .ref q, .ref v] 10 400 ((A.H, listOf hs.toArray n2) :: rest) (fun _ : Unit => True) (fun _ => .none) (fun _ => (A.H, listOf (hs.set i.toNat (.ref v)).toArray n2) :: rest) := by
  have m1 := M.x; have m2 := M.xd
  unfold Cut; k_fill; intro mean mg mb dp un gd cn cs a ccd cl outer A₀ base h₀ L m s Q Xx B F XX N TT hks hd hu hret
  refine wpAny_call ?_
  k_dflt cell_enter
  repeat' (first | (k_unfold; (try dsimp only)) | (k_end; wrow_close) | walk1 | (dsimp only; walk1) | (leave1; try dsimp only) | fail "no step")
  all_goals first | exact hret () _ _ trivial (by k_asm) (by k_asm) | walk_report
theorem newvar (w : World) (A : Ad) (n2 : Nat) (hs : List Value) (rest : List (Addr × Obj)) (M : Mach w.params A rest) (hne : ∀ p ∈ rest, p.1 ≠ A.H) (hl : hs.length ≤ 1000) :
    Cut w 230 [.ref A.X] 10 400 ((A.H, listOf hs.toArray n2) :: rest) (fun x : NvD => A.H < x.q ∧ ∀ p ∈ rest, p.1 < x.q) (fun x => .ref x.q) (fun x => (x.q, tup #[.int 0 x.t1, .int hs.length x.t2] x.n) :: (A.H, listOf (hs ++ [Value.ref x.q]).toArray x.n2) :: rest) := by
  have m1 := M.x; have m2 := M.xd
  unfold Cut; k_fill; intro mean mg mb dp un gd cn cs a ccd cl outer A₀ base h₀ L m s Q Xx B F XX N TT hks hd hu hret
  refine wpAny_call ?_
  k_dflt cell_enter
  repeat' (first | (k_unfold; (try dsimp only)) | (k_end; wrow_close) | walk1 | (dsimp only; walk1) | (leave1; try dsimp only) | fail "no step")
  all_goals (first | (with_reducible rename AllLt _ _ => l9) | (with_reducible rename _ < _ ∧ AllLt _ _ => l9))
  all_goals (have N9 := ‹News h₀ L _ _›; simp only [List.push_toArray] at N9; exact hret ⟨_, _, _, _, _⟩ _ _ ⟨l9.1, tb_ltOf l9.2⟩ (by k_asm) N9)
section Sec7
/-! M5 -/
theorem Der.mono {l l' hs q r} (D : Der l hs q r) (h : ∀ x ∈ l, x ∈ l') : Der l' hs q r := by
  cases D with
  | int a => exact .int (h _ a)
  | bound a b c d e => exact .bound (h _ a) b c d (h _ e)
  | free a b c d => exact .free (h _ a) b c d
theorem check_size (w : World) (Y : Addr) (v : Int) (t t2 : Tok) (rest : List (Addr × Obj)) (hv : (Builtin.Int.intBits v : Int) ≤ 4096) :
    Cut w 411 [.ref Y, .int v t, .int 4096 t2] 5 200 rest (fun _ : Unit => True) (fun _ => .int v t) (fun _ => rest) := by
  unfold Cut; k_fill; intro mean mg mb dp un gd cn cs a ccd cl outer A₀ base h₀ L m s Q Xx B F XX N TT hks hd hu hret
  refine wpAny_call ?_
  k_dflt cell_enter
  repeat' (first | (k_here; (with_reducible show wpAny _ _ (call (Value.ref 251) _ _) _ _ _); k_dflt (first | (refine Cut.pure_use (by k_asm) (by k_asm) (by k_asm) (by k_asm) (by k_asm) (by first | exact rfl | assumption) (deref _ _ _ _ _ _ _ (by first | assumption | (refine Mach.mono (by assumption) ?_; repeat (first | exact sub_self | refine sub_tail ?_))) (by k_mem) (by first | assumption | exact Der.int (by k_mem) | (refine Der.mono (by assumption) ?_; repeat (first | exact sub_self | refine sub_tail ?_)))) (by ktr_room) (by ktr_units) ?_; intro x9z h9z tk9z p9z F9z N9z; clear p9z; walk_at "Z"))) | (k_unfold; (try dsimp only)) | (k_end; wrow_close) | walk1 | (dsimp only; walk1) | (leave1; try dsimp only) | fail "no step")
  all_goals first | exact hret () _ _ trivial (by k_asm) (cb_drop (by k_asm) (by repeat (first | exact sub_self | refine sub_tail ?_))) | walk_report
local macro_rules | `(tactic| walk_at "KCj") => `(tactic| (kpf_tidy; (refine kcj_end (t := (0 : Nat)) ?kce (by with_unfolding_all rfl) rfl (by assumption) (by assumption) (by walk_at "S")); (case kce => kpf_eq)))
local macro_rules | `(tactic| walk_at "d7") => `(tactic| skip)
local macro_rules | `(tactic| walk_at "d8") => `(tactic| skip)
local macro_rules | `(tactic| walk_at "d9") => `(tactic| skip)
local macro_rules | `(tactic| walk_at "d10") => `(tactic| skip)
local macro_rules | `(tactic| walk_at "d11") => `(tactic| skip)
theorem uni_all (w : World) (A : Ad) (r z : Addr) (g v v2 : Int) (t1 t2 t3 t4 : Tok) (n n' n2 : Nat) (hs : List Value) (rest E : List (Addr × Obj)) (b : Bool) (M : Mach w.params A rest) (hl : hs.length ≤ 1000) (h4 : (A.H, listOf hs.toArray n2) ∈ rest) (D : Der rest hs r r)
    (h5 : (r, tup #[.int g t1, .int v t2] n) ∈ rest) (h6 : (z, tup #[.int 5 t3, .int v2 t4] n') ∈ rest)
    (hb : (g = 5 ∧ v = v2 ∧ b = true ∧ E = rest) ∨ (g = 5 ∧ v ≠ v2 ∧ b = false ∧ E = rest) ∨ (∃ rest0, g = 0 ∧ b = true ∧ rest = (A.H, listOf hs.toArray n2) :: rest0 ∧ E = (A.H, listOf (hs.set v.toNat (.ref z)).toArray n2) :: rest0 ∧ (∀ p ∈ rest0, p.1 ≠ A.H) ∧ hs[v.toNat]? = some (.ref r) ∧ 0 ≤ v ∧ v < hs.length ∧ v < 2 ^ 63 ∧ Mach w.params A rest0 ∧ (r, tup #[.int g t1, .int v t2] n) ∈ rest0 ∧ (z, tup #[.int 5 t3, .int v2 t4] n') ∈ rest0)) :
    Cut w 566 [.ref A.M, .ref r, .ref z] 30 900 rest (fun _ : Unit => True) (fun _ => .bool b) (fun _ => E) := by
  have m1 := M.x; have m2 := M.xd; have m3 := M.m; have m4 := M.md
  unfold Cut; k_fill; intro mean mg mb dp un gd cn cs a ccd cl outer A₀ base h₀ L m s Q Xx B F XX N TT hks hd hu hret
  refine wpAny_call ?_
  k_dflt cell_enter
  repeat' (((fail_if_success (with_reducible show wpAny _ _ (compareOp CmpOp.Eq (Value.ref _) (Value.ref _)) _ _ _))); first | (k_here; (with_reducible show wpAny _ _ (call (Value.ref 251) _ _) _ _ _); k_dflt (first | (refine Cut.pure_use (by k_asm) (by k_asm) (by k_asm) (by k_asm) (by k_asm) (by first | exact rfl | assumption) (deref _ _ _ _ _ _ _ (by first | assumption | (refine Mach.mono (by assumption) ?_; repeat (first | exact sub_self | refine sub_tail ?_))) (by k_mem) (by first | assumption | exact Der.int (by k_mem) | (refine Der.mono (by assumption) ?_; repeat (first | exact sub_self | refine sub_tail ?_)))) (by ktr_room) (by ktr_units) ?_; intro x9z h9z tk9z p9z F9z N9z; clear p9z; walk_at "Z"))) | (k_unfold; (try dsimp only)) | (k_end; wrow_close) | walk1 | (dsimp only; walk1) | (leave1; try dsimp only) | fail "no step")
  all_goals rcases hb with ⟨rfl, rfl, rfl, rfl⟩ | ⟨rfl, hv, rfl, rfl⟩ | ⟨rest0, rfl, rfl, rfl, rfl, hne, g0, g1, g2, g3, M0, h50, h60⟩
  · repeat' (first | (k_here; (with_reducible show wpAny _ _ (call (Value.ref 251) _ _) _ _ _); k_dflt (first | (refine Cut.pure_use (by k_asm) (by k_asm) (by k_asm) (by k_asm) (by k_asm) (by first | exact rfl | assumption) (deref _ _ _ _ _ _ _ (by first | assumption | (refine Mach.mono (by assumption) ?_; repeat (first | exact sub_self | refine sub_tail ?_))) (by k_mem) (by first | assumption | exact Der.int (by k_mem) | (refine Der.mono (by assumption) ?_; repeat (first | exact sub_self | refine sub_tail ?_)))) (by ktr_room) (by ktr_units) ?_; intro x9z h9z tk9z p9z F9z N9z; clear p9z; walk_at "Z"))) | (k_unfold; (try dsimp only)) | (k_end; wrow_close) | walk1 | (dsimp only; walk1) | (leave1; try dsimp only) | fail "no step")
    all_goals first | exact hret () _ _ trivial (by k_asm) (cb_drop (by k_asm) (by repeat (first | exact sub_self | refine sub_tail ?_))) | walk_report
  · repeat' (first | (k_here; (with_reducible show wpAny _ _ (call (Value.ref 251) _ _) _ _ _); k_dflt (first | (refine Cut.pure_use (by k_asm) (by k_asm) (by k_asm) (by k_asm) (by k_asm) (by first | exact rfl | assumption) (deref _ _ _ _ _ _ _ (by first | assumption | (refine Mach.mono (by assumption) ?_; repeat (first | exact sub_self | refine sub_tail ?_))) (by k_mem) (by first | assumption | exact Der.int (by k_mem) | (refine Der.mono (by assumption) ?_; repeat (first | exact sub_self | refine sub_tail ?_)))) (by ktr_room) (by ktr_units) ?_; intro x9z h9z tk9z p9z F9z N9z; clear p9z; walk_at "Z"))) | (k_unfold; (try dsimp only)) | (k_end; wrow_close) | walk1 | (dsimp only; walk1) | (leave1; try dsimp only) | fail "no step")
    all_goals first | exact hret () _ _ trivial (by k_asm) (cb_drop (by k_asm) (by repeat (first | exact sub_self | refine sub_tail ?_))) | walk_report
  · have m1 := M0.x; have m2 := M0.xd; have m3 := M0.m; have m4 := M0.md
    repeat' (first | (k_here; (with_reducible show wpAny _ _ (call (Value.ref 251) _ _) _ _ _); k_dflt (first | (refine Cut.pure_use (by k_asm) (by k_asm) (by k_asm) (by k_asm) (by k_asm) (by first | exact rfl | assumption) (deref _ _ _ _ _ _ _ (by first | assumption | (refine Mach.mono (by assumption) ?_; repeat (first | exact sub_self | refine sub_tail ?_))) (by k_mem) (by first | assumption | exact Der.int (by k_mem) | (refine Der.mono (by assumption) ?_; repeat (first | exact sub_self | refine sub_tail ?_)))) (by ktr_room) (by ktr_units) ?_; intro x9z h9z tk9z p9z F9z N9z; clear p9z; walk_at "Z"))) | (k_unfold; (try dsimp only)) | (k_end; wrow_close) | walk1 | (dsimp only; walk1) | (leave1; try dsimp only) | fail "no step")
    all_goals first | exact hret () _ _ trivial (by k_asm) (cb_drop (by k_asm) (by repeat (first | exact sub_self | refine sub_tail ?_))) | walk_report

theorem uni_same (w : World) (A : Ad) (r z : Addr) (v : Int) (t1 t2 t3 t4 : Tok) (n n' n2 : Nat) (hs : List Value) (rest : List (Addr × Obj)) (M : Mach w.params A rest) (hl : hs.length ≤ 1000) (h4 : (A.H, listOf hs.toArray n2) ∈ rest)
    (h5 : (r, tup #[.int 5 t1, .int v t2] n) ∈ rest) (h6 : (z, tup #[.int 5 t3, .int v t4] n') ∈ rest) :
    Cut w 566 [.ref A.M, .ref r, .ref z] 30 900 rest (fun _ : Unit => True) (fun _ => .bool true) (fun _ => rest) :=
  uni_all w A r z 5 v v t1 t2 t3 t4 n n' n2 hs rest rest true M hl h4 (.int h5) h5 h6 (.inl ⟨rfl, rfl, rfl, rfl⟩)
theorem uni_other (w : World) (A : Ad) (r z : Addr) (v v2 : Int) (hv : v ≠ v2) (t1 t2 t3 t4 : Tok) (n n' n2 : Nat) (hs : List Value) (rest : List (Addr × Obj)) (M : Mach w.params A rest) (hl : hs.length ≤ 1000) (h4 : (A.H, listOf hs.toArray n2) ∈ rest)
    (h5 : (r, tup #[.int 5 t1, .int v t2] n) ∈ rest) (h6 : (z, tup #[.int 5 t3, .int v2 t4] n') ∈ rest) :
    Cut w 566 [.ref A.M, .ref r, .ref z] 30 900 rest (fun _ : Unit => True) (fun _ => .bool false) (fun _ => rest) :=
  uni_all w A r z 5 v v2 t1 t2 t3 t4 n n' n2 hs rest rest false M hl h4 (.int h5) h5 h6 (.inr (.inl ⟨rfl, hv, rfl, rfl⟩))
theorem uni_free (w : World) (A : Ad) (r z : Addr) (i v2 : Int) (t1 t2 t3 t4 : Tok) (n n' n2 : Nat) (hs : List Value) (rest : List (Addr × Obj)) (M : Mach w.params A rest) (hne : ∀ p ∈ rest, p.1 ≠ A.H) (hl : hs.length ≤ 1000)
    (h5 : (r, tup #[.int 0 t1, .int i t2] n) ∈ rest) (g0 : hs[i.toNat]? = some (.ref r)) (g1 : 0 ≤ i) (g2 : i < hs.length) (g3 : i < 2 ^ 63) (h6 : (z, tup #[.int 5 t3, .int v2 t4] n') ∈ rest) :
    Cut w 566 [.ref A.M, .ref r, .ref z] 30 900 ((A.H, listOf hs.toArray n2) :: rest) (fun _ : Unit => True) (fun _ => .bool true) (fun _ => (A.H, listOf (hs.set i.toNat (.ref z)).toArray n2) :: rest) :=
  uni_all w A r z 0 i v2 t1 t2 t3 t4 n n' n2 hs _ _ true (M.mono (sub_tail sub_self)) hl (.head _) (.free (.tail _ h5) g0 g1 g3) (.tail _ h5) (.tail _ h6) (.inr (.inr ⟨rest, rfl, rfl, rfl, rfl, hne, g0, g1, g2, g3, M, h5, h6⟩))
end Sec7
/-! M6 -/
structure SxD where
  xs : List Value
  n : Nat
def Sx (xs : List Value) (k : Nat) (v : Value) (ys : List Value) : Prop := ys[k]? = some v ∧ (∀ j, j ≠ k → j < xs.length → ys[j]? = xs[j]?) ∧ ys.length = max xs.length (k + 1)

theorem setx_in (w : World) (A : Ad) (c : Addr) (k : Int) (tk₀ : Tok) (n3 : Nat) (xs : List Value) (rest : List (Addr × Obj)) (M : Mach w.params A rest) (hne : ∀ p ∈ rest, p.1 ≠ A.XL) (hl : xs.length ≤ 1000) (h0 : 0 ≤ k) (h1 : k < xs.length) :
    Cut w 545 [.ref A.M, .int k tk₀, .ref c] 10 400 ((A.XL, listOf xs.toArray n3) :: rest) (fun _ : Unit => True) (fun _ => .none) (fun _ => (A.XL, listOf (xs.set k.toNat (.ref c)).toArray n3) :: rest) := by
  have m1 := M.x; have m2 := M.xd; have m3 := M.m; have m4 := M.md
  unfold Cut; k_fill; intro mean mg mb dp un gd cn cs a ccd cl outer A₀ base h₀ L m s Q Xx B F XX N TT hks hd hu hret
  refine wpAny_call ?_
  k_dflt cell_enter
  repeat' (first | (k_unfold; (try dsimp only)) | (k_end; wrow_close) | walk1 | (dsimp only; walk1) | (leave1; try dsimp only) | fail "no step")
  all_goals first | exact hret () _ _ trivial (by k_asm) (cb_drop (by k_asm) (by repeat (first | exact sub_self | refine sub_tail ?_))) | walk_report
theorem setx_out (w : World) (A : Ad) (c : Addr) (k : Int) (tk₀ : Tok) (n3 : Nat) (xs : List Value) (rest : List (Addr × Obj)) (M : Mach w.params A rest) (hne : ∀ p ∈ rest, p.1 ≠ A.XL) (hl : xs.length ≤ 1000) (h1 : k = xs.length) :
    Cut w 545 [.ref A.M, .int k tk₀, .ref c] 10 400 ((A.XL, listOf xs.toArray n3) :: rest) (fun _ : Unit => True) (fun _ => .none) (fun _ => (A.XL, listOf ((xs ++ [Value.ref 201]).set k.toNat (.ref c)).toArray (n3 + 1)) :: rest) := by
  have m1 := M.x; have m2 := M.xd; have m3 := M.m; have m4 := M.md
  unfold Cut; k_fill; intro mean mg mb dp un gd cn cs a ccd cl outer A₀ base h₀ L m s Q Xx B F XX N TT hks hd hu hret
  refine wpAny_call ?_
  k_dflt cell_enter
  repeat' (first | (k_unfold; (try dsimp only)) | (k_end; wrow_close) | walk1 | (dsimp only; walk1) | (leave1; try dsimp only) | fail "no step")
  all_goals first | exact hret () _ _ trivial (by k_asm) (cb_drop (by k_asm) (by repeat (first | exact sub_self | refine sub_tail ?_))) | walk_report
section Sec8
/-! M7 -/
local macro_rules | `(tactic| walk_at "execs cons") => `(tactic| (k_here; first | k_gentoks | ((with_reducible refine wpAny_execs_cons ?_); try dsimp only)))
local macro_rules | `(tactic| walk_at "d12") => `(tactic| skip)
local macro_rules | `(tactic| walk_at "d13") => `(tactic| skip)
local macro_rules | `(tactic| walk_at "d14") => `(tactic| skip)
local macro_rules | `(tactic| walk_at "d15") => `(tactic| skip)
local macro_rules | `(tactic| walk_at "d16") => `(tactic| skip)
local macro_rules | `(tactic| walk_at "d17") => `(tactic| skip)
theorem setx (w : World) (A : Ad) (c : Addr) (k : Int) (tk₀ : Tok) (n3 : Nat) (xs : List Value) (rest : List (Addr × Obj)) (M : Mach w.params A rest) (hne : ∀ p ∈ rest, p.1 ≠ A.XL) (hl : xs.length ≤ 1000) (h0 : 0 ≤ k) (h1 : k ≤ xs.length) :
    Cut w 545 [.ref A.M, .int k tk₀, .ref c] 10 400 ((A.XL, listOf xs.toArray n3) :: rest) (fun x : SxD => Sx xs k.toNat (.ref c) x.xs) (fun _ => .none) (fun x => (A.XL, listOf x.xs.toArray x.n) :: rest) := by
  by_cases h : k < xs.length
  · have g : k.toNat < xs.length := (Int.toNat_lt h0).mpr h
    refine (setx_in w A c k tk₀ n3 xs rest M hne hl h0 h).conseq fun _ _ => ⟨⟨_, _⟩, ⟨?_, ?_, ?_⟩, rfl, fun p hp => hp⟩
    · show (xs.set k.toNat (Value.ref c))[k.toNat]? = _
      rw [List.getElem?_set_self g]
    · intro j hj hj2
      show (xs.set k.toNat (Value.ref c))[j]? = _
      rw [List.getElem?_set_ne (Ne.symm hj)]
    · show (xs.set k.toNat (Value.ref c)).length = _
      rw [List.length_set]; exact (Nat.max_eq_left g).symm
  · obtain rfl : k = xs.length := Int.le_antisymm h1 (Int.not_lt.mp h)
    refine (setx_out w A c _ tk₀ n3 xs rest M hne hl rfl).conseq fun _ _ => ⟨⟨_, _⟩, ⟨?_, ?_, ?_⟩, rfl, fun p hp => hp⟩
    · show ((xs ++ [Value.ref 201]).set xs.length (Value.ref c))[xs.length]? = _
      rw [List.getElem?_set_self (by rw [List.length_append]; exact Nat.lt_succ_self _)]
    · intro j hj hj2
      show ((xs ++ [Value.ref 201]).set xs.length (Value.ref c))[j]? = _
      rw [List.getElem?_set_ne (show xs.length ≠ j from Ne.symm hj), List.getElem?_append_left hj2]
    · show ((xs ++ [Value.ref 201]).set xs.length (Value.ref c)).length = _
      rw [List.length_set, List.length_append]; exact (Nat.max_eq_right (Nat.le_succ _)).symm
theorem setx_use {w : World} {A : Ad} {c : Addr} {k : Int} {tk₀ : Tok} {n3 : Nat} {xs : List Value}
    {mean : ExcName → Option Value} {mg mb : Str → Option Value} {dp un : Nat} {gd : Option (List Code)} {cn : Str} {cs : Scope} {a : Addr} {ccd : Value} {cl : List (Str × Addr)} {outer : List Env} {A₀ : Around} {base h₀ : Heap} {L : Addr} {m : Str → Option Value} {s : Shared}
    {Q X : Value → Shared → Prop} {news : List (Addr × Obj)} {nf : Obj → List (Addr × Obj)}
    (B : Below A₀ base outer h₀) (F : Fr h₀ L s.heap m) (X₀ : (Mine.K w.params).In h₀) (N : News h₀ L s.heap news) (T : Top VW LO mean mg mb h₀) (hk : cs.kind = .function) (U : UpdF A.XL (listOf xs.toArray n3) news nf) (M : Mach w.params A news) (hl : xs.length ≤ 1000) (h0 : 0 ≤ k) (h1 : k ≤ xs.length) (hd : dp + 10 < recursionLimit) (hu : un + 400 < cLine)
    (ret : ∀ (x : SxD) h' tk', Sx xs k.toNat (.ref c) x.xs → Fr h₀ L h' m → News h₀ L h' (nf (listOf x.xs.toArray x.n)) → Q .none { s with heap := h', toks := tk' }) :
    wpAny (model PySem.Challenge.rw_sa0162_01.row.prog w) (ktrTop dp un gd cn cs L a ccd cl outer) (call (.ref 545) [.ref A.M, .int k tk₀, .ref c]) Q X s :=
  Cut.upd_use B F X₀ N T hk U (fun rest hn hm => setx w A c k tk₀ n3 xs rest (M.awayX hm) hn hl h0 h1) hd hu ret
local macro_rules | `(tactic| walk_at "call ref") => `(tactic| (k_here; (with_reducible show wpAny _ _ (call (Value.ref 545) _ _) _ _ _); k_dflt (refine' setx_use (by k_asm) (by k_asm) (by k_asm) (by k_asm) (by k_asm) (by walk_at "R") (by k_updF) (by walk_at "M") (by omega) (by omega) (by omega) (by ktr_room) (by ktr_units) ?_; k_whole; intro x9 h9 tk9 p9 F9 N9; ((first | (refine and3 p9 ?_; (try clear p9); intro pa9 pb9 pc9) | obtain ⟨pa9, pb9, pc9⟩ := p9)); (try dsimp only at N9); walk_at "Z")))
inductive JM (A : Ad) (LS : Addr) (rest : List (Addr × Obj)) (xs cs : List Value) (i : Nat) (m : Str → Option Value) (nx : List (Addr × Obj)) : Prop
  | mk (ys : List Value) (n' : Nat) (h0 : nx = (A.XL, listOf ys.toArray n') :: rest) (h1 : ys.length = max xs.length (i + 1)) (h2 : ∀ j, j < i → ys[j + 1]? = cs[j]?) (u : Option Value) (k : Int) (t : Tok) (h3 : k = (i : Int))
     (h4 : m = fun y => if y = Str.ofString "cell" then u else if y = Str.ofString "number" then some (.int k t) else if y = Str.ofString "cells" then some (.ref LS) else if y = Str.ofString "self" then some (.ref A.M) else none) : JM A LS rest xs cs i m nx
theorem setargs (w : World) (A : Ad) (LS : Addr) (n3 nl : Nat) (xs cs : List Value) (rest : List (Addr × Obj)) (M : Mach w.params A rest) (hne : ∀ p ∈ rest, p.1 ≠ A.XL) (hl : xs.length ≤ 100) (hl1 : 1 ≤ xs.length) (hc : cs.length ≤ 10) (hcs : ∀ v ∈ cs, ∃ c, v = .ref c) (hL : (LS, listOf cs.toArray nl) ∈ rest) :
    Cut w 552 [.ref A.M, .ref LS] 20 900 ((A.XL, listOf xs.toArray n3) :: rest) (fun x : SxD => x.xs.length = max xs.length (cs.length + 1) ∧ ∀ j, j < cs.length → x.xs[j + 1]? = cs[j]?) (fun _ => .none) (fun x => (A.XL, listOf x.xs.toArray x.n) :: rest) := by
  have m1 := M.x; have m2 := M.xd; have m3 := M.m; have m4 := M.md
  unfold Cut; k_fill; intro mean mg mb dp un gd cn cs' a ccd cl outer A₀ base h₀ L m s Q Xx B F XX N TT hks hd hu hret
  refine wpAny_call ?_
  k_dflt cell_enter
  repeat' (first | (k_unfold; (try dsimp only)) | (k_end; wrow_close) | walk1 | (dsimp only; walk1) | (leave1; try dsimp only) | fail "no step")
  (rename Fr _ _ _ _ => lF)
  (with_unfolding_all refine' For_invVF lF ?k1 ?k2 ?_); (case k1 => exact rfl); (case k2 => exact rfl)
  walk1
  have e9 : ∀ (a b : Str), (a == b) = decide (a = b) := fun a b => rfl
  refine iter_led (JM A LS rest xs cs) rfl (by k_asm) (by k_asm) (.tail _ hL) ?_ ?_ ?_ ?_
  · rintro i m nx ⟨ys, n', rfl, _⟩; exact .tail _ hL
  · refine' ⟨xs, n3, rfl, (Nat.max_eq_left hl1).symm, fun j hj => absurd hj (Nat.not_lt_zero j), none, 0, _, rfl, _⟩
    rotate_left
    · funext y
      show (if y = Str.ofString "number" then some (Value.int 0 _) else List.lookup y [(Str.ofString "cells", Value.ref LS), (Str.ofString "self", Value.ref A.M)]) = _
      rw [look2]
      by_cases c : y = Str.ofString "cell"
      · subst c; rfl
      · rw [if_neg c]
  · rintro i v m nx h tk I io hv ⟨ys, n', rfl, hlen, hpre, u, k, t, hk, rfl⟩ hI F' N'
    have hv' : v ∈ cs := by
      have := List.mem_of_getElem? (l := cs) (i := i) (a := v) (by simpa using hv)
      exact this
    have hi : i < cs.length := by
      have := List.getElem?_eq_some_iff.mp (show cs[i]? = some v by simpa using hv)
      exact this.1
    obtain ⟨c, rfl⟩ := hcs v hv'
    have hIX := neN (hI _ (.head _))
    (try dsimp only [envOf] at F' N')
    have hIR : ∀ p ∈ rest, p.1 ≠ I := fun p hp => hI p (.tail _ hp)
    (try (refine foldQ ?_; intro qkT2))
    repeat' (first | (k_unfold; (try dsimp only)) | (k_end; wrow_close) | walk1 | (dsimp only; walk1) | (leave1; try dsimp only) | fail "no step")
    rename_i x9 h9 tk9 F9 N9 pa9 pb9 pc9
    have hk1 : (k + 1).toNat = i + 1 := by rw [hk]; rfl
    rw [hk1] at pa9 pb9 pc9
    refine ⟨_, _, _, _, rfl, F9, N9, fun p hp => ?_, x9.xs, x9.n, rfl, pc9.trans (by rw [hlen]; exact max_up), fun j hj => ?_, some (.ref c), k + 1, tk + 1, by rw [hk]; rfl, ?_⟩
    · rcases List.mem_cons.mp hp with rfl | hp
      · exact hIX
      · exact hIR p hp
    · by_cases e : j = i
      · subst e
        rw [pa9]
        exact (show cs[j]? = some (Value.ref c) by simpa using hv).symm
      · rw [pb9 (j + 1) (fun q => e (Nat.succ.inj q)) (by rw [hlen]; exact Nat.lt_of_lt_of_le (Nat.succ_lt_succ (Nat.lt_of_le_of_ne (Nat.le_of_lt_succ hj) e)) (Nat.le_max_right _ _))]
        exact hpre j (Nat.lt_of_le_of_ne (Nat.le_of_lt_succ hj) e)
    · funext y
      by_cases c1 : y = Str.ofString "cell"
      · subst c1; rfl
      · by_cases c2 : y = Str.ofString "number"
        · subst c2; rfl
        · simp only [if_neg c1, if_neg c2]
  · rintro m nx h tk ⟨ys, n', rfl, hlen, hpre, u, k, t, hk, rfl⟩ F' N'
    (try dsimp only [envOf] at F' N')
    have hsz : cs.toArray.size = cs.length := by simp
    rw [hsz] at hlen hpre
    (try (refine foldQ ?_; intro qkT3))
    repeat' (first | (k_unfold; (try dsimp only)) | (k_end; wrow_close) | walk1 | (dsimp only; walk1) | (leave1; try dsimp only) | fail "no step")
    all_goals exact hret ⟨ys, n'⟩ _ _ ⟨hlen, hpre⟩ (by k_asm) (by k_asm)
end Sec8
/-! M8 -/
theorem sum_same (w : World) (A : Ad) (q1 q2 q3 r1 r2 r3 : Addr) (a b c : Int) (s1 s2 s3 u1 u2 u3 : Tok) (k1 k2 k3 n2 n3 : Nat) (hs xs : List Value) (rest : List (Addr × Obj)) (M : Mach w.params A rest) (hl : hs.length ≤ 1000) (h4 : (A.H, listOf hs.toArray n2) ∈ rest) (h6 : (A.XL, listOf xs.toArray n3) ∈ rest)
    (x1 : xs[1]? = some (.ref q1)) (x2 : xs[2]? = some (.ref q2)) (x3 : xs[3]? = some (.ref q3)) (D1 : Der rest hs q1 r1) (D2 : Der rest hs q2 r2) (D3 : Der rest hs q3 r3)
    (i1 : (r1, tup #[.int 5 s1, .int a u1] k1) ∈ rest) (i2 : (r2, tup #[.int 5 s2, .int b u2] k2) ∈ rest) (i3 : (r3, tup #[.int 5 s3, .int (a + b) u3] k3) ∈ rest) (hb : (Builtin.Int.intBits (a + b) : Int) ≤ 4096) :
    Cut w 439 [.ref A.M] 60 2500 rest (fun _ : Unit => True) (fun _ => .bool true) (fun _ => rest) := by
  have m1 := M.x; have m2 := M.xd; have m3 := M.m; have m4 := M.md
  unfold Cut; k_fill; intro mean mg mb dp un gd cn cs a ccd cl outer A₀ base h₀ L m s Q Xx B F XX N TT hks hd hu hret
  refine wpAny_call ?_
  k_dflt cell_enter
  repeat' (first | (k_here; (with_reducible show wpAny _ _ (call (Value.ref 566) _ _) _ _ _); k_dflt (first | (refine' Cut.pure_use (by k_asm) (by k_asm) (by k_asm) (by k_asm) (by k_asm) (by walk_at "R") (uni_same _ _ _ _ _ _ _ _ _ _ _ _ _ _ (by walk_at "M") (by assumption) (by k_mem) (by k_mem) (by k_mem)) (by ktr_room) (by ktr_units) ?_; k_whole; intro x9z h9z tk9z p9z F9z N9z; clear p9z; walk_at "Z") | (refine' Cut.pure_use (by k_asm) (by k_asm) (by k_asm) (by k_asm) (by k_asm) (by walk_at "R") (uni_other _ _ _ _ _ _ (by assumption) _ _ _ _ _ _ _ _ _ (by walk_at "M") (by assumption) (by k_mem) (by k_mem) (by k_mem)) (by ktr_room) (by ktr_units) ?_; k_whole; intro x9z h9z tk9z p9z F9z N9z; clear p9z; walk_at "Z"))) | (k_here; (with_reducible show wpAny _ _ (call (Value.ref 411) _ _) _ _ _); k_dflt (refine' Cut.pure_use (by k_asm) (by k_asm) (by k_asm) (by k_asm) (by k_asm) (by walk_at "R") (check_size _ _ _ _ _ _ (by assumption)) (by ktr_room) (by ktr_units) ?_; k_whole; intro x9z h9z tk9z p9z F9z N9z; clear p9z; walk_at "Z")) | (k_here; (with_reducible show wpAny _ _ (call (Value.ref 418) _ _) _ _ _); k_dflt (first | (refine' Cut.pure_use (by k_asm) (by k_asm) (by k_asm) (by k_asm) (by k_asm) (by walk_at "R") (iov_int _ _ _ _ _ _ _ _ _ _ _ _ _ _ _ (by walk_at "M") (by k_mem) (by k_mem) (by assumption) (by decide) (by decide) (by walk_at "M") (by k_mem)) (by ktr_room) (by ktr_units) ?_; k_whole; intro x9z h9z tk9z p9z F9z N9z; clear p9z; walk_at "Z") | (refine' Cut.pure_use (by k_asm) (by k_asm) (by k_asm) (by k_asm) (by k_asm) (by walk_at "R") (iov_free _ _ _ _ _ _ _ _ _ _ _ _ _ _ (by walk_at "M") (by k_mem) (by k_mem) (by assumption) (by decide) (by decide) (by k_mem) (by assumption) (by assumption) (by assumption)) (by ktr_room) (by ktr_units) ?_; k_whole; intro x9z h9z tk9z p9z F9z N9z; clear p9z; walk_at "Z"))) | (k_here; (with_reducible show wpAny _ _ (call (Value.ref 279) _ _) _ _ _); k_dflt (first | (refine' Cut.pure_use (by k_asm) (by k_asm) (by k_asm) (by k_asm) (by k_asm) (by walk_at "R") (globalise_int _ _ _ _ _ _ _ _ _ _ _ (by walk_at "M") (by k_mem) (by walk_at "M") (by k_mem)) (by ktr_room) (by ktr_units) ?_; k_whole; intro x9z h9z tk9z p9z F9z N9z; clear p9z; walk_at "Z") | (refine' Cut.pure_use (by k_asm) (by k_asm) (by k_asm) (by k_asm) (by k_asm) (by walk_at "R") (globalise_free _ _ _ _ _ _ _ _ _ _ (by walk_at "M") (by k_mem) (by walk_at "M") (by k_mem)) (by ktr_room) (by ktr_units) ?_; k_whole; intro x9z h9z tk9z p9z F9z N9z; clear p9z; walk_at "Z"))) | (k_unfold; (try dsimp only)) | (k_end; wrow_close) | walk1 | (dsimp only; walk1) | (leave1; try dsimp only) | fail "no step")
  all_goals first | exact hret () _ _ trivial (by k_asm) (cb_drop (by k_asm) (by repeat (first | exact sub_self | refine sub_tail ?_))) | walk_report
/-! M9 -/
theorem Ne9 {l : List (Addr × Obj)} {P q : Addr} {o : Obj} (h : ∀ p ∈ l, p.1 ≠ P) (hm : (q, o) ∈ l) : q ≠ P := h _ hm
theorem uni_free_use {w : World} {A : Ad} {r z : Addr} {i v2 : Int} {t1 t2 t3 t4 : Tok} {n n' n2 : Nat} {hs : List Value}
    {mean : ExcName → Option Value} {mg mb : Str → Option Value} {dp un : Nat} {gd : Option (List Code)} {cn : Str} {cs : Scope} {a : Addr} {ccd : Value} {cl : List (Str × Addr)} {outer : List Env} {A₀ : Around} {base h₀ : Heap} {L : Addr} {m : Str → Option Value} {s : Shared}
    {Q X : Value → Shared → Prop} {news : List (Addr × Obj)} {nf : Obj → List (Addr × Obj)}
    (B : Below A₀ base outer h₀) (F : Fr h₀ L s.heap m) (X₀ : (Mine.K w.params).In h₀) (N : News h₀ L s.heap news) (T : Top VW LO mean mg mb h₀) (hk : cs.kind = .function) (U : UpdF A.H (listOf hs.toArray n2) news nf) (M : Mach w.params A news) (hl : hs.length ≤ 1000)
    (h5 : (r, tup #[.int 0 t1, .int i t2] n) ∈ news) (hr : r ≠ A.H) (g0 : hs[i.toNat]? = some (.ref r)) (g1 : 0 ≤ i) (g2 : i < hs.length) (g3 : i < 2 ^ 63) (h6 : (z, tup #[.int 5 t3, .int v2 t4] n') ∈ news) (hz : z ≠ A.H) (hd : dp + 30 < recursionLimit) (hu : un + 900 < cLine)
    (ret : ∀ h' tk', Fr h₀ L h' m → News h₀ L h' (nf (listOf (hs.set i.toNat (.ref z)).toArray n2)) → Q (.bool true) { s with heap := h', toks := tk' }) :
    wpAny (model PySem.Challenge.rw_sa0162_01.row.prog w) (ktrTop dp un gd cn cs L a ccd cl outer) (call (.ref 566) [.ref A.M, .ref r, .ref z]) Q X s :=
  Cut.upd_use (O := fun _ : Unit => listOf (hs.set i.toNat (.ref z)).toArray n2) B F X₀ N T hk U (fun rest hn hm => uni_free w A r z i v2 t1 t2 t3 t4 n n' n2 hs rest (M.awayH hm) hn hl (hm _ h5 hr) g0 g1 g2 g3 (hm _ h6 hz)) hd hu (fun _ h' tk' _ F' N' => ret h' tk' F' N')
theorem sum_other (w : World) (A : Ad) (q1 q2 q3 r1 r2 r3 : Addr) (a b c : Int) (hv : c ≠ a + b) (s1 s2 s3 u1 u2 u3 : Tok) (k1 k2 k3 n2 n3 : Nat) (hs xs : List Value) (rest : List (Addr × Obj)) (M : Mach w.params A rest) (hl : hs.length ≤ 1000) (h4 : (A.H, listOf hs.toArray n2) ∈ rest) (h6 : (A.XL, listOf xs.toArray n3) ∈ rest)
    (x1 : xs[1]? = some (.ref q1)) (x2 : xs[2]? = some (.ref q2)) (x3 : xs[3]? = some (.ref q3)) (D1 : Der rest hs q1 r1) (D2 : Der rest hs q2 r2) (D3 : Der rest hs q3 r3)
    (i1 : (r1, tup #[.int 5 s1, .int a u1] k1) ∈ rest) (i2 : (r2, tup #[.int 5 s2, .int b u2] k2) ∈ rest) (i3 : (r3, tup #[.int 5 s3, .int c u3] k3) ∈ rest) (hb : (Builtin.Int.intBits (a + b) : Int) ≤ 4096) :
    Cut w 439 [.ref A.M] 60 2500 rest (fun _ : Unit => True) (fun _ => .bool false) (fun _ => rest) := by
  have m1 := M.x; have m2 := M.xd; have m3 := M.m; have m4 := M.md
  unfold Cut; k_fill; intro mean mg mb dp un gd cn cs a ccd cl outer A₀ base h₀ L m s Q Xx B F XX N TT hks hd hu hret
  refine wpAny_call ?_
  k_dflt cell_enter
  repeat' (first | (k_here; (with_reducible show wpAny _ _ (call (Value.ref 566) _ _) _ _ _); k_dflt (refine' uni_free_use (by k_asm) (by k_asm) (by k_asm) (by k_asm) (by k_asm) (by walk_at "R") (by k_updF) (by walk_at "M") (by assumption) (by k_mem) (by exact Ne9 (by assumption) (by assumption)) (by assumption) (by assumption) (by assumption) (by assumption) (by k_mem) (by k_ne) (by ktr_room) (by ktr_units) ?_; k_whole; intro h9z tk9z F9z N9z; (try dsimp only at N9z); walk_at "Z")) | (k_here; (with_reducible show wpAny _ _ (call (Value.ref 566) _ _) _ _ _); k_dflt (first | (refine' Cut.pure_use (by k_asm) (by k_asm) (by k_asm) (by k_asm) (by k_asm) (by walk_at "R") (uni_same _ _ _ _ _ _ _ _ _ _ _ _ _ _ (by walk_at "M") (by assumption) (by k_mem) (by k_mem) (by k_mem)) (by ktr_room) (by ktr_units) ?_; k_whole; intro x9z h9z tk9z p9z F9z N9z; clear p9z; walk_at "Z") | (refine' Cut.pure_use (by k_asm) (by k_asm) (by k_asm) (by k_asm) (by k_asm) (by walk_at "R") (uni_other _ _ _ _ _ _ (by assumption) _ _ _ _ _ _ _ _ _ (by walk_at "M") (by assumption) (by k_mem) (by k_mem) (by k_mem)) (by ktr_room) (by ktr_units) ?_; k_whole; intro x9z h9z tk9z p9z F9z N9z; clear p9z; walk_at "Z"))) | (k_here; (with_reducible show wpAny _ _ (call (Value.ref 411) _ _) _ _ _); k_dflt (refine' Cut.pure_use (by k_asm) (by k_asm) (by k_asm) (by k_asm) (by k_asm) (by walk_at "R") (check_size _ _ _ _ _ _ (by assumption)) (by ktr_room) (by ktr_units) ?_; k_whole; intro x9z h9z tk9z p9z F9z N9z; clear p9z; walk_at "Z")) | (k_here; (with_reducible show wpAny _ _ (call (Value.ref 418) _ _) _ _ _); k_dflt (first | (refine' Cut.pure_use (by k_asm) (by k_asm) (by k_asm) (by k_asm) (by k_asm) (by walk_at "R") (iov_int _ _ _ _ _ _ _ _ _ _ _ _ _ _ _ (by walk_at "M") (by k_mem) (by k_mem) (by assumption) (by decide) (by decide) (by walk_at "M") (by k_mem)) (by ktr_room) (by ktr_units) ?_; k_whole; intro x9z h9z tk9z p9z F9z N9z; clear p9z; walk_at "Z") | (refine' Cut.pure_use (by k_asm) (by k_asm) (by k_asm) (by k_asm) (by k_asm) (by walk_at "R") (iov_free _ _ _ _ _ _ _ _ _ _ _ _ _ _ (by walk_at "M") (by k_mem) (by k_mem) (by assumption) (by decide) (by decide) (by k_mem) (by assumption) (by assumption) (by assumption)) (by ktr_room) (by ktr_units) ?_; k_whole; intro x9z h9z tk9z p9z F9z N9z; clear p9z; walk_at "Z"))) | (k_here; (with_reducible show wpAny _ _ (call (Value.ref 279) _ _) _ _ _); k_dflt (first | (refine' Cut.pure_use (by k_asm) (by k_asm) (by k_asm) (by k_asm) (by k_asm) (by walk_at "R") (globalise_int _ _ _ _ _ _ _ _ _ _ _ (by walk_at "M") (by k_mem) (by walk_at "M") (by k_mem)) (by ktr_room) (by ktr_units) ?_; k_whole; intro x9z h9z tk9z p9z F9z N9z; clear p9z; walk_at "Z") | (refine' Cut.pure_use (by k_asm) (by k_asm) (by k_asm) (by k_asm) (by k_asm) (by walk_at "R") (globalise_free _ _ _ _ _ _ _ _ _ _ (by walk_at "M") (by k_mem) (by walk_at "M") (by k_mem)) (by ktr_room) (by ktr_units) ?_; k_whole; intro x9z h9z tk9z p9z F9z N9z; clear p9z; walk_at "Z"))) | (k_unfold; (try dsimp only)) | (k_end; wrow_close) | walk1 | (dsimp only; walk1) | (leave1; try dsimp only) | fail "no step")
  all_goals first | exact hret () _ _ trivial (by k_asm) (cb_drop (by k_asm) (by repeat (first | exact sub_self | refine sub_tail ?_))) | walk_report
theorem sum_1 (w : World) (A : Ad) (q1 q2 q3 r2 r3 : Addr) (b c i : Int) (s1 u1 s2 u2 s3 u3 : Tok) (k1 k2 k3 n2 n3 : Nat) (hs xs : List Value) (rest : List (Addr × Obj)) (M : Mach w.params A rest) (hne : ∀ p ∈ rest, p.1 ≠ A.H) (hl : hs.length ≤ 1000) (h6 : (A.XL, listOf xs.toArray n3) ∈ rest)
    (x1 : xs[1]? = some (.ref q1)) (x2 : xs[2]? = some (.ref q2)) (x3 : xs[3]? = some (.ref q3)) (D2 : Der ((A.H, listOf hs.toArray n2) :: rest) hs q2 r2) (D3 : Der ((A.H, listOf hs.toArray n2) :: rest) hs q3 r3)
    (i2 : (r2, tup #[.int 5 s2, .int b u2] k2) ∈ rest) (i3 : (r3, tup #[.int 5 s3, .int c u3] k3) ∈ rest) (j1 : (q1, tup #[.int 0 s1, .int i u1] k1) ∈ rest) (g0 : hs[i.toNat]? = some (.ref q1)) (g1 : 0 ≤ i) (g2 : i < hs.length) (g3 : i < 2 ^ 63) (hb : (Builtin.Int.intBits (c - b) : Int) ≤ 4096) :
    Cut w 439 [.ref A.M] 60 2500 ((A.H, listOf hs.toArray n2) :: rest) (fun x : NvD => A.H < x.q ∧ ∀ p ∈ rest, p.1 < x.q) (fun _ => .bool true) (fun x => (x.q, tup #[.int 5 x.t1, .int (c - b) x.t2] x.n) :: (A.H, listOf (hs.set i.toNat (.ref x.q)).toArray x.n2) :: rest) := by
  have m1 := M.x; have m2 := M.xd; have m3 := M.m; have m4 := M.md; have nhx := neN M.nHX
  have D1 : Der ((A.H, listOf hs.toArray n2) :: rest) hs q1 q1 := .free (.tail _ j1) g0 g1 g3
  unfold Cut; k_fill; intro mean mg mb dp un gd cn cs a' ccd cl outer A₀ base h₀ L m s Q Xx B F XX N TT hks hd hu hret
  refine wpAny_call ?_
  k_dflt cell_enter
  repeat' (first | (k_here; (with_reducible show wpAny _ _ (call (Value.ref 566) _ _) _ _ _); k_dflt (refine' uni_free_use (by k_asm) (by k_asm) (by k_asm) (by k_asm) (by k_asm) (by walk_at "R") (by k_updF) (by walk_at "M") (by assumption) (by k_mem) (by exact Ne9 (by assumption) (by assumption)) (by assumption) (by assumption) (by assumption) (by assumption) (by k_mem) (by k_ne) (by ktr_room) (by ktr_units) ?_; k_whole; intro h9z tk9z F9z N9z; (try dsimp only at N9z); walk_at "Z")) | (k_here; (with_reducible show wpAny _ _ (call (Value.ref 566) _ _) _ _ _); k_dflt (first | (refine' Cut.pure_use (by k_asm) (by k_asm) (by k_asm) (by k_asm) (by k_asm) (by walk_at "R") (uni_same _ _ _ _ _ _ _ _ _ _ _ _ _ _ (by walk_at "M") (by assumption) (by k_mem) (by k_mem) (by k_mem)) (by ktr_room) (by ktr_units) ?_; k_whole; intro x9z h9z tk9z p9z F9z N9z; clear p9z; walk_at "Z") | (refine' Cut.pure_use (by k_asm) (by k_asm) (by k_asm) (by k_asm) (by k_asm) (by walk_at "R") (uni_other _ _ _ _ _ _ (by assumption) _ _ _ _ _ _ _ _ _ (by walk_at "M") (by assumption) (by k_mem) (by k_mem) (by k_mem)) (by ktr_room) (by ktr_units) ?_; k_whole; intro x9z h9z tk9z p9z F9z N9z; clear p9z; walk_at "Z"))) | (k_here; (with_reducible show wpAny _ _ (call (Value.ref 411) _ _) _ _ _); k_dflt (refine' Cut.pure_use (by k_asm) (by k_asm) (by k_asm) (by k_asm) (by k_asm) (by walk_at "R") (check_size _ _ _ _ _ _ (by assumption)) (by ktr_room) (by ktr_units) ?_; k_whole; intro x9z h9z tk9z p9z F9z N9z; clear p9z; walk_at "Z")) | (k_here; (with_reducible show wpAny _ _ (call (Value.ref 418) _ _) _ _ _); k_dflt (first | (refine' Cut.pure_use (by k_asm) (by k_asm) (by k_asm) (by k_asm) (by k_asm) (by walk_at "R") (iov_int _ _ _ _ _ _ _ _ _ _ _ _ _ _ _ (by walk_at "M") (by k_mem) (by k_mem) (by assumption) (by decide) (by decide) (by walk_at "M") (by k_mem)) (by ktr_room) (by ktr_units) ?_; k_whole; intro x9z h9z tk9z p9z F9z N9z; clear p9z; walk_at "Z") | (refine' Cut.pure_use (by k_asm) (by k_asm) (by k_asm) (by k_asm) (by k_asm) (by walk_at "R") (iov_free _ _ _ _ _ _ _ _ _ _ _ _ _ _ (by walk_at "M") (by k_mem) (by k_mem) (by assumption) (by decide) (by decide) (by k_mem) (by assumption) (by assumption) (by assumption)) (by ktr_room) (by ktr_units) ?_; k_whole; intro x9z h9z tk9z p9z F9z N9z; clear p9z; walk_at "Z"))) | (k_here; (with_reducible show wpAny _ _ (call (Value.ref 279) _ _) _ _ _); k_dflt (first | (refine' Cut.pure_use (by k_asm) (by k_asm) (by k_asm) (by k_asm) (by k_asm) (by walk_at "R") (globalise_int _ _ _ _ _ _ _ _ _ _ _ (by walk_at "M") (by k_mem) (by walk_at "M") (by k_mem)) (by ktr_room) (by ktr_units) ?_; k_whole; intro x9z h9z tk9z p9z F9z N9z; clear p9z; walk_at "Z") | (refine' Cut.pure_use (by k_asm) (by k_asm) (by k_asm) (by k_asm) (by k_asm) (by walk_at "R") (globalise_free _ _ _ _ _ _ _ _ _ _ (by walk_at "M") (by k_mem) (by walk_at "M") (by k_mem)) (by ktr_room) (by ktr_units) ?_; k_whole; intro x9z h9z tk9z p9z F9z N9z; clear p9z; walk_at "Z"))) | (k_unfold; (try dsimp only)) | (k_end; wrow_close) | walk1 | (dsimp only; walk1) | (leave1; try dsimp only) | fail "no step")
  all_goals (first | (with_reducible rename AllLt _ _ => l9) | (with_reducible rename _ < _ ∧ AllLt _ _ => l9))
  all_goals first | exact hret ⟨_, _, _, _, _⟩ _ _ ⟨l9.1, tb_ltOf l9.2⟩ (by k_asm) (by k_asm) | walk_report
theorem sum_2 (w : World) (A : Ad) (q1 q2 q3 r1 r3 : Addr) (a c i : Int) (s1 u1 s2 u2 s3 u3 : Tok) (k1 k2 k3 n2 n3 : Nat) (hs xs : List Value) (rest : List (Addr × Obj)) (M : Mach w.params A rest) (hne : ∀ p ∈ rest, p.1 ≠ A.H) (hl : hs.length ≤ 1000) (h6 : (A.XL, listOf xs.toArray n3) ∈ rest)
    (x1 : xs[1]? = some (.ref q1)) (x2 : xs[2]? = some (.ref q2)) (x3 : xs[3]? = some (.ref q3)) (D1 : Der ((A.H, listOf hs.toArray n2) :: rest) hs q1 r1) (D3 : Der ((A.H, listOf hs.toArray n2) :: rest) hs q3 r3)
    (i1 : (r1, tup #[.int 5 s1, .int a u1] k1) ∈ rest) (i3 : (r3, tup #[.int 5 s3, .int c u3] k3) ∈ rest) (j2 : (q2, tup #[.int 0 s2, .int i u2] k2) ∈ rest) (g0 : hs[i.toNat]? = some (.ref q2)) (g1 : 0 ≤ i) (g2 : i < hs.length) (g3 : i < 2 ^ 63) (hb : (Builtin.Int.intBits (c - a) : Int) ≤ 4096) :
    Cut w 439 [.ref A.M] 60 2500 ((A.H, listOf hs.toArray n2) :: rest) (fun x : NvD => A.H < x.q ∧ ∀ p ∈ rest, p.1 < x.q) (fun _ => .bool true) (fun x => (x.q, tup #[.int 5 x.t1, .int (c - a) x.t2] x.n) :: (A.H, listOf (hs.set i.toNat (.ref x.q)).toArray x.n2) :: rest) := by
  have m1 := M.x; have m2 := M.xd; have m3 := M.m; have m4 := M.md; have nhx := neN M.nHX
  have D2 : Der ((A.H, listOf hs.toArray n2) :: rest) hs q2 q2 := .free (.tail _ j2) g0 g1 g3
  unfold Cut; k_fill; intro mean mg mb dp un gd cn cs a' ccd cl outer A₀ base h₀ L m s Q Xx B F XX N TT hks hd hu hret
  refine wpAny_call ?_
  k_dflt cell_enter
  repeat' (first | (k_here; (with_reducible show wpAny _ _ (call (Value.ref 566) _ _) _ _ _); k_dflt (refine' uni_free_use (by k_asm) (by k_asm) (by k_asm) (by k_asm) (by k_asm) (by walk_at "R") (by k_updF) (by walk_at "M") (by assumption) (by k_mem) (by exact Ne9 (by assumption) (by assumption)) (by assumption) (by assumption) (by assumption) (by assumption) (by k_mem) (by k_ne) (by ktr_room) (by ktr_units) ?_; k_whole; intro h9z tk9z F9z N9z; (try dsimp only at N9z); walk_at "Z")) | (k_here; (with_reducible show wpAny _ _ (call (Value.ref 566) _ _) _ _ _); k_dflt (first | (refine' Cut.pure_use (by k_asm) (by k_asm) (by k_asm) (by k_asm) (by k_asm) (by walk_at "R") (uni_same _ _ _ _ _ _ _ _ _ _ _ _ _ _ (by walk_at "M") (by assumption) (by k_mem) (by k_mem) (by k_mem)) (by ktr_room) (by ktr_units) ?_; k_whole; intro x9z h9z tk9z p9z F9z N9z; clear p9z; walk_at "Z") | (refine' Cut.pure_use (by k_asm) (by k_asm) (by k_asm) (by k_asm) (by k_asm) (by walk_at "R") (uni_other _ _ _ _ _ _ (by assumption) _ _ _ _ _ _ _ _ _ (by walk_at "M") (by assumption) (by k_mem) (by k_mem) (by k_mem)) (by ktr_room) (by ktr_units) ?_; k_whole; intro x9z h9z tk9z p9z F9z N9z; clear p9z; walk_at "Z"))) | (k_here; (with_reducible show wpAny _ _ (call (Value.ref 411) _ _) _ _ _); k_dflt (refine' Cut.pure_use (by k_asm) (by k_asm) (by k_asm) (by k_asm) (by k_asm) (by walk_at "R") (check_size _ _ _ _ _ _ (by assumption)) (by ktr_room) (by ktr_units) ?_; k_whole; intro x9z h9z tk9z p9z F9z N9z; clear p9z; walk_at "Z")) | (k_here; (with_reducible show wpAny _ _ (call (Value.ref 418) _ _) _ _ _); k_dflt (first | (refine' Cut.pure_use (by k_asm) (by k_asm) (by k_asm) (by k_asm) (by k_asm) (by walk_at "R") (iov_int _ _ _ _ _ _ _ _ _ _ _ _ _ _ _ (by walk_at "M") (by k_mem) (by k_mem) (by assumption) (by decide) (by decide) (by walk_at "M") (by k_mem)) (by ktr_room) (by ktr_units) ?_; k_whole; intro x9z h9z tk9z p9z F9z N9z; clear p9z; walk_at "Z") | (refine' Cut.pure_use (by k_asm) (by k_asm) (by k_asm) (by k_asm) (by k_asm) (by walk_at "R") (iov_free _ _ _ _ _ _ _ _ _ _ _ _ _ _ (by walk_at "M") (by k_mem) (by k_mem) (by assumption) (by decide) (by decide) (by k_mem) (by assumption) (by assumption) (by assumption)) (by ktr_room) (by ktr_units) ?_; k_whole; intro x9z h9z tk9z p9z F9z N9z; clear p9z; walk_at "Z"))) | (k_here; (with_reducible show wpAny _ _ (call (Value.ref 279) _ _) _ _ _); k_dflt (first | (refine' Cut.pure_use (by k_asm) (by k_asm) (by k_asm) (by k_asm) (by k_asm) (by walk_at "R") (globalise_int _ _ _ _ _ _ _ _ _ _ _ (by walk_at "M") (by k_mem) (by walk_at "M") (by k_mem)) (by ktr_room) (by ktr_units) ?_; k_whole; intro x9z h9z tk9z p9z F9z N9z; clear p9z; walk_at "Z") | (refine' Cut.pure_use (by k_asm) (by k_asm) (by k_asm) (by k_asm) (by k_asm) (by walk_at "R") (globalise_free _ _ _ _ _ _ _ _ _ _ (by walk_at "M") (by k_mem) (by walk_at "M") (by k_mem)) (by ktr_room) (by ktr_units) ?_; k_whole; intro x9z h9z tk9z p9z F9z N9z; clear p9z; walk_at "Z"))) | (k_unfold; (try dsimp only)) | (k_end; wrow_close) | walk1 | (dsimp only; walk1) | (leave1; try dsimp only) | fail "no step")
  all_goals (first | (with_reducible rename AllLt _ _ => l9) | (with_reducible rename _ < _ ∧ AllLt _ _ => l9))
  all_goals first | exact hret ⟨_, _, _, _, _⟩ _ _ ⟨l9.1, tb_ltOf l9.2⟩ (by k_asm) (by k_asm) | walk_report
theorem sum_3 (w : World) (A : Ad) (q1 q2 q3 r1 r2 : Addr) (a b i : Int) (s1 u1 s2 u2 s3 u3 : Tok) (k1 k2 k3 n2 n3 : Nat) (hs xs : List Value) (rest : List (Addr × Obj)) (M : Mach w.params A rest) (hne : ∀ p ∈ rest, p.1 ≠ A.H) (hl : hs.length ≤ 1000) (h6 : (A.XL, listOf xs.toArray n3) ∈ rest)
    (x1 : xs[1]? = some (.ref q1)) (x2 : xs[2]? = some (.ref q2)) (x3 : xs[3]? = some (.ref q3)) (D1 : Der ((A.H, listOf hs.toArray n2) :: rest) hs q1 r1) (D2 : Der ((A.H, listOf hs.toArray n2) :: rest) hs q2 r2)
    (i1 : (r1, tup #[.int 5 s1, .int a u1] k1) ∈ rest) (i2 : (r2, tup #[.int 5 s2, .int b u2] k2) ∈ rest) (j3 : (q3, tup #[.int 0 s3, .int i u3] k3) ∈ rest) (g0 : hs[i.toNat]? = some (.ref q3)) (g1 : 0 ≤ i) (g2 : i < hs.length) (g3 : i < 2 ^ 63) (hb : (Builtin.Int.intBits (a + b) : Int) ≤ 4096) :
    Cut w 439 [.ref A.M] 60 2500 ((A.H, listOf hs.toArray n2) :: rest) (fun x : NvD => A.H < x.q ∧ ∀ p ∈ rest, p.1 < x.q) (fun _ => .bool true) (fun x => (x.q, tup #[.int 5 x.t1, .int (a + b) x.t2] x.n) :: (A.H, listOf (hs.set i.toNat (.ref x.q)).toArray x.n2) :: rest) := by
  have m1 := M.x; have m2 := M.xd; have m3 := M.m; have m4 := M.md; have nhx := neN M.nHX
  have D3 : Der ((A.H, listOf hs.toArray n2) :: rest) hs q3 q3 := .free (.tail _ j3) g0 g1 g3
  unfold Cut; k_fill; intro mean mg mb dp un gd cn cs a' ccd cl outer A₀ base h₀ L m s Q Xx B F XX N TT hks hd hu hret
  refine wpAny_call ?_
  k_dflt cell_enter
  repeat' (first | (k_here; (with_reducible show wpAny _ _ (call (Value.ref 566) _ _) _ _ _); k_dflt (refine' uni_free_use (by k_asm) (by k_asm) (by k_asm) (by k_asm) (by k_asm) (by walk_at "R") (by k_updF) (by walk_at "M") (by assumption) (by k_mem) (by exact Ne9 (by assumption) (by assumption)) (by assumption) (by assumption) (by assumption) (by assumption) (by k_mem) (by k_ne) (by ktr_room) (by ktr_units) ?_; k_whole; intro h9z tk9z F9z N9z; (try dsimp only at N9z); walk_at "Z")) | (k_here; (with_reducible show wpAny _ _ (call (Value.ref 566) _ _) _ _ _); k_dflt (first | (refine' Cut.pure_use (by k_asm) (by k_asm) (by k_asm) (by k_asm) (by k_asm) (by walk_at "R") (uni_same _ _ _ _ _ _ _ _ _ _ _ _ _ _ (by walk_at "M") (by assumption) (by k_mem) (by k_mem) (by k_mem)) (by ktr_room) (by ktr_units) ?_; k_whole; intro x9z h9z tk9z p9z F9z N9z; clear p9z; walk_at "Z") | (refine' Cut.pure_use (by k_asm) (by k_asm) (by k_asm) (by k_asm) (by k_asm) (by walk_at "R") (uni_other _ _ _ _ _ _ (by assumption) _ _ _ _ _ _ _ _ _ (by walk_at "M") (by assumption) (by k_mem) (by k_mem) (by k_mem)) (by ktr_room) (by ktr_units) ?_; k_whole; intro x9z h9z tk9z p9z F9z N9z; clear p9z; walk_at "Z"))) | (k_here; (with_reducible show wpAny _ _ (call (Value.ref 411) _ _) _ _ _); k_dflt (refine' Cut.pure_use (by k_asm) (by k_asm) (by k_asm) (by k_asm) (by k_asm) (by walk_at "R") (check_size _ _ _ _ _ _ (by assumption)) (by ktr_room) (by ktr_units) ?_; k_whole; intro x9z h9z tk9z p9z F9z N9z; clear p9z; walk_at "Z")) | (k_here; (with_reducible show wpAny _ _ (call (Value.ref 418) _ _) _ _ _); k_dflt (first | (refine' Cut.pure_use (by k_asm) (by k_asm) (by k_asm) (by k_asm) (by k_asm) (by walk_at "R") (iov_int _ _ _ _ _ _ _ _ _ _ _ _ _ _ _ (by walk_at "M") (by k_mem) (by k_mem) (by assumption) (by decide) (by decide) (by walk_at "M") (by k_mem)) (by ktr_room) (by ktr_units) ?_; k_whole; intro x9z h9z tk9z p9z F9z N9z; clear p9z; walk_at "Z") | (refine' Cut.pure_use (by k_asm) (by k_asm) (by k_asm) (by k_asm) (by k_asm) (by walk_at "R") (iov_free _ _ _ _ _ _ _ _ _ _ _ _ _ _ (by walk_at "M") (by k_mem) (by k_mem) (by assumption) (by decide) (by decide) (by k_mem) (by assumption) (by assumption) (by assumption)) (by ktr_room) (by ktr_units) ?_; k_whole; intro x9z h9z tk9z p9z F9z N9z; clear p9z; walk_at "Z"))) | (k_here; (with_reducible show wpAny _ _ (call (Value.ref 279) _ _) _ _ _); k_dflt (first | (refine' Cut.pure_use (by k_asm) (by k_asm) (by k_asm) (by k_asm) (by k_asm) (by walk_at "R") (globalise_int _ _ _ _ _ _ _ _ _ _ _ (by walk_at "M") (by k_mem) (by walk_at "M") (by k_mem)) (by ktr_room) (by ktr_units) ?_; k_whole; intro x9z h9z tk9z p9z F9z N9z; clear p9z; walk_at "Z") | (refine' Cut.pure_use (by k_asm) (by k_asm) (by k_asm) (by k_asm) (by k_asm) (by walk_at "R") (globalise_free _ _ _ _ _ _ _ _ _ _ (by walk_at "M") (by k_mem) (by walk_at "M") (by k_mem)) (by ktr_room) (by ktr_units) ?_; k_whole; intro x9z h9z tk9z p9z F9z N9z; clear p9z; walk_at "Z"))) | (k_unfold; (try dsimp only)) | (k_end; wrow_close) | walk1 | (dsimp only; walk1) | (leave1; try dsimp only) | fail "no step")
  all_goals (first | (with_reducible rename AllLt _ _ => l9) | (with_reducible rename _ < _ ∧ AllLt _ _ => l9))
  all_goals first | exact hret ⟨_, _, _, _, _⟩ _ _ ⟨l9.1, tb_ltOf l9.2⟩ (by k_asm) (by k_asm) | walk_report
section Sec9
/-! Exc1 -/
open Builtin Builtin.ObjectAttr
open PySem.Sem (wp)
theorem excChk {M : Model} {A : Around} {E : Value → Shared → Prop} {h : Heap} {g : Array GenState} {d : Drawn} {t : Nat} {os : OsState}
  {nm q : Str} {C N : Addr} {bs bm : List Value} {hdct : Bool} {sn : List Str} {sub : List Value} {ab : Bool} {col : Option Bool} {dd : Option Addr} {k0 k1 k2 k3 k5 : Option Value} {Bn newId inN : String} {bmN : List Value}
  (Fn : ExcBaseFacts Bn newId inN bmN) (hBn : bm.contains (.type Bn) = true) {rest : List Value} {Q : Unit → Shared → Prop} (hC : h.get? C = some (excClassObj nm q C N bs bm hdct sn sub ab col dd k0 k1 k2 k3 k5 newId))
    (hq : Q () ⟨h, g, d, t, os⟩) : wpAny M A (checkBuiltinCall newId ⟨.ref C :: rest, []⟩) Q E ⟨h, g, d, t, os⟩ := by
  have hcont : (Value.ref C :: bm).contains (.type Bn) = true := by rw [List.contains_cons, hBn, Bool.or_true]
  have hstar := Fn.noStar
  simp only [checkBuiltinCall, Fn.newKind, Fn.newSplit, Fn.newRow]
  repeat (first | with_reducible refine wpAny_loadPart_at hC ?_ | (with_reducible refine wpAny_isSubtype_exc hC ?_; rw [hcont]) | with_reducible refine wpAny_staticBase_exc hC ?_ | with_reducible refine wpAny_madeBy_exc hC ?_ | simp only [bne_self_eq_false, Bool.false_eq_true, if_false] | wp_step)
  exact hq

noncomputable abbrev excObj (C t : Addr) : Obj := { cls := .ref C, data := .fields #[.ref t, .none, .none, .none, .bool false, .none] }
noncomputable abbrev argTup (vs : List Value) : Obj := { cls := .type "tuple", data := .seq vs.toArray }
theorem excNew {prog : Program} {w : World} {A : Around} {R : Result → Shared → Prop} {h : Heap} {g : Array GenState} {d : Drawn} {t : Nat} {os : OsState}
  {nm q : Str} {C N : Addr} {bs bm : List Value} {hdct : Bool} {sn : List Str} {sub : List Value} {ab : Bool} {col : Option Bool} {dd : Option Addr} {k0 k1 k2 k3 k5 : Option Value} {Bn newId inN : String} {bmN : List Value}
  (Fn : ExcBaseFacts Bn newId inN bmN) (hBn : bm.contains (.type Bn) = true) (hnA : bm.contains (.type "AttributeError") = false) (hnN : bm.contains (.type "NameError") = false)
  {rest : List Value} (hC : h.get? C = some (excClassObj nm q C N bs bm hdct sn sub ab col dd k0 k1 k2 k3 k5 newId))
    (hq : R (.ok (.ret (.ref (h.objs.size + 1)))) ⟨(h.push (argTup rest)).push (excObj C h.objs.size), g, d, t, os⟩) (hrest : rest.length ≤ sizeLine) :
    codeAny (model prog w) A (.builtin newId ⟨.ref C :: rest, []⟩) R ⟨h, g, d, t, os⟩ := by
  have hends := Fn.ends
  have hcB : (Value.ref C :: bm).contains (.type Bn) = true := by rw [List.contains_cons, hBn, Bool.or_true]
  have hcA : (Value.ref C :: bm).contains (.type "AttributeError") = false := by rw [List.contains_cons, hnA]; rfl
  have hcN : (Value.ref C :: bm).contains (.type "NameError") = false := by rw [List.contains_cons, hnN]; rfl
  refine codeAny_builtinAt Fn.entry ?_
  unfold Builtin.«BaseException.__new__»
  refine PySem.wpAt_bind ?_
  show PySem.wpAt _ _ _ (stack >>= _) _ _ _
  refine PySem.wpAt_bind (PySem.wpAt_stack fun p below => PySem.wpAt_of_wpAny ?_)
  wp_walk
  refine PySem.wpAt_of_wpAny ?_
  rw [Fn.owner]
  repeat (first | with_reducible refine wpAny_madeHere_exc Fn.canon hC ?_ | with_reducible refine wpAny_loadPart_at hC ?_ | (with_reducible refine wpAny_isSubtype_exc hC ?_; first | rw [hcB] | rw [hcA] | rw [hcN]) | wp_step)
  show R _ _
  rw [Heap.size_push]
  exact hq

theorem excCore {prog : Program} {w : World} {A : Around} {R : Result → Shared → Prop} {h : Heap} {g : Array GenState} {d : Drawn} {t : Nat} {os : OsState}
  {nm q : Str} {C N : Addr} {bs bm : List Value} {hdct : Bool} {sn : List Str} {sub : List Value} {ab : Bool} {col : Option Bool} {dd : Option Addr} {k0 k1 k2 k3 k5 : Option Value} {Bn newId inN : String} {bmN : List Value}
  (Fn : ExcBaseFacts Bn newId inN bmN) (hBn : bm.contains (.type Bn) = true) (hnA : bm.contains (.type "AttributeError") = false) (hnN : bm.contains (.type "NameError") = false)
  {rest : List Value} {fI : Addr} (hC : h.get? C = some (excClassObj nm q C N bs bm hdct sn sub ab col dd k0 k1 k2 k3 k5 newId)) (hrest : rest.length ≤ sizeLine)
  (hi : Looks (model prog w) h (typeLookup (.ref C) "__init__") (some (.ref fI))) (hb : ∀ self, Looks (model prog w) h (bindSpecial (.ref fI) self) (.ref fI, [self]))
    (hq : codeAny (model prog w) (A.under (.builtin "type.__call__" ⟨.ref C :: rest, []⟩)) (.call (.ref fI) ⟨.ref (h.objs.size + 1) :: rest, []⟩) (InitBack (h.objs.size + 1) R) ⟨(h.push (argTup rest)).push (excObj C h.objs.size), g, d, t, os⟩) :
    codeAny (model prog w) A (.call (.ref C) ⟨rest, []⟩) R ⟨h, g, d, t, os⟩ := by
  have f1 := tc_lookup
  have f2 := tc_bind (.ref C)
  have hT : (⟨h, g, d, t, os⟩ : Shared).TypeIs (.ref C) "type" := ⟨_, hC, rfl⟩
  refine codeAny_of_tree ?_
  show wpAny _ _ (callAny (.ref C) _) _ _ _
  repeat (any_goals (first | assumption | with_reducible refine wpAny_loadPart_at hC ?_ | wp_step))
  refine ⟨rfl, ?_⟩
  refine codeAny_call_builtin_at (Code.quiet_builtin _ (by decide +kernel)) entry_typeCall (wpAny_check_type_call_sub hC ?_)
  repeat (first | with_reducible refine wpAny_loadPart_at hC ?_ | with_reducible refine wpAny_madeBy_exc hC ?_ | wp_step)
  refine codeAny_call_builtin_code (Code.quiet_builtin _ Fn.quiet) (excChk Fn hBn hC ?_)
  refine excNew Fn hBn hnA hnN hC ?_ hrest
  show wpAny _ _ _ _ _ _
  have k : ∀ b o, h.get? b = some o → ((h.push (argTup rest)).push (excObj C h.objs.size)).get? b = some o := fun b o e => Heap.get?_push_of_some _ (Heap.get?_push_of_some _ e)
  have hC₁ := k _ _ hC
  have hget : ((h.push (argTup rest)).push (excObj C h.objs.size)).get? (h.objs.size + 1) = some (excObj C h.objs.size) := by heap_get
  have hcC : (Value.ref C :: bm).contains (.ref C) = true := by simp
  unfold isInstance
  repeat (first | with_reducible refine wpAny_loadPart_at hget ?_ | (refine wpAny_isSubtype_exc hC₁ ?_; rw [hcC]) | wp_step)
  show wpAny _ _ (typeLookup (.ref C) _) _ _ _
  refine (hi.keeps k).here ?_
  refine wpAny_holding (wpAny_bind (((hb _).keeps k).here ?_))
  refine wpAny_bind (wpAny_call (codeAny_mono hq fun r s' z => ?_))
  rcases r with e | (v | _ | _ | _) <;> first | exact z | exact z.elim | skip
  obtain ⟨rfl, z⟩ := z
  wp_walk
  exact z
/-! Exc2 -/
inductive excIn (K : Frag) (C : Addr) : Prop
  | mk (nm qn N bs B sn sub ab col dd k0 k1 k2 k3 k5) (e : K.lookup C = some (excClassObj nm qn C N bs [.ref B, .type "Exception", .type "BaseException", .type "object"] true sn sub ab col dd k0 k1 k2 k3 k5 "Exception.__new__")) : excIn K C
inductive excAt (h : Heap) (C : Addr) : Prop
  | mk (nm qn N bs B sn sub ab col dd k0 k1 k2 k3 k5) (e : h.get? C = some (excClassObj nm qn C N bs [.ref B, .type "Exception", .type "BaseException", .type "object"] true sn sub ab col dd k0 k1 k2 k3 k5 "Exception.__new__")) : excAt h C
theorem exc_cls {K : Frag} {h : Heap} {C : Addr} (X : K.In h) (q : excIn K C) : excAt h C := by
  cases q with
  | mk nm qn N bs B sn sub ab col dd k0 k1 k2 k3 k5 e => exact .mk nm qn N bs B sn sub ab col dd k0 k1 k2 k3 k5 (X _ _ e)
section
variable {prog : Program} {w : World} {A : Around} {K : Frag} {C x : Addr} {s : Shared} {h₀ : Heap} {L : Addr} {m : Str → Option Value} {news : List (Addr × Obj)} {R : Result → Shared → Prop} {Q E : Value → Shared → Prop}
theorem call_exc {rest : List Value} {fI : Addr} (F : Fr h₀ L s.heap m) (X₀ : K.In h₀) (N : News h₀ L s.heap news) (q : excIn K C)
    (hi : findIn K (.ref C) "__init__" = some (some (.ref fI))) (hf : isFn K (.ref fI) = true) (hrest : rest.length ≤ sizeLine)
    (h : ∀ x t h', Fr h₀ L h' m → News h₀ L h' ((x, excObj C t) :: (t, argTup rest) :: news) → (∀ p ∈ news, p.1 < t) → t < x →
      codeAny (model prog w) (A.under (.builtin "type.__call__" ⟨.ref C :: rest, []⟩)) (.call (.ref fI) ⟨.ref x :: rest, []⟩) (InitBack x fun r s' => match r with | .ok (.ret v) => Q v s' | .ok _ => False | .error e => E e s') { s with heap := h' }) :
    wpAny (model prog w) A (call (.ref C) rest []) Q E s := by
  have X := X₀.keeps F.keep
  obtain ⟨hh, g, d, t, os⟩ := s
  obtain ⟨nm, qn, N', bs, B, sn, sub, ab, col, dd, k0, k1, k2, k3, k5, hC⟩ := exc_cls X q
  refine wpAny_call (excCore PySem.F.excBase_Exception rfl rfl rfl hC hrest (looks_findIn X hi) (fun self => bind_fn X self (beq_iff_eq.mp hf)) (h _ hh.objs.size _ ((F.push _).push _) ?_ (fun p hp => Heap.lt_size (N p hp).1) (Nat.lt_succ_self _)))
  have := (N.push F (argTup rest)).push (F.push _) (excObj C hh.objs.size)
  rwa [Heap.size_push] at this

noncomputable abbrev ballDict (w : World) (name : Str) (tk : Tok) (v : Value) : Obj := { cls := .type "dict", data := .dict #[⟨PyData.keyHash w.params name, .str name tk, v⟩] 1 }
theorem put_empty (w : World) (name : Str) (tk : Tok) (v : Value) : Obj.putName name (PyData.keyHash w.params name) (.str name tk) v emptyDict = ballDict w name tk v := rfl
theorem osa_exc {ox : Obj} {name : Str} {tk : Tok} {v : Value} {vs : Array Value} {pre post : List (Addr × Obj)} (F : Fr h₀ L s.heap m) (N : News h₀ L s.heap (pre ++ (x, ox) :: post)) (X : K.In s.heap) (q : excIn K C)
    (hc : ox.cls = .ref C) (hd : ox.dict = none) (hf : ox.data = .fields vs) (ht : findIn K (.ref C) name = some none)
    (h1 : ∀ p ∈ pre, p.1 ≠ x) (h2 : ∀ p ∈ post, p.1 ≠ x)
    (h : ∀ h' d, Fr h₀ L h' m → News h₀ L h' ((d, ballDict w name s.toks v) :: pre ++ (x, { ox with dict := some d }) :: post) → (∀ p ∈ pre ++ (x, ox) :: post, p.1 < d) → R (.ok (.ret .none)) { s with heap := h', toks := s.toks + 1 }) :
    codeAny (model prog w) A (.call (.builtin "object.__setattr__") ⟨[.ref x, .str name tk, v], []⟩) R s := by
  have SF := PySem.F.store_object
  obtain ⟨nm, qn, N', bs, B, sn, sub, ab, col, dd, k0, k1, k2, k3, k5, hC⟩ := exc_cls X q
  have hx := (N (x, ox) (by simp)).1
  have I : InstAt s.heap x ox C none := ⟨hx, hc, by unfold notCls; rw [hf], by rw [hd]; trivial⟩
  obtain ⟨hh, g, dr, tt, os⟩ := s
  have hm : Looks (model prog w) hh (mroOf (.ref C)) [.ref C, .ref B, .type "Exception", .type "BaseException", .type "object"] := ((Looks.ld (part := none) hC).andThen .now).andThen .now
  have sub : Looks (model prog w) hh (isInstance (.ref x) (.type "object")) true := by
    intro A Q E s k q'
    obtain ⟨h1, g1, d1, t1, o1⟩ := s
    unfold isInstance
    exact wpAny_bind (I.type _ _ _ _ k (wpAny_isSubtype_exc (k _ _ hC) q'))
  refine codeAny_call_builtin SF.slot.plain SF.entry (@check_slot (model prog w) _ _ _ "object.__setattr__" "object" "__setattr__" (.ref x) [.str name tk, v] [] _ SF.kind SF.split sub (SF.args (.ref x) (.str name tk) v) ?_)
  rw [osa_eq, refuse_eq]
  refine wpAny_bind (wpAny_bind (I.type.here (wpAny_bind (hm.here ?_))))
  rw [show refuseLoop (.ref x) "__setattr__" [.ref C, .ref B, .type "Exception", .type "BaseException", .type "object"] = pure () by
    rw [refuseLoop_ref, refuseLoop_ref]; kernel_rfl]
  refine wpAny_pure (wpAny_bind (I.type.here (wpAny_bind ((looks_findIn X ht).here (wpAny_bind (wpAny_pure ?_))))))
  show wpAny _ _ (storeInOwnDict (.ref x) (.ref C) (.str name tk) name v false) _ _ _
  obtain ⟨oc, odi, oda, osl⟩ := ox
  dsimp only at hc hd hf
  subst hc hd hf
  have F1 := F.push (o := emptyDict)
  have N1 := N.push F emptyDict
  obtain ⟨F2, N2⟩ := news_upd (pre := (hh.objs.size, emptyDict) :: pre) (f := fun o => { o with dict := some hh.objs.size }) F1 N1 (fun p hp => by
    rcases List.mem_cons.mp hp with rfl | hp
    · exact Ne.symm (Nat.ne_of_lt (Heap.lt_size hx))
    · exact h1 p hp) h2 rfl rfl
  obtain ⟨F3, N3⟩ := news_upd (pre := []) (f := Obj.putName name (PyData.keyHash w.params name) (.str name tt) v) F2 N2 (fun p hp => nomatch hp) (fun p hp => by
    rcases List.mem_append.mp hp with hp | hp
    · exact Nat.ne_of_lt (Heap.lt_size (N p (List.mem_append_left _ hp)).1)
    · rcases List.mem_cons.mp hp with rfl | hp
      · exact Nat.ne_of_lt (Heap.lt_size hx)
      · exact Nat.ne_of_lt (Heap.lt_size (N p (List.mem_append_right _ (List.mem_cons_of_mem _ hp))).1)) (put_empty w name tt v) rfl
  have D := (N2 (hh.objs.size, emptyDict) (by simp)).1
  have D' := (N3 (hh.objs.size, ballDict w name tt v) (by simp)).1
  refine wpAny_bind (wpAny_pure (wpAny_bind (wpAny_bind (wpAny_loadPart hx (wpAny_bind (wpAny_bind (wpAny_load hC (wpAny_pure ?_))))))))
  refine wpAny_bind (wpAny_alloc (wpAny_bind (wpAny_update (Heap.get?_push_of_some _ hx) (wpAny_pure ?_))))
  show wpAny _ _ (storeInDict hh.objs.size (.str name tk) name v) _ _ _
  refine wpAny_bind (wpAny_pure (wpAny_bind ?_))
  unfold nsSet
  refine wpAny_bind (wpAny_bind (wpAny_askSetting (wpAny_pure (wpAny_bind (wpAny_mkText (wpAny_bind (wpAny_loadPart D ?_)))))))
  dsimp only
  rw [aRefKeyMayBeTheName_at, show (!(#[] : Array DictEntry).any (·.key.isStr name) && (#[] : Array DictEntry).any (·.refKey)) = false from by simp]
  refine wpAny_updatePart D ?_
  refine wpAny_bind (wpAny_lookBehind D' (pastItsLine_dict (by rw [sizeLine_eq]; exact Nat.le_add_left 1 _)) ?_)
  exact wpAny_pure (h _ _ F3 N3 fun p hp => Heap.lt_size (N p hp).1)
theorem set_exc {E : Value → Shared → Prop} {Q : Unit → Shared → Prop} {ox : Obj} {name : Str} {v : Value} {vs : Array Value} {pre post : List (Addr × Obj)} (F : Fr h₀ L s.heap m) (N : News h₀ L s.heap (pre ++ (x, ox) :: post)) (X₀ : K.In h₀) (q : excIn K C)
    (hc : ox.cls = .ref C) (hd : ox.dict = none) (hf : ox.data = .fields vs) (hs : findIn K (.ref C) "__setattr__" = some (some (.builtin "object.__setattr__"))) (ht : findIn K (.ref C) name = some none)
    (h1 : ∀ p ∈ pre, p.1 ≠ x) (h2 : ∀ p ∈ post, p.1 ≠ x)
    (h : ∀ h' d tk tk', Fr h₀ L h' m → News h₀ L h' ((d, ballDict w name tk v) :: pre ++ (x, { ox with dict := some d }) :: post) → (∀ p ∈ pre ++ (x, ox) :: post, p.1 < d) → Q () { s with heap := h', toks := tk' }) :
    wpAny (model prog w) A (setAttr (.ref x) name v) Q E s := by
  have X := X₀.keeps F.keep
  have hx := (N (x, ox) (by simp)).1
  have I : InstAt s.heap x ox C none := ⟨hx, hc, by unfold notCls; rw [hf], by rw [hd]; trivial⟩
  exact set_plain X I hs (osa_exc (s := { s with toks := s.toks + 1 }) F N X q hc hd hf ht h1 h2 fun h' d F' N' l => h h' d _ _ F' N' l)
end
/-! Exc3 -/
/-- dicts of objects stay what they are -/
def DK (h h' : Heap) : Prop := ∀ (b : Nat) (d : Option Addr), (h.objs[b]?).map Obj.dict = some d → (h'.objs[b]?).map Obj.dict = some d
theorem DK.refl (h : Heap) : DK h h := fun _ _ e => e
theorem DK.trans {a b c : Heap} (x : DK a b) (y : DK b c) : DK a c := fun n d e => y n d (x n d e)
theorem DK.push (h : Heap) (o : Obj) : DK h (h.push o) := fun b d e => by
  cases h with
  | mk objs l =>
    simp only [Heap.push] at *
    cases hb : objs[b]? with
    | none => rw [hb] at e; cases e
    | some x =>
      have lt := (Array.getElem?_eq_some_iff.mp hb).1
      rw [Array.getElem?_push, if_neg (Nat.ne_of_lt lt), hb]
      rw [hb] at e; exact e
theorem DK.upd (h : Heap) (a : Addr) (f : Obj → Obj) (hf : ∀ o, (f o).dict = o.dict) : DK h (h.update a f) := fun b d e => by
  cases h with
  | mk objs l =>
    simp only [Heap.update, Array.getElem?_modify] at *
    split
    · cases hb : objs[b]? with
      | none => rw [hb] at e; cases e
      | some x => rw [hb] at e; simp only [Option.map_some] at *; rw [hf]; exact e
    · exact e
theorem DK.get {h h' : Heap} (x : DK h h') {b : Addr} {o o' : Obj} (e : h.get? b = some o) (e' : h'.get? b = some o') : o'.dict = o.dict := by
  have h1 := (Heap.get?_some_iff.mp e).1
  have h2 := (Heap.get?_some_iff.mp e').1
  have := x b o.dict (by rw [h1]; rfl)
  rw [h2] at this
  exact Option.some.inj this
noncomputable def DSafe {α : Type} : Sem α → Prop
  | .pure _ => True
  | .raise _ => True
  | .unsupported _ => True
  | .finish _ => True
  | .rule _ k => DSafe (k ())
  | .at _ k => DSafe (k ())
  | .point _ k => DSafe (k ())
  | .register _ k => DSafe (k ())
  | .load _ _ k => ∀ o, DSafe (k o)
  | .update _ _ f k => (∀ o, (f o).dict = o.dict) ∧ DSafe (k ())
  | .alloc _ k => ∀ a, DSafe (k a)
  | .loadIfAlive _ k => ∀ a, DSafe (k a)
  | .fresh k => ∀ a, DSafe (k a)
  | .ask k => ∀ a, DSafe (k a)
  | .handled _ k => ∀ a, DSafe (k a)
  | .stack k => ∀ a, DSafe (k a)
  | _ => False
theorem DSafe.bind {α β : Type} {x : Sem α} {k : α → Sem β} (g : DSafe x) (h : ∀ a, DSafe (k a)) : DSafe (x.bind k) := by
  induction x with
  | pure a => exact h _
  | raise _ => exact trivial
  | unsupported _ => exact trivial
  | finish _ => exact trivial
  | rule _ _ ih => exact ih () g
  | «at» _ _ ih => exact ih () g
  | point _ _ ih => exact ih () g
  | register _ _ ih => exact ih () g
  | load _ _ _ ih => exact fun o => ih o (g o)
  | update _ _ _ _ ih => exact ⟨g.1, ih () g.2⟩
  | alloc _ _ ih => exact fun o => ih o (g o)
  | loadIfAlive _ _ ih => exact fun o => ih o (g o)
  | fresh _ ih => exact fun o => ih o (g o)
  | ask _ ih => exact fun o => ih o (g o)
  | handled _ _ ih => exact fun o => ih o (g o)
  | stack _ ih => exact fun o => ih o (g o)
  | _ => exact g.elim
theorem dsafe_bind {α β : Type} {x : Sem α} {k : α → Sem β} (h : DSafe x) (g : ∀ a, DSafe (k a)) : DSafe (x >>= k) := DSafe.bind h g
theorem wp_dk {α : Type} {M : Model} {Γ : PySem.Ctx} {H : Heap} {t : Sem α} {Q : α → Pos → Shared → Prop} {E : Value → Pos → Shared → Prop} {p : Pos} {s : Shared} (g : DSafe t) (d : DK H s.heap)
    (h : wp M Γ t (fun a p s' => DK H s'.heap → Q a p s') (fun e p s' => DK H s'.heap → E e p s') p s) : wp M Γ t Q E p s := by
  induction t generalizing p s with
  | pure a => exact h d
  | raise _ => exact h d
  | unsupported _ => exact h
  | finish _ => exact h
  | rule _ _ ih => exact ih () g d h
  | «at» _ _ ih => exact ih () g d h
  | point _ _ ih => exact ih () g d h
  | register _ _ ih => exact h
  | load _ _ _ ih =>
    obtain ⟨o, ho, h⟩ := h
    exact ⟨o, ho, ih o (g o) d h⟩
  | update _ _ _ _ ih => exact ⟨h.1, ih () g.2 (d.trans (DK.upd _ _ _ g.1)) h.2⟩
  | alloc _ _ ih => exact ih _ (g _) (d.trans (DK.push _ _)) h
  | loadIfAlive _ _ ih => exact ih _ (g _) d h
  | fresh _ ih => exact ih _ (g _) d h
  | ask _ ih => exact ih _ (g _) d h
  | handled _ _ ih => exact ih _ (g _) d h
  | stack _ ih => exact ih _ (g _) d h
  | _ => exact g.elim
theorem wpAny_dk {α : Type} {M : Model} {A : Around} {t : Sem α} {Q : α → Shared → Prop} {E : Value → Shared → Prop} {s : Shared} (g : DSafe t)
    (h : wpAny M A t (fun a s' => DK s.heap s'.heap → Q a s') (fun e s' => DK s.heap s'.heap → E e s') s) : wpAny M A t Q E s := fun Γ p hΓ => wp_dk g (DK.refl _) (h Γ p hΓ)

theorem mapFields_dict (f : Array Value → Array Value) (o : Obj) : (Obj.mapFields f o).dict = o.dict := by
  obtain ⟨c, d, dt, sl⟩ := o
  cases dt <;> rfl
theorem ds_fieldsOf (v : Value) : DSafe (fieldsOf v) := by
  unfold fieldsOf
  split
  · exact dsafe_bind (fun o => trivial) fun o => by split <;> trivial
  · trivial
theorem ds_field (v : Value) (i : Nat) : DSafe (field v i) := by
  unfold field
  exact dsafe_bind (ds_fieldsOf v) fun a => by split <;> trivial
theorem ds_setField (v : Value) (i : Nat) (x : Value) : DSafe (setField v i x) := by
  unfold setField
  split
  · unfold updateField
    refine dsafe_bind (fun o => trivial) fun o => ?_
    split
    · split
      · exact ⟨mapFields_dict _, trivial⟩
      · trivial
    · trivial
  · trivial
theorem ds_setFlight (e : Value) (f : Option Addr) : DSafe (setFlight e f) := by
  unfold setFlight
  refine dsafe_bind (ds_field _ _) fun a => ?_
  split
  · exact ds_setField _ _ _
  · trivial
theorem ds_place (f : Addr) (b : Bool) : DSafe (entryPlaceOf f b) := by
  unfold entryPlaceOf
  refine dsafe_bind (fun o => trivial) fun o => ?_
  split <;> trivial
theorem ds_newAs (T : String) (d : Data) : DSafe (newObjAsIs (.type T) d) := fun _ => trivial
theorem ds_newFields (T : String) (vs : List Value) : DSafe (newFields T vs) := by
  unfold newFields newObj
  dsimp only
  by_cases q : vs.toArray.size > sizeLine + 2
  · rw [if_pos q]; trivial
  · rw [if_neg q]; exact ds_newAs _ _
theorem ds_newEntry (a b c d e : Value) (l : List Value) : DSafe (EntryCells.newEntry a b c d e l) := ds_newFields _ _
theorem ds_behind (env : Env) (outer : List Env) : DSafe (behindIsImport env outer) := by
  unfold behindIsImport
  split
  · trivial
  · split
    · trivial
    · exact dsafe_bind (ds_field _ _) fun _ => trivial
theorem ds_keptBack (env : Env) (i : Bool) : ∀ l, DSafe (keptBack env i l)
  | [] => by
    unfold keptBack
    by_cases q : (env.scope.isGenerator || env.scope.isCoroutine) = true
    · rw [if_pos q]; trivial
    · rw [if_neg q]; exact fun o => trivial
  | _ :: _ => trivial
theorem ds_ready : ∀ l, DSafe (readyFrames l)
  | [] => trivial
  | env :: outer => by
    unfold readyFrames
    split
    · refine dsafe_bind (fun o => trivial) fun o => ?_
      split
      · trivial
      · exact dsafe_bind (ds_behind _ _) fun _ => dsafe_bind (ds_keptBack _ _ _) fun _ => dsafe_bind ⟨fun _ => rfl, trivial⟩ fun _ => ds_ready outer
    · trivial
theorem ds_frameOf (env : Env) : DSafe (PySem.frameOf env) := by
  unfold PySem.frameOf
  refine dsafe_bind (fun o => trivial) fun o => dsafe_bind ?_ fun o => ?_
  · generalize List.dropWhile _ _ = l
    cases l with
    | nil => trivial
    | cons a b => exact dsafe_bind (ds_ready _) fun _ => trivial
  · split <;> trivial
theorem ds_noteFrame (e : Value) (env : Env) : DSafe (noteFrame e env) := by
  unfold noteFrame
  split
  · refine dsafe_bind (ds_field _ _) fun a => ?_
    have tail : ∀ f, DSafe (do setField e 1 (← EntryCells.newEntry a (← PySem.frameOf env) .none (rawInt f) .none (← entryPlaceOf f (a != .none)))) := fun f =>
      dsafe_bind (ds_frameOf _) fun _ => dsafe_bind (ds_place _ _) fun _ => dsafe_bind (ds_newEntry _ _ _ _ _ _) fun _ => ds_setField _ _ _
    split
    · refine dsafe_bind (ds_field _ _) fun _ => ?_
      split
      · trivial
      · exact dsafe_bind (ds_setField _ _ _) fun _ => tail _
    · exact tail _
  · trivial
theorem ds_leaving (env : Env) (e : Value) : DSafe (leaving env e) := by
  unfold leaving
  exact dsafe_bind (ds_noteFrame _ _) fun _ => ds_setFlight _ _
/-! Exc4 -/
inductive KCls (h : Heap) (C : Addr) (T : String) : Prop
  | mk (nm qn N bs bm hdct sn sub ab col dd k0 k1 k2 k3 k5 newId) (a : h.get? C = some (excClassObj nm qn C N bs bm hdct sn sub ab col dd k0 k1 k2 k3 k5 newId)) (b : bm.contains (.type "BaseException") = true) (c : bm.contains (.type T) = true) : KCls h C T
theorem kcls {K : Frag} {h : Heap} {C : Addr} {T : String} (X : K.In h) (q : ktsIn K C T = true) : KCls h C T := by
  obtain ⟨nm, qn, N, bs, bm, hdct, sn, sub, ab, col, dd, k0, k1, k2, k3, k5, newId, a, b, c⟩ := kts_cls X q
  exact .mk nm qn N bs bm hdct sn sub ab col dd k0 k1 k2 k3 k5 newId a b c
def RaisedD (base G : Heap) (l : List Env) (e C d : Addr) (news : List (Addr × Obj)) (h : Heap) : Prop :=
  ∃ B a0, base.StaysIn B ∧ (∀ b o, G.get? b = some o → b ∉ l.filterMap (·.frame) → B.get? b = some o) ∧ (∀ q ∈ news, B.get? q.1 = some q.2 ∧ G.get? q.1 = none ∧ base.get? q.1 = none) ∧ Heap.FlyingW B l e (.ref C) a0 h ∧
    ∀ oe, h.get? e = some oe → oe.dict = some d
section
variable {M : Model} {A : Around} {E : Value → Shared → Prop} {s' : Shared} {base g : Heap} {outer : List Env} {L a e : Addr} {m : Str → Option Value} {name : Str} {scope : Scope} {cd : Value} {Q : Unit → Shared → Prop} {news : List (Addr × Obj)}
theorem leave_raiseD {oe : Obj} {C d : Addr} {vs : Array Value} (K : Below A base outer g) (F : Fr g L s'.heap m) (N : News g L s'.heap ((e, oe) :: news)) (hne : ∀ q ∈ news, q.1 ≠ e)
    (hc : oe.cls = .ref C) (hd : oe.dict = some d) (hf : oe.data = .fields vs) (h1 : vs[1]? = some .none)
    (hQ : ∀ h', RaisedD base g outer e C d news h' → g.UpToSlots h' → Q () { s' with heap := h' }) (hk : scope.kind = .function := by rfl) :
    wpAny M (A.deeper (envOf name scope L a cd)) (leaving (envOf name scope L a cd) (.ref e)) Q E s' := by
  have K' := K.push (name := name) (a := a) (cd := cd) F hk
  obtain ⟨he, heL, heg⟩ := N (e, oe) (.head _)
  dsimp only at he heL heg
  have fl : ∀ b ∈ (envOf name scope L a cd :: outer).filterMap (·.frame), ∃ o, s'.heap.get? b = some o ∧ ∀ vs, o.data ≠ .fields vs := fun b hb => (K'.frames.mem hb).2
  have hin : ∀ env ∈ (envOf name scope L a cd :: outer), ∀ b, env.frame = some b → b ∈ e :: (envOf name scope L a cd :: outer).filterMap (·.frame) := fun env he b hb => .tail _ (List.mem_filterMap.mpr ⟨env, he, hb⟩)
  have hide : ∀ b o, s'.heap.get? b = some o → b ≠ e → b ∉ (envOf name scope L a cd :: outer).filterMap (·.frame) → (hideAll s'.heap (e :: (envOf name scope L a cd :: outer).filterMap (·.frame))).get? b = some o := fun b o q n1 n2 =>
    hideAll_get _ q fun hm => (List.mem_cons.mp hm).elim n1 n2
  have st : base.StaysIn (hideAll s'.heap (e :: (envOf name scope L a cd :: outer).filterMap (·.frame))) := fun b o q => hide b o (K'.stays b o q) (fun z => by
      have := fresh_of_stays K.stays heg; rw [z, this] at q; cases q) fun hm => by
    rw [(K'.frames.mem hm).1] at q; cases q
  have sg : ∀ b o, g.get? b = some o → b ∉ outer.filterMap (·.frame) → (hideAll s'.heap (e :: (envOf name scope L a cd :: outer).filterMap (·.frame))).get? b = some o := fun b o q nm => hide b o (F.keep b o q) (fun z => by rw [z, heg] at q; cases q) fun hm => by
    rcases kts_mem hm with z | z
    · rw [z, kts_self F] at q
      cases q
    · exact nm z
  have hl : ∀ q ∈ news, (hideAll s'.heap (e :: (envOf name scope L a cd :: outer).filterMap (·.frame))).get? q.1 = some q.2 ∧ g.get? q.1 = none ∧ base.get? q.1 = none := fun q hq => by
    have P := N q (.tail _ hq)
    refine ⟨hide _ _ P.1 (hne q hq) fun hm => ?_, P.2.2, fresh_of_stays K.stays P.2.2⟩
    obtain ⟨env, he, hf⟩ := List.mem_filterMap.mp hm
    rcases List.mem_cons.mp he with rfl | he
    · exact P.2.1 (Option.some.inj hf).symm
    · obtain ⟨o, ho, _⟩ := (K.frames.mem (List.mem_filterMap.mpr ⟨env, he, hf⟩)).2
      rw [P.2.2] at ho; cases ho
  have hen : (hideAll s'.heap (e :: (envOf name scope L a cd :: outer).filterMap (·.frame))).get? e = none := hideAll_none _ (.head _)
  have hsz : 0 < vs.size := Nat.lt_of_le_of_lt (Nat.zero_le _) (Array.getElem?_eq_some_iff.mp h1).1
  have h0 : vs[0]? = some vs[0] := Array.getElem?_eq_getElem hsz
  refine wpAny_dk (ds_leaving _ _) (wpAny_leaving_firstW (base := hideAll s'.heap (e :: (envOf name scope L a cd :: outer).filterMap (·.frame))) K'.stack (funFrames_hide K'.frames hin) rfl he (fun b o q => of_hideAll _ q) hen hf h1 h0 fun h' hL dk => ?_)
  obtain ⟨k1, ⟨_, _, k2⟩, k3, k4⟩ := hL
  rw [hc] at k3
  exact hQ h' ⟨_, _, st, sg, hl, ⟨k1, hen, k2, k3⟩, fun oe' he' => (dk.get he he').trans hd⟩ ((Heap.UpToSlots.of_keeps F.keep).trans k4)
end

section
variable {prog : Program} {w : World} {A₀ : Around} {E : Value → Shared → Prop} {s' : Shared} {base g g₀ G : Heap} {outer : List Env} {L a e d C : Addr} {m : Str → Option Value} {name : Str} {scope : Scope} {cd : Value}
  {n : Str} {b₀ : Stmt} {suite : List Stmt} {pos np : Pos} {rest : List ExceptHandler} {Q : Flow → Shared → Prop} {news : List (Addr × Obj)} {KF : Frag}
  {p : Program} {loose : List Str} {mean : ExcName → Option Value} {mg mb : Str → Option Value} {x y : Str}
theorem caught_D (R : RaisedD base G (envOf name scope L a cd :: outer) e C d news s'.heap) (F : Fr g L G m) (K : Below A₀ base outer g) (hsm : G.UpToSlots s'.heap) (XB : KF.In base) (TB : Top p loose mean mg mb base)
    (D : KtsDicts (outer.filterMap (·.frame)) g) (T0 : KtsTurn (outer.filterMap (·.frame)) g₀ g)
    (ex : nsIn KF mainGlobals x = some (some (.ref C))) (q : ktsIn KF C "BaseException" = true)
    (k : ∀ h' g' oe ws tk, oe.cls = .ref C → oe.dict = some d → oe.data = .fields ws → KtsTurn (outer.filterMap (·.frame)) g₀ g' → Fr g' L h' (fun y => if y = n then some (.ref e) else m y) → News g' L h' ((e, oe) :: news) → Below A₀ base outer g' → KF.In g' → Top p loose mean mg mb g' → KtsDicts (outer.filterMap (·.frame)) g' →
      wpAny (model prog w) ((A₀.deeper (envOf name scope L a cd)).mark (some (.ref e))) (execs (b₀ :: suite) (envOf name scope L a cd))
        (fun f s₄ => wpAny (model prog w) (A₀.deeper (envOf name scope L a cd)) (do bindName (envOf name scope L a cd) n .none; unbindBehindTheSuite (envOf name scope L a cd) n pos) (fun _ s₅ => Q f s₅) E s₄)
        (AsSuiteRaised (model prog w) ((A₀.deeper (envOf name scope L a cd)).mark (some (.ref e))) (envOf name scope L a cd) n pos (notedBy (model prog w) ((A₀.deeper (envOf name scope L a cd)).mark (some (.ref e))) (envOf name scope L a cd) (cameBackBy (model prog w) (A₀.deeper (envOf name scope L a cd)) (envOf name scope L a cd) E)))
        { s' with heap := h', toks := tk })
    (hk : scope.kind = .function := by rfl) (hlo : (envOf name scope L a cd).kindOf n = some .local := by rfl) (hx : (envOf name scope L a cd).kindOf x = some .globalImplicit := by rfl) (hd : (x == ("__debug__" : Str)) = false := by decide) :
    wpAny (model prog w) (A₀.deeper (envOf name scope L a cd)) (noteFrame (.ref e) (envOf name scope L a cd))
      (fun _ s₂ => wpAny (model prog w) (A₀.deeper (envOf name scope L a cd)) (setFlight (.ref e) none) (fun _ s₃ =>
        wpAny (model prog w) (A₀.deeper (envOf name scope L a cd)) (handleBy (.ref e) (envOf name scope L a cd) (.ExceptHandler (some (.Name x np)) (some n) (b₀ :: suite) pos :: rest)) Q E s₃) E s₂) E s' := by
  obtain ⟨B, a0, hB, hBG, hl, hfl, hdict⟩ := R
  have hL : B.get? L = none := by
    obtain ⟨_, ⟨L', _, hf, hn', _⟩, _⟩ := hfl.2.2.1
    obtain rfl : L = L' := Option.some.inj hf
    exact hn'
  obtain ⟨oe₀, _, he₀, _⟩ := hfl.first
  refine wpAny_dk (ds_noteFrame _ _) (wpAny_looks_onW (Around.frames_deeper K.stack) rfl hfl fun h₄ hheld₄ hsm₄ dk₄ => ?_)
  refine wpAny_dk (ds_setFlight _ _) (wpAny_landsW hheld₄ fun h₅ hheld hsm₅' dk₅ => ?_)
  have hsm₅ := hsm₄.trans hsm₅'
  obtain ⟨g₅, T₅, F₅, K₅⟩ := kts_ground K F hBG hheld.1 (hsm.trans hsm₅)
  have X₅ : KF.In g₅ := XB.keeps K₅.stays
  have P₅ : TopRead p loose mg mb g₅ := topRead_of (TB.keeps K₅.stays)
  obtain ⟨ob, hob, hobc⟩ := hheld.there
  obtain ⟨nm, q', N, bs, bm, hdct, sn, sub, ab, col, dd, k0, k1, k2, k3, k5, newId, hC, hbase, hbT⟩ := kcls X₅ q
  have hC₅ := F₅.keep _ _ hC
  refine wpAny_handleBy_cons (codeAny_handlers_test (name_K F₅ X₅ P₅ ex ?_ hk hx hd)) (by intro q; cases q)
  refine wpAny_excMatches_sub_self hC₅ hob hobc hbase (codeAny_handlers_suite_as ?_)
  refine wpAny_dk (ds_setFlight _ _) (lands_againW hheld fun h₆ hfl₆ hsm₆ dk₆ => ?_)
  obtain ⟨g₆, T₆, F₆, K₆⟩ := kts_ground K F hBG hfl₆.1 ((hsm.trans hsm₅).trans hsm₆)
  obtain ⟨oe, ws, hoe, hoec, hoed, hoe0⟩ := hfl₆.first
  have ne₆ : g₆.get? e = none := T₆.none_ _ (kts_fresh F hBG hfl₆.2.1 fun o ho m => by
    obtain ⟨_, o', ho', hd⟩ := K.frames.mem m
    rw [ho] at ho'
    cases ho'
    obtain ⟨sl, hs⟩ := ((hsm.trans hsm₅).trans hsm₆) _ _ (F.keep _ _ ho) hd
    rw [hoe] at hs
    cases hs
    exact hd _ hoed)
  have Nl : News g₆ L h₆ news := fun q hq => ⟨hfl₆.1 _ _ (hl q hq).1, (fun z => by have := (hl q hq).1; rw [z, hL] at this; cases this), T₆.none_ _ (kts_none F.keep (hl q hq).2.1)⟩
  have N₆ := News.more F₆ Nl hoe (fun es n q => by rw [hoed] at q; cases q) ne₆
  have X₆ : KF.In g₆ := XB.keeps K₆.stays
  have P₆ : Top p loose mean mg mb g₆ := TB.keeps K₆.stays
  have D₆ : KtsDicts (outer.filterMap (·.frame)) g₆ := D.turn T₆
  have hdic : oe.dict = some d := (((dk₄.trans dk₅).trans dk₆).get he₀ hoe).trans (hdict _ he₀)
  refine stN F₆ N₆ (fun h₇ F₇ N₇ => ?_) hk hlo
  exact k h₇ g₆ oe ws _ hoec hdic hoed (T0.trans T₆) F₇ N₇ K₆ X₆ P₆ D₆
end
/-! Exc5 -/
section
variable {prog : Program} {w : World} {A : Around} {E : Value → Shared → Prop} {s : Shared} {K : Frag} {C e d : Addr} {oe od : Obj} {vs : Array Value} {name : Str} {v : Value} {Q : Value → Shared → Prop} {expr : Bool}
theorem get_exc (X : K.In s.heap) (q : excIn K C) (I : InstAt s.heap e oe C (some od))
    (hga : findIn K (.ref C) "__getattribute__" = some (some (.builtin "BaseException.__getattribute__"))) (hgt : findIn K (.ref C) "__getattr__" = some none)
    (hf : findObj K C (some od) name = some (.value v)) (hh : handedIn v = true) (h : Q v { s with toks := s.toks + 1 }) : wpAny (model prog w) A (getAttr (.ref e) name expr) Q E s := by
  obtain ⟨hh', g, dr, t, os⟩ := s
  obtain ⟨nm, qn, N', bs, B, sn, sub, ab, col, dd, k0, k1, k2, k3, k5, hC⟩ := exc_cls X q
  have hx := I.at_
  have hcl := I.cls
  have L0 := I.type (M := model prog w)
  have L1 := looks_findIn (M := model prog w) X hga
  have L2 := looks_findIn (M := model prog w) X hgt
  have L3 := looks_find (M := model prog w) X I hf
  have hne : (onTheHeap (Value.ref C) && Value.builtin "BaseException.__getattribute__" == Value.builtin "object.__getattribute__") = false := by
    rw [show (Value.builtin "BaseException.__getattribute__" == Value.builtin "object.__getattribute__") = false by decide +kernel, Bool.and_false]
  have hx0 : (expr && onTheHeap (Value.builtin "BaseException.__getattribute__")) = false := by cases expr <;> rfl
  have ga := PySem.F.attrBase_Exception.ga.bind (.ref e)
  unfold getAttr getAttrBy
  refine wpAny_bind (wpAny_mkText (wpAny_holding (wpAny_bind (L0.at (wpAny_bind (L1.at ?_))))))
  dsimp only
  rw [hne]
  show wpAny _ _ (getAttrByItsOwn _ _ _ _ _ _) _ _ _
  unfold getAttrByItsOwn hookBefore
  refine wpAny_bind ?_
  refine L2.at ?_
  refine wpAny_bind (wpAny_attempt (wpAny_holding ?_))
  unfold callGetattribute
  rw [hx0]
  show wpAny _ _ (boundAndCalled _ _ _) _ _ _
  unfold boundAndCalled
  rw [ga]
  refine wpAny_bind (wpAny_pure (wpAny_call (codeAny_call_builtin PySem.F.attrBase_Exception.ga.plain PySem.F.entry_bexc_ga ?_ )))
  have hk : builtinKind "BaseException.__getattribute__" = some .slot := by decide +kernel
  have hsplit : splitId "BaseException.__getattribute__" = some ("BaseException", "__getattribute__") := by decide +kernel
  have ha := PySem.F.args_bexc_ga (.ref e) (.str name t)
  have sub : Looks (model prog w) hh' (isInstance (.ref e) (.type "BaseException")) true := by
    intro A Q E s k q'
    obtain ⟨h1, g1, d1, t1, o1⟩ := s
    unfold isInstance
    exact wpAny_bind (I.type _ _ _ _ k (wpAny_isSubtype_exc (k _ _ hC) q'))
  refine @check_slot (model prog w) _ _ _ "BaseException.__getattribute__" "BaseException" "__getattribute__" (.ref e) [.str name t] [] _ hk hsplit sub ha ?_
  unfold Builtin.«object.__getattribute__»
  refine wpAny_bind (wpAny_pure (wpAny_bind (wpAny_pure (wpAny_bind (L0.at (wpAny_bind (L3.at ?_)))))))
  refine wpAny_pure ?_
  show wpAny _ _ (handedOut v) _ _ _
  rw [handedOut_of hh]; exact wpAny_pure h
end
section
variable {prog : Program} {w : World} {A : Around} {E : Value → Shared → Prop} {s : Shared} {env : Env} {K : Frag} {C : Addr} {Q : Flow → Shared → Prop} {h₀ : Heap}
def RaiseGo (C : Addr) (E : Value → Shared → Prop) (v : Value) (s : Shared) : Prop :=
  ∃ e t d, v = .ref e ∧ s.heap.get? e = some { cls := .ref C, dict := some d, data := .fields #[.ref t, .none, .none, .none, .bool false, .none] } ∧ E (.ref e) s
theorem raise_D {x : Expr} {pos : Pos} (hh : A.handled = none) (q : excIn K C)
    (h : wpAny (model prog w) A (eval x env) (fun v s₁ => K.In s₁.heap ∧ RaiseGo C E v s₁) E s) : wpAny (model prog w) A (exec (.Raise (some x) none pos) env) Q E s := by
  rw [arm_exec_Raise]
  refine wpAny_bind (wpAny_standAt ?_)
  simp only [evalOpt, Option.map]
  unfold raiseStmt
  refine wpAny_bind (wpAny_bind (wpAny_mono h (fun v s₁ h₁ => wpAny_bind (wpAny_standAt (wpAny_pure ?_))) fun _ _ x => x))
  obtain ⟨X, e, t, d, rfl, he, hE⟩ := h₁
  obtain ⟨nm, qn, N', bs, B, sn, sub, ab, col, dd, k0, k1, k2, k3, k5, hC⟩ := exc_cls X q
  obtain ⟨hp, g, d, tk, os⟩ := s₁
  have hcB : ([Value.ref C, .ref B, .type "Exception", .type "BaseException", .type "object"]).contains (.type "BaseException") = true := rfl
  repeat (first | with_reducible refine wpAny_loadPart_at he ?_ | with_reducible refine wpAny_loadPart_at hC ?_ | (with_reducible refine wpAny_isSubtype_exc hC ?_; rw [hcB]) | wp_step)
  exact wpAny_raiseNew_none hh hE
end
/-! Exc6 -/
section
variable {prog : Program} {w : World} {A₀ A : Around} {s : Shared} {base h₀ : Heap} {L : Addr} {m : Str → Option Value} {env : Env} {news : List (Addr × Obj)} {K : Frag} {p : Program} {loose : List Str} {mean : ExcName → Option Value} {mg mb : Str → Option Value}
    {R : Result → Shared → Prop} {name qual : Str} {params : Arguments} {body : List Stmt} {scope : Scope} {dV kV doc pm cdv ct oc : Value} {an od : Option Addr} {osl : Array (Option Value)} {f : Addr} {args : Args} {binds : List (Str × Value)}
theorem code_defX0 (B : Below A₀ base [] h₀) (F : Fr h₀ L s.heap m) (X₀ : K.In h₀) (N : News h₀ L s.heap news) (T : Top p loose mean mg mb h₀) (hA : A.frames = some [env]) (hf : env.frame = some L) (hke : env.scope.kind = .function)
    (ho : K.lookup f = some ⟨oc, od, .func (fnOf name qual params body scope dV kV doc pm an cdv ct), osl⟩) (hcd : codeIn K cdv qual = true) (hroom : A.depth < recursionLimit)
    (hbind : BindsTo s (fnOf name qual params body scope dV kV doc pm an cdv ct) args binds) (hloc : ∀ y ∈ binds, scope.names.lookup y.1 = some .local)
    (h : ∀ g L' h₁, Fr h₀ L g m → Fr g L' h₁ (fun y => binds.reverse.lookup y) → News g L' h₁ news → Below A base [env] g → K.In g → Top p loose mean mg mb g → KtsDicts ([env].filterMap (·.frame)) g →
      wpAny (model prog w) (A.deeper (envOf qual scope L' f cdv)) (execs body (envOf qual scope L' f cdv))
        (fun fl s' => LeaveS0 ([env].filterMap (·.frame)) h₀ L m g R (match fl with | .ret v => v | _ => .none) s')
        (fun e s' => wpAny (model prog w) (A.deeper (envOf qual scope L' f cdv)) (leaving (envOf qual scope L' f cdv) e) (fun _ s'' => R (.error e) s'') (fun e' s'' => R (.error e') s'') s')
        { s with heap := h₁, toks := s.toks + binds.length })
    (hco : scope.isCoroutine = false) (hgen : scope.isGenerator = false) (hk : scope.kind = .function)
    (hcell : ∀ x ∈ scope.names, x.2 ≠ .cell) : codeAny (model prog w) A (.call (.ref f) args) R s := by
  obtain ⟨FG, B₂, st, _⟩ := groundX (R := R) B F N hA hf hke
  have X := X₀.keeps F.keep
  have hfr : [env].filterMap (·.frame) = [L] := by simp [hf]
  refine codeAny_call_def (fd := fnOf name qual params body scope dV kV doc pm an cdv ct) (body := body) (binds := binds) hroom (X _ _ ho) rfl (T.nolimit.keeps F.keep) (codeRec_of X hcd) rfl hbind hcell hloc (fun h₁ hns hk₁ => ?_) hco hgen hk
  obtain ⟨oL, es, ep, hLg, hLd, hLk, hLf⟩ := FG.ns
  refine wpAny_mono (h _ s.heap.objs.size h₁ FG ⟨hns, fun b o e => hk₁ b o (of_hideAll _ e), Nat.le_of_eq (hideAll_size _ _)⟩
    (fun p hp => ⟨hk₁ _ _ (N p hp).1, Nat.ne_of_lt (Heap.lt_size (N p hp).1), hideAll_none _ (List.mem_map_of_mem hp)⟩) B₂ (X₀.keeps st) (T.keeps st) (fun b hb => by
      rw [hfr, List.mem_singleton] at hb
      subst hb
      exact ⟨oL, es, ep, hLg, hLd⟩)) (fun fl s' hl => ?_) fun _ _ y => y
  obtain ⟨g', L', m', news', T', F', N', k⟩ := hl
  have nL₀ : h₀.get? L = none := Heap.get?_none_of_le F.above
  obtain ⟨sl, hs⟩ := T'.up hLg
  refine k ⟨⟨_, es, ep, F'.keep _ _ hs, hLd, hLk, hLf⟩, fun b o e => F'.keep b o (T'.other b o (st b o e) (fun q => ?_)), F.above⟩ fun p hp => ⟨(N' p hp).1, fun q => ?_, ?_⟩
  · rw [hfr, List.mem_singleton] at q
    rw [q, nL₀] at e; cases e
  · have := (N' p hp).2.2; rw [q, hs] at this; cases this
  · cases q : h₀.get? p.1 with
    | none => rfl
    | some o =>
      obtain ⟨sl', hs'⟩ := T'.up (st _ _ q)
      have := (N' p hp).2.2
      rw [hs'] at this
      cases this
end
end Sec9
/-! M10 -/
theorem nat_int (w : World) (A : Ad) (q r : Addr) (j v : Int) (t1 t2 tj : Tok) (n : Nat) (hs xs : List Value) (n2 n3 : Nat) (rest : List (Addr × Obj)) (M : Mach w.params A rest) (h4 : (A.H, listOf hs.toArray n2) ∈ rest) (h6 : (A.XL, listOf xs.toArray n3) ∈ rest)
    (h7 : xs[j.toNat]? = some (.ref q)) (h8 : 0 ≤ j) (h9 : j < 2 ^ 63) (D : Der rest hs q r) (h5 : (r, tup #[.int 5 t1, .int v t2] n) ∈ rest) (hv : 0 ≤ v) :
    Cut w 425 [.ref A.M, .int j tj] 30 1000 rest (fun _ : Unit => True) (fun _ => .int v t2) (fun _ => rest) := by
  have m1 := M.x; have m2 := M.xd; have m3 := M.m; have m4 := M.md
  unfold Cut; k_fill; intro mean mg mb dp un gd cn cs a ccd cl outer A₀ base h₀ L m s Q Xx B F XX N TT hks hd hu hret
  refine wpAny_call ?_
  k_dflt cell_enter
  repeat' (first | (k_here; (with_reducible show wpAny _ _ (call (Value.ref 566) _ _) _ _ _); k_dflt (first | (refine' Cut.pure_use (by k_asm) (by k_asm) (by k_asm) (by k_asm) (by k_asm) (by walk_at "R") (uni_same _ _ _ _ _ _ _ _ _ _ _ _ _ _ (by walk_at "M") (by assumption) (by k_mem) (by k_mem) (by k_mem)) (by ktr_room) (by ktr_units) ?_; k_whole; intro x9z h9z tk9z p9z F9z N9z; clear p9z; walk_at "Z") | (refine' Cut.pure_use (by k_asm) (by k_asm) (by k_asm) (by k_asm) (by k_asm) (by walk_at "R") (uni_other _ _ _ _ _ _ (by assumption) _ _ _ _ _ _ _ _ _ (by walk_at "M") (by assumption) (by k_mem) (by k_mem) (by k_mem)) (by ktr_room) (by ktr_units) ?_; k_whole; intro x9z h9z tk9z p9z F9z N9z; clear p9z; walk_at "Z"))) | (k_here; (with_reducible show wpAny _ _ (call (Value.ref 411) _ _) _ _ _); k_dflt (refine' Cut.pure_use (by k_asm) (by k_asm) (by k_asm) (by k_asm) (by k_asm) (by walk_at "R") (check_size _ _ _ _ _ _ (by assumption)) (by ktr_room) (by ktr_units) ?_; k_whole; intro x9z h9z tk9z p9z F9z N9z; clear p9z; walk_at "Z")) | (k_here; (with_reducible show wpAny _ _ (call (Value.ref 418) _ _) _ _ _); k_dflt (first | (refine' Cut.pure_use (by k_asm) (by k_asm) (by k_asm) (by k_asm) (by k_asm) (by walk_at "R") (iov_int _ _ _ _ _ _ _ _ _ _ _ _ _ _ _ (by walk_at "M") (by k_mem) (by k_mem) (by assumption) (by first | assumption | decide) (by first | assumption | decide) (by walk_at "M") (by k_mem)) (by ktr_room) (by ktr_units) ?_; k_whole; intro x9z h9z tk9z p9z F9z N9z; clear p9z; walk_at "Z") | (refine' Cut.pure_use (by k_asm) (by k_asm) (by k_asm) (by k_asm) (by k_asm) (by walk_at "R") (iov_free _ _ _ _ _ _ _ _ _ _ _ _ _ _ (by walk_at "M") (by k_mem) (by k_mem) (by assumption) (by first | assumption | decide) (by first | assumption | decide) (by k_mem) (by assumption) (by assumption) (by assumption)) (by ktr_room) (by ktr_units) ?_; k_whole; intro x9z h9z tk9z p9z F9z N9z; clear p9z; walk_at "Z"))) | (k_here; (with_reducible show wpAny _ _ (call (Value.ref 279) _ _) _ _ _); k_dflt (first | (refine' Cut.pure_use (by k_asm) (by k_asm) (by k_asm) (by k_asm) (by k_asm) (by walk_at "R") (globalise_int _ _ _ _ _ _ _ _ _ _ _ (by walk_at "M") (by k_mem) (by walk_at "M") (by k_mem)) (by ktr_room) (by ktr_units) ?_; k_whole; intro x9z h9z tk9z p9z F9z N9z; clear p9z; walk_at "Z") | (refine' Cut.pure_use (by k_asm) (by k_asm) (by k_asm) (by k_asm) (by k_asm) (by walk_at "R") (globalise_free _ _ _ _ _ _ _ _ _ _ (by walk_at "M") (by k_mem) (by walk_at "M") (by k_mem)) (by ktr_room) (by ktr_units) ?_; k_whole; intro x9z h9z tk9z p9z F9z N9z; clear p9z; walk_at "Z"))) | (k_unfold; (try dsimp only)) | (k_end; wrow_close) | walk1 | (dsimp only; walk1) | (leave1; try dsimp only) | fail "no step")
  all_goals first | exact hret () _ _ trivial (by k_asm) (by k_asm) | walk_report
theorem nat_free (w : World) (A : Ad) (q : Addr) (j i : Int) (t1 t2 tj : Tok) (n : Nat) (hs xs : List Value) (n2 n3 : Nat) (rest : List (Addr × Obj)) (M : Mach w.params A rest) (h4 : (A.H, listOf hs.toArray n2) ∈ rest) (h6 : (A.XL, listOf xs.toArray n3) ∈ rest)
    (h7 : xs[j.toNat]? = some (.ref q)) (h8 : 0 ≤ j) (h9 : j < 2 ^ 63) (h5 : (q, tup #[.int 0 t1, .int i t2] n) ∈ rest) (g1 : hs[i.toNat]? = some (.ref q)) (g2 : 0 ≤ i) (g3 : i < 2 ^ 63) :
    Cut w 425 [.ref A.M, .int j tj] 30 1000 rest (fun _ : Unit => True) (fun _ => .none) (fun _ => rest) := by
  have m1 := M.x; have m2 := M.xd; have m3 := M.m; have m4 := M.md; have D := Der.free h5 g1 g2 g3
  unfold Cut; k_fill; intro mean mg mb dp un gd cn cs a ccd cl outer A₀ base h₀ L m s Q Xx B F XX N TT hks hd hu hret
  refine wpAny_call ?_
  k_dflt cell_enter
  repeat' (first | (k_here; (with_reducible show wpAny _ _ (call (Value.ref 566) _ _) _ _ _); k_dflt (first | (refine' Cut.pure_use (by k_asm) (by k_asm) (by k_asm) (by k_asm) (by k_asm) (by walk_at "R") (uni_same _ _ _ _ _ _ _ _ _ _ _ _ _ _ (by walk_at "M") (by assumption) (by k_mem) (by k_mem) (by k_mem)) (by ktr_room) (by ktr_units) ?_; k_whole; intro x9z h9z tk9z p9z F9z N9z; clear p9z; walk_at "Z") | (refine' Cut.pure_use (by k_asm) (by k_asm) (by k_asm) (by k_asm) (by k_asm) (by walk_at "R") (uni_other _ _ _ _ _ _ (by assumption) _ _ _ _ _ _ _ _ _ (by walk_at "M") (by assumption) (by k_mem) (by k_mem) (by k_mem)) (by ktr_room) (by ktr_units) ?_; k_whole; intro x9z h9z tk9z p9z F9z N9z; clear p9z; walk_at "Z"))) | (k_here; (with_reducible show wpAny _ _ (call (Value.ref 411) _ _) _ _ _); k_dflt (refine' Cut.pure_use (by k_asm) (by k_asm) (by k_asm) (by k_asm) (by k_asm) (by walk_at "R") (check_size _ _ _ _ _ _ (by assumption)) (by ktr_room) (by ktr_units) ?_; k_whole; intro x9z h9z tk9z p9z F9z N9z; clear p9z; walk_at "Z")) | (k_here; (with_reducible show wpAny _ _ (call (Value.ref 418) _ _) _ _ _); k_dflt (first | (refine' Cut.pure_use (by k_asm) (by k_asm) (by k_asm) (by k_asm) (by k_asm) (by walk_at "R") (iov_int _ _ _ _ _ _ _ _ _ _ _ _ _ _ _ (by walk_at "M") (by k_mem) (by k_mem) (by assumption) (by first | assumption | decide) (by first | assumption | decide) (by walk_at "M") (by k_mem)) (by ktr_room) (by ktr_units) ?_; k_whole; intro x9z h9z tk9z p9z F9z N9z; clear p9z; walk_at "Z") | (refine' Cut.pure_use (by k_asm) (by k_asm) (by k_asm) (by k_asm) (by k_asm) (by walk_at "R") (iov_free _ _ _ _ _ _ _ _ _ _ _ _ _ _ (by walk_at "M") (by k_mem) (by k_mem) (by assumption) (by first | assumption | decide) (by first | assumption | decide) (by k_mem) (by assumption) (by assumption) (by assumption)) (by ktr_room) (by ktr_units) ?_; k_whole; intro x9z h9z tk9z p9z F9z N9z; clear p9z; walk_at "Z"))) | (k_here; (with_reducible show wpAny _ _ (call (Value.ref 279) _ _) _ _ _); k_dflt (first | (refine' Cut.pure_use (by k_asm) (by k_asm) (by k_asm) (by k_asm) (by k_asm) (by walk_at "R") (globalise_int _ _ _ _ _ _ _ _ _ _ _ (by walk_at "M") (by k_mem) (by walk_at "M") (by k_mem)) (by ktr_room) (by ktr_units) ?_; k_whole; intro x9z h9z tk9z p9z F9z N9z; clear p9z; walk_at "Z") | (refine' Cut.pure_use (by k_asm) (by k_asm) (by k_asm) (by k_asm) (by k_asm) (by walk_at "R") (globalise_free _ _ _ _ _ _ _ _ _ _ (by walk_at "M") (by k_mem) (by walk_at "M") (by k_mem)) (by ktr_room) (by ktr_units) ?_; k_whole; intro x9z h9z tk9z p9z F9z N9z; clear p9z; walk_at "Z"))) | (k_unfold; (try dsimp only)) | (k_end; wrow_close) | walk1 | (dsimp only; walk1) | (leave1; try dsimp only) | fail "no step")
  all_goals first | exact hret () _ _ trivial (by k_asm) (by k_asm) | walk_report
theorem succ_up (w : World) (A : Ad) (q1 q2 r1 : Addr) (a i : Int) (s1 u1 s2 u2 : Tok) (k1 k2 : Nat) (n2 n3 : Nat) (hs xs : List Value) (rest : List (Addr × Obj)) (M : Mach w.params A rest) (hne : ∀ p ∈ rest, p.1 ≠ A.H) (hl : hs.length ≤ 1000)  (h6 : (A.XL, listOf xs.toArray n3) ∈ rest)
    (x1 : xs[1]? = some (.ref q1)) (x2 : xs[2]? = some (.ref q2)) (D1 : Der ((A.H, listOf hs.toArray n2) :: rest) hs q1 r1) (i1 : (r1, tup #[.int 5 s1, .int a u1] k1) ∈ rest) (ha : 0 ≤ a) (j2 : (q2, tup #[.int 0 s2, .int i u2] k2) ∈ rest) (g0 : hs[i.toNat]? = some (.ref q2)) (g1 : 0 ≤ i) (g2 : i < hs.length) (g3 : i < 2 ^ 63) (hb : (Builtin.Int.intBits (a + 1) : Int) ≤ 4096) :
    Cut w 432 [.ref A.M] 70 2800 ((A.H, listOf hs.toArray n2) :: rest) (fun x : NvD => A.H < x.q ∧ ∀ p ∈ rest, p.1 < x.q) (fun _ => .bool true) (fun x => (x.q, tup #[.int 5 x.t1, .int (a + 1) x.t2] x.n) :: (A.H, listOf (hs.set i.toNat (.ref x.q)).toArray x.n2) :: rest) := by
  have m1 := M.x; have m2 := M.xd; have m3 := M.m; have m4 := M.md; have nhx := neN M.nHX
  have D2 : Der ((A.H, listOf hs.toArray n2) :: rest) hs q2 q2 := .free (.tail _ j2) g0 g1 g3
  unfold Cut; k_fill; intro mean mg mb dp un gd cn cs a' ccd cl outer A₀ base h₀ L m s Q Xx B F XX N TT hks hd hu hret
  refine wpAny_call ?_
  k_dflt cell_enter
  repeat' (first | (k_here; (with_reducible show wpAny _ _ (call (Value.ref 425) _ _) _ _ _); k_dflt (first | (refine' Cut.pure_use (by k_asm) (by k_asm) (by k_asm) (by k_asm) (by k_asm) (by walk_at "R") (nat_int _ _ _ _ _ _ _ _ _ _ _ _ _ _ _ (by walk_at "M") (by k_mem) (by k_mem) (by assumption) (by first | assumption | decide) (by first | assumption | decide) (by walk_at "M") (by k_mem) (by walk_at "E")) (by ktr_room) (by ktr_units) ?_; k_whole; intro x9z h9z tk9z p9z F9z N9z; clear p9z; walk_at "Z") | (refine' Cut.pure_use (by k_asm) (by k_asm) (by k_asm) (by k_asm) (by k_asm) (by walk_at "R") (nat_free _ _ _ _ _ _ _ _ _ _ _ _ _ _ (by walk_at "M") (by k_mem) (by k_mem) (by assumption) (by first | assumption | decide) (by first | assumption | decide) (by k_mem) (by assumption) (by assumption) (by assumption)) (by ktr_room) (by ktr_units) ?_; k_whole; intro x9z h9z tk9z p9z F9z N9z; clear p9z; walk_at "Z"))) | (k_here; (with_reducible show wpAny _ _ (call (Value.ref 566) _ _) _ _ _); k_dflt (refine' uni_free_use (by k_asm) (by k_asm) (by k_asm) (by k_asm) (by k_asm) (by walk_at "R") (by k_updF) (by walk_at "M") (by assumption) (by k_mem) (by exact Ne9 (by assumption) (by assumption)) (by assumption) (by assumption) (by assumption) (by assumption) (by k_mem) (by k_ne) (by ktr_room) (by ktr_units) ?_; k_whole; intro h9z tk9z F9z N9z; (try dsimp only at N9z); walk_at "Z")) | (k_here; (with_reducible show wpAny _ _ (call (Value.ref 566) _ _) _ _ _); k_dflt (first | (refine' Cut.pure_use (by k_asm) (by k_asm) (by k_asm) (by k_asm) (by k_asm) (by walk_at "R") (uni_same _ _ _ _ _ _ _ _ _ _ _ _ _ _ (by walk_at "M") (by assumption) (by k_mem) (by k_mem) (by k_mem)) (by ktr_room) (by ktr_units) ?_; k_whole; intro x9z h9z tk9z p9z F9z N9z; clear p9z; walk_at "Z") | (refine' Cut.pure_use (by k_asm) (by k_asm) (by k_asm) (by k_asm) (by k_asm) (by walk_at "R") (uni_other _ _ _ _ _ _ (by assumption) _ _ _ _ _ _ _ _ _ (by walk_at "M") (by assumption) (by k_mem) (by k_mem) (by k_mem)) (by ktr_room) (by ktr_units) ?_; k_whole; intro x9z h9z tk9z p9z F9z N9z; clear p9z; walk_at "Z"))) | (k_here; (with_reducible show wpAny _ _ (call (Value.ref 411) _ _) _ _ _); k_dflt (refine' Cut.pure_use (by k_asm) (by k_asm) (by k_asm) (by k_asm) (by k_asm) (by walk_at "R") (check_size _ _ _ _ _ _ (by assumption)) (by ktr_room) (by ktr_units) ?_; k_whole; intro x9z h9z tk9z p9z F9z N9z; clear p9z; walk_at "Z")) | (k_here; (with_reducible show wpAny _ _ (call (Value.ref 418) _ _) _ _ _); k_dflt (first | (refine' Cut.pure_use (by k_asm) (by k_asm) (by k_asm) (by k_asm) (by k_asm) (by walk_at "R") (iov_int _ _ _ _ _ _ _ _ _ _ _ _ _ _ _ (by walk_at "M") (by k_mem) (by k_mem) (by assumption) (by first | assumption | decide) (by first | assumption | decide) (by walk_at "M") (by k_mem)) (by ktr_room) (by ktr_units) ?_; k_whole; intro x9z h9z tk9z p9z F9z N9z; clear p9z; walk_at "Z") | (refine' Cut.pure_use (by k_asm) (by k_asm) (by k_asm) (by k_asm) (by k_asm) (by walk_at "R") (iov_free _ _ _ _ _ _ _ _ _ _ _ _ _ _ (by walk_at "M") (by k_mem) (by k_mem) (by assumption) (by first | assumption | decide) (by first | assumption | decide) (by k_mem) (by assumption) (by assumption) (by assumption)) (by ktr_room) (by ktr_units) ?_; k_whole; intro x9z h9z tk9z p9z F9z N9z; clear p9z; walk_at "Z"))) | (k_here; (with_reducible show wpAny _ _ (call (Value.ref 279) _ _) _ _ _); k_dflt (first | (refine' Cut.pure_use (by k_asm) (by k_asm) (by k_asm) (by k_asm) (by k_asm) (by walk_at "R") (globalise_int _ _ _ _ _ _ _ _ _ _ _ (by walk_at "M") (by k_mem) (by walk_at "M") (by k_mem)) (by ktr_room) (by ktr_units) ?_; k_whole; intro x9z h9z tk9z p9z F9z N9z; clear p9z; walk_at "Z") | (refine' Cut.pure_use (by k_asm) (by k_asm) (by k_asm) (by k_asm) (by k_asm) (by walk_at "R") (globalise_free _ _ _ _ _ _ _ _ _ _ (by walk_at "M") (by k_mem) (by walk_at "M") (by k_mem)) (by ktr_room) (by ktr_units) ?_; k_whole; intro x9z h9z tk9z p9z F9z N9z; clear p9z; walk_at "Z"))) | (k_unfold; (try dsimp only)) | (k_end; wrow_close) | walk1 | (dsimp only; walk1) | (leave1; try dsimp only) | fail "no step")
  all_goals first | (exfalso; omega) | ((first | (with_reducible rename AllLt _ _ => l9) | (with_reducible rename _ < _ ∧ AllLt _ _ => l9)); exact hret ⟨_, _, _, _, _⟩ _ _ ⟨l9.1, tb_ltOf l9.2⟩ (by k_asm) (by k_asm)) | walk_report
theorem succ_down (w : World) (A : Ad) (q1 q2 r2 : Addr) (b i : Int) (s1 u1 s2 u2 : Tok) (k1 k2 : Nat) (n2 n3 : Nat) (hs xs : List Value) (rest : List (Addr × Obj)) (M : Mach w.params A rest) (hne : ∀ p ∈ rest, p.1 ≠ A.H) (hl : hs.length ≤ 1000)  (h6 : (A.XL, listOf xs.toArray n3) ∈ rest)
    (x1 : xs[1]? = some (.ref q1)) (x2 : xs[2]? = some (.ref q2)) (D2 : Der ((A.H, listOf hs.toArray n2) :: rest) hs q2 r2) (i2 : (r2, tup #[.int 5 s2, .int b u2] k2) ∈ rest) (hb0 : 0 < b) (j1 : (q1, tup #[.int 0 s1, .int i u1] k1) ∈ rest) (g0 : hs[i.toNat]? = some (.ref q1)) (g1 : 0 ≤ i) (g2 : i < hs.length) (g3 : i < 2 ^ 63) :
    Cut w 432 [.ref A.M] 70 2800 ((A.H, listOf hs.toArray n2) :: rest) (fun x : NvD => A.H < x.q ∧ ∀ p ∈ rest, p.1 < x.q) (fun _ => .bool true) (fun x => (x.q, tup #[.int 5 x.t1, .int (b - 1) x.t2] x.n) :: (A.H, listOf (hs.set i.toNat (.ref x.q)).toArray x.n2) :: rest) := by
  have m1 := M.x; have m2 := M.xd; have m3 := M.m; have m4 := M.md; have nhx := neN M.nHX
  have D1 : Der ((A.H, listOf hs.toArray n2) :: rest) hs q1 q1 := .free (.tail _ j1) g0 g1 g3
  unfold Cut; k_fill; intro mean mg mb dp un gd cn cs a' ccd cl outer A₀ base h₀ L m s Q Xx B F XX N TT hks hd hu hret
  refine wpAny_call ?_
  k_dflt cell_enter
  repeat' (first | (k_here; (with_reducible show wpAny _ _ (call (Value.ref 425) _ _) _ _ _); k_dflt (first | (refine' Cut.pure_use (by k_asm) (by k_asm) (by k_asm) (by k_asm) (by k_asm) (by walk_at "R") (nat_int _ _ _ _ _ _ _ _ _ _ _ _ _ _ _ (by walk_at "M") (by k_mem) (by k_mem) (by assumption) (by first | assumption | decide) (by first | assumption | decide) (by walk_at "M") (by k_mem) (by walk_at "E")) (by ktr_room) (by ktr_units) ?_; k_whole; intro x9z h9z tk9z p9z F9z N9z; clear p9z; walk_at "Z") | (refine' Cut.pure_use (by k_asm) (by k_asm) (by k_asm) (by k_asm) (by k_asm) (by walk_at "R") (nat_free _ _ _ _ _ _ _ _ _ _ _ _ _ _ (by walk_at "M") (by k_mem) (by k_mem) (by assumption) (by first | assumption | decide) (by first | assumption | decide) (by k_mem) (by assumption) (by assumption) (by assumption)) (by ktr_room) (by ktr_units) ?_; k_whole; intro x9z h9z tk9z p9z F9z N9z; clear p9z; walk_at "Z"))) | (k_here; (with_reducible show wpAny _ _ (call (Value.ref 566) _ _) _ _ _); k_dflt (refine' uni_free_use (by k_asm) (by k_asm) (by k_asm) (by k_asm) (by k_asm) (by walk_at "R") (by k_updF) (by walk_at "M") (by assumption) (by k_mem) (by exact Ne9 (by assumption) (by assumption)) (by assumption) (by assumption) (by assumption) (by assumption) (by k_mem) (by k_ne) (by ktr_room) (by ktr_units) ?_; k_whole; intro h9z tk9z F9z N9z; (try dsimp only at N9z); walk_at "Z")) | (k_here; (with_reducible show wpAny _ _ (call (Value.ref 566) _ _) _ _ _); k_dflt (first | (refine' Cut.pure_use (by k_asm) (by k_asm) (by k_asm) (by k_asm) (by k_asm) (by walk_at "R") (uni_same _ _ _ _ _ _ _ _ _ _ _ _ _ _ (by walk_at "M") (by assumption) (by k_mem) (by k_mem) (by k_mem)) (by ktr_room) (by ktr_units) ?_; k_whole; intro x9z h9z tk9z p9z F9z N9z; clear p9z; walk_at "Z") | (refine' Cut.pure_use (by k_asm) (by k_asm) (by k_asm) (by k_asm) (by k_asm) (by walk_at "R") (uni_other _ _ _ _ _ _ (by assumption) _ _ _ _ _ _ _ _ _ (by walk_at "M") (by assumption) (by k_mem) (by k_mem) (by k_mem)) (by ktr_room) (by ktr_units) ?_; k_whole; intro x9z h9z tk9z p9z F9z N9z; clear p9z; walk_at "Z"))) | (k_here; (with_reducible show wpAny _ _ (call (Value.ref 411) _ _) _ _ _); k_dflt (refine' Cut.pure_use (by k_asm) (by k_asm) (by k_asm) (by k_asm) (by k_asm) (by walk_at "R") (check_size _ _ _ _ _ _ (by assumption)) (by ktr_room) (by ktr_units) ?_; k_whole; intro x9z h9z tk9z p9z F9z N9z; clear p9z; walk_at "Z")) | (k_here; (with_reducible show wpAny _ _ (call (Value.ref 418) _ _) _ _ _); k_dflt (first | (refine' Cut.pure_use (by k_asm) (by k_asm) (by k_asm) (by k_asm) (by k_asm) (by walk_at "R") (iov_int _ _ _ _ _ _ _ _ _ _ _ _ _ _ _ (by walk_at "M") (by k_mem) (by k_mem) (by assumption) (by first | assumption | decide) (by first | assumption | decide) (by walk_at "M") (by k_mem)) (by ktr_room) (by ktr_units) ?_; k_whole; intro x9z h9z tk9z p9z F9z N9z; clear p9z; walk_at "Z") | (refine' Cut.pure_use (by k_asm) (by k_asm) (by k_asm) (by k_asm) (by k_asm) (by walk_at "R") (iov_free _ _ _ _ _ _ _ _ _ _ _ _ _ _ (by walk_at "M") (by k_mem) (by k_mem) (by assumption) (by first | assumption | decide) (by first | assumption | decide) (by k_mem) (by assumption) (by assumption) (by assumption)) (by ktr_room) (by ktr_units) ?_; k_whole; intro x9z h9z tk9z p9z F9z N9z; clear p9z; walk_at "Z"))) | (k_here; (with_reducible show wpAny _ _ (call (Value.ref 279) _ _) _ _ _); k_dflt (first | (refine' Cut.pure_use (by k_asm) (by k_asm) (by k_asm) (by k_asm) (by k_asm) (by walk_at "R") (globalise_int _ _ _ _ _ _ _ _ _ _ _ (by walk_at "M") (by k_mem) (by walk_at "M") (by k_mem)) (by ktr_room) (by ktr_units) ?_; k_whole; intro x9z h9z tk9z p9z F9z N9z; clear p9z; walk_at "Z") | (refine' Cut.pure_use (by k_asm) (by k_asm) (by k_asm) (by k_asm) (by k_asm) (by walk_at "R") (globalise_free _ _ _ _ _ _ _ _ _ _ (by walk_at "M") (by k_mem) (by walk_at "M") (by k_mem)) (by ktr_room) (by ktr_units) ?_; k_whole; intro x9z h9z tk9z p9z F9z N9z; clear p9z; walk_at "Z"))) | (k_unfold; (try dsimp only)) | (k_end; wrow_close) | walk1 | (dsimp only; walk1) | (leave1; try dsimp only) | fail "no step")
  all_goals first | (exfalso; omega) | ((first | (with_reducible rename AllLt _ _ => l9) | (with_reducible rename _ < _ ∧ AllLt _ _ => l9)); exact hret ⟨_, _, _, _, _⟩ _ _ ⟨l9.1, tb_ltOf l9.2⟩ (by k_asm) (by k_asm)) | walk_report
theorem succ_same (w : World) (A : Ad) (q1 q2 r1 r2 : Addr) (a : Int) (s1 u1 s2 u2 : Tok) (k1 k2 : Nat) (n2 n3 : Nat) (hs xs : List Value) (rest : List (Addr × Obj)) (M : Mach w.params A rest)  (hl : hs.length ≤ 1000) (h4 : (A.H, listOf hs.toArray n2) ∈ rest) (h6 : (A.XL, listOf xs.toArray n3) ∈ rest)
    (x1 : xs[1]? = some (.ref q1)) (x2 : xs[2]? = some (.ref q2)) (D1 : Der rest hs q1 r1) (D2 : Der rest hs q2 r2) (i1 : (r1, tup #[.int 5 s1, .int a u1] k1) ∈ rest) (i2 : (r2, tup #[.int 5 s2, .int (a + 1) u2] k2) ∈ rest) (ha : 0 ≤ a) (hb : (Builtin.Int.intBits (a + 1) : Int) ≤ 4096) :
    Cut w 432 [.ref A.M] 70 2800 rest (fun _ : Unit => True) (fun _ => .bool true) (fun _ => rest) := by
  have m1 := M.x; have m2 := M.xd; have m3 := M.m; have m4 := M.md; have nhx := neN M.nHX
  unfold Cut; k_fill; intro mean mg mb dp un gd cn cs a' ccd cl outer A₀ base h₀ L m s Q Xx B F XX N TT hks hd hu hret
  refine wpAny_call ?_
  k_dflt cell_enter
  repeat' (first | (k_here; (with_reducible show wpAny _ _ (call (Value.ref 425) _ _) _ _ _); k_dflt (first | (refine' Cut.pure_use (by k_asm) (by k_asm) (by k_asm) (by k_asm) (by k_asm) (by walk_at "R") (nat_int _ _ _ _ _ _ _ _ _ _ _ _ _ _ _ (by walk_at "M") (by k_mem) (by k_mem) (by assumption) (by first | assumption | decide) (by first | assumption | decide) (by walk_at "M") (by k_mem) (by walk_at "E")) (by ktr_room) (by ktr_units) ?_; k_whole; intro x9z h9z tk9z p9z F9z N9z; clear p9z; walk_at "Z") | (refine' Cut.pure_use (by k_asm) (by k_asm) (by k_asm) (by k_asm) (by k_asm) (by walk_at "R") (nat_free _ _ _ _ _ _ _ _ _ _ _ _ _ _ (by walk_at "M") (by k_mem) (by k_mem) (by assumption) (by first | assumption | decide) (by first | assumption | decide) (by k_mem) (by assumption) (by assumption) (by assumption)) (by ktr_room) (by ktr_units) ?_; k_whole; intro x9z h9z tk9z p9z F9z N9z; clear p9z; walk_at "Z"))) | (k_here; (with_reducible show wpAny _ _ (call (Value.ref 566) _ _) _ _ _); k_dflt (refine' uni_free_use (by k_asm) (by k_asm) (by k_asm) (by k_asm) (by k_asm) (by walk_at "R") (by k_updF) (by walk_at "M") (by assumption) (by k_mem) (by exact Ne9 (by assumption) (by assumption)) (by assumption) (by assumption) (by assumption) (by assumption) (by k_mem) (by k_ne) (by ktr_room) (by ktr_units) ?_; k_whole; intro h9z tk9z F9z N9z; (try dsimp only at N9z); walk_at "Z")) | (k_here; (with_reducible show wpAny _ _ (call (Value.ref 566) _ _) _ _ _); k_dflt (first | (refine' Cut.pure_use (by k_asm) (by k_asm) (by k_asm) (by k_asm) (by k_asm) (by walk_at "R") (uni_same _ _ _ _ _ _ _ _ _ _ _ _ _ _ (by walk_at "M") (by assumption) (by k_mem) (by k_mem) (by k_mem)) (by ktr_room) (by ktr_units) ?_; k_whole; intro x9z h9z tk9z p9z F9z N9z; clear p9z; walk_at "Z") | (refine' Cut.pure_use (by k_asm) (by k_asm) (by k_asm) (by k_asm) (by k_asm) (by walk_at "R") (uni_other _ _ _ _ _ _ (by assumption) _ _ _ _ _ _ _ _ _ (by walk_at "M") (by assumption) (by k_mem) (by k_mem) (by k_mem)) (by ktr_room) (by ktr_units) ?_; k_whole; intro x9z h9z tk9z p9z F9z N9z; clear p9z; walk_at "Z"))) | (k_here; (with_reducible show wpAny _ _ (call (Value.ref 411) _ _) _ _ _); k_dflt (refine' Cut.pure_use (by k_asm) (by k_asm) (by k_asm) (by k_asm) (by k_asm) (by walk_at "R") (check_size _ _ _ _ _ _ (by assumption)) (by ktr_room) (by ktr_units) ?_; k_whole; intro x9z h9z tk9z p9z F9z N9z; clear p9z; walk_at "Z")) | (k_here; (with_reducible show wpAny _ _ (call (Value.ref 418) _ _) _ _ _); k_dflt (first | (refine' Cut.pure_use (by k_asm) (by k_asm) (by k_asm) (by k_asm) (by k_asm) (by walk_at "R") (iov_int _ _ _ _ _ _ _ _ _ _ _ _ _ _ _ (by walk_at "M") (by k_mem) (by k_mem) (by assumption) (by first | assumption | decide) (by first | assumption | decide) (by walk_at "M") (by k_mem)) (by ktr_room) (by ktr_units) ?_; k_whole; intro x9z h9z tk9z p9z F9z N9z; clear p9z; walk_at "Z") | (refine' Cut.pure_use (by k_asm) (by k_asm) (by k_asm) (by k_asm) (by k_asm) (by walk_at "R") (iov_free _ _ _ _ _ _ _ _ _ _ _ _ _ _ (by walk_at "M") (by k_mem) (by k_mem) (by assumption) (by first | assumption | decide) (by first | assumption | decide) (by k_mem) (by assumption) (by assumption) (by assumption)) (by ktr_room) (by ktr_units) ?_; k_whole; intro x9z h9z tk9z p9z F9z N9z; clear p9z; walk_at "Z"))) | (k_here; (with_reducible show wpAny _ _ (call (Value.ref 279) _ _) _ _ _); k_dflt (first | (refine' Cut.pure_use (by k_asm) (by k_asm) (by k_asm) (by k_asm) (by k_asm) (by walk_at "R") (globalise_int _ _ _ _ _ _ _ _ _ _ _ (by walk_at "M") (by k_mem) (by walk_at "M") (by k_mem)) (by ktr_room) (by ktr_units) ?_; k_whole; intro x9z h9z tk9z p9z F9z N9z; clear p9z; walk_at "Z") | (refine' Cut.pure_use (by k_asm) (by k_asm) (by k_asm) (by k_asm) (by k_asm) (by walk_at "R") (globalise_free _ _ _ _ _ _ _ _ _ _ (by walk_at "M") (by k_mem) (by walk_at "M") (by k_mem)) (by ktr_room) (by ktr_units) ?_; k_whole; intro x9z h9z tk9z p9z F9z N9z; clear p9z; walk_at "Z"))) | (k_unfold; (try dsimp only)) | (k_end; wrow_close) | walk1 | (dsimp only; walk1) | (leave1; try dsimp only) | fail "no step")
  all_goals first | exact hret () _ _ trivial (by k_asm) (cb_drop (by k_asm) (by repeat (first | exact sub_self | refine sub_tail ?_))) | walk_report
theorem succ_other (w : World) (A : Ad) (q1 q2 r1 r2 : Addr) (a b : Int) (s1 u1 s2 u2 : Tok) (k1 k2 : Nat) (n2 n3 : Nat) (hs xs : List Value) (rest : List (Addr × Obj)) (M : Mach w.params A rest)  (hl : hs.length ≤ 1000) (h4 : (A.H, listOf hs.toArray n2) ∈ rest) (h6 : (A.XL, listOf xs.toArray n3) ∈ rest)
    (x1 : xs[1]? = some (.ref q1)) (x2 : xs[2]? = some (.ref q2)) (D1 : Der rest hs q1 r1) (D2 : Der rest hs q2 r2) (i1 : (r1, tup #[.int 5 s1, .int a u1] k1) ∈ rest) (i2 : (r2, tup #[.int 5 s2, .int b u2] k2) ∈ rest) (ha : 0 ≤ a) (hb0 : 0 ≤ b) (hv : b ≠ a + 1) (hb : (Builtin.Int.intBits (a + 1) : Int) ≤ 4096) :
    Cut w 432 [.ref A.M] 70 2800 rest (fun _ : Unit => True) (fun _ => .bool false) (fun _ => rest) := by
  have m1 := M.x; have m2 := M.xd; have m3 := M.m; have m4 := M.md; have nhx := neN M.nHX
  unfold Cut; k_fill; intro mean mg mb dp un gd cn cs a' ccd cl outer A₀ base h₀ L m s Q Xx B F XX N TT hks hd hu hret
  refine wpAny_call ?_
  k_dflt cell_enter
  repeat' (first | (k_here; (with_reducible show wpAny _ _ (call (Value.ref 425) _ _) _ _ _); k_dflt (first | (refine' Cut.pure_use (by k_asm) (by k_asm) (by k_asm) (by k_asm) (by k_asm) (by walk_at "R") (nat_int _ _ _ _ _ _ _ _ _ _ _ _ _ _ _ (by walk_at "M") (by k_mem) (by k_mem) (by assumption) (by first | assumption | decide) (by first | assumption | decide) (by walk_at "M") (by k_mem) (by walk_at "E")) (by ktr_room) (by ktr_units) ?_; k_whole; intro x9z h9z tk9z p9z F9z N9z; clear p9z; walk_at "Z") | (refine' Cut.pure_use (by k_asm) (by k_asm) (by k_asm) (by k_asm) (by k_asm) (by walk_at "R") (nat_free _ _ _ _ _ _ _ _ _ _ _ _ _ _ (by walk_at "M") (by k_mem) (by k_mem) (by assumption) (by first | assumption | decide) (by first | assumption | decide) (by k_mem) (by assumption) (by assumption) (by assumption)) (by ktr_room) (by ktr_units) ?_; k_whole; intro x9z h9z tk9z p9z F9z N9z; clear p9z; walk_at "Z"))) | (k_here; (with_reducible show wpAny _ _ (call (Value.ref 566) _ _) _ _ _); k_dflt (refine' uni_free_use (by k_asm) (by k_asm) (by k_asm) (by k_asm) (by k_asm) (by walk_at "R") (by k_updF) (by walk_at "M") (by assumption) (by k_mem) (by exact Ne9 (by assumption) (by assumption)) (by assumption) (by assumption) (by assumption) (by assumption) (by k_mem) (by k_ne) (by ktr_room) (by ktr_units) ?_; k_whole; intro h9z tk9z F9z N9z; (try dsimp only at N9z); walk_at "Z")) | (k_here; (with_reducible show wpAny _ _ (call (Value.ref 566) _ _) _ _ _); k_dflt (first | (refine' Cut.pure_use (by k_asm) (by k_asm) (by k_asm) (by k_asm) (by k_asm) (by walk_at "R") (uni_same _ _ _ _ _ _ _ _ _ _ _ _ _ _ (by walk_at "M") (by assumption) (by k_mem) (by k_mem) (by k_mem)) (by ktr_room) (by ktr_units) ?_; k_whole; intro x9z h9z tk9z p9z F9z N9z; clear p9z; walk_at "Z") | (refine' Cut.pure_use (by k_asm) (by k_asm) (by k_asm) (by k_asm) (by k_asm) (by walk_at "R") (uni_other _ _ _ _ _ _ (by assumption) _ _ _ _ _ _ _ _ _ (by walk_at "M") (by assumption) (by k_mem) (by k_mem) (by k_mem)) (by ktr_room) (by ktr_units) ?_; k_whole; intro x9z h9z tk9z p9z F9z N9z; clear p9z; walk_at "Z"))) | (k_here; (with_reducible show wpAny _ _ (call (Value.ref 411) _ _) _ _ _); k_dflt (refine' Cut.pure_use (by k_asm) (by k_asm) (by k_asm) (by k_asm) (by k_asm) (by walk_at "R") (check_size _ _ _ _ _ _ (by assumption)) (by ktr_room) (by ktr_units) ?_; k_whole; intro x9z h9z tk9z p9z F9z N9z; clear p9z; walk_at "Z")) | (k_here; (with_reducible show wpAny _ _ (call (Value.ref 418) _ _) _ _ _); k_dflt (first | (refine' Cut.pure_use (by k_asm) (by k_asm) (by k_asm) (by k_asm) (by k_asm) (by walk_at "R") (iov_int _ _ _ _ _ _ _ _ _ _ _ _ _ _ _ (by walk_at "M") (by k_mem) (by k_mem) (by assumption) (by first | assumption | decide) (by first | assumption | decide) (by walk_at "M") (by k_mem)) (by ktr_room) (by ktr_units) ?_; k_whole; intro x9z h9z tk9z p9z F9z N9z; clear p9z; walk_at "Z") | (refine' Cut.pure_use (by k_asm) (by k_asm) (by k_asm) (by k_asm) (by k_asm) (by walk_at "R") (iov_free _ _ _ _ _ _ _ _ _ _ _ _ _ _ (by walk_at "M") (by k_mem) (by k_mem) (by assumption) (by first | assumption | decide) (by first | assumption | decide) (by k_mem) (by assumption) (by assumption) (by assumption)) (by ktr_room) (by ktr_units) ?_; k_whole; intro x9z h9z tk9z p9z F9z N9z; clear p9z; walk_at "Z"))) | (k_here; (with_reducible show wpAny _ _ (call (Value.ref 279) _ _) _ _ _); k_dflt (first | (refine' Cut.pure_use (by k_asm) (by k_asm) (by k_asm) (by k_asm) (by k_asm) (by walk_at "R") (globalise_int _ _ _ _ _ _ _ _ _ _ _ (by walk_at "M") (by k_mem) (by walk_at "M") (by k_mem)) (by ktr_room) (by ktr_units) ?_; k_whole; intro x9z h9z tk9z p9z F9z N9z; clear p9z; walk_at "Z") | (refine' Cut.pure_use (by k_asm) (by k_asm) (by k_asm) (by k_asm) (by k_asm) (by walk_at "R") (globalise_free _ _ _ _ _ _ _ _ _ _ (by walk_at "M") (by k_mem) (by walk_at "M") (by k_mem)) (by ktr_room) (by ktr_units) ?_; k_whole; intro x9z h9z tk9z p9z F9z N9z; clear p9z; walk_at "Z"))) | (k_unfold; (try dsimp only)) | (k_end; wrow_close) | walk1 | (dsimp only; walk1) | (leave1; try dsimp only) | fail "no step")
  all_goals first | exact hret () _ _ trivial (by k_asm) (cb_drop (by k_asm) (by repeat (first | exact sub_self | refine sub_tail ?_))) | walk_report
theorem succ_zero (w : World) (A : Ad) (q1 q2 r2 : Addr) (i : Int) (s1 u1 s2 u2 : Tok) (k1 k2 : Nat) (n2 n3 : Nat) (hs xs : List Value) (rest : List (Addr × Obj)) (M : Mach w.params A rest)  (hl : hs.length ≤ 1000) (h4 : (A.H, listOf hs.toArray n2) ∈ rest) (h6 : (A.XL, listOf xs.toArray n3) ∈ rest)
    (x1 : xs[1]? = some (.ref q1)) (x2 : xs[2]? = some (.ref q2)) (D2 : Der rest hs q2 r2) (i2 : (r2, tup #[.int 5 s2, .int 0 u2] k2) ∈ rest) (j1 : (q1, tup #[.int 0 s1, .int i u1] k1) ∈ rest) (g0 : hs[i.toNat]? = some (.ref q1)) (g1 : 0 ≤ i) (g2 : i < hs.length) (g3 : i < 2 ^ 63) :
    Cut w 432 [.ref A.M] 70 2800 rest (fun _ : Unit => True) (fun _ => .bool false) (fun _ => rest) := by
  have m1 := M.x; have m2 := M.xd; have m3 := M.m; have m4 := M.md; have nhx := neN M.nHX
  unfold Cut; k_fill; intro mean mg mb dp un gd cn cs a' ccd cl outer A₀ base h₀ L m s Q Xx B F XX N TT hks hd hu hret
  refine wpAny_call ?_
  k_dflt cell_enter
  repeat' (first | (k_here; (with_reducible show wpAny _ _ (call (Value.ref 425) _ _) _ _ _); k_dflt (first | (refine' Cut.pure_use (by k_asm) (by k_asm) (by k_asm) (by k_asm) (by k_asm) (by walk_at "R") (nat_int _ _ _ _ _ _ _ _ _ _ _ _ _ _ _ (by walk_at "M") (by k_mem) (by k_mem) (by assumption) (by first | assumption | decide) (by first | assumption | decide) (by walk_at "M") (by k_mem) (by walk_at "E")) (by ktr_room) (by ktr_units) ?_; k_whole; intro x9z h9z tk9z p9z F9z N9z; clear p9z; walk_at "Z") | (refine' Cut.pure_use (by k_asm) (by k_asm) (by k_asm) (by k_asm) (by k_asm) (by walk_at "R") (nat_free _ _ _ _ _ _ _ _ _ _ _ _ _ _ (by walk_at "M") (by k_mem) (by k_mem) (by assumption) (by first | assumption | decide) (by first | assumption | decide) (by k_mem) (by assumption) (by assumption) (by assumption)) (by ktr_room) (by ktr_units) ?_; k_whole; intro x9z h9z tk9z p9z F9z N9z; clear p9z; walk_at "Z"))) | (k_here; (with_reducible show wpAny _ _ (call (Value.ref 566) _ _) _ _ _); k_dflt (refine' uni_free_use (by k_asm) (by k_asm) (by k_asm) (by k_asm) (by k_asm) (by walk_at "R") (by k_updF) (by walk_at "M") (by assumption) (by k_mem) (by exact Ne9 (by assumption) (by assumption)) (by assumption) (by assumption) (by assumption) (by assumption) (by k_mem) (by k_ne) (by ktr_room) (by ktr_units) ?_; k_whole; intro h9z tk9z F9z N9z; (try dsimp only at N9z); walk_at "Z")) | (k_here; (with_reducible show wpAny _ _ (call (Value.ref 566) _ _) _ _ _); k_dflt (first | (refine' Cut.pure_use (by k_asm) (by k_asm) (by k_asm) (by k_asm) (by k_asm) (by walk_at "R") (uni_same _ _ _ _ _ _ _ _ _ _ _ _ _ _ (by walk_at "M") (by assumption) (by k_mem) (by k_mem) (by k_mem)) (by ktr_room) (by ktr_units) ?_; k_whole; intro x9z h9z tk9z p9z F9z N9z; clear p9z; walk_at "Z") | (refine' Cut.pure_use (by k_asm) (by k_asm) (by k_asm) (by k_asm) (by k_asm) (by walk_at "R") (uni_other _ _ _ _ _ _ (by assumption) _ _ _ _ _ _ _ _ _ (by walk_at "M") (by assumption) (by k_mem) (by k_mem) (by k_mem)) (by ktr_room) (by ktr_units) ?_; k_whole; intro x9z h9z tk9z p9z F9z N9z; clear p9z; walk_at "Z"))) | (k_here; (with_reducible show wpAny _ _ (call (Value.ref 411) _ _) _ _ _); k_dflt (refine' Cut.pure_use (by k_asm) (by k_asm) (by k_asm) (by k_asm) (by k_asm) (by walk_at "R") (check_size _ _ _ _ _ _ (by assumption)) (by ktr_room) (by ktr_units) ?_; k_whole; intro x9z h9z tk9z p9z F9z N9z; clear p9z; walk_at "Z")) | (k_here; (with_reducible show wpAny _ _ (call (Value.ref 418) _ _) _ _ _); k_dflt (first | (refine' Cut.pure_use (by k_asm) (by k_asm) (by k_asm) (by k_asm) (by k_asm) (by walk_at "R") (iov_int _ _ _ _ _ _ _ _ _ _ _ _ _ _ _ (by walk_at "M") (by k_mem) (by k_mem) (by assumption) (by first | assumption | decide) (by first | assumption | decide) (by walk_at "M") (by k_mem)) (by ktr_room) (by ktr_units) ?_; k_whole; intro x9z h9z tk9z p9z F9z N9z; clear p9z; walk_at "Z") | (refine' Cut.pure_use (by k_asm) (by k_asm) (by k_asm) (by k_asm) (by k_asm) (by walk_at "R") (iov_free _ _ _ _ _ _ _ _ _ _ _ _ _ _ (by walk_at "M") (by k_mem) (by k_mem) (by assumption) (by first | assumption | decide) (by first | assumption | decide) (by k_mem) (by assumption) (by assumption) (by assumption)) (by ktr_room) (by ktr_units) ?_; k_whole; intro x9z h9z tk9z p9z F9z N9z; clear p9z; walk_at "Z"))) | (k_here; (with_reducible show wpAny _ _ (call (Value.ref 279) _ _) _ _ _); k_dflt (first | (refine' Cut.pure_use (by k_asm) (by k_asm) (by k_asm) (by k_asm) (by k_asm) (by walk_at "R") (globalise_int _ _ _ _ _ _ _ _ _ _ _ (by walk_at "M") (by k_mem) (by walk_at "M") (by k_mem)) (by ktr_room) (by ktr_units) ?_; k_whole; intro x9z h9z tk9z p9z F9z N9z; clear p9z; walk_at "Z") | (refine' Cut.pure_use (by k_asm) (by k_asm) (by k_asm) (by k_asm) (by k_asm) (by walk_at "R") (globalise_free _ _ _ _ _ _ _ _ _ _ (by walk_at "M") (by k_mem) (by walk_at "M") (by k_mem)) (by ktr_room) (by ktr_units) ?_; k_whole; intro x9z h9z tk9z p9z F9z N9z; clear p9z; walk_at "Z"))) | (k_unfold; (try dsimp only)) | (k_end; wrow_close) | walk1 | (dsimp only; walk1) | (leave1; try dsimp only) | fail "no step")
  all_goals first | exact hret () _ _ trivial (by k_asm) (cb_drop (by k_asm) (by repeat (first | exact sub_self | refine sub_tail ?_))) | walk_report
section Sec10
/-! M11 -/
local macro_rules | `(tactic| k_lt $h:ident) => `(tactic| first | (replace $h := allLt_of $h; simp only [AllLt, and_true] at $h:ident) | skip)
local macro_rules | `(tactic| k_ne) => `(tactic| (refine neN ?_; (try dsimp only); omega))
theorem exc51 (P : Params) : excIn (Mine.K P) 51 := ⟨_, _, _, _, _, _, _, _, _, _, _, _, _, _, _, rfl⟩
theorem kts51 (P : Params) : ktsIn (Mine.K P) 51 "BaseException" = true := by kernel_rfl
theorem allNe_two {t x : Addr} {o : Obj} {l : List (Addr × Obj)} (l1 : AllLt t l) (l2 : t < x) : ∀ p ∈ (t, o) :: l, p.1 ≠ x := fun p hp => by
  rcases List.mem_cons.mp hp with rfl | hp
  · exact Nat.ne_of_lt l2
  · exact Nat.ne_of_lt (Nat.lt_trans (tb_ltOf l1 p hp) l2)
theorem set_exc1 {prog : Program} {w : World} {A : Around} {K : Frag} {C x : Addr} {s : Shared} {h₀ : Heap} {L : Addr} {m : Str → Option Value} {E : Value → Shared → Prop} {Q : Unit → Shared → Prop} {ox : Obj} {name : Str} {v : Value} {vs : Array Value} {post : List (Addr × Obj)} (F : Fr h₀ L s.heap m) (N : News h₀ L s.heap ((x, ox) :: post)) (X₀ : K.In h₀) (q : excIn K C)
    (hc : ox.cls = .ref C) (hd : ox.dict = none) (hf : ox.data = .fields vs) (hs : findIn K (.ref C) "__setattr__" = some (some (.builtin "object.__setattr__"))) (ht : findIn K (.ref C) name = some none)
    (h2 : ∀ p ∈ post, p.1 ≠ x)
    (h : ∀ h' d tk tk', Fr h₀ L h' m → News h₀ L h' ((d, ballDict w name tk v) :: (x, { ox with dict := some d }) :: post) → (∀ p ∈ (x, ox) :: post, p.1 < d) → Q () { s with heap := h', toks := tk' }) :
    wpAny (model prog w) A (setAttr (.ref x) name v) Q E s := set_exc (pre := []) F N X₀ q hc hd hf hs ht (fun _ h => nomatch h) h2 h
local macro_rules | `(tactic| walk_at "setAttr ref") => `(tactic| (k_here; k_dflt (refine' set_exc1 (by k_asm) (by k_asm) (by k_asm) (by exact exc51 _) rfl rfl rfl (by k_is) (by k_is) (by first | k_all | exact allNe_two (by assumption) (by assumption)) ?_; k_whole); intro h' d' tk1 tk2 F' N' l1; (try k_lt l1); (try k_sweep)))
local macro_rules | `(tactic| walk_at "call ref") => `(tactic| (k_here; (with_reducible show wpAny _ _ (call (Value.ref 51) _ _) _ _ _); k_dflt (refine' call_exc (by k_asm) (by k_asm) (by k_asm) (by exact exc51 _) (by k_is) (by k_is) (by exact Nat.le_of_ble_eq_true rfl) ?_; k_whole; intro x' t' h' F' N' l1 l2; (try k_lt l1); (try k_lt2 l2); (try k_sweep); walk_at "ent")))
local macro_rules | `(tactic| walk_at "getMethod ref") => `(tactic| (k_here; (with_reducible show wpAny _ _ (getMethod (Value.ref _) (Str.ofString "get") _) _ _ _); k_dflt (refine kdg_method (knd := PySem.strKind _ _) (by k_asm) (by k_mem) (by assumption) ?_)))
local macro_rules | `(tactic| walk_at "call builtin:dict.get") => `(tactic| (k_here; k_dflt (refine kdg_get2 (knd := PySem.strKind _ _) (by k_asm) (by k_mem) (by assumption) (by assumption) (strKind_is _ _ _ _) _ (by assumption) ?_; (try dsimp only [Option.getD]))))
local macro_rules | `(tactic| walk_at "d18") => `(tactic| skip)
local macro_rules | `(tactic| walk_at "d19") => `(tactic| skip)
local macro_rules | `(tactic| walk_at "d20") => `(tactic| skip)
local macro_rules | `(tactic| walk_at "d21") => `(tactic| skip)
local macro_rules | `(tactic| walk_at "d22") => `(tactic| skip)
local macro_rules | `(tactic| walk_at "d23") => `(tactic| skip)
structure IE where
  d : Addr
  x : Addr
  t : Addr
  b : Addr
  p : Addr
  q2 : Addr
  q1 : Addr
  k1 : Tok
  k2 : Tok
  k3 : Tok
  k4 : Tok
noncomputable abbrev ballL (z : IE) (i : Int) (ti : Tok) (rest : List (Addr × Obj)) : List (Addr × Obj) := (z.b, tup #[.str (Str.ofString "s") z.k2, .int 16 245, .ref z.p] 0) :: (z.p, tup #[.ref z.q1, .ref z.q2] 0) :: (z.q2, tup #[.str (Str.ofString "a") z.k3, .int 25 241] 0) :: (z.q1, tup #[.str (Str.ofString "a") z.k4, .int i ti] 0) :: rest
noncomputable abbrev excO (z : IE) : Obj := { cls := .ref 51, dict := some z.d, data := .fields #[.ref z.t, .none, .none, .none, .bool false, .none] }
noncomputable abbrev ieL (w : World) (z : IE) (i : Int) (ti : Tok) (rest : List (Addr × Obj)) : List (Addr × Obj) := (z.d, ballDict w (Str.ofString "ball") z.k1 (.ref z.b)) :: (z.x, excO z) :: (z.t, argTup [.ref z.b]) :: ballL z i ti rest
abbrev NewIE (z : IE) (rest : List (Addr × Obj)) : Prop := (∀ p ∈ rest, p.1 < z.q1) ∧ (z.q1 < z.q2 ∧ AllLt z.q2 rest) ∧ (z.q2 < z.p ∧ z.q1 < z.p ∧ AllLt z.p rest) ∧ (z.p < z.b ∧ z.q2 < z.b ∧ z.q1 < z.b ∧ AllLt z.b rest) ∧
  (z.b < z.t ∧ z.p < z.t ∧ z.q2 < z.t ∧ z.q1 < z.t ∧ AllLt z.t rest) ∧ z.t < z.x ∧ (z.x < z.d ∧ z.t < z.d ∧ z.b < z.d ∧ z.p < z.d ∧ z.q2 < z.d ∧ z.q1 < z.d ∧ AllLt z.d rest)
theorem inst_err (w : World) (Y : Addr) (S : Sy) (oN : Obj) (kvs : List (Str × Value)) (i : Int) (ti : Tok) (rest : List (Addr × Obj)) (h1 : (Y, instObj 154 S.D) ∈ rest) (h2 : (S.D, symsD w.params S) ∈ rest) (h3 : (S.AN, oN) ∈ rest) (hD : oN.IsDictOf (strK w) kvs) (lo : (S.AN == sysModules) = false)
    (hv : valueAt kvs "instantiation_error" = some (.int i ti)) (hi : 0 ≤ i) :
    Cut w 186 [.ref Y] 30 1000 rest (fun z : IE => NewIE z rest) (fun z => .ref z.x) (fun z => ieL w z i ti rest) := by
  unfold Cut; k_fill; intro mean mg mb dp un gd cn cs a ccd cl outer A₀ base h₀ L m s Q Xx B F XX N TT hks hd hu hret
  refine wpAny_call ?_
  k_dflt cell_enter
  repeat' (first | (k_unfold; (try dsimp only)) | (k_end; wrow_close) | walk1 | (dsimp only; walk1) | (leave1; try dsimp only) | fail "no step")
  all_goals exact hret ⟨_, _, _, _, _, _, _, _, _, _, _⟩ _ _ ⟨by assumption, by assumption, by assumption, by assumption, by assumption, by assumption, by assumption⟩ (by k_asm) (by k_asm)
structure Syms (w : World) (Y : Addr) (i : Int) (ti : Tok) (S : Sy) (oN : Obj) (kvs : List (Str × Value)) (rest : List (Addr × Obj)) : Prop where
  h1 : (Y, instObj 154 S.D) ∈ rest
  h2 : (S.D, symsD w.params S) ∈ rest
  h3 : (S.AN, oN) ∈ rest
  hD : oN.IsDictOf (strK w) kvs
  lo : (S.AN == sysModules) = false
  hv : valueAt kvs "instantiation_error" = some (.int i ti)
  hi : 0 ≤ i
theorem Syms.mono {w Y i ti S oN kvs rest rest'} (M : Syms w Y i ti S oN kvs rest) (h : ∀ x ∈ rest, x ∈ rest') : Syms w Y i ti S oN kvs rest' := ⟨h _ M.h1, h _ M.h2, h _ M.h3, M.hD, M.lo, M.hv, M.hi⟩
theorem inst_errS {w Y i ti S oN kvs rest} (M : Syms w Y i ti S oN kvs rest) : Cut w 186 [.ref Y] 30 1000 rest (fun z : IE => NewIE z rest) (fun z => .ref z.x) (fun z => ieL w z i ti rest) :=
  inst_err w Y S oN kvs i ti rest M.h1 M.h2 M.h3 M.hD M.lo M.hv M.hi
end Sec10
/-! M12 -/
def CutX (w : World) (f : Addr) (vs : List Value) (d u : Nat) (E : List (Addr × Obj)) (i : Int) (ti : Tok) : Prop :=
  ∀ (mean : ExcName → Option Value) (mg mb : Str → Option Value) (dp un : Nat) (gd : Option (List Code)) (cn : Str) (cs : Scope) (a : Addr) (ccd : Value) (cl : List (Str × Addr)) (outer : List Env) (A₀ : Around) (base h₀ : Heap) (L : Addr) (m : Str → Option Value) (s : Shared)
    (Q X : Value → Shared → Prop),
    Below A₀ base outer h₀ → Fr h₀ L s.heap m → (Mine.K w.params).In h₀ → News h₀ L s.heap E → Top VW LO mean mg mb h₀ → cs.kind = .function → dp + d < recursionLimit → un + u < cLine →
    (∀ (z : IE) G h' tk', NewIE z E → Fr h₀ L G m → RaisedD base G (envX cn cs L a ccd cl :: outer) z.x 51 z.d ((z.d, ballDict w (Str.ofString "ball") z.k1 (.ref z.b)) :: (z.t, argTup [.ref z.b]) :: ballL z i ti E) h' → G.UpToSlots h' → X (.ref z.x) { s with heap := h', toks := tk' }) →
    wpAny (model PySem.Challenge.rw_sa0162_01.row.prog w) (ktrTop dp un gd cn cs L a ccd cl outer) (call (.ref f) vs) Q X s
theorem ie_ne {w : World} {z : IE} {i : Int} {ti : Tok} {E : List (Addr × Obj)} (n : NewIE z E) : ∀ q ∈ (z.d, ballDict w (Str.ofString "ball") z.k1 (.ref z.b)) :: (z.t, argTup [.ref z.b]) :: ballL z i ti E, q.1 ≠ z.x := by
  obtain ⟨n1, ⟨n2, _⟩, ⟨n3, n4, _⟩, ⟨n5, n6, n7, _⟩, ⟨a1, a2, a3, a4, a5⟩, n8, n9, _⟩ := n
  intro q hq
  rcases List.mem_cons.mp hq with rfl | hq
  · exact Ne.symm (Nat.ne_of_lt n9)
  rcases List.mem_cons.mp hq with rfl | hq
  · exact Nat.ne_of_lt n8
  rcases List.mem_cons.mp hq with rfl | hq
  · exact Nat.ne_of_lt (Nat.lt_trans a1 n8)
  rcases List.mem_cons.mp hq with rfl | hq
  · exact Nat.ne_of_lt (Nat.lt_trans a2 n8)
  rcases List.mem_cons.mp hq with rfl | hq
  · exact Nat.ne_of_lt (Nat.lt_trans a3 n8)
  rcases List.mem_cons.mp hq with rfl | hq
  · exact Nat.ne_of_lt (Nat.lt_trans a4 n8)
  · exact Nat.ne_of_lt (Nat.lt_trans (tb_ltOf a5 q hq) n8)
theorem ie_perm {w : World} {z : IE} {i : Int} {ti : Tok} {E : List (Addr × Obj)} {h₀ h : Heap} {L : Addr} (N : News h₀ L h (ieL w z i ti E)) : News h₀ L h ((z.x, excO z) :: (z.d, ballDict w (Str.ofString "ball") z.k1 (.ref z.b)) :: (z.t, argTup [.ref z.b]) :: ballL z i ti E) := fun q hq => N q (by
  rcases List.mem_cons.mp hq with rfl | hq
  · exact .tail _ (.head _)
  rcases List.mem_cons.mp hq with rfl | hq
  · exact .head _
  · exact .tail _ (.tail _ hq))
def Raise51 (w : World) (E : Value → Shared → Prop) (v : Value) (s : Shared) : Prop := (Mine.K w.params).In s.heap ∧ RaiseGo 51 E v s
theorem raise_51 {w : World} {prog : Program} {A : Around} {E : Value → Shared → Prop} {s : Shared} {env : Env} {Q : Flow → Shared → Prop} {x : Expr} {pos : Pos} (hh : A.handled = none)
    (h : wpAny (model prog w) A (PySem.eval x env) (Raise51 w E) E s) : wpAny (model prog w) A (exec (.Raise (some x) none pos) env) Q E s := raise_D hh (exc51 _) h
theorem raise_end {w : World} {z : IE} {i : Int} {ti : Tok} {l : List (Addr × Obj)} {h₀ : Heap} {L : Addr} {s : Shared} {m : Str → Option Value} {E : Value → Shared → Prop} (N : News h₀ L s.heap (ieL w z i ti l)) (F : Fr h₀ L s.heap m) (X : (Mine.K w.params).In h₀) (k : E (.ref z.x) s) : Raise51 w E (.ref z.x) s := ⟨X.keeps F.keep, z.x, z.t, z.d, rfl, (N _ (.tail _ (.head _))).1, k⟩
local macro_rules | `(tactic| walk_at "exec Raise some none") => `(tactic| (k_here; k_dflt (refine raise_51 rfl ?_)))
local macro_rules | `(tactic| walk_at "d24") => `(tactic| skip)
local macro_rules | `(tactic| walk_at "d25") => `(tactic| skip)
local macro_rules | `(tactic| walk_at "d26") => `(tactic| skip)
local macro_rules | `(tactic| walk_at "d27") => `(tactic| skip)
local macro_rules | `(tactic| walk_at "d28") => `(tactic| skip)
local macro_rules | `(tactic| walk_at "d29") => `(tactic| skip)
local macro_rules | `(tactic| walk_at "d30") => `(tactic| skip)
local macro_rules | `(tactic| walk_at "d31") => `(tactic| skip)
local macro_rules | `(tactic| walk_at "d32") => `(tactic| skip)
local macro_rules | `(tactic| walk_at "d33") => `(tactic| skip)
theorem sum_FFI (w : World) (A : Ad) (q1 q2 q3 : Addr) (i1 : Int) (i2 : Int) (r3 : Addr) (v3 : Int) (s1 s2 s3 u1 u2 u3 : Tok) (k1 k2 k3 n2 n3 : Nat) (hs xs : List Value) (rest : List (Addr × Obj)) (M : Mach w.params A rest) (h4 : (A.H, listOf hs.toArray n2) ∈ rest) (h6 : (A.XL, listOf xs.toArray n3) ∈ rest)
    (x1 : xs[1]? = some (.ref q1)) (x2 : xs[2]? = some (.ref q2)) (x3 : xs[3]? = some (.ref q3)) (j1 : (q1, tup #[.int 0 s1, .int i1 u1] k1) ∈ rest) (g1 : hs[i1.toNat]? = some (.ref q1)) (g10 : 0 ≤ i1) (g13 : i1 < 2 ^ 63) (j2 : (q2, tup #[.int 0 s2, .int i2 u2] k2) ∈ rest) (g2 : hs[i2.toNat]? = some (.ref q2)) (g20 : 0 ≤ i2) (g23 : i2 < 2 ^ 63) (D3 : Der rest hs q3 r3) (i3' : (r3, tup #[.int 5 s3, .int v3 u3] k3) ∈ rest) (i : Int) (ti : Tok) (S : Sy) (oN : Obj) (kvs : List (Str × Value)) (SY : Syms w A.Y i ti S oN kvs rest) :
    CutX w 439 [.ref A.M] 60 2500 rest i ti := by
  have m1 := M.x; have m2 := M.xd; have m3 := M.m; have m4 := M.md
  have D1 : Der rest hs q1 q1 := .free j1 g1 g10 g13
  have D2 : Der rest hs q2 q2 := .free j2 g2 g20 g23
  unfold CutX; k_fill; intro mean mg mb dp un gd cn cs a' ccd cl outer A₀ base h₀ L m s Q Xx B F XX N TT hks hd hu hraise
  refine wpAny_call ?_
  k_dflt cell_enter
  repeat' (first | (k_here; (with_reducible show wpAny _ _ (call (Value.ref 186) _ _) _ _ _); k_dflt (refine' Cut.uz (by k_asm) (by k_asm) (by k_asm) (by k_asm) sub_self (by k_asm) (by walk_at "R") (by ktr_room) (by ktr_units) (inst_errS (by assumption)) ?_; intro z9z h9z tk9z p9z F9z N9z; walk_at "Z")) | (k_here; (with_reducible show wpAny _ _ (call (Value.ref 566) _ _) _ _ _); k_dflt (first | (refine' Cut.pure_use (by k_asm) (by k_asm) (by k_asm) (by k_asm) (by k_asm) (by walk_at "R") (uni_same _ _ _ _ _ _ _ _ _ _ _ _ _ _ (by walk_at "M") (by assumption) (by k_mem) (by k_mem) (by k_mem)) (by ktr_room) (by ktr_units) ?_; k_whole; intro x9z h9z tk9z p9z F9z N9z; clear p9z; walk_at "Z") | (refine' Cut.pure_use (by k_asm) (by k_asm) (by k_asm) (by k_asm) (by k_asm) (by walk_at "R") (uni_other _ _ _ _ _ _ (by assumption) _ _ _ _ _ _ _ _ _ (by walk_at "M") (by assumption) (by k_mem) (by k_mem) (by k_mem)) (by ktr_room) (by ktr_units) ?_; k_whole; intro x9z h9z tk9z p9z F9z N9z; clear p9z; walk_at "Z"))) | (k_here; (with_reducible show wpAny _ _ (call (Value.ref 411) _ _) _ _ _); k_dflt (refine' Cut.pure_use (by k_asm) (by k_asm) (by k_asm) (by k_asm) (by k_asm) (by walk_at "R") (check_size _ _ _ _ _ _ (by assumption)) (by ktr_room) (by ktr_units) ?_; k_whole; intro x9z h9z tk9z p9z F9z N9z; clear p9z; walk_at "Z")) | (k_here; (with_reducible show wpAny _ _ (call (Value.ref 418) _ _) _ _ _); k_dflt (first | (refine' Cut.pure_use (by k_asm) (by k_asm) (by k_asm) (by k_asm) (by k_asm) (by walk_at "R") (iov_int _ _ _ _ _ _ _ _ _ _ _ _ _ _ _ (by walk_at "M") (by k_mem) (by k_mem) (by assumption) (by decide) (by decide) (by walk_at "M") (by k_mem)) (by ktr_room) (by ktr_units) ?_; k_whole; intro x9z h9z tk9z p9z F9z N9z; clear p9z; walk_at "Z") | (refine' Cut.pure_use (by k_asm) (by k_asm) (by k_asm) (by k_asm) (by k_asm) (by walk_at "R") (iov_free _ _ _ _ _ _ _ _ _ _ _ _ _ _ (by walk_at "M") (by k_mem) (by k_mem) (by assumption) (by decide) (by decide) (by k_mem) (by assumption) (by assumption) (by assumption)) (by ktr_room) (by ktr_units) ?_; k_whole; intro x9z h9z tk9z p9z F9z N9z; clear p9z; walk_at "Z"))) | (k_here; (with_reducible show wpAny _ _ (call (Value.ref 279) _ _) _ _ _); k_dflt (first | (refine' Cut.pure_use (by k_asm) (by k_asm) (by k_asm) (by k_asm) (by k_asm) (by walk_at "R") (globalise_int _ _ _ _ _ _ _ _ _ _ _ (by walk_at "M") (by k_mem) (by walk_at "M") (by k_mem)) (by ktr_room) (by ktr_units) ?_; k_whole; intro x9z h9z tk9z p9z F9z N9z; clear p9z; walk_at "Z") | (refine' Cut.pure_use (by k_asm) (by k_asm) (by k_asm) (by k_asm) (by k_asm) (by walk_at "R") (globalise_free _ _ _ _ _ _ _ _ _ _ (by walk_at "M") (by k_mem) (by walk_at "M") (by k_mem)) (by ktr_room) (by ktr_units) ?_; k_whole; intro x9z h9z tk9z p9z F9z N9z; clear p9z; walk_at "Z"))) | (k_unfold; (try dsimp only)) | (k_end; wrow_close) | walk1 | (dsimp only; walk1) | (leave1; try dsimp only) | fail "no step")
  refine' raise_end ?w1 ?w2 ?w3 ?_
  case w1 => assumption
  case w2 => assumption
  case w3 => assumption
  refine leave_raiseD (by assumption) (by assumption) (ie_perm (by assumption)) (ie_ne (by assumption)) rfl rfl rfl rfl ?_
  intro h' RD US
  exact hraise _ _ _ _ (by assumption) (by assumption) RD US

theorem sum_IFF (w : World) (A : Ad) (q1 q2 q3 : Addr) (r1 : Addr) (v1 : Int) (i2 : Int) (i3 : Int) (s1 s2 s3 u1 u2 u3 : Tok) (k1 k2 k3 n2 n3 : Nat) (hs xs : List Value) (rest : List (Addr × Obj)) (M : Mach w.params A rest) (h4 : (A.H, listOf hs.toArray n2) ∈ rest) (h6 : (A.XL, listOf xs.toArray n3) ∈ rest)
    (x1 : xs[1]? = some (.ref q1)) (x2 : xs[2]? = some (.ref q2)) (x3 : xs[3]? = some (.ref q3)) (D1 : Der rest hs q1 r1) (i1' : (r1, tup #[.int 5 s1, .int v1 u1] k1) ∈ rest) (j2 : (q2, tup #[.int 0 s2, .int i2 u2] k2) ∈ rest) (g2 : hs[i2.toNat]? = some (.ref q2)) (g20 : 0 ≤ i2) (g23 : i2 < 2 ^ 63) (j3 : (q3, tup #[.int 0 s3, .int i3 u3] k3) ∈ rest) (g3 : hs[i3.toNat]? = some (.ref q3)) (g30 : 0 ≤ i3) (g33 : i3 < 2 ^ 63) (i : Int) (ti : Tok) (S : Sy) (oN : Obj) (kvs : List (Str × Value)) (SY : Syms w A.Y i ti S oN kvs rest) :
    CutX w 439 [.ref A.M] 60 2500 rest i ti := by
  have m1 := M.x; have m2 := M.xd; have m3 := M.m; have m4 := M.md
  have D2 : Der rest hs q2 q2 := .free j2 g2 g20 g23
  have D3 : Der rest hs q3 q3 := .free j3 g3 g30 g33
  unfold CutX; k_fill; intro mean mg mb dp un gd cn cs a' ccd cl outer A₀ base h₀ L m s Q Xx B F XX N TT hks hd hu hraise
  refine wpAny_call ?_
  k_dflt cell_enter
  repeat' (first | (k_here; (with_reducible show wpAny _ _ (call (Value.ref 186) _ _) _ _ _); k_dflt (refine' Cut.uz (by k_asm) (by k_asm) (by k_asm) (by k_asm) sub_self (by k_asm) (by walk_at "R") (by ktr_room) (by ktr_units) (inst_errS (by assumption)) ?_; intro z9z h9z tk9z p9z F9z N9z; walk_at "Z")) | (k_here; (with_reducible show wpAny _ _ (call (Value.ref 566) _ _) _ _ _); k_dflt (first | (refine' Cut.pure_use (by k_asm) (by k_asm) (by k_asm) (by k_asm) (by k_asm) (by walk_at "R") (uni_same _ _ _ _ _ _ _ _ _ _ _ _ _ _ (by walk_at "M") (by assumption) (by k_mem) (by k_mem) (by k_mem)) (by ktr_room) (by ktr_units) ?_; k_whole; intro x9z h9z tk9z p9z F9z N9z; clear p9z; walk_at "Z") | (refine' Cut.pure_use (by k_asm) (by k_asm) (by k_asm) (by k_asm) (by k_asm) (by walk_at "R") (uni_other _ _ _ _ _ _ (by assumption) _ _ _ _ _ _ _ _ _ (by walk_at "M") (by assumption) (by k_mem) (by k_mem) (by k_mem)) (by ktr_room) (by ktr_units) ?_; k_whole; intro x9z h9z tk9z p9z F9z N9z; clear p9z; walk_at "Z"))) | (k_here; (with_reducible show wpAny _ _ (call (Value.ref 411) _ _) _ _ _); k_dflt (refine' Cut.pure_use (by k_asm) (by k_asm) (by k_asm) (by k_asm) (by k_asm) (by walk_at "R") (check_size _ _ _ _ _ _ (by assumption)) (by ktr_room) (by ktr_units) ?_; k_whole; intro x9z h9z tk9z p9z F9z N9z; clear p9z; walk_at "Z")) | (k_here; (with_reducible show wpAny _ _ (call (Value.ref 418) _ _) _ _ _); k_dflt (first | (refine' Cut.pure_use (by k_asm) (by k_asm) (by k_asm) (by k_asm) (by k_asm) (by walk_at "R") (iov_int _ _ _ _ _ _ _ _ _ _ _ _ _ _ _ (by walk_at "M") (by k_mem) (by k_mem) (by assumption) (by decide) (by decide) (by walk_at "M") (by k_mem)) (by ktr_room) (by ktr_units) ?_; k_whole; intro x9z h9z tk9z p9z F9z N9z; clear p9z; walk_at "Z") | (refine' Cut.pure_use (by k_asm) (by k_asm) (by k_asm) (by k_asm) (by k_asm) (by walk_at "R") (iov_free _ _ _ _ _ _ _ _ _ _ _ _ _ _ (by walk_at "M") (by k_mem) (by k_mem) (by assumption) (by decide) (by decide) (by k_mem) (by assumption) (by assumption) (by assumption)) (by ktr_room) (by ktr_units) ?_; k_whole; intro x9z h9z tk9z p9z F9z N9z; clear p9z; walk_at "Z"))) | (k_here; (with_reducible show wpAny _ _ (call (Value.ref 279) _ _) _ _ _); k_dflt (first | (refine' Cut.pure_use (by k_asm) (by k_asm) (by k_asm) (by k_asm) (by k_asm) (by walk_at "R") (globalise_int _ _ _ _ _ _ _ _ _ _ _ (by walk_at "M") (by k_mem) (by walk_at "M") (by k_mem)) (by ktr_room) (by ktr_units) ?_; k_whole; intro x9z h9z tk9z p9z F9z N9z; clear p9z; walk_at "Z") | (refine' Cut.pure_use (by k_asm) (by k_asm) (by k_asm) (by k_asm) (by k_asm) (by walk_at "R") (globalise_free _ _ _ _ _ _ _ _ _ _ (by walk_at "M") (by k_mem) (by walk_at "M") (by k_mem)) (by ktr_room) (by ktr_units) ?_; k_whole; intro x9z h9z tk9z p9z F9z N9z; clear p9z; walk_at "Z"))) | (k_unfold; (try dsimp only)) | (k_end; wrow_close) | walk1 | (dsimp only; walk1) | (leave1; try dsimp only) | fail "no step")
  refine' raise_end ?w1 ?w2 ?w3 ?_
  case w1 => assumption
  case w2 => assumption
  case w3 => assumption
  refine leave_raiseD (by assumption) (by assumption) (ie_perm (by assumption)) (ie_ne (by assumption)) rfl rfl rfl rfl ?_
  intro h' RD US
  exact hraise _ _ _ _ (by assumption) (by assumption) RD US
/-! G13 -/
theorem setargs_use {w : World} {A : Ad} {LS : Addr} {n3 nl : Nat} {xs cs' : List Value}
    {mean : ExcName → Option Value} {mg mb : Str → Option Value} {dp un : Nat} {gd : Option (List Code)} {cn : Str} {cs : Scope} {a : Addr} {ccd : Value} {cl : List (Str × Addr)} {outer : List Env} {A₀ : Around} {base h₀ : Heap} {L : Addr} {m : Str → Option Value} {s : Shared}
    {Q X : Value → Shared → Prop} {news : List (Addr × Obj)} {nf : Obj → List (Addr × Obj)}
    (B : Below A₀ base outer h₀) (F : Fr h₀ L s.heap m) (X₀ : (Mine.K w.params).In h₀) (N : News h₀ L s.heap news) (T : Top VW LO mean mg mb h₀) (hk : cs.kind = .function) (U : UpdF A.XL (listOf xs.toArray n3) news nf) (M : Mach w.params A news) (hl : xs.length ≤ 100) (hl1 : 1 ≤ xs.length) (hc : cs'.length ≤ 10) (hcs : ∀ v ∈ cs', ∃ c, v = .ref c) (hL : (LS, listOf cs'.toArray nl) ∈ news) (hne : LS ≠ A.XL) (hd : dp + 20 < recursionLimit) (hu : un + 900 < cLine)
    (ret : ∀ (x : SxD) h' tk', (x.xs.length = max xs.length (cs'.length + 1) ∧ ∀ j, j < cs'.length → x.xs[j + 1]? = cs'[j]?) → Fr h₀ L h' m → News h₀ L h' (nf (listOf x.xs.toArray x.n)) → Q .none { s with heap := h', toks := tk' }) :
    wpAny (model PySem.Challenge.rw_sa0162_01.row.prog w) (ktrTop dp un gd cn cs L a ccd cl outer) (call (.ref 552) [.ref A.M, .ref LS]) Q X s :=
  Cut.upd_use B F X₀ N T hk U (fun rest hn hm => setargs w A LS n3 nl xs cs' rest (M.awayX hm) hn hl hl1 hc hcs (hm _ hL hne)) hd hu ret
structure LsD where
  xs : List Value
  n : Nat
  t : Tok
theorem three_at {ys : List Value} {a b c : Value} (h : ∀ j, j < [a, b, c].length → ys[j + 1]? = [a, b, c][j]?) : ys[1]? = some a ∧ ys[2]? = some b ∧ ys[3]? = some c := ⟨h 0 (Nat.le_of_ble_eq_true rfl), h 1 (Nat.le_of_ble_eq_true rfl), h 2 (Nat.le_of_ble_eq_true rfl)⟩
theorem three_refs (a b c : Addr) : ∀ v ∈ [Value.ref a, .ref b, .ref c], ∃ q, v = .ref q := fun v hv => by
  rcases List.mem_cons.mp hv with rfl | hv
  · exact ⟨_, rfl⟩
  rcases List.mem_cons.mp hv with rfl | hv
  · exact ⟨_, rfl⟩
  rcases List.mem_cons.mp hv with rfl | hv
  · exact ⟨_, rfl⟩
  · cases hv
theorem Cut.updn_use {w : World} {f P : Addr} {o : Obj} {vs : List Value} {d u : Nat} {D : Type} {K : D → Addr} {V : D → Value} {Nn O : D → Obj}
    {mean : ExcName → Option Value} {mg mb : Str → Option Value} {dp un : Nat} {gd : Option (List Code)} {cn : Str} {cs : Scope} {a' : Addr} {ccd : Value} {cl : List (Str × Addr)} {outer : List Env} {A₀ : Around} {base h₀ : Heap} {L : Addr} {m : Str → Option Value} {s : Shared}
    {Q X : Value → Shared → Prop} {news : List (Addr × Obj)} {nf : Obj → List (Addr × Obj)}
    (B : Below A₀ base outer h₀) (F : Fr h₀ L s.heap m) (X₀ : (Mine.K w.params).In h₀) (N : News h₀ L s.heap news) (T : Top VW LO mean mg mb h₀) (hk : cs.kind = .function) (U : UpdF P o news nf)
    (C : ∀ rest, (∀ p ∈ rest, p.1 ≠ P) → (∀ p ∈ news, p.1 ≠ P → p ∈ rest) → (∀ p ∈ news, p ∈ (P, o) :: rest) → Cut w f vs d u ((P, o) :: rest) (fun x : D => P < K x ∧ ∀ p ∈ rest, p.1 < K x) V (fun x => (K x, Nn x) :: (P, O x) :: rest)) (hd : dp + d < recursionLimit) (hu : un + u < cLine)
    (ret : ∀ x h' tk', (∀ p ∈ news, p.1 < K x) → Fr h₀ L h' m → News h₀ L h' ((K x, Nn x) :: nf (O x)) → Q (V x) { s with heap := h', toks := tk' }) :
    wpAny (model PySem.Challenge.rw_sa0162_01.row.prog w) (ktrTop dp un gd cn cs L a' ccd cl outer) (call (.ref f) vs) Q X s := by
  obtain ⟨pre, post, rfl, hg, ha, hb⟩ := U.split
  have hall : ∀ p ∈ pre ++ (P, o) :: post, p ∈ (P, o) :: (pre ++ post) := fun p hp => by
    rcases List.mem_append.mp hp with hp | hp
    · exact .tail _ (List.mem_append.mpr (.inl hp))
    · rcases List.mem_cons.mp hp with rfl | hp
      · exact .head _
      · exact .tail _ (List.mem_append.mpr (.inr hp))
  refine (C (pre ++ post) (fun p hp => (List.mem_append.mp hp).elim (ha p) (hb p)) (fun p hp hn => ?_) hall).use B F X₀ N (fun q hq => ?_) T hk hd hu fun x h' tk' hp F' N' => ret x h' tk' (fun p hp' => ?_) F' fun q hq => N' q ?_
  · rcases List.mem_cons.mp (hall p hp) with rfl | hp
    · exact absurd rfl hn
    · exact hp
  · rcases List.mem_cons.mp hq with rfl | hq
    · exact List.mem_append.mpr (.inr (.head _))
    · exact (List.mem_append.mp hq).elim (fun h => List.mem_append.mpr (.inl h)) fun h => List.mem_append.mpr (.inr (.tail _ h))
  · rcases List.mem_cons.mp (hall p hp') with rfl | hp'
    · exact hp.1
    · exact hp.2 p hp'
  · rcases List.mem_cons.mp hq with rfl | hq
    · exact .head _
    rw [hg] at hq
    refine .tail _ ?_
    rcases List.mem_append.mp hq with hq | hq
    · exact .tail _ (List.mem_append.mpr (.inl hq))
    · rcases List.mem_cons.mp hq with rfl | hq
      · exact .head _
      · exact .tail _ (List.mem_append.mpr (.inr hq))
theorem sub_head {q : Addr × Obj} {l m : List (Addr × Obj)} (h : ∀ p ∈ l, p ∈ m) : ∀ p ∈ q :: l, p ∈ q :: m := fun p hp => (List.mem_cons.mp hp).elim (fun e => e ▸ .head _) fun hp => .tail _ (h p hp)
theorem Ne9x {l : List (Addr × Obj)} {P q : Addr} {o : Obj} (h : ∀ p ∈ l, p.1 ≠ P) (hm : (q, o) ∈ l) : q ≠ P := h _ hm
def SumC (w : World) (A : Ad) (q1 q2 q3 : Addr) (k : Nat) (R : List (Addr × Obj)) {D : Type} (Post : List Value → Nat → D → Prop) (b : Bool) (E' : List Value → Nat → D → List (Addr × Obj)) : Prop :=
  ∀ (ys : List Value) (ny : Nat), ys.length = max k 4 → ys[1]? = some (.ref q1) → ys[2]? = some (.ref q2) → ys[3]? = some (.ref q3) → Cut w 439 [.ref A.M] 60 2500 ((A.XL, listOf ys.toArray ny) :: R) (Post ys ny) (fun _ => .bool b) (E' ys ny)
theorem two_at {ys : List Value} {a b : Value} (h : ∀ j, j < [a, b].length → ys[j + 1]? = [a, b][j]?) : ys[1]? = some a ∧ ys[2]? = some b := ⟨h 0 (Nat.le_of_ble_eq_true rfl), h 1 (Nat.le_of_ble_eq_true rfl)⟩
theorem two_refs (a b : Addr) : ∀ v ∈ [Value.ref a, .ref b], ∃ q, v = .ref q := fun v hv => by
  rcases List.mem_cons.mp hv with rfl | hv
  · exact ⟨_, rfl⟩
  rcases List.mem_cons.mp hv with rfl | hv
  · exact ⟨_, rfl⟩
  · cases hv
local macro_rules | `(tactic| walk_at "call ref") => `(tactic| (k_here; (with_reducible show wpAny _ _ (call (Value.ref 552) _ _) _ _ _); k_dflt (refine' setargs_use ?q1 ?q2 ?q3 ?q4 ?q5 ?q6 ?q7 ?q8 ?q9 ?q11 ?r1 ?r2 ?r3 ?r4 ?q12 ?q13 ?_; (case q1 => k_asm); (case q2 => k_asm); (case q3 => k_asm); (case q4 => k_asm); (case q5 => k_asm); (case q6 => first | exact rfl | assumption); (case q7 => k_updF); (case q8 => (first | assumption | (refine Mach.mono (by assumption) ?_; repeat (first | exact sub_self | refine sub_tail ?_)))); (case r3 => k_mem); (case q9 => assumption); (case q11 => assumption); (case r1 => exact Nat.le_of_ble_eq_true rfl); (case r2 => first | exact three_refs _ _ _ | exact two_refs _ _); (case r4 => first | k_ne | exact Ne.symm (Nat.ne_of_lt (And.left (b := AllLt _ _) (by assumption)))); (case q12 => ktr_room); (case q13 => ktr_units); k_whole; intro x9 h9 tk9 p9 F9 N9; ((first | (refine and2 p9 ?_; (try clear p9); intro pa9 pb9) | obtain ⟨pa9, pb9⟩ := p9)); (first | obtain ⟨y19, y29, y39⟩ := three_at pb9 | obtain ⟨y19, y29⟩ := two_at pb9); (try dsimp only at N9); (try dsimp only); (try k_fold))))
theorem lsum_true (w : World) (A : Ad) (q1 q2 q3 : Addr) (n3 : Nat) (xs : List Value) (R : List (Addr × Obj)) (M : Mach w.params A R) (hnx : ∀ p ∈ R, p.1 ≠ A.XL) (hl : xs.length ≤ 100) (hl1 : 1 ≤ xs.length) {D : Type} {Post : List Value → Nat → D → Prop} {E' : List Value → Nat → D → List (Addr × Obj)}
    (C : SumC w A q1 q2 q3 xs.length R Post true E') :
    Cut w 706 [.ref A.M, .ref q1, .ref q2, .ref q3] 80 3500 ((A.XL, listOf xs.toArray n3) :: R) (fun p : List Value × Nat × D × Tok => p.1.length = max xs.length 4 ∧ Post p.1 p.2.1 p.2.2.1) (fun p => .str (Str.ofString "holds") p.2.2.2) (fun p => E' p.1 p.2.1 p.2.2.1) := by
  have m1 := M.x; have m2 := M.xd; have m3 := M.m; have m4 := M.md
  unfold Cut; k_fill; intro mean mg mb dp un gd cn cs a' ccd cl outer A₀ base h₀ L m s Q Xx B F XX N TT hks hd hu hret
  refine wpAny_call ?_
  k_dflt cell_enter
  repeat' (first | (k_here; (with_reducible show wpAny _ _ (call (Value.ref 439) _ _) _ _ _); (with_reducible rename SumC _ _ _ _ _ _ _ _ _ _ => hC9z); k_dflt (refine' Cut.uz (by k_asm) (by k_asm) (by k_asm) (by k_asm) (by repeat (first | exact sub_self | refine sub_head ?_ | refine sub_tail ?_)) (by k_asm) (by walk_at "R") (by ktr_room) (by ktr_units) (hC9z _ _ (by assumption) (by assumption) (by assumption) (by assumption)) ?_; k_whole; intro x9z h9z tk9z p9z F9z N9z; (try dsimp only at N9z); walk_at "Z")) | (k_unfold; (try dsimp only)) | (k_end; wrow_close) | walk1 | (dsimp only; walk1) | (leave1; try dsimp only) | fail "no step")
  all_goals exact hret ⟨_, _, _, _⟩ _ _ ⟨by assumption, by assumption⟩ (by k_asm) (cb_drop (by k_asm) (by exact sub_self))
theorem lsum_false (w : World) (A : Ad) (q1 q2 q3 : Addr) (n3 : Nat) (xs : List Value) (R : List (Addr × Obj)) (M : Mach w.params A R) (hnx : ∀ p ∈ R, p.1 ≠ A.XL) (hl : xs.length ≤ 100) (hl1 : 1 ≤ xs.length) {D : Type} {Post : List Value → Nat → D → Prop} {E' : List Value → Nat → D → List (Addr × Obj)}
    (C : SumC w A q1 q2 q3 xs.length R Post false E') :
    Cut w 706 [.ref A.M, .ref q1, .ref q2, .ref q3] 80 3500 ((A.XL, listOf xs.toArray n3) :: R) (fun p : List Value × Nat × D × Tok => p.1.length = max xs.length 4 ∧ Post p.1 p.2.1 p.2.2.1) (fun p => .str (Str.ofString "fails") p.2.2.2) (fun p => E' p.1 p.2.1 p.2.2.1) := by
  have m1 := M.x; have m2 := M.xd; have m3 := M.m; have m4 := M.md
  unfold Cut; k_fill; intro mean mg mb dp un gd cn cs a' ccd cl outer A₀ base h₀ L m s Q Xx B F XX N TT hks hd hu hret
  refine wpAny_call ?_
  k_dflt cell_enter
  repeat' (first | (k_here; (with_reducible show wpAny _ _ (call (Value.ref 439) _ _) _ _ _); (with_reducible rename SumC _ _ _ _ _ _ _ _ _ _ => hC9z); k_dflt (refine' Cut.uz (by k_asm) (by k_asm) (by k_asm) (by k_asm) (by repeat (first | exact sub_self | refine sub_head ?_ | refine sub_tail ?_)) (by k_asm) (by walk_at "R") (by ktr_room) (by ktr_units) (hC9z _ _ (by assumption) (by assumption) (by assumption) (by assumption)) ?_; k_whole; intro x9z h9z tk9z p9z F9z N9z; (try dsimp only at N9z); walk_at "Z")) | (k_unfold; (try dsimp only)) | (k_end; wrow_close) | walk1 | (dsimp only; walk1) | (leave1; try dsimp only) | fail "no step")
  all_goals exact hret ⟨_, _, _, _⟩ _ _ ⟨by assumption, by assumption⟩ (by k_asm) (cb_drop (by k_asm) (by exact sub_self))
structure LnD where
  xs : List Value
  n : Nat
  t : Tok
  q : Addr
  t1 : Tok
  t2 : Tok
  k : Nat
  n2 : Nat
theorem Cut.sub {w : World} {f : Addr} {vs : List Value} {d u : Nat} {E E2 : List (Addr × Obj)} {D : Type} {Post : D → Prop} {V : D → Value} {E' : D → List (Addr × Obj)} (C : Cut w f vs d u E Post V E') (h : ∀ p ∈ E, p ∈ E2) : Cut w f vs d u E2 Post V E' :=
  fun _ _ _ _ _ _ _ _ _ _ _ _ _ _ _ _ _ _ _ _ B F X N T hk hd hu ret => C _ _ _ _ _ _ _ _ _ _ _ _ _ _ _ _ _ _ _ _ B F X (fun q hq => N q (h q hq)) T hk hd hu ret
theorem swap2 {a b : Addr × Obj} {l : List (Addr × Obj)} : ∀ q ∈ a :: b :: l, q ∈ b :: a :: l := fun q hq => by
  rcases List.mem_cons.mp hq with rfl | hq
  · exact .tail _ (.head _)
  · exact (List.mem_cons.mp hq).elim (fun e => e ▸ .head _) fun h => .tail _ (.tail _ h)
theorem lsum_same (w : World) (A : Ad) (q1 q2 q3 r1 r2 r3 : Addr) (a b c : Int) (s1 s2 s3 u1 u2 u3 : Tok) (k1 k2 k3 n2 n3 : Nat) (hs xs : List Value) (rest : List (Addr × Obj)) (M : Mach w.params A rest) (hne : ∀ p ∈ rest, p.1 ≠ A.XL) (h4 : (A.H, listOf hs.toArray n2) ∈ rest) (hl2 : hs.length ≤ 1000) (hl : xs.length ≤ 100) (hl1 : 1 ≤ xs.length)
   (D1 : Der rest hs q1 r1) (D2 : Der rest hs q2 r2) (D3 : Der rest hs q3 r3) (i1 : (r1, tup #[.int 5 s1, .int a u1] k1) ∈ rest) (i2 : (r2, tup #[.int 5 s2, .int b u2] k2) ∈ rest) (i3 : (r3, tup #[.int 5 s3, .int (a + b) u3] k3) ∈ rest) (hb : (Builtin.Int.intBits (a + b) : Int) ≤ 4096) :
    Cut w 706 [.ref A.M, .ref q1, .ref q2, .ref q3] 80 3500 ((A.XL, listOf xs.toArray n3) :: rest) (fun x : LsD => x.xs.length = max xs.length 4) (fun x => .str (Str.ofString "holds") x.t) (fun x => (A.XL, listOf x.xs.toArray x.n) :: rest) :=
  (lsum_true w A q1 q2 q3 n3 xs rest M hne hl hl1 (E' := fun ys ny _ => (A.XL, listOf ys.toArray ny) :: rest) (Post := fun _ _ (_ : Unit) => True) fun ys ny _ y1 y2 y3 =>
    sum_same w A q1 q2 q3 r1 r2 r3 a b c s1 s2 s3 u1 u2 u3 k1 k2 k3 n2 ny hs ys _ (M.mono (sub_tail sub_self)) hl2 (.tail _ h4) (.head _) y1 y2 y3 (D1.mono (sub_tail sub_self)) (D2.mono (sub_tail sub_self)) (D3.mono (sub_tail sub_self)) (.tail _ i1) (.tail _ i2) (.tail _ i3) hb).conseq
    fun p hp => ⟨⟨p.1, p.2.1, p.2.2.2⟩, hp.1, rfl, sub_self⟩
theorem lsum_other (w : World) (A : Ad) (q1 q2 q3 r1 r2 r3 : Addr) (a b c : Int) (hv : c ≠ a + b) (s1 s2 s3 u1 u2 u3 : Tok) (k1 k2 k3 n2 n3 : Nat) (hs xs : List Value) (rest : List (Addr × Obj)) (M : Mach w.params A rest) (hne : ∀ p ∈ rest, p.1 ≠ A.XL) (h4 : (A.H, listOf hs.toArray n2) ∈ rest) (hl2 : hs.length ≤ 1000) (hl : xs.length ≤ 100) (hl1 : 1 ≤ xs.length)
   (D1 : Der rest hs q1 r1) (D2 : Der rest hs q2 r2) (D3 : Der rest hs q3 r3) (i1 : (r1, tup #[.int 5 s1, .int a u1] k1) ∈ rest) (i2 : (r2, tup #[.int 5 s2, .int b u2] k2) ∈ rest) (i3 : (r3, tup #[.int 5 s3, .int c u3] k3) ∈ rest) (hb : (Builtin.Int.intBits (a + b) : Int) ≤ 4096) :
    Cut w 706 [.ref A.M, .ref q1, .ref q2, .ref q3] 80 3500 ((A.XL, listOf xs.toArray n3) :: rest) (fun x : LsD => x.xs.length = max xs.length 4) (fun x => .str (Str.ofString "fails") x.t) (fun x => (A.XL, listOf x.xs.toArray x.n) :: rest) :=
  (lsum_false w A q1 q2 q3 n3 xs rest M hne hl hl1 (E' := fun ys ny _ => (A.XL, listOf ys.toArray ny) :: rest) (Post := fun _ _ (_ : Unit) => True) fun ys ny _ y1 y2 y3 =>
    sum_other w A q1 q2 q3 r1 r2 r3 a b c hv s1 s2 s3 u1 u2 u3 k1 k2 k3 n2 ny hs ys _ (M.mono (sub_tail sub_self)) hl2 (.tail _ h4) (.head _) y1 y2 y3 (D1.mono (sub_tail sub_self)) (D2.mono (sub_tail sub_self)) (D3.mono (sub_tail sub_self)) (.tail _ i1) (.tail _ i2) (.tail _ i3) hb).conseq
    fun p hp => ⟨⟨p.1, p.2.1, p.2.2.2⟩, hp.1, rfl, sub_self⟩
theorem lsum_1 (w : World) (A : Ad) (q1 q2 q3 r2 r3 : Addr) (b c i : Int) (s1 u1 s2 u2 s3 u3 : Tok) (k1 k2 k3 n2 n3 : Nat) (hs xs : List Value) (rest : List (Addr × Obj)) (M : Mach w.params A rest) (hne : ∀ p ∈ rest, p.1 ≠ A.H) (hnx : ∀ p ∈ rest, p.1 ≠ A.XL) (hl : hs.length ≤ 1000) (hlx : xs.length ≤ 100) (hl1 : 1 ≤ xs.length)
    (Dx : Der rest hs q2 r2) (Dy : Der rest hs q3 r3)
    (ix : (r2, tup #[.int 5 s2, .int b u2] k2) ∈ rest) (iy : (r3, tup #[.int 5 s3, .int c u3] k3) ∈ rest) (j : (q1, tup #[.int 0 s1, .int i u1] k1) ∈ rest) (g0 : hs[i.toNat]? = some (.ref q1)) (g1 : 0 ≤ i) (g2 : i < hs.length) (g3 : i < 2 ^ 63) (hb : (Builtin.Int.intBits (c - b) : Int) ≤ 4096) :
    Cut w 706 [.ref A.M, .ref q1, .ref q2, .ref q3] 80 3500 ((A.H, listOf hs.toArray n2) :: (A.XL, listOf xs.toArray n3) :: rest) (fun x : LnD => x.xs.length = max xs.length 4 ∧ A.H < x.q ∧ A.XL < x.q ∧ ∀ p ∈ rest, p.1 < x.q) (fun x => .str (Str.ofString "holds") x.t) (fun x => (x.q, tup #[.int 5 x.t1, .int (c - b) x.t2] x.k) :: (A.H, listOf (hs.set i.toNat (.ref x.q)).toArray x.n2) :: (A.XL, listOf x.xs.toArray x.n) :: rest) :=
  ((lsum_true w A q1 q2 q3 n3 xs ((A.H, listOf hs.toArray n2) :: rest) (M.mono (sub_tail sub_self)) (List.forall_mem_cons.mpr ⟨M.nHX, hnx⟩) hlx hl1 (E' := fun ys ny (x : NvD) => (x.q, tup #[.int 5 x.t1, .int (c - b) x.t2] x.n) :: (A.H, listOf (hs.set i.toNat (.ref x.q)).toArray x.n2) :: (A.XL, listOf ys.toArray ny) :: rest) (Post := fun ys ny (x : NvD) => A.H < x.q ∧ ∀ p ∈ (A.XL, listOf ys.toArray ny) :: rest, p.1 < x.q) fun ys ny _ y1 y2 y3 =>
    (sum_1 w A q1 q2 q3 r2 r3 b c i s1 u1 s2 u2 s3 u3 k1 k2 k3 n2 ny hs ys ((A.XL, listOf ys.toArray ny) :: rest) (M.mono (sub_tail sub_self)) (List.forall_mem_cons.mpr ⟨Ne.symm M.nHX, hne⟩) hl (.head _) y1 y2 y3 (Dx.mono (sub_tail (sub_tail sub_self))) (Dy.mono (sub_tail (sub_tail sub_self))) (.tail _ ix) (.tail _ iy) (.tail _ j) g0 g1 g2 g3 hb).sub swap2).sub swap2).conseq
    fun p hp => ⟨⟨p.1, p.2.1, p.2.2.2, p.2.2.1.q, p.2.2.1.t1, p.2.2.1.t2, p.2.2.1.n, p.2.2.1.n2⟩, ⟨hp.1, hp.2.1, hp.2.2 _ (.head _), fun q hq => hp.2.2 q (.tail _ hq)⟩, rfl, sub_self⟩
theorem lsum_2 (w : World) (A : Ad) (q1 q2 q3 r1 r3 : Addr) (a c i : Int) (s1 u1 s2 u2 s3 u3 : Tok) (k1 k2 k3 n2 n3 : Nat) (hs xs : List Value) (rest : List (Addr × Obj)) (M : Mach w.params A rest) (hne : ∀ p ∈ rest, p.1 ≠ A.H) (hnx : ∀ p ∈ rest, p.1 ≠ A.XL) (hl : hs.length ≤ 1000) (hlx : xs.length ≤ 100) (hl1 : 1 ≤ xs.length)
    (Dx : Der rest hs q1 r1) (Dy : Der rest hs q3 r3)
    (ix : (r1, tup #[.int 5 s1, .int a u1] k1) ∈ rest) (iy : (r3, tup #[.int 5 s3, .int c u3] k3) ∈ rest) (j : (q2, tup #[.int 0 s2, .int i u2] k2) ∈ rest) (g0 : hs[i.toNat]? = some (.ref q2)) (g1 : 0 ≤ i) (g2 : i < hs.length) (g3 : i < 2 ^ 63) (hb : (Builtin.Int.intBits (c - a) : Int) ≤ 4096) :
    Cut w 706 [.ref A.M, .ref q1, .ref q2, .ref q3] 80 3500 ((A.H, listOf hs.toArray n2) :: (A.XL, listOf xs.toArray n3) :: rest) (fun x : LnD => x.xs.length = max xs.length 4 ∧ A.H < x.q ∧ A.XL < x.q ∧ ∀ p ∈ rest, p.1 < x.q) (fun x => .str (Str.ofString "holds") x.t) (fun x => (x.q, tup #[.int 5 x.t1, .int (c - a) x.t2] x.k) :: (A.H, listOf (hs.set i.toNat (.ref x.q)).toArray x.n2) :: (A.XL, listOf x.xs.toArray x.n) :: rest) :=
  ((lsum_true w A q1 q2 q3 n3 xs ((A.H, listOf hs.toArray n2) :: rest) (M.mono (sub_tail sub_self)) (List.forall_mem_cons.mpr ⟨M.nHX, hnx⟩) hlx hl1 (E' := fun ys ny (x : NvD) => (x.q, tup #[.int 5 x.t1, .int (c - a) x.t2] x.n) :: (A.H, listOf (hs.set i.toNat (.ref x.q)).toArray x.n2) :: (A.XL, listOf ys.toArray ny) :: rest) (Post := fun ys ny (x : NvD) => A.H < x.q ∧ ∀ p ∈ (A.XL, listOf ys.toArray ny) :: rest, p.1 < x.q) fun ys ny _ y1 y2 y3 =>
    (sum_2 w A q1 q2 q3 r1 r3 a c i s1 u1 s2 u2 s3 u3 k1 k2 k3 n2 ny hs ys ((A.XL, listOf ys.toArray ny) :: rest) (M.mono (sub_tail sub_self)) (List.forall_mem_cons.mpr ⟨Ne.symm M.nHX, hne⟩) hl (.head _) y1 y2 y3 (Dx.mono (sub_tail (sub_tail sub_self))) (Dy.mono (sub_tail (sub_tail sub_self))) (.tail _ ix) (.tail _ iy) (.tail _ j) g0 g1 g2 g3 hb).sub swap2).sub swap2).conseq
    fun p hp => ⟨⟨p.1, p.2.1, p.2.2.2, p.2.2.1.q, p.2.2.1.t1, p.2.2.1.t2, p.2.2.1.n, p.2.2.1.n2⟩, ⟨hp.1, hp.2.1, hp.2.2 _ (.head _), fun q hq => hp.2.2 q (.tail _ hq)⟩, rfl, sub_self⟩
theorem lsum_3 (w : World) (A : Ad) (q1 q2 q3 r1 r2 : Addr) (a b i : Int) (s1 u1 s2 u2 s3 u3 : Tok) (k1 k2 k3 n2 n3 : Nat) (hs xs : List Value) (rest : List (Addr × Obj)) (M : Mach w.params A rest) (hne : ∀ p ∈ rest, p.1 ≠ A.H) (hnx : ∀ p ∈ rest, p.1 ≠ A.XL) (hl : hs.length ≤ 1000) (hlx : xs.length ≤ 100) (hl1 : 1 ≤ xs.length)
    (Dx : Der rest hs q1 r1) (Dy : Der rest hs q2 r2)
    (ix : (r1, tup #[.int 5 s1, .int a u1] k1) ∈ rest) (iy : (r2, tup #[.int 5 s2, .int b u2] k2) ∈ rest) (j : (q3, tup #[.int 0 s3, .int i u3] k3) ∈ rest) (g0 : hs[i.toNat]? = some (.ref q3)) (g1 : 0 ≤ i) (g2 : i < hs.length) (g3 : i < 2 ^ 63) (hb : (Builtin.Int.intBits (a + b) : Int) ≤ 4096) :
    Cut w 706 [.ref A.M, .ref q1, .ref q2, .ref q3] 80 3500 ((A.H, listOf hs.toArray n2) :: (A.XL, listOf xs.toArray n3) :: rest) (fun x : LnD => x.xs.length = max xs.length 4 ∧ A.H < x.q ∧ A.XL < x.q ∧ ∀ p ∈ rest, p.1 < x.q) (fun x => .str (Str.ofString "holds") x.t) (fun x => (x.q, tup #[.int 5 x.t1, .int (a + b) x.t2] x.k) :: (A.H, listOf (hs.set i.toNat (.ref x.q)).toArray x.n2) :: (A.XL, listOf x.xs.toArray x.n) :: rest) :=
  ((lsum_true w A q1 q2 q3 n3 xs ((A.H, listOf hs.toArray n2) :: rest) (M.mono (sub_tail sub_self)) (List.forall_mem_cons.mpr ⟨M.nHX, hnx⟩) hlx hl1 (E' := fun ys ny (x : NvD) => (x.q, tup #[.int 5 x.t1, .int (a + b) x.t2] x.n) :: (A.H, listOf (hs.set i.toNat (.ref x.q)).toArray x.n2) :: (A.XL, listOf ys.toArray ny) :: rest) (Post := fun ys ny (x : NvD) => A.H < x.q ∧ ∀ p ∈ (A.XL, listOf ys.toArray ny) :: rest, p.1 < x.q) fun ys ny _ y1 y2 y3 =>
    (sum_3 w A q1 q2 q3 r1 r2 a b i s1 u1 s2 u2 s3 u3 k1 k2 k3 n2 ny hs ys ((A.XL, listOf ys.toArray ny) :: rest) (M.mono (sub_tail sub_self)) (List.forall_mem_cons.mpr ⟨Ne.symm M.nHX, hne⟩) hl (.head _) y1 y2 y3 (Dx.mono (sub_tail (sub_tail sub_self))) (Dy.mono (sub_tail (sub_tail sub_self))) (.tail _ ix) (.tail _ iy) (.tail _ j) g0 g1 g2 g3 hb).sub swap2).sub swap2).conseq
    fun p hp => ⟨⟨p.1, p.2.1, p.2.2.2, p.2.2.1.q, p.2.2.1.t1, p.2.2.1.t2, p.2.2.1.n, p.2.2.1.n2⟩, ⟨hp.1, hp.2.1, hp.2.2 _ (.head _), fun q hq => hp.2.2 q (.tail _ hq)⟩, rfl, sub_self⟩
section Sec11
/-! G15 -/
theorem newIE_same {z : IE} {a : Addr} {o o' : Obj} {l : List (Addr × Obj)} (h : NewIE z ((a, o) :: l)) : NewIE z ((a, o') :: l) :=
  ⟨fun q hq => (List.mem_cons.mp hq).elim (fun e => by subst e; exact h.1 (a, o) (.head _)) (fun hq => h.1 q (.tail _ hq)), h.2.1, h.2.2.1, h.2.2.2.1, h.2.2.2.2.1, h.2.2.2.2.2.1, h.2.2.2.2.2.2⟩
theorem sub_head2 {q : Addr × Obj} {l m : List (Addr × Obj)} (h : ∀ p ∈ l, p ∈ m) : ∀ p ∈ q :: l, p ∈ q :: m := fun p hp => (List.mem_cons.mp hp).elim (fun e => e ▸ .head _) fun hp => .tail _ (h p hp)
def CutT (w : World) (f : Addr) (vs : List Value) (d u : Nat) (E : List (Addr × Obj)) {D : Type} (Post : D → Prop) (V : D → Value) (E' : D → List (Addr × Obj)) : Prop :=
  ∀ (mean : ExcName → Option Value) (mg mb : Str → Option Value) (dp un : Nat) (gd : Option (List Code)) (cn : Str) (cs : Scope) (a : Addr) (ccd : Value) (cl : List (Str × Addr)) (A₀ : Around) (base h₀ : Heap) (L : Addr) (m : Str → Option Value) (s : Shared)
    (Q X : Value → Shared → Prop),
    Below A₀ base [] h₀ → Fr h₀ L s.heap m → (Mine.K w.params).In h₀ → News h₀ L s.heap E → Top VW LO mean mg mb h₀ → (Mine.K w.params).In base → Top VW LO mean mg mb base → cs.kind = .function → dp + d < recursionLimit → un + u < cLine →
    (∀ x h' tk', Post x → Fr h₀ L h' m → News h₀ L h' (E' x) → Q (V x) { s with heap := h', toks := tk' }) →
    wpAny (model PySem.Challenge.rw_sa0162_01.row.prog w) (ktrTop dp un gd cn cs L a ccd cl []) (call (.ref f) vs) Q X s
theorem ball_find (w : World) (k1 : Tok) (b : Addr) : findObj (Mine.K w.params) 51 (some (ballDict w (Str.ofString "ball") k1 (.ref b))) (Str.ofString "ball") = some (.value (.ref b)) := by kernel_rfl
theorem ga51 (P : Params) : findIn (Mine.K P) (.ref 51) "__getattribute__" = some (some (.builtin "BaseException.__getattribute__")) := by kernel_rfl
theorem gt51 (P : Params) : findIn (Mine.K P) (.ref 51) "__getattr__" = some none := by kernel_rfl
theorem get_ball {w : World} {prog : Program} {A : Around} {E : Value → Shared → Prop} {s : Shared} {e d b : Addr} {k1 : Tok} {oe : Obj} {vs : Array Value} {Q : Value → Shared → Prop} {expr : Bool} {h₀ : Heap} {L : Addr} {m : Str → Option Value} {rest : List (Addr × Obj)}
    (F : Fr h₀ L s.heap m) (X : (Mine.K w.params).In h₀) (N : News h₀ L s.heap ((e, oe) :: (d, ballDict w (Str.ofString "ball") k1 (.ref b)) :: rest)) (hc : oe.cls = .ref 51) (hd : oe.dict = some d) (hf : oe.data = .fields vs) (h : Q (.ref b) { s with toks := s.toks + 1 }) :
    wpAny (model prog w) A (getAttr (.ref e) (Str.ofString "ball") expr) Q E s :=
  get_exc (od := ballDict w (Str.ofString "ball") k1 (.ref b)) (X.keeps F.keep) (exc51 _) ⟨(N _ (.head _)).1, hc, by unfold notCls; rw [hf], by rw [hd]; exact (N _ (.tail _ (.head _))).1⟩ (ga51 _) (gt51 _) (ball_find w k1 b) rfl h
theorem sumx_use {w : World} {f : Addr} {vs : List Value} {d u : Nat} {E : List (Addr × Obj)} {i : Int} {ti : Tok} (C : CutX w f vs d u E i ti)
    {mean : ExcName → Option Value} {mg mb : Str → Option Value} {dp un : Nat} {gd : Option (List Code)} {cn : Str} {cs : Scope} {a : Addr} {ccd : Value} {cl : List (Str × Addr)} {outer : List Env} {A₀ : Around} {base h₀ : Heap} {L : Addr} {m : Str → Option Value} {s : Shared}
    {Q X : Value → Shared → Prop}
    (B : Below A₀ base outer h₀) (F : Fr h₀ L s.heap m) (X₀ : (Mine.K w.params).In h₀) (N : News h₀ L s.heap E) (T : Top VW LO mean mg mb h₀) (hk : cs.kind = .function) (hd : dp + d < recursionLimit) (hu : un + u < cLine)
    (ret : ∀ (z : IE) G h' tk', NewIE z E → Fr h₀ L G m → RaisedD base G (envX cn cs L a ccd cl :: outer) z.x 51 z.d ((z.d, ballDict w (Str.ofString "ball") z.k1 (.ref z.b)) :: (z.t, argTup [.ref z.b]) :: ballL z i ti E) h' → G.UpToSlots h' → X (.ref z.x) { s with heap := h', toks := tk' }) :
    wpAny (model PySem.Challenge.rw_sa0162_01.row.prog w) (ktrTop dp un gd cn cs L a ccd cl outer) (call (.ref f) vs) Q X s :=
  C _ _ _ _ _ _ _ _ _ _ _ _ _ _ _ _ _ _ _ _ B F X₀ N T hk hd hu ret
structure LrD where
  xs : List Value
  n : Nat
  z : IE
def SumX (w : World) (A : Ad) (q1 q2 q3 : Addr) (k : Nat) (R : List (Addr × Obj)) (i : Int) (ti : Tok) : Prop :=
  ∀ (ys : List Value) (ny : Nat), ys.length = max k 4 → ys[1]? = some (.ref q1) → ys[2]? = some (.ref q2) → ys[3]? = some (.ref q3) → CutX w 439 [.ref A.M] 60 2500 ((A.XL, listOf ys.toArray ny) :: R) i ti
local macro_rules | `(tactic| walk_at "getAttr ref") => `(tactic| (k_here; k_dflt (refine' get_ball (by k_asm) (by k_asm) (by k_asm) (by assumption) (by assumption) (by assumption) ?_; k_whole)))
local macro_rules | `(tactic| walk_at "noteFrame ref") => `(tactic| (k_here; k_dflt (refine' caught_D (by assumption) (by assumption) (by assumption) (by assumption) (by assumption) (by assumption) (by assumption) (by exact KtsTurn.refl) (by k_is) (by exact kts51 _) ?_; k_whole; intro h' g' oe ws tk' hc' hd' hf' T' F' N' K' X' P' D'; (try dsimp only at N'); (try k_lift K'))))
theorem lsumx (w : World) (A : Ad) (q1 q2 q3 : Addr) (n3 : Nat) (xs : List Value) (R : List (Addr × Obj)) (M : Mach w.params A R) (hnx : ∀ p ∈ R, p.1 ≠ A.XL) (hl : xs.length ≤ 100) (hl1 : 1 ≤ xs.length) (i : Int) (ti : Tok) (C : SumX w A q1 q2 q3 xs.length R i ti) :
    CutT w 706 [.ref A.M, .ref q1, .ref q2, .ref q3] 80 3500 ((A.XL, listOf xs.toArray n3) :: R) (fun x : LrD => x.xs.length = max xs.length 4 ∧ NewIE x.z ((A.XL, listOf xs.toArray n3) :: R)) (fun x => .ref x.z.b) (fun x => ballL x.z i ti ((A.XL, listOf x.xs.toArray x.n) :: R)) := by
  have m1 := M.x; have m2 := M.xd; have m3 := M.m; have m4 := M.md
  unfold CutT; k_fill; intro mean mg mb dp un gd cn cs a' ccd cl A₀ base h₀ L m s Q Xx B F XX N TT XB TB hks hd hu hret
  refine wpAny_call ?_
  k_dflt (refine' code_defX0 ?e1 ?e2 ?e3 ?e4 ?e5 ?eA ?eF ?eK ?e6 ?e7 ?e8 ?e9 ?eB ?_ ?c2 ?c3 ?c4 ?c5; (case eA => exact rfl); (case eF => exact rfl); (case eK => first | exact rfl | assumption); (case e2 => k_asm); (case e1 => k_asm); (case e3 => k_asm); (case e4 => k_asm); (case e5 => k_asm); (case e6 => k_is); (case e7 => k_is); (case e8 => ktr_room); (case e9 => first | exact BindsTo.of_eq rfl | exact binds_K (by k_in) rfl (by k_is) rfl rfl rfl); (case eB => exact locs rfl); (case c2 => exact rfl); (case c3 => exact rfl); (case c4 => exact rfl); (case c5 => decide); k_whole; intro g' L' h' FG' F' N' B' X' T' D'; (try dsimp only); (try k_lift B'); (try k_fold))
  repeat' (first | (k_here; (with_reducible show wpAny _ _ (call (Value.ref 439) _ _) _ _ _); (with_reducible rename SumX _ _ _ _ _ _ _ _ _ => hC9z); k_dflt (refine' sumx_use (hC9z _ _ (by assumption) (by assumption) (by assumption) (by assumption)) (by k_asm) (by k_asm) (by k_asm) (by exact fun q hq => (by k_asm : News _ _ _ (_ :: _)) q (.tail _ hq)) (by k_asm) (by walk_at "R") (by ktr_room) (by ktr_units) ?_; k_whole; intro z9z G9z h9z tk9z p9z F9z R9z U9z; walk_at "Z")) | (k_unfold; (try dsimp only)) | (k_end; wrow_close) | walk1 | (dsimp only; walk1) | (leave1; try dsimp only) | fail "no step")
  all_goals first | exact hret ⟨_, _, _⟩ _ _ ⟨by assumption, newIE_same (by assumption)⟩ (by k_asm) (cb_drop (by k_asm) (by repeat (first | exact sub_self | refine sub_head2 ?_ | refine sub_tail ?_))) | walk_report
theorem lsum_FFI (w : World) (A : Ad) (q1 q2 q3 : Addr) (i1 : Int) (i2 : Int) (r3 : Addr) (v3 : Int) (s1 s2 s3 u1 u2 u3 : Tok) (k1 k2 k3 n2 n3 : Nat) (hs xs : List Value) (rest : List (Addr × Obj)) (M : Mach w.params A rest) (hne : ∀ p ∈ rest, p.1 ≠ A.XL) (h4 : (A.H, listOf hs.toArray n2) ∈ rest) (hl : xs.length ≤ 100) (hl1 : 1 ≤ xs.length)
    (j1 : (q1, tup #[.int 0 s1, .int i1 u1] k1) ∈ rest) (g1 : hs[i1.toNat]? = some (.ref q1)) (g10 : 0 ≤ i1) (g13 : i1 < 2 ^ 63) (j2 : (q2, tup #[.int 0 s2, .int i2 u2] k2) ∈ rest) (g2 : hs[i2.toNat]? = some (.ref q2)) (g20 : 0 ≤ i2) (g23 : i2 < 2 ^ 63) (D3 : Der rest hs q3 r3) (i3' : (r3, tup #[.int 5 s3, .int v3 u3] k3) ∈ rest) (i : Int) (ti : Tok) (S : Sy) (oN : Obj) (kvs : List (Str × Value)) (SY : Syms w A.Y i ti S oN kvs rest) :
    CutT w 706 [.ref A.M, .ref q1, .ref q2, .ref q3] 80 3500 ((A.XL, listOf xs.toArray n3) :: rest) (fun x : LrD => x.xs.length = max xs.length 4 ∧ NewIE x.z ((A.XL, listOf xs.toArray n3) :: rest)) (fun x => .ref x.z.b) (fun x => ballL x.z i ti ((A.XL, listOf x.xs.toArray x.n) :: rest)) :=
  lsumx w A q1 q2 q3 n3 xs rest M hne hl hl1 i ti fun ys ny _ y1 y2 y3 =>
    sum_FFI w A q1 q2 q3 i1 i2 r3 v3 s1 s2 s3 u1 u2 u3 k1 k2 k3 n2 ny hs ys _ (M.mono (sub_tail sub_self)) (.tail _ h4) (.head _) y1 y2 y3 (.tail _ j1) g1 g10 g13 (.tail _ j2) g2 g20 g23 (D3.mono (sub_tail sub_self)) (.tail _ i3') i ti S oN kvs (SY.mono (sub_tail sub_self))
theorem lsum_IFF (w : World) (A : Ad) (q1 q2 q3 : Addr) (r1 : Addr) (v1 : Int) (i2 : Int) (i3 : Int) (s1 s2 s3 u1 u2 u3 : Tok) (k1 k2 k3 n2 n3 : Nat) (hs xs : List Value) (rest : List (Addr × Obj)) (M : Mach w.params A rest) (hne : ∀ p ∈ rest, p.1 ≠ A.XL) (h4 : (A.H, listOf hs.toArray n2) ∈ rest) (hl : xs.length ≤ 100) (hl1 : 1 ≤ xs.length)
    (D1 : Der rest hs q1 r1) (i1' : (r1, tup #[.int 5 s1, .int v1 u1] k1) ∈ rest) (j2 : (q2, tup #[.int 0 s2, .int i2 u2] k2) ∈ rest) (g2 : hs[i2.toNat]? = some (.ref q2)) (g20 : 0 ≤ i2) (g23 : i2 < 2 ^ 63) (j3 : (q3, tup #[.int 0 s3, .int i3 u3] k3) ∈ rest) (g3 : hs[i3.toNat]? = some (.ref q3)) (g30 : 0 ≤ i3) (g33 : i3 < 2 ^ 63) (i : Int) (ti : Tok) (S : Sy) (oN : Obj) (kvs : List (Str × Value)) (SY : Syms w A.Y i ti S oN kvs rest) :
    CutT w 706 [.ref A.M, .ref q1, .ref q2, .ref q3] 80 3500 ((A.XL, listOf xs.toArray n3) :: rest) (fun x : LrD => x.xs.length = max xs.length 4 ∧ NewIE x.z ((A.XL, listOf xs.toArray n3) :: rest)) (fun x => .ref x.z.b) (fun x => ballL x.z i ti ((A.XL, listOf x.xs.toArray x.n) :: rest)) :=
  lsumx w A q1 q2 q3 n3 xs rest M hne hl hl1 i ti fun ys ny _ y1 y2 y3 =>
    sum_IFF w A q1 q2 q3 r1 v1 i2 i3 s1 s2 s3 u1 u2 u3 k1 k2 k3 n2 ny hs ys _ (M.mono (sub_tail sub_self)) (.tail _ h4) (.head _) y1 y2 y3 (D1.mono (sub_tail sub_self)) (.tail _ i1') (.tail _ j2) g2 g20 g23 (.tail _ j3) g3 g30 g33 i ti S oN kvs (SY.mono (sub_tail sub_self))
end Sec11
/-! D3 -/
local macro_rules | `(tactic| walk_at "binaryOp FloorDiv int int") => `(tactic| (k_here; refine floordiv_int (by omega) ?_ (Or.inl (PyProof.noPylong_of_log2 (by assumption)))))
noncomputable abbrev poolOf (S : Addr) (r p c : Int) (t1 t2 t3 : Tok) (n : Nat) : Obj := listOf #[.ref S, .int r t1, .int p t2, .int c t3] n

structure DrawD where
  d : Int
  t : Tok
  r : Int
  p : Int
  c : Int
  t1 : Tok
  t2 : Tok
  t3 : Tok
  n : Nat

theorem draw (w : World) (P S : Addr) (r p c k : Int) (t1 t2 t3 t4 : Tok) (n n2 : Nat) (vs : List Value) (ns : List Int) (rest : List (Addr × Obj)) (hne : S ≠ P) (hr : ∀ q ∈ rest, q.1 ≠ P) (hi : IntsAre vs ns) (hl : ns.length ≤ 63)
   (h2 : -1 ≤ p) (hk : 0 < k) (hk2 : k.natAbs.log2 < 9000) : 
   Cut w 685 [.ref P, .int k t4] 5 50 ((P, poolOf S r p c t1 t2 t3 n) :: (S, listOf vs.toArray n2) :: rest)
    (fun x : DrawD => 0 ≤ x.d ∧ x.d < k ∧ -1 ≤ x.p) (fun x => .int x.d x.t) (fun x => (P, poolOf S x.r x.p x.c x.t1 x.t2 x.t3 x.n) :: (S, listOf vs.toArray n2) :: rest) := by
  unfold Cut; k_fill; intro mean mg mb dp un gd cn cs a ccd cl outer A₀ base h₀ L m s Q X B F XX N T hks hd hu hret
  refine wpAny_call ?_
  k_dflt cell_enter
  repeat' (first | (k_unfold; (try dsimp only)) | (k_end; wrow_close) | walk1 | (dsimp only; walk1) | (leave1; try dsimp only) | fail "no step")
  all_goals first | omega | (refine' hret ⟨_, _, _, _, _, _, _, _, _⟩ _ _ _ _ _ <;> (try (show Fr _ _ _ _; k_asm)) <;> (try (show News _ _ _ _; k_asm)))
  all_goals (refine ⟨?_, ?_, ?_⟩ <;> first | exact Int.fmod_nonneg_of_pos _ hk | exact Int.fmod_lt_of_pos _ hk | (dsimp only; omega) | skip)
/-! M16 -/
theorem draw' (w : World) (P S : Addr) (r p c k : Int) (t1 t2 t3 t4 : Tok) (n n2 : Nat) (vs : List Value) (ns : List Int) (rest : List (Addr × Obj)) (hr : ∀ q ∈ rest, q.1 ≠ P) (hS : (S, listOf vs.toArray n2) ∈ rest) (hi : IntsAre vs ns) (hl : ns.length ≤ 63)
   (h2 : -1 ≤ p) (hk : 0 < k) (hk2 : k.natAbs.log2 < 9000) :
   Cut w 685 [.ref P, .int k t4] 5 50 ((P, poolOf S r p c t1 t2 t3 n) :: rest)
    (fun x : DrawD => 0 ≤ x.d ∧ x.d < k ∧ -1 ≤ x.p) (fun x => .int x.d x.t) (fun x => (P, poolOf S x.r x.p x.c x.t1 x.t2 x.t3 x.n) :: rest) := by
  intro mean mg mb dp un gd cn cs a ccd cl outer A₀ base h₀ L m s Q X B F XX N T hks hd hu hret
  refine (draw w P S r p c k t1 t2 t3 t4 n n2 vs ns rest (hr _ hS) hr hi hl h2 hk hk2).use B F XX N (fun q hq => ?_) T hks hd hu fun x h' tk' hp F' N' => hret x h' tk' hp F' fun q hq => N' q ?_
  · rcases List.mem_cons.mp hq with rfl | hq
    · exact .head _
    rcases List.mem_cons.mp hq with rfl | hq
    · exact .tail _ hS
    · exact .tail _ hq
  · rcases List.mem_cons.mp hq with rfl | hq
    · exact .head _
    · exact .tail _ (.tail _ hq)
/-- what every draw needs of the ledger -/
structure Pool (S : Addr) (l : List (Addr × Obj)) : Prop where
  ex : ∃ (vs : List Value) (ns : List Int) (n2 : Nat), (S, listOf vs.toArray n2) ∈ l ∧ IntsAre vs ns ∧ ns.length ≤ 63
theorem Pool.mono {S l l'} (M : Pool S l) (h : ∀ x ∈ l, x ∈ l') : Pool S l' := let ⟨a, b, c, d, e⟩ := M.ex; ⟨a, b, c, h _ d, e⟩
theorem draw_use {w : World} {P S : Addr} {r p c k : Int} {t1 t2 t3 t4 : Tok} {n : Nat}
    {mean : ExcName → Option Value} {mg mb : Str → Option Value} {dp un : Nat} {gd : Option (List Code)} {cn : Str} {cs : Scope} {a' : Addr} {ccd : Value} {cl : List (Str × Addr)} {outer : List Env} {A₀ : Around} {base h₀ : Heap} {L : Addr} {m : Str → Option Value} {s : Shared}
    {Q X : Value → Shared → Prop} {news : List (Addr × Obj)} {nf : Obj → List (Addr × Obj)}
    (B : Below A₀ base outer h₀) (F : Fr h₀ L s.heap m) (X₀ : (Mine.K w.params).In h₀) (N : News h₀ L s.heap news) (T : Top VW LO mean mg mb h₀) (hk' : cs.kind = .function) (U : UpdF P (poolOf S r p c t1 t2 t3 n) news nf) (hS : Pool S news) (hne : S ≠ P) (h2 : -1 ≤ p) (hk : 0 < k) (hk2 : k.natAbs.log2 < 9000) (hd : dp + 5 < recursionLimit) (hu : un + 50 < cLine)
    (ret : ∀ (x : DrawD) h' tk', (0 ≤ x.d ∧ x.d < k ∧ -1 ≤ x.p) → Fr h₀ L h' m → News h₀ L h' (nf (poolOf S x.r x.p x.c x.t1 x.t2 x.t3 x.n)) → Q (.int x.d x.t) { s with heap := h', toks := tk' }) :
    wpAny (model PySem.Challenge.rw_sa0162_01.row.prog w) (ktrTop dp un gd cn cs L a' ccd cl outer) (call (.ref 685) [.ref P, .int k t4]) Q X s := by
  obtain ⟨vs, ns, n2, d, hi, hl⟩ := hS.ex
  exact Cut.upd_use B F X₀ N T hk' U (fun rest hn hm => draw' w P S r p c k t1 t2 t3 t4 n n2 vs ns rest hn (hm _ d hne) hi hl h2 hk hk2) hd hu ret
theorem e30 : (10 : Int) ^ Int.toNat 30 = 1000000000000000000000000000000 := by decide +kernel
theorem e29 : (10 : Int) ^ Int.toNat 29 = 100000000000000000000000000000 := by decide +kernel
theorem whole (w : World) (P S : Addr) (r p c : Int) (t1 t2 t3 : Tok) (n : Nat) (rest : List (Addr × Obj)) (hr : ∀ q ∈ rest, q.1 ≠ P) (hS : Pool S rest) (hne : S ≠ P) (h2 : -1 ≤ p) :
   Cut w 692 [.ref P] 10 100 ((P, poolOf S r p c t1 t2 t3 n) :: rest)
    (fun x : DrawD => x.d.natAbs ≤ 500000000000000000000000000000 ∧ -1 ≤ x.p) (fun x => .int x.d x.t) (fun x => (P, poolOf S x.r x.p x.c x.t1 x.t2 x.t3 x.n) :: rest) := by
  unfold Cut; k_fill; intro mean mg mb dp un gd cn cs a ccd cl outer A₀ base h₀ L m s Q X B F XX N T hks hd hu hret
  refine wpAny_call ?_
  k_dflt cell_enter
  repeat' (first | (k_here; (with_reducible show wpAny _ _ (call (Value.ref 685) _ _) _ _ _); k_dflt (refine' draw_use (by k_asm) (by k_asm) (by k_asm) (by k_asm) (by k_asm) (by walk_at "R") (by k_updF) (by walk_at "M") (by walk_at "N") (by walk_at "E") (by walk_at "E") (by walk_at "O") (by ktr_room) (by ktr_units) ?_; k_whole; intro x9z h9z tk9z p9z F9z N9z; ((first | (refine and3 p9z ?_; (try clear p9z); intro pa9z pb9z pc9z) | obtain ⟨pa9z, pb9z, pc9z⟩ := p9z)); (try dsimp only at N9z); walk_at "Z")) | (k_here; (with_reducible show wpAny _ _ (call (Value.ref 566) _ _) _ _ _); k_dflt (first | (refine' Cut.pure_use (by k_asm) (by k_asm) (by k_asm) (by k_asm) (by k_asm) (by walk_at "R") (uni_same _ _ _ _ _ _ _ _ _ _ _ _ _ _ (by walk_at "M") (by assumption) (by k_mem) (by k_mem) (by k_mem)) (by ktr_room) (by ktr_units) ?_; k_whole; intro x9z h9z tk9z p9z F9z N9z; clear p9z; walk_at "Z") | (refine' Cut.pure_use (by k_asm) (by k_asm) (by k_asm) (by k_asm) (by k_asm) (by walk_at "R") (uni_other _ _ _ _ _ _ (by assumption) _ _ _ _ _ _ _ _ _ (by walk_at "M") (by assumption) (by k_mem) (by k_mem) (by k_mem)) (by ktr_room) (by ktr_units) ?_; k_whole; intro x9z h9z tk9z p9z F9z N9z; clear p9z; walk_at "Z"))) | (k_here; (with_reducible show wpAny _ _ (call (Value.ref 411) _ _) _ _ _); k_dflt (refine' Cut.pure_use (by k_asm) (by k_asm) (by k_asm) (by k_asm) (by k_asm) (by walk_at "R") (check_size _ _ _ _ _ _ (by assumption)) (by ktr_room) (by ktr_units) ?_; k_whole; intro x9z h9z tk9z p9z F9z N9z; clear p9z; walk_at "Z")) | (k_here; (with_reducible show wpAny _ _ (call (Value.ref 418) _ _) _ _ _); k_dflt (first | (refine' Cut.pure_use (by k_asm) (by k_asm) (by k_asm) (by k_asm) (by k_asm) (by walk_at "R") (iov_int _ _ _ _ _ _ _ _ _ _ _ _ _ _ _ (by walk_at "M") (by k_mem) (by k_mem) (by assumption) (by decide) (by decide) (by walk_at "M") (by k_mem)) (by ktr_room) (by ktr_units) ?_; k_whole; intro x9z h9z tk9z p9z F9z N9z; clear p9z; walk_at "Z") | (refine' Cut.pure_use (by k_asm) (by k_asm) (by k_asm) (by k_asm) (by k_asm) (by walk_at "R") (iov_free _ _ _ _ _ _ _ _ _ _ _ _ _ _ (by walk_at "M") (by k_mem) (by k_mem) (by assumption) (by decide) (by decide) (by k_mem) (by assumption) (by assumption) (by assumption)) (by ktr_room) (by ktr_units) ?_; k_whole; intro x9z h9z tk9z p9z F9z N9z; clear p9z; walk_at "Z"))) | (k_here; (with_reducible show wpAny _ _ (call (Value.ref 279) _ _) _ _ _); k_dflt (first | (refine' Cut.pure_use (by k_asm) (by k_asm) (by k_asm) (by k_asm) (by k_asm) (by walk_at "R") (globalise_int _ _ _ _ _ _ _ _ _ _ _ (by walk_at "M") (by k_mem) (by walk_at "M") (by k_mem)) (by ktr_room) (by ktr_units) ?_; k_whole; intro x9z h9z tk9z p9z F9z N9z; clear p9z; walk_at "Z") | (refine' Cut.pure_use (by k_asm) (by k_asm) (by k_asm) (by k_asm) (by k_asm) (by walk_at "R") (globalise_free _ _ _ _ _ _ _ _ _ _ (by walk_at "M") (by k_mem) (by walk_at "M") (by k_mem)) (by ktr_room) (by ktr_units) ?_; k_whole; intro x9z h9z tk9z p9z F9z N9z; clear p9z; walk_at "Z"))) | (k_unfold; (try dsimp only)) | (k_end; wrow_close) | walk1 | (dsimp only; walk1) | (leave1; try dsimp only) | fail "no step")
  all_goals first | exact hret ⟨_, _, _, _, _, _, _, _, _⟩ _ _ ⟨by dsimp only; have e1 := e30; have e2 := e29; omega, by assumption⟩ (by k_asm) (by k_asm) | walk_report
theorem whole_use {w : World} {P S : Addr} {r p c : Int} {t1 t2 t3 : Tok} {n : Nat}
    {mean : ExcName → Option Value} {mg mb : Str → Option Value} {dp un : Nat} {gd : Option (List Code)} {cn : Str} {cs : Scope} {a' : Addr} {ccd : Value} {cl : List (Str × Addr)} {outer : List Env} {A₀ : Around} {base h₀ : Heap} {L : Addr} {m : Str → Option Value} {s : Shared}
    {Q X : Value → Shared → Prop} {news : List (Addr × Obj)} {nf : Obj → List (Addr × Obj)}
    (B : Below A₀ base outer h₀) (F : Fr h₀ L s.heap m) (X₀ : (Mine.K w.params).In h₀) (N : News h₀ L s.heap news) (T : Top VW LO mean mg mb h₀) (hk' : cs.kind = .function) (U : UpdF P (poolOf S r p c t1 t2 t3 n) news nf) (hS : Pool S news) (hne : S ≠ P) (h2 : -1 ≤ p) (hd : dp + 10 < recursionLimit) (hu : un + 100 < cLine)
    (ret : ∀ (x : DrawD) h' tk', (x.d.natAbs ≤ 500000000000000000000000000000 ∧ -1 ≤ x.p) → Fr h₀ L h' m → News h₀ L h' (nf (poolOf S x.r x.p x.c x.t1 x.t2 x.t3 x.n)) → Q (.int x.d x.t) { s with heap := h', toks := tk' }) :
    wpAny (model PySem.Challenge.rw_sa0162_01.row.prog w) (ktrTop dp un gd cn cs L a' ccd cl outer) (call (.ref 692) [.ref P]) Q X s :=
  Cut.upd_use B F X₀ N T hk' U (fun rest hn hm => whole w P S r p c t1 t2 t3 n rest hn (let ⟨a, b, c, d, e⟩ := hS.ex; ⟨a, b, c, hm _ d hne, e⟩) hne h2) hd hu ret
/-! M17 -/
theorem newvar_use {w : World} {A : Ad} {n2 : Nat} {hs : List Value}
    {mean : ExcName → Option Value} {mg mb : Str → Option Value} {dp un : Nat} {gd : Option (List Code)} {cn : Str} {cs : Scope} {a' : Addr} {ccd : Value} {cl : List (Str × Addr)} {outer : List Env} {A₀ : Around} {base h₀ : Heap} {L : Addr} {m : Str → Option Value} {s : Shared}
    {Q X : Value → Shared → Prop} {news : List (Addr × Obj)} {nf : Obj → List (Addr × Obj)}
    (B : Below A₀ base outer h₀) (F : Fr h₀ L s.heap m) (X₀ : (Mine.K w.params).In h₀) (N : News h₀ L s.heap news) (T : Top VW LO mean mg mb h₀) (hk : cs.kind = .function) (U : UpdF A.H (listOf hs.toArray n2) news nf) (M : Mach w.params A news) (hl : hs.length ≤ 1000) (hd : dp + 10 < recursionLimit) (hu : un + 400 < cLine)
    (ret : ∀ (x : NvD) h' tk', (∀ p ∈ news, p.1 < x.q) → Fr h₀ L h' m → News h₀ L h' ((x.q, tup #[.int 0 x.t1, .int hs.length x.t2] x.n) :: nf (listOf (hs ++ [Value.ref x.q]).toArray x.n2)) → Q (.ref x.q) { s with heap := h', toks := tk' }) :
    wpAny (model PySem.Challenge.rw_sa0162_01.row.prog w) (ktrTop dp un gd cn cs L a' ccd cl outer) (call (.ref 230) [.ref A.X]) Q X s :=
  Cut.updn_use (K := fun x : NvD => x.q) (Nn := fun x => tup #[.int 0 x.t1, .int hs.length x.t2] x.n) (O := fun x => listOf (hs ++ [Value.ref x.q]).toArray x.n2) B F X₀ N T hk U (fun rest hn hm hall => newvar w A n2 hs rest (M.awayH hm) hn hl) hd hu ret
theorem bind_use {w : World} {A : Ad} {q v : Addr} {i : Int} {t1 t2 : Tok} {n n2 : Nat} {hs : List Value}
    {mean : ExcName → Option Value} {mg mb : Str → Option Value} {dp un : Nat} {gd : Option (List Code)} {cn : Str} {cs : Scope} {a' : Addr} {ccd : Value} {cl : List (Str × Addr)} {outer : List Env} {A₀ : Around} {base h₀ : Heap} {L : Addr} {m : Str → Option Value} {s : Shared}
    {Q X : Value → Shared → Prop} {news : List (Addr × Obj)} {nf : Obj → List (Addr × Obj)}
    (B : Below A₀ base outer h₀) (F : Fr h₀ L s.heap m) (X₀ : (Mine.K w.params).In h₀) (N : News h₀ L s.heap news) (T : Top VW LO mean mg mb h₀) (hk : cs.kind = .function) (U : UpdF A.H (listOf hs.toArray n2) news nf) (M : Mach w.params A news) (h5 : (q, tup #[.int 0 t1, .int i t2] n) ∈ news) (nq : q ≠ A.H) (g1 : 0 ≤ i) (g2 : i < hs.length) (g3 : i < 2 ^ 63) (hd : dp + 10 < recursionLimit) (hu : un + 400 < cLine)
    (ret : ∀ h' tk', Fr h₀ L h' m → News h₀ L h' (nf (listOf (hs.set i.toNat (.ref v)).toArray n2)) → Q .none { s with heap := h', toks := tk' }) :
    wpAny (model PySem.Challenge.rw_sa0162_01.row.prog w) (ktrTop dp un gd cn cs L a' ccd cl outer) (call (.ref 265) [.ref A.X, .ref q, .ref v]) Q X s :=
  Cut.upd_use (O := fun _ : Unit => listOf (hs.set i.toNat (.ref v)).toArray n2) B F X₀ N T hk U (fun rest hn hm => bind w A q v i t1 t2 n n2 hs rest (M.awayH hm) hn (hm _ h5 nq) g1 g2 g3) hd hu (fun _ h' tk' _ F' N' => ret h' tk' F' N')
theorem setlast (hs : List Value) (a b : Value) : (hs ++ [a]).set (Int.toNat (hs.length : Int)) b = hs ++ [b] := by
  rw [Int.toNat_natCast, List.set_append_right _ _ (Nat.le_refl _), Nat.sub_self]; rfl
theorem news_dup {h₀ h : Heap} {L : Addr} {p : Addr × Obj} {l : List (Addr × Obj)} (N : News h₀ L h (p :: l)) : News h₀ L h (p :: p :: l) := fun q hq => N q ((List.mem_cons.mp hq).elim (fun e => e ▸ .head _) id)
theorem news_cell {h₀ h : Heap} {L H : Addr} {zp cp Pp : Addr × Obj} {hs : List Value} {a b : Value} {n2 : Nat} {rest : List (Addr × Obj)} (N : News h₀ L h (zp :: cp :: Pp :: (H, listOf ((hs ++ [a]).set (Int.toNat (hs.length : Int)) b).toArray n2) :: rest)) :
    News h₀ L h (cp :: zp :: Pp :: (H, listOf (hs ++ [b]).toArray n2) :: rest) := by
  rw [setlast] at N
  intro q hq
  rcases List.mem_cons.mp hq with rfl | hq
  · exact N _ (.tail _ (.head _))
  rcases List.mem_cons.mp hq with rfl | hq
  · exact N _ (.head _)
  · exact N _ (.tail _ (.tail _ hq))
structure CellD where
  c : Addr
  t1 : Tok
  t2 : Tok
  k : Nat
  z : Addr
  oz : Obj
  b : Bool
  p : DrawD
  n2 : Nat
noncomputable abbrev poolD (S : Addr) (x : DrawD) : Obj := poolOf S x.r x.p x.c x.t1 x.t2 x.t3 x.n
theorem lcell (w : World) (A : Ad) (P S : Addr) (r p c v : Int) (t1 t2 t3 tv : Tok) (n n2 : Nat) (hs : List Value) (rest : List (Addr × Obj)) (M : Mach w.params A rest) (hr : ∀ q ∈ rest, q.1 ≠ P) (hH : ∀ q ∈ rest, q.1 ≠ A.H) (hPH : P ≠ A.H) (hS : Pool S rest) (hne : S ≠ P) (h2 : -1 ≤ p) (hl : hs.length ≤ 900) :
   Cut w 699 [.ref P, .ref A.M, .int v tv] 30 800 ((P, poolOf S r p c t1 t2 t3 n) :: (A.H, listOf hs.toArray n2) :: rest)
    (fun x : CellD => (P < x.c ∧ A.H < x.c ∧ ∀ q ∈ rest, q.1 < x.c) ∧ (P < x.z ∧ A.H < x.z ∧ ∀ q ∈ rest, q.1 < x.z) ∧ -1 ≤ x.p.p ∧ (x.b = true → ∃ t t' k, x.oz = tup #[.int 5 t, .int v t'] k) ∧ (x.b = false → x.z = x.c ∧ x.oz = tup #[.int 0 x.t1, .int hs.length x.t2] x.k)) (fun x => .ref x.c)
    (fun x => (x.c, tup #[.int 0 x.t1, .int hs.length x.t2] x.k) :: (x.z, x.oz) :: (P, poolD S x.p) :: (A.H, listOf (hs ++ [Value.ref x.z]).toArray x.n2) :: rest) := by
  have m1 := M.x; have m2 := M.xd; have m3 := M.m; have m4 := M.md; have nph := neN hPH
  unfold Cut; k_fill; intro mean mg mb dp un gd cn cs a ccd cl outer A₀ base h₀ L m s Q X B F XX N T hks hd hu hret
  refine wpAny_call ?_
  k_dflt cell_enter
  repeat' (first | (k_here; (with_reducible show wpAny _ _ (call (Value.ref 265) _ _) _ _ _); k_dflt (refine' bind_use (by k_asm) (by k_asm) (by k_asm) (by k_asm) (by k_asm) (by walk_at "R") (by k_updF) (by walk_at "M") (by k_mem) (by walk_at "N") (by walk_at "E") (by first | assumption | ((try simp only [List.length_append, List.length_cons, List.length_nil, List.length_set]); first | exact lenB (by assumption) rfl | exact lenA (by assumption) rfl | omega)) (by first | with_reducible assumption | omega) (by ktr_room) (by ktr_units) ?_; k_whole; intro h9z tk9z F9z N9z; (try dsimp only at N9z); walk_at "Z")) | (k_here; (with_reducible show wpAny _ _ (call (Value.ref 230) _ _) _ _ _); k_dflt (refine' newvar_use (by k_asm) (by k_asm) (by k_asm) (by k_asm) (by k_asm) (by walk_at "R") (by k_updF) (by walk_at "M") (by walk_at "L") (by ktr_room) (by ktr_units) ?_; k_whole; intro x9z h9z tk9z p9z F9z N9z; (try dsimp only at N9z); (try k_lt p9z); walk_at "Z")) | (k_here; (with_reducible show wpAny _ _ (call (Value.ref 685) _ _) _ _ _); k_dflt (refine' draw_use (by k_asm) (by k_asm) (by k_asm) (by k_asm) (by k_asm) (by walk_at "R") (by k_updF) (by walk_at "M") (by walk_at "N") (by walk_at "E") (by walk_at "E") (by walk_at "O") (by ktr_room) (by ktr_units) ?_; k_whole; intro x9z h9z tk9z p9z F9z N9z; ((first | (refine and3 p9z ?_; (try clear p9z); intro pa9z pb9z pc9z) | obtain ⟨pa9z, pb9z, pc9z⟩ := p9z)); (try dsimp only at N9z); walk_at "Z")) | (k_here; (with_reducible show wpAny _ _ (call (Value.ref 566) _ _) _ _ _); k_dflt (first | (refine' Cut.pure_use (by k_asm) (by k_asm) (by k_asm) (by k_asm) (by k_asm) (by walk_at "R") (uni_same _ _ _ _ _ _ _ _ _ _ _ _ _ _ (by walk_at "M") (by assumption) (by k_mem) (by k_mem) (by k_mem)) (by ktr_room) (by ktr_units) ?_; k_whole; intro x9z h9z tk9z p9z F9z N9z; clear p9z; walk_at "Z") | (refine' Cut.pure_use (by k_asm) (by k_asm) (by k_asm) (by k_asm) (by k_asm) (by walk_at "R") (uni_other _ _ _ _ _ _ (by assumption) _ _ _ _ _ _ _ _ _ (by walk_at "M") (by assumption) (by k_mem) (by k_mem) (by k_mem)) (by ktr_room) (by ktr_units) ?_; k_whole; intro x9z h9z tk9z p9z F9z N9z; clear p9z; walk_at "Z"))) | (k_here; (with_reducible show wpAny _ _ (call (Value.ref 411) _ _) _ _ _); k_dflt (refine' Cut.pure_use (by k_asm) (by k_asm) (by k_asm) (by k_asm) (by k_asm) (by walk_at "R") (check_size _ _ _ _ _ _ (by assumption)) (by ktr_room) (by ktr_units) ?_; k_whole; intro x9z h9z tk9z p9z F9z N9z; clear p9z; walk_at "Z")) | (k_here; (with_reducible show wpAny _ _ (call (Value.ref 418) _ _) _ _ _); k_dflt (first | (refine' Cut.pure_use (by k_asm) (by k_asm) (by k_asm) (by k_asm) (by k_asm) (by walk_at "R") (iov_int _ _ _ _ _ _ _ _ _ _ _ _ _ _ _ (by walk_at "M") (by k_mem) (by k_mem) (by assumption) (by decide) (by decide) (by walk_at "M") (by k_mem)) (by ktr_room) (by ktr_units) ?_; k_whole; intro x9z h9z tk9z p9z F9z N9z; clear p9z; walk_at "Z") | (refine' Cut.pure_use (by k_asm) (by k_asm) (by k_asm) (by k_asm) (by k_asm) (by walk_at "R") (iov_free _ _ _ _ _ _ _ _ _ _ _ _ _ _ (by walk_at "M") (by k_mem) (by k_mem) (by assumption) (by decide) (by decide) (by k_mem) (by assumption) (by assumption) (by assumption)) (by ktr_room) (by ktr_units) ?_; k_whole; intro x9z h9z tk9z p9z F9z N9z; clear p9z; walk_at "Z"))) | (k_here; (with_reducible show wpAny _ _ (call (Value.ref 279) _ _) _ _ _); k_dflt (first | (refine' Cut.pure_use (by k_asm) (by k_asm) (by k_asm) (by k_asm) (by k_asm) (by walk_at "R") (globalise_int _ _ _ _ _ _ _ _ _ _ _ (by walk_at "M") (by k_mem) (by walk_at "M") (by k_mem)) (by ktr_room) (by ktr_units) ?_; k_whole; intro x9z h9z tk9z p9z F9z N9z; clear p9z; walk_at "Z") | (refine' Cut.pure_use (by k_asm) (by k_asm) (by k_asm) (by k_asm) (by k_asm) (by walk_at "R") (globalise_free _ _ _ _ _ _ _ _ _ _ (by walk_at "M") (by k_mem) (by walk_at "M") (by k_mem)) (by ktr_room) (by ktr_units) ?_; k_whole; intro x9z h9z tk9z p9z F9z N9z; clear p9z; walk_at "Z"))) | (k_unfold; (try dsimp only)) | (k_end; wrow_close) | walk1 | (dsimp only; walk1) | (leave1; try dsimp only) | fail "no step")
  all_goals first
    | exact hret ⟨_, _, _, _, _, _, false, _, _⟩ _ _ ⟨lt3a (by assumption), lt3a (by assumption), by assumption, (fun h => nomatch h), fun _ => ⟨rfl, rfl⟩⟩ (by k_asm) (news_dup (by k_asm))
    | exact hret ⟨_, _, _, _, _, _, true, _, _⟩ _ _ ⟨lt3a (by assumption), lt3a (And.right (a := _ < _) (by assumption)), by assumption, (fun _ => ⟨_, _, _, rfl⟩), (fun h => nomatch h)⟩ (by k_asm) (news_cell (by k_asm))
    | walk_report
/-! G18 -/
def SuccC (w : World) (A : Ad) (q1 q2 : Addr) (k : Nat) (R : List (Addr × Obj)) {D : Type} (Post : List Value → Nat → D → Prop) (b : Bool) (E' : List Value → Nat → D → List (Addr × Obj)) : Prop :=
  ∀ (ys : List Value) (ny : Nat), ys.length = max k 3 → ys[1]? = some (.ref q1) → ys[2]? = some (.ref q2) → Cut w 432 [.ref A.M] 70 2800 ((A.XL, listOf ys.toArray ny) :: R) (Post ys ny) (fun _ => .bool b) (E' ys ny)
theorem lnext (w : World) (A : Ad) (q1 q2 : Addr) (n3 : Nat) (xs : List Value) (R : List (Addr × Obj)) (M : Mach w.params A R) (hnx : ∀ p ∈ R, p.1 ≠ A.XL) (hl : xs.length ≤ 100) (hl1 : 1 ≤ xs.length) {D : Type} {Post : List Value → Nat → D → Prop} {b : Bool} {E' : List Value → Nat → D → List (Addr × Obj)}
    (C : SuccC w A q1 q2 xs.length R Post b E') :
    Cut w 713 [.ref A.M, .ref q1, .ref q2] 90 3800 ((A.XL, listOf xs.toArray n3) :: R) (fun p : List Value × Nat × D => p.1.length = max xs.length 3 ∧ Post p.1 p.2.1 p.2.2) (fun p => .bool b) (fun p => E' p.1 p.2.1 p.2.2) := by
  have m1 := M.x; have m2 := M.xd; have m3 := M.m; have m4 := M.md
  unfold Cut; k_fill; intro mean mg mb dp un gd cn cs a' ccd cl outer A₀ base h₀ L m s Q Xx B F XX N TT hks hd hu hret
  refine wpAny_call ?_
  k_dflt cell_enter
  repeat' (first | (k_here; (with_reducible show wpAny _ _ (call (Value.ref 432) _ _) _ _ _); (with_reducible rename SuccC _ _ _ _ _ _ _ _ _ => hC9z); k_dflt (refine' Cut.uz (by k_asm) (by k_asm) (by k_asm) (by k_asm) (by repeat (first | exact sub_self | refine sub_head ?_ | refine sub_tail ?_)) (by k_asm) (by walk_at "R") (by ktr_room) (by ktr_units) (hC9z _ _ (by assumption) (by assumption) (by assumption)) ?_; k_whole; intro x9z h9z tk9z p9z F9z N9z; (try dsimp only at N9z); walk_at "Z")) | (k_unfold; (try dsimp only)) | (k_end; wrow_close) | walk1 | (dsimp only; walk1) | (leave1; try dsimp only) | fail "no step")
  all_goals exact hret ⟨_, _, _⟩ _ _ ⟨by assumption, by assumption⟩ (by k_asm) (cb_drop (by k_asm) (by exact sub_self))
theorem lnext_up (w : World) (A : Ad) (q1 q2 r1 : Addr) (a i : Int) (s1 u1 s2 u2 : Tok) (k1 k2 n2 n3 : Nat) (hs xs : List Value) (rest : List (Addr × Obj)) (M : Mach w.params A rest) (hne : ∀ p ∈ rest, p.1 ≠ A.H) (hnx : ∀ p ∈ rest, p.1 ≠ A.XL) (hl : hs.length ≤ 1000) (hlx : xs.length ≤ 100) (hl1 : 1 ≤ xs.length)
    (Dx : Der rest hs q1 r1) (ix : (r1, tup #[.int 5 s1, .int a u1] k1) ∈ rest) (ha : 0 ≤ a) (j : (q2, tup #[.int 0 s2, .int i u2] k2) ∈ rest) (g0 : hs[i.toNat]? = some (.ref q2)) (g1 : 0 ≤ i) (g2 : i < hs.length) (g3 : i < 2 ^ 63) (hb : (Builtin.Int.intBits (a + 1) : Int) ≤ 4096) :
    Cut w 713 [.ref A.M, .ref q1, .ref q2] 90 3800 ((A.H, listOf hs.toArray n2) :: (A.XL, listOf xs.toArray n3) :: rest) (fun x : LnD => x.xs.length = max xs.length 3 ∧ A.H < x.q ∧ A.XL < x.q ∧ ∀ p ∈ rest, p.1 < x.q) (fun x => .bool true) (fun x => (x.q, tup #[.int 5 x.t1, .int (a + 1) x.t2] x.k) :: (A.H, listOf (hs.set i.toNat (.ref x.q)).toArray x.n2) :: (A.XL, listOf x.xs.toArray x.n) :: rest) :=
  ((lnext w A q1 q2 n3 xs ((A.H, listOf hs.toArray n2) :: rest) (M.mono (sub_tail sub_self)) (List.forall_mem_cons.mpr ⟨M.nHX, hnx⟩) hlx hl1 (E' := fun ys ny (x : NvD) => (x.q, tup #[.int 5 x.t1, .int (a + 1) x.t2] x.n) :: (A.H, listOf (hs.set i.toNat (.ref x.q)).toArray x.n2) :: (A.XL, listOf ys.toArray ny) :: rest) (Post := fun ys ny (x : NvD) => A.H < x.q ∧ ∀ p ∈ (A.XL, listOf ys.toArray ny) :: rest, p.1 < x.q) fun ys ny _ y1 y2 =>
    (succ_up w A q1 q2 r1 a i s1 u1 s2 u2 k1 k2 n2 ny hs ys ((A.XL, listOf ys.toArray ny) :: rest) (M.mono (sub_tail sub_self)) (List.forall_mem_cons.mpr ⟨Ne.symm M.nHX, hne⟩) hl (.head _) y1 y2 (Dx.mono (sub_tail (sub_tail sub_self))) (.tail _ ix) ha (.tail _ j) g0 g1 g2 g3 hb).sub swap2).sub swap2).conseq
    fun p hp => ⟨⟨p.1, p.2.1, 0, p.2.2.q, p.2.2.t1, p.2.2.t2, p.2.2.n, p.2.2.n2⟩, ⟨hp.1, hp.2.1, hp.2.2 _ (.head _), fun q hq => hp.2.2 q (.tail _ hq)⟩, rfl, sub_self⟩
theorem lnext_down (w : World) (A : Ad) (q1 q2 r2 : Addr) (b i : Int) (s1 u1 s2 u2 : Tok) (k1 k2 n2 n3 : Nat) (hs xs : List Value) (rest : List (Addr × Obj)) (M : Mach w.params A rest) (hne : ∀ p ∈ rest, p.1 ≠ A.H) (hnx : ∀ p ∈ rest, p.1 ≠ A.XL) (hl : hs.length ≤ 1000) (hlx : xs.length ≤ 100) (hl1 : 1 ≤ xs.length)
    (Dx : Der rest hs q2 r2) (ix : (r2, tup #[.int 5 s2, .int b u2] k2) ∈ rest) (ha : 0 < b) (j : (q1, tup #[.int 0 s1, .int i u1] k1) ∈ rest) (g0 : hs[i.toNat]? = some (.ref q1)) (g1 : 0 ≤ i) (g2 : i < hs.length) (g3 : i < 2 ^ 63) :
    Cut w 713 [.ref A.M, .ref q1, .ref q2] 90 3800 ((A.H, listOf hs.toArray n2) :: (A.XL, listOf xs.toArray n3) :: rest) (fun x : LnD => x.xs.length = max xs.length 3 ∧ A.H < x.q ∧ A.XL < x.q ∧ ∀ p ∈ rest, p.1 < x.q) (fun x => .bool true) (fun x => (x.q, tup #[.int 5 x.t1, .int (b - 1) x.t2] x.k) :: (A.H, listOf (hs.set i.toNat (.ref x.q)).toArray x.n2) :: (A.XL, listOf x.xs.toArray x.n) :: rest) :=
  ((lnext w A q1 q2 n3 xs ((A.H, listOf hs.toArray n2) :: rest) (M.mono (sub_tail sub_self)) (List.forall_mem_cons.mpr ⟨M.nHX, hnx⟩) hlx hl1 (E' := fun ys ny (x : NvD) => (x.q, tup #[.int 5 x.t1, .int (b - 1) x.t2] x.n) :: (A.H, listOf (hs.set i.toNat (.ref x.q)).toArray x.n2) :: (A.XL, listOf ys.toArray ny) :: rest) (Post := fun ys ny (x : NvD) => A.H < x.q ∧ ∀ p ∈ (A.XL, listOf ys.toArray ny) :: rest, p.1 < x.q) fun ys ny _ y1 y2 =>
    (succ_down w A q1 q2 r2 b i s1 u1 s2 u2 k1 k2 n2 ny hs ys ((A.XL, listOf ys.toArray ny) :: rest) (M.mono (sub_tail sub_self)) (List.forall_mem_cons.mpr ⟨Ne.symm M.nHX, hne⟩) hl (.head _) y1 y2 (Dx.mono (sub_tail (sub_tail sub_self))) (.tail _ ix) ha (.tail _ j) g0 g1 g2 g3).sub swap2).sub swap2).conseq
    fun p hp => ⟨⟨p.1, p.2.1, 0, p.2.2.q, p.2.2.t1, p.2.2.t2, p.2.2.n, p.2.2.n2⟩, ⟨hp.1, hp.2.1, hp.2.2 _ (.head _), fun q hq => hp.2.2 q (.tail _ hq)⟩, rfl, sub_self⟩
theorem lnext_same (w : World) (A : Ad) (q1 q2 r1 r2 : Addr) (a : Int) (s1 u1 s2 u2 : Tok) (k1 k2 n2 n3 : Nat) (hs xs : List Value) (rest : List (Addr × Obj)) (M : Mach w.params A rest) (hnx : ∀ p ∈ rest, p.1 ≠ A.XL) (hl : hs.length ≤ 1000) (hlx : xs.length ≤ 100) (hl1 : 1 ≤ xs.length) (h4 : (A.H, listOf hs.toArray n2) ∈ rest)
    (D1 : Der rest hs q1 r1) (D2 : Der rest hs q2 r2) (i1 : (r1, tup #[.int 5 s1, .int a u1] k1) ∈ rest) (i2 : (r2, tup #[.int 5 s2, .int (a + 1) u2] k2) ∈ rest) (ha : 0 ≤ a) (hb : (Builtin.Int.intBits (a + 1) : Int) ≤ 4096) :
    Cut w 713 [.ref A.M, .ref q1, .ref q2] 90 3800 ((A.XL, listOf xs.toArray n3) :: rest) (fun x : SxD => x.xs.length = max xs.length 3) (fun x => .bool true) (fun x => (A.XL, listOf x.xs.toArray x.n) :: rest) :=
  (lnext w A q1 q2 n3 xs rest M hnx hlx hl1 (E' := fun ys ny _ => (A.XL, listOf ys.toArray ny) :: rest) (Post := fun _ _ (_ : Unit) => True) fun ys ny _ y1 y2 =>
    succ_same w A q1 q2 r1 r2 a s1 u1 s2 u2 k1 k2 n2 ny hs ys _ (M.mono (sub_tail sub_self)) hl (.tail _ h4) (.head _) y1 y2 (D1.mono (sub_tail sub_self)) (D2.mono (sub_tail sub_self)) (.tail _ i1) (.tail _ i2) ha hb).conseq
    fun p hp => ⟨⟨p.1, p.2.1⟩, hp.1, rfl, sub_self⟩
theorem lnext_other (w : World) (A : Ad) (q1 q2 r1 r2 : Addr) (a b : Int) (s1 u1 s2 u2 : Tok) (k1 k2 n2 n3 : Nat) (hs xs : List Value) (rest : List (Addr × Obj)) (M : Mach w.params A rest) (hnx : ∀ p ∈ rest, p.1 ≠ A.XL) (hl : hs.length ≤ 1000) (hlx : xs.length ≤ 100) (hl1 : 1 ≤ xs.length) (h4 : (A.H, listOf hs.toArray n2) ∈ rest)
    (D1 : Der rest hs q1 r1) (D2 : Der rest hs q2 r2) (i1 : (r1, tup #[.int 5 s1, .int a u1] k1) ∈ rest) (i2 : (r2, tup #[.int 5 s2, .int b u2] k2) ∈ rest) (ha : 0 ≤ a) (hb0 : 0 ≤ b) (hv : b ≠ a + 1) (hb : (Builtin.Int.intBits (a + 1) : Int) ≤ 4096) :
    Cut w 713 [.ref A.M, .ref q1, .ref q2] 90 3800 ((A.XL, listOf xs.toArray n3) :: rest) (fun x : SxD => x.xs.length = max xs.length 3) (fun x => .bool false) (fun x => (A.XL, listOf x.xs.toArray x.n) :: rest) :=
  (lnext w A q1 q2 n3 xs rest M hnx hlx hl1 (E' := fun ys ny _ => (A.XL, listOf ys.toArray ny) :: rest) (Post := fun _ _ (_ : Unit) => True) fun ys ny _ y1 y2 =>
    succ_other w A q1 q2 r1 r2 a b s1 u1 s2 u2 k1 k2 n2 ny hs ys _ (M.mono (sub_tail sub_self)) hl (.tail _ h4) (.head _) y1 y2 (D1.mono (sub_tail sub_self)) (D2.mono (sub_tail sub_self)) (.tail _ i1) (.tail _ i2) ha hb0 hv hb).conseq
    fun p hp => ⟨⟨p.1, p.2.1⟩, hp.1, rfl, sub_self⟩
theorem lnext_zero (w : World) (A : Ad) (q1 q2 r2 : Addr) (i : Int) (s1 u1 s2 u2 : Tok) (k1 k2 n2 n3 : Nat) (hs xs : List Value) (rest : List (Addr × Obj)) (M : Mach w.params A rest) (hnx : ∀ p ∈ rest, p.1 ≠ A.XL) (hl : hs.length ≤ 1000) (hlx : xs.length ≤ 100) (hl1 : 1 ≤ xs.length) (h4 : (A.H, listOf hs.toArray n2) ∈ rest)
    (D2 : Der rest hs q2 r2) (i2 : (r2, tup #[.int 5 s2, .int 0 u2] k2) ∈ rest) (j1 : (q1, tup #[.int 0 s1, .int i u1] k1) ∈ rest) (g0 : hs[i.toNat]? = some (.ref q1)) (g1 : 0 ≤ i) (g2 : i < hs.length) (g3 : i < 2 ^ 63) :
    Cut w 713 [.ref A.M, .ref q1, .ref q2] 90 3800 ((A.XL, listOf xs.toArray n3) :: rest) (fun x : SxD => x.xs.length = max xs.length 3) (fun x => .bool false) (fun x => (A.XL, listOf x.xs.toArray x.n) :: rest) :=
  (lnext w A q1 q2 n3 xs rest M hnx hlx hl1 (E' := fun ys ny _ => (A.XL, listOf ys.toArray ny) :: rest) (Post := fun _ _ (_ : Unit) => True) fun ys ny _ y1 y2 =>
    succ_zero w A q1 q2 r2 i s1 u1 s2 u2 k1 k2 n2 ny hs ys _ (M.mono (sub_tail sub_self)) hl (.tail _ h4) (.head _) y1 y2 (D2.mono (sub_tail sub_self)) (.tail _ i2) (.tail _ j1) g0 g1 g2 g3).conseq
    fun p hp => ⟨⟨p.1, p.2.1⟩, hp.1, rfl, sub_self⟩
section Sec12
/-! S24 -/
local macro_rules | `(tactic| k_lt $h:ident) => `(tactic| first | (replace $h := allLt_of $h; simp only [AllLt, and_true] at $h:ident) | skip)
local macro_rules | `(tactic| k_ne) => `(tactic| (refine neN ?_; (try dsimp only); omega))
local macro_rules | `(tactic| walk_at "execs cons") => `(tactic| (k_here; first | ((with_reducible show wpAny _ _ (execs (List.cons _ _) _) _ _ (Shared.mk _ _ _ (_ + _) _)); refine norm ‹Shared› _ _ ?_; intro tkz; (try ((rename News _ _ _ _ => N9); dsimp only at N9))) | k_gentoks | (refine execs_consF ?_; intro qk9)))
local macro_rules | `(tactic| ktr_units) => `(tactic| ((simp only [units_under_make, units_in1, units_deeper, Around.mark_units]); omega))
local macro_rules | `(tactic| walk_at "d34") => `(tactic| skip)
noncomputable def nth : List Nat → Nat → Nat
  | [], _ => 0
  | a :: _, 0 => a
  | _ :: l, n + 1 => nth l n
theorem pAr {a b c d e f g h i j : Addr × Obj} {l : List (Addr × Obj)} : ∀ q ∈ c :: f :: g :: h :: i :: j :: l, q ∈ a :: b :: c :: d :: e :: f :: g :: h :: i :: j :: l := by
  repeat (first | exact sub_self | refine List.forall_mem_cons.mpr ⟨by repeat (first | exact List.Mem.head _ | refine List.Mem.tail _ ?_), ?_⟩ | refine sub_tail ?_)
structure ArD where
  A : Ad
  nX : Nat
  nH : Nat
theorem areas (w : World) (Y CO : Addr) (rest : List (Addr × Obj)) :
    Cut w 674 [.ref Y, .ref CO] 30 1000 rest (fun x : ArD => x.A.Y = Y ∧ (∀ p ∈ rest, p.1 < x.A.Md) ∧ x.A.Md < x.A.M ∧ x.A.M < x.A.Xd ∧ x.A.Xd < x.A.X ∧ x.A.X < x.A.H ∧ x.A.H < x.A.XL) (fun x => .ref x.A.M) (fun x => (x.A.XL, listOf [Value.ref 201].toArray x.nX) :: (x.A.H, listOf [].toArray x.nH) :: (x.A.X, instObj 402 x.A.Xd) :: (x.A.Xd, storeD w.params x.A.Y x.A.H x.A.T x.A.R x.A.τ x.A.n1) :: (x.A.M, instObj 674 x.A.Md) :: (x.A.Md, areasD w.params x.A) :: rest) := by
  unfold Cut; k_fill; intro mean mg mb dp un gd cn cs a ccd cl outer A₀ base h₀ L m s Q Xx B F XX N TT hks hd hu hret
  repeat' (first | (k_unfold; (try dsimp only)) | (k_end; wrow_close) | walk1 | (dsimp only; walk1) | (leave1; try dsimp only) | fail "no step")
  have N9 := ‹News h₀ L _ _›
  refine hret ⟨⟨_, _, _, _, _, _, _, _, _, _, _, _, nth [_, _, _, _, _, _, _, _, _, _], nth [_, _, _, _, _, _, _, _, _, _, _, _, _, _, _, _, _, _, _, _, _, _, _, _, _, _, _], _, _⟩, _, _⟩ _ _ ?_ (by k_asm) (fun q hq => N9 q (pAr q hq))
  refine ⟨rfl, (by first | assumption | exact tb_ltOf (by assumption)), ?_, ?_, ?_, ?_, ?_⟩ <;> first | (dsimp only; with_reducible assumption) | (refine ltN ?_; dsimp only; omega)
end Sec12
/-! Row -/
abbrev BB : Nat := 500000000000000000000000000000
def Cell0 (l : List (Addr × Obj)) (j : Nat) (q : Addr) : Prop := ∃ t1 t2 k, (q, tup #[.int 0 t1, .int (j : Int) t2] k) ∈ l
def Bnd (l : List (Addr × Obj)) (hs : List Value) (j : Nat) (v : Int) : Prop := ∃ z t t' k, hs[j]? = some (Value.ref z) ∧ (z, tup #[.int 5 t, .int v t'] k) ∈ l
def Var (l : List (Addr × Obj)) (hs : List Value) (j : Nat) (q : Addr) (v : Int) : Prop := Cell0 l j q ∧ (hs[j]? = some (Value.ref q) ∨ Bnd l hs j v)
structure Row (l : List (Addr × Obj)) (hs TO ST CE SI : List Value) (n : Nat) (T S : Nat → Int) : Prop where
  lH : hs.length = 2 * n + 1
  lTO : TO.length = n + 1
  lST : ST.length = n
  lCE : CE.length = n + 1
  lSI : SI.length = n
  to : ∀ i, i ≤ n → ∃ t, TO[i]? = some (Value.int (T i) t)
  st : ∀ i, i < n → ∃ t, ST[i]? = some (Value.int (S i) t)
  ce : ∀ i, i ≤ n → ∃ q, CE[i]? = some (Value.ref q) ∧ Var l hs (2 * i) q (T i)
  si : ∀ i, i < n → ∃ q, SI[i]? = some (Value.ref q) ∧ Var l hs (2 * i + 1) q (S i)
  sum : ∀ i, i < n → T (i + 1) = T i + S i
  bT : ∀ i, i ≤ n → (T i).natAbs ≤ (i + 1) * BB
  bS : ∀ i, i < n → (S i).natAbs ≤ BB
theorem Cell0.mono {l l' j q} (c : Cell0 l j q) (h : ∀ p ∈ l, p ∈ l') : Cell0 l' j q := let ⟨a, b, k, m⟩ := c; ⟨a, b, k, h _ m⟩
theorem Bnd.mono {l l' hs j v} (c : Bnd l hs j v) (h : ∀ p ∈ l, p ∈ l') : Bnd l' hs j v := let ⟨a, b, b', k, e, m⟩ := c; ⟨a, b, b', k, e, h _ m⟩
theorem Bnd.at {l hs hs' j v} (c : Bnd l hs j v) (h : hs'[j]? = hs[j]?) : Bnd l hs' j v := let ⟨a, b, b', k, e, m⟩ := c; ⟨a, b, b', k, h.trans e, m⟩
theorem Var.mono {l l' hs j q v} (c : Var l hs j q v) (h : ∀ p ∈ l, p ∈ l') : Var l' hs j q v := ⟨c.1.mono h, c.2.imp id fun b => b.mono h⟩
theorem Var.at {l hs hs' j q v} (c : Var l hs j q v) (h : hs'[j]? = hs[j]?) : Var l hs' j q v := ⟨c.1, c.2.imp (fun e => h.trans e) fun b => b.at h⟩
theorem Row.mono {l l' hs TO ST CE SI n T S} (R : Row l hs TO ST CE SI n T S) (h : ∀ p ∈ l, p ∈ l') : Row l' hs TO ST CE SI n T S :=
  { R with ce := fun i hi => let ⟨q, e, v⟩ := R.ce i hi; ⟨q, e, v.mono h⟩, si := fun i hi => let ⟨q, e, v⟩ := R.si i hi; ⟨q, e, v.mono h⟩ }
/-- binding one variable to its own number -/
theorem Row.set {l l' hs TO ST CE SI n T S} (R : Row l hs TO ST CE SI n T S) (h : ∀ p ∈ l, p ∈ l') {j : Nat} {z : Addr} {t t' : Tok} {k : Nat} {v : Int} (hj : j < 2 * n + 1) (hz : (z, tup #[.int 5 t, .int v t'] k) ∈ l')
    (hv : (∀ i, i ≤ n → j = 2 * i → v = T i) ∧ (∀ i, i < n → j = 2 * i + 1 → v = S i)) : Row l' (hs.set j (Value.ref z)) TO ST CE SI n T S ∧ Bnd l' (hs.set j (Value.ref z)) j v ∧ ∀ i w, i ≠ j → Bnd l hs i w → Bnd l' (hs.set j (Value.ref z)) i w := by
  have hb : Bnd l' (hs.set j (Value.ref z)) j v := ⟨z, t, t', k, by rw [List.getElem?_set_self (by rw [R.lH]; exact hj)], hz⟩
  have other : ∀ i, i ≠ j → (hs.set j (Value.ref z))[i]? = hs[i]? := fun i hi => List.getElem?_set_ne (Ne.symm hi)
  refine ⟨{ R with lH := by rw [List.length_set]; exact R.lH, ce := fun i hi => ?_, si := fun i hi => ?_ }, hb, fun i w hi b => (b.mono h).at (other i hi)⟩
  · obtain ⟨q, e, c⟩ := R.ce i hi
    refine ⟨q, e, ?_⟩
    by_cases hij : 2 * i = j
    · have := hv.1 i hi hij.symm
      subst hij this
      exact ⟨c.1.mono h, .inr hb⟩
    · exact (c.mono h).at (other _ hij)
  · obtain ⟨q, e, c⟩ := R.si i hi
    refine ⟨q, e, ?_⟩
    by_cases hij : 2 * i + 1 = j
    · have := hv.2 i hi hij.symm
      subst hij this
      exact ⟨c.1.mono h, .inr hb⟩
    · exact (c.mono h).at (other _ hij)
noncomputable def upd (f : Nat → Int) (n : Nat) (v : Int) : Nat → Int := fun i => if i = n then v else f i
theorem upd_same {f n v} : upd f n v n = v := by simp [upd]
theorem upd_ne {f n v i} (h : i ≠ n) : upd f n v i = f i := by simp [upd, h]
theorem at_append {α : Type} {l : List α} {a : α} {i : Nat} (h : i < l.length) : (l ++ [a])[i]? = l[i]? := List.getElem?_append_left h
theorem at_last {α : Type} {l : List α} {a : α} {i : Nat} (h : l.length = i) : (l ++ [a])[i]? = some a := by subst h; simp
theorem le_pre {i n : Nat} (h : i ≤ n + 1) (e : ¬i = n + 1) : i ≤ n := Nat.le_of_lt_succ (Nat.lt_of_le_of_ne h e)
theorem lt_pre {i n : Nat} (h : i < n + 1) (e : ¬i = n) : i < n := Nat.lt_of_le_of_ne (Nat.le_of_lt_succ h) e
theorem ev_lt {i n : Nat} (h : i ≤ n) : 2 * i < 2 * n + 1 := Nat.lt_succ_of_le (Nat.mul_le_mul_left 2 h)
theorem od_lt {i n : Nat} (h : i < n) : 2 * i + 1 < 2 * n + 1 := Nat.succ_lt_succ (Nat.lt_of_lt_of_le (Nat.lt_succ_self _) (Nat.le_trans (Nat.le_succ _) (Nat.mul_le_mul_left 2 h)))
theorem bb_add {a b : Int} {n c : Nat} (h : a.natAbs ≤ (n + 1) * c) (g : b.natAbs ≤ c) : (a + b).natAbs ≤ (n + 1 + 1) * c :=
  Nat.le_trans (Int.natAbs_add_le a b) (Nat.le_trans (Nat.add_le_add h g) (Nat.le_of_eq (Nat.succ_mul (n + 1) c).symm))
theorem Row.ext {l l' hs TO ST CE SI n T S} (R : Row l hs TO ST CE SI n T S) (h : ∀ p ∈ l, p ∈ l') {s : Int} {ts t : Tok} {c1 z1 c2 z2 : Addr} (hs1 : s.natAbs ≤ BB)
    (v1 : Cell0 l' (2 * n + 1) c1 ∧ (z1 = c1 ∨ ∃ a b k, (z1, tup #[.int 5 a, .int s b] k) ∈ l')) (v2 : Cell0 l' (2 * n + 2) c2 ∧ (z2 = c2 ∨ ∃ a b k, (z2, tup #[.int 5 a, .int (T n + s) b] k) ∈ l')) :
    Row l' ((hs ++ [Value.ref z1]) ++ [Value.ref z2]) (TO ++ [Value.int (T n + s) t]) (ST ++ [Value.int s ts]) (CE ++ [Value.ref c2]) (SI ++ [Value.ref c1]) (n + 1) (upd T (n + 1) (T n + s)) (upd S n s) := by
  have e1 : ((hs ++ [Value.ref z1]) ++ [Value.ref z2])[2 * n + 1]? = some (Value.ref z1) := by
    rw [at_append (by simp [R.lH]), at_last R.lH]
  have e2 : ((hs ++ [Value.ref z1]) ++ [Value.ref z2])[2 * n + 2]? = some (Value.ref z2) := at_last (by simp [R.lH])
  have old : ∀ i, i < 2 * n + 1 → ((hs ++ [Value.ref z1]) ++ [Value.ref z2])[i]? = hs[i]? := fun i hi => by
    rw [at_append (by rw [List.length_append, R.lH]; exact Nat.lt_succ_of_lt hi), at_append (by rw [R.lH]; exact hi)]
  have uT : ∀ i, i ≤ n → upd T (n + 1) (T n + s) i = T i := fun i hi => upd_ne (Nat.ne_of_lt (Nat.lt_succ_of_le hi))
  have uS : ∀ i, i < n → upd S n s i = S i := fun i hi => upd_ne (Nat.ne_of_lt hi)
  have V1 : Var l' ((hs ++ [Value.ref z1]) ++ [Value.ref z2]) (2 * n + 1) c1 s := ⟨v1.1, v1.2.imp (fun e => by rw [e1, e]) fun ⟨a, b, k, m⟩ => ⟨z1, a, b, k, e1, m⟩⟩
  have V2 : Var l' ((hs ++ [Value.ref z1]) ++ [Value.ref z2]) (2 * n + 2) c2 (T n + s) := ⟨v2.1, v2.2.imp (fun e => by rw [e2, e]) fun ⟨a, b, k, m⟩ => ⟨z2, a, b, k, e2, m⟩⟩
  refine ⟨by rw [List.length_append, List.length_append, R.lH]; rfl, by rw [List.length_append, R.lTO]; rfl, by rw [List.length_append, R.lST]; rfl, by rw [List.length_append, R.lCE]; rfl, by rw [List.length_append, R.lSI]; rfl, fun i hi => ?_, fun i hi => ?_, fun i hi => ?_, fun i hi => ?_, fun i hi => ?_, fun i hi => ?_, fun i hi => ?_⟩
  · by_cases e : i = n + 1
    · subst e; rw [upd_same]; exact ⟨t, at_last R.lTO⟩
    · have g := le_pre hi e
      rw [uT i g, at_append (by rw [R.lTO]; exact Nat.lt_succ_of_le g)]; exact R.to i g
  · by_cases e : i = n
    · subst e; rw [upd_same]; exact ⟨ts, at_last R.lST⟩
    · have g := lt_pre hi e
      rw [uS i g, at_append (by rw [R.lST]; exact g)]; exact R.st i g
  · by_cases e : i = n + 1
    · subst e; rw [upd_same]; exact ⟨c2, at_last R.lCE, V2⟩
    · have g := le_pre hi e
      rw [uT i g, at_append (by rw [R.lCE]; exact Nat.lt_succ_of_le g)]
      obtain ⟨q, a, b⟩ := R.ce i g
      exact ⟨q, a, (b.mono h).at (old _ (ev_lt g))⟩
  · by_cases e : i = n
    · subst e; rw [upd_same]; exact ⟨c1, at_last R.lSI, V1⟩
    · have g := lt_pre hi e
      rw [uS i g, at_append (by rw [R.lSI]; exact g)]
      obtain ⟨q, a, b⟩ := R.si i g
      exact ⟨q, a, (b.mono h).at (old _ (od_lt g))⟩
  · by_cases e : i = n
    · subst e; rw [upd_same, upd_same, uT i (Nat.le_refl _)]
    · have g := lt_pre hi e
      rw [uT (i + 1) g, uT i (Nat.le_of_lt g), uS i g]; exact R.sum i g
  · by_cases e : i = n + 1
    · subst e; rw [upd_same]; exact bb_add (R.bT n (Nat.le_refl _)) hs1
    · have g := le_pre hi e
      rw [uT i g]; exact R.bT i g
  · by_cases e : i = n
    · subst e; rw [upd_same]; exact hs1
    · have g := lt_pre hi e
      rw [uS i g]; exact R.bS i g
theorem Row.start {l : List (Addr × Obj)} {T0 : Int} {t : Tok} {c z : Addr} (hT : T0.natAbs ≤ BB) (v : Cell0 l 0 c ∧ (z = c ∨ ∃ a b k, (z, tup #[.int 5 a, .int T0 b] k) ∈ l)) :
    Row l [Value.ref z] [Value.int T0 t] [] [Value.ref c] [] 0 (fun _ => T0) (fun _ => 0) := by
  refine ⟨rfl, rfl, rfl, rfl, rfl, fun i hi => ?_, fun i hi => (by omega), fun i hi => ?_, fun i hi => (by omega), fun i hi => (by omega), fun i hi => ?_, fun i hi => (by omega)⟩
  · obtain rfl : i = 0 := by omega
    exact ⟨t, rfl⟩
  · obtain rfl : i = 0 := by omega
    exact ⟨c, rfl, v.1, v.2.imp (fun e => by rw [e]; rfl) fun ⟨a, b, k, m⟩ => ⟨z, a, b, k, rfl, m⟩⟩
  · obtain rfl : i = 0 := by omega
    simp only [BB] at *; omega
/-! L3 -/
def StB (l : List (Addr × Obj)) (hs : List Value) (j : Nat) (q : Addr) (v : Int) : Bool → Prop
  | true => Cell0 l j q ∧ hs[j]? = some (Value.ref q)
  | false => Cell0 l j q ∧ Bnd l hs j v
def StR (l : List (Addr × Obj)) (hs : List Value) (j : Nat) (q r : Addr) (v : Int) : Bool → Prop
  | true => r = q ∧ Cell0 l j q ∧ hs[j]? = some (Value.ref q)
  | false => ∃ t t' k, (r, tup #[.int 5 t, .int v t'] k) ∈ l
theorem Var.st {l hs j q v} (c : Var l hs j q v) : ∃ b, StB l hs j q v b := c.2.elim (fun e => ⟨true, c.1, e⟩) fun e => ⟨false, c.1, e⟩
theorem StB.mono {l l' hs j q v b} (c : StB l hs j q v b) (h : ∀ p ∈ l, p ∈ l') : StB l' hs j q v b := by
  cases b
  · exact ⟨c.1.mono h, c.2.mono h⟩
  · exact ⟨c.1.mono h, c.2⟩
theorem StR.mono {l l' hs j q r v b} (c : StR l hs j q r v b) (h : ∀ p ∈ l, p ∈ l') : StR l' hs j q r v b := by
  cases b
  · obtain ⟨t, t', k, m⟩ := c; exact ⟨t, t', k, h _ m⟩
  · exact ⟨c.1, c.2.1.mono h, c.2.2⟩
theorem nat63 {j : Nat} (h : j ≤ 1000) : ((j : Nat) : Int) < 2 ^ 63 := by omega
theorem at_nat {hs : List Value} {j : Nat} {v : Value} (h : hs[j]? = some v) : hs[((j : Nat) : Int).toNat]? = some v := by rw [Int.toNat_natCast]; exact h
theorem StB.der {l hs j q v b} (c : StB l hs j q v b) (hj : j ≤ 1000) : ∃ r, Der l hs q r ∧ StR l hs j q r v b := by
  cases b
  · obtain ⟨⟨t1, t2, k, m⟩, z, t, t', k', e, m'⟩ := c
    exact ⟨z, .bound m (at_nat e) (by omega) (nat63 hj) m', t, t', k', m'⟩
  · obtain ⟨⟨t1, t2, k, m⟩, e⟩ := c
    exact ⟨q, .free m (at_nat e) (by omega) (nat63 hj), rfl, ⟨t1, t2, k, m⟩, e⟩
theorem derefS {w : World} {A : Ad} {j : Nat} {q : Addr} {v : Int} {b : Bool} {hs : List Value} {n2 : Nat} {rest : List (Addr × Obj)} (M : Mach w.params A rest) (h4 : (A.H, listOf hs.toArray n2) ∈ rest) (c : StB rest hs j q v b) (hj : j ≤ 1000) :
    Cut w 251 [.ref A.X, .ref q] 5 200 rest (fun r : Addr => StR rest hs j q r v b) (fun r => .ref r) (fun _ => rest) := by
  obtain ⟨r, d, s⟩ := c.der hj
  exact (deref w A q r hs n2 rest M h4 d).conseq fun _ _ => ⟨r, s, rfl, fun _ h => h⟩
theorem unbS {w : World} {A : Ad} {j : Nat} {q r : Addr} {v : Int} {b : Bool} {hs : List Value} {n2 : Nat} {rest : List (Addr × Obj)} (M : Mach w.params A rest) (h4 : (A.H, listOf hs.toArray n2) ∈ rest) (c : StR rest hs j q r v b) (hj : j ≤ 1000) :
    Cut w 258 [.ref A.X, .ref r] 10 400 rest (fun _ : Unit => True) (fun _ => .bool b) (fun _ => rest) := by
  cases b
  · obtain ⟨t, t', k, m⟩ := c
    exact unbound_int w A r v t t' k rest M m
  · obtain ⟨rfl, ⟨t1, t2, k, m⟩, e⟩ := c
    exact unbound_free w A r (j : Int) t1 t2 k hs n2 rest M h4 m (at_nat e) (by omega) (nat63 hj)
/-! Del -/
inductive Del (d : Addr) (o : Obj) : List (Addr × Obj) → List (Addr × Obj) → Prop
  | head {r} : Del d o ((d, o) :: r) r
  | tail {p r r'} : Del d o r r' → Del d o (p :: r) (p :: r')
theorem Del.sub {d : Addr} {o : Obj} {l l' : List (Addr × Obj)} (h : Del d o l l') : ∀ q ∈ (d, o) :: l', q ∈ l := by
  induction h with
  | head => exact fun _ h => h
  | tail _ ih =>
    intro q hq
    rcases List.mem_cons.mp hq with rfl | hq
    · exact .tail _ (ih _ (.head _))
    rcases List.mem_cons.mp hq with rfl | hq
    · exact .head _
    · exact .tail _ (ih q (.tail _ hq))
theorem Del.sub2 {d₁ d₂ : Addr} {o₁ o₂ : Obj} {l l₁ l₂ : List (Addr × Obj)} (h₁ : Del d₁ o₁ l l₁) (h₂ : Del d₂ o₂ l₁ l₂) : ∀ q ∈ (d₁, o₁) :: (d₂, o₂) :: l₂, q ∈ l := fun q hq => by
  rcases List.mem_cons.mp hq with rfl | hq
  · exact h₁.sub _ (.head _)
  · exact h₁.sub q (.tail _ (h₂.sub q hq))
/-! LawS -/
noncomputable abbrev lawEnv (L a : Addr) (ccd : Value) (cC cM : Addr) : Env := envX (Str.ofString "law") c55s L a ccd [(Str.ofString "cells", cC), (Str.ofString "m", cM)]
noncomputable abbrev lawTop (dp un : Nat) (gd : Option (List Code)) (L a : Addr) (ccd : Value) (cC cM : Addr) : Around := ktrTop dp un gd (Str.ofString "law") c55s L a ccd [(Str.ofString "cells", cC), (Str.ofString "m", cM)] []
structure LD where
  A : Ad
  P : Addr
  SS : Addr
  TO : Addr
  ST : Addr
  CE : Addr
  SI : Addr
  LK : Addr
structure LN where
  n2 : Nat
  n3 : Nat
  n4 : Nat
  n5 : Nat
  n6 : Nat
  n7 : Nat
noncomputable abbrev lawL (z : LD) (x : DrawD) (hs xs to st ce si : List Value) (n : LN) (VS : List (Addr × Obj)) : List (Addr × Obj) :=
  (z.P, poolD z.SS x) :: (z.A.H, listOf hs.toArray n.n2) :: (z.A.XL, listOf xs.toArray n.n3) :: (z.TO, listOf to.toArray n.n4) :: (z.ST, listOf st.toArray n.n5) :: (z.CE, listOf ce.toArray n.n6) :: (z.SI, listOf si.toArray n.n7) :: VS
/-- the term of the error that plus/3 is to raise -/
inductive Lacks (l : List (Addr × Obj)) (q : Addr) (i : Int) : Prop
  | mk (l2 : Addr) (l3 : Addr) (l4 : Addr) (t1 : Tok) (t2 : Tok) (t3 : Tok) (t4 : Tok) (t5 : Tok) (t6 : Tok) (k1 : Nat) (k2 : Nat) (k3 : Nat) (k4 : Nat) (h0 : (q, tup #[.str (Str.ofString "s") t1, .int 16 t2, .ref l2] k1) ∈ l) (h1 : (l2, tup #[.ref l3, .ref l4] k2) ∈ l) (h2 : (l3, tup #[.str (Str.ofString "a") t3, .int i t4] k3) ∈ l) (h3 : (l4, tup #[.str (Str.ofString "a") t5, .int 25 t6] k4) ∈ l) : Lacks l q i
structure LawS (w : World) (z : LD) (cC cM : Addr) (VS : List (Addr × Obj)) : Prop where
  mach : Mach w.params z.A VS
  pool : Pool z.SS VS
  nSP : z.SS ≠ z.P
  syms : ∃ i ti S oN kvs, Syms w z.A.Y i ti S oN kvs VS ∧ Lacks VS z.LK i
  cm : ∃ o, (cM, o) ∈ VS ∧ o.data = .cell (some (.ref z.A.M))
  cc : ∃ o, (cC, o) ∈ VS ∧ o.data = .cell (some (.ref z.CE))
  o1 : z.P < z.A.H
  o2 : z.A.H < z.A.XL
  o3 : z.A.XL < z.TO
  o4 : z.TO < z.ST
  o5 : z.ST < z.CE
  o6 : z.CE < z.SI
  a1 : ∀ p ∈ VS, p.1 ≠ z.P
  a2 : ∀ p ∈ VS, p.1 ≠ z.A.H
  a3 : ∀ p ∈ VS, p.1 ≠ z.A.XL
  a4 : ∀ p ∈ VS, p.1 ≠ z.TO
  a5 : ∀ p ∈ VS, p.1 ≠ z.ST
  a6 : ∀ p ∈ VS, p.1 ≠ z.CE
  a7 : ∀ p ∈ VS, p.1 ≠ z.SI
theorem Lacks.mono {l l' q i} (c : Lacks l q i) (h : ∀ p ∈ l, p ∈ l') : Lacks l' q i := by
  cases c with
  | mk l2 l3 l4 t1 t2 t3 t4 t5 t6 k1 k2 k3 k4 a b c d => exact .mk l2 l3 l4 t1 t2 t3 t4 t5 t6 k1 k2 k3 k4 (h _ a) (h _ b) (h _ c) (h _ d)
theorem LawS.put {w z cC cM VS} (S : LawS w z cC cM VS) {p : Addr × Obj} (h : p.1 ≠ z.P ∧ p.1 ≠ z.A.H ∧ p.1 ≠ z.A.XL ∧ p.1 ≠ z.TO ∧ p.1 ≠ z.ST ∧ p.1 ≠ z.CE ∧ p.1 ≠ z.SI) : LawS w z cC cM (p :: VS) := by
  have away : ∀ {P : Addr}, p.1 ≠ P → (∀ q ∈ VS, q.1 ≠ P) → ∀ q ∈ p :: VS, q.1 ≠ P := fun g a q hq => by
    rcases List.mem_cons.mp hq with rfl | hq
    · exact g
    · exact a q hq
  obtain ⟨i, ti, Sy, oN, kvs, y1, y2⟩ := S.syms
  obtain ⟨o, m1, m2⟩ := S.cm
  obtain ⟨o', m3, m4⟩ := S.cc
  exact ⟨S.mach.mono (sub_tail sub_self), S.pool.mono (sub_tail sub_self), S.nSP, ⟨i, ti, Sy, oN, kvs, y1.mono (sub_tail sub_self), y2.mono (sub_tail sub_self)⟩, ⟨o, .tail _ m1, m2⟩, ⟨o', .tail _ m3, m4⟩, S.o1, S.o2, S.o3, S.o4, S.o5, S.o6,
    away h.1 S.a1, away h.2.1 S.a2, away h.2.2.1 S.a3, away h.2.2.2.1 S.a4, away h.2.2.2.2.1 S.a5, away h.2.2.2.2.2.1 S.a6, away h.2.2.2.2.2.2 S.a7⟩
/-- something new is added: it lies above all -/
theorem LawS.add {w z cC cM VS} (S : LawS w z cC cM VS) {p : Addr × Obj} (h : z.P < p.1 ∧ z.A.H < p.1 ∧ z.A.XL < p.1 ∧ z.TO < p.1 ∧ z.ST < p.1 ∧ z.CE < p.1 ∧ z.SI < p.1) : LawS w z cC cM (p :: VS) :=
  have f : ∀ {P : Addr}, P < p.1 → p.1 ≠ P := fun g => (Nat.ne_of_lt g).symm
  S.put ⟨f h.1, f h.2.1, f h.2.2.1, f h.2.2.2.1, f h.2.2.2.2.1, f h.2.2.2.2.2.1, f h.2.2.2.2.2.2⟩
theorem LawS.ne21 {w z cC cM VS} (S : LawS w z cC cM VS) : (z.P ≠ z.A.H ∧ z.P ≠ z.A.XL ∧ z.P ≠ z.TO ∧ z.P ≠ z.ST ∧ z.P ≠ z.CE ∧ z.P ≠ z.SI) ∧ (z.A.H ≠ z.A.XL ∧ z.A.H ≠ z.TO ∧ z.A.H ≠ z.ST ∧ z.A.H ≠ z.CE ∧ z.A.H ≠ z.SI) ∧ (z.A.XL ≠ z.TO ∧ z.A.XL ≠ z.ST ∧ z.A.XL ≠ z.CE ∧ z.A.XL ≠ z.SI) ∧ (z.TO ≠ z.ST ∧ z.TO ≠ z.CE ∧ z.TO ≠ z.SI) ∧ (z.ST ≠ z.CE ∧ z.ST ≠ z.SI) ∧ z.CE ≠ z.SI := by
  have o1 := ltN S.o1; have o2 := ltN S.o2; have o3 := ltN S.o3; have o4 := ltN S.o4; have o5 := ltN S.o5; have o6 := ltN S.o6
  have t {a b c : Nat} : a < b → b < c → a < c := Nat.lt_trans
  have n {a b : Nat} : a < b → a ≠ b := Nat.ne_of_lt
  exact ⟨⟨n o1, n (t o1 o2), n (t (t o1 o2) o3), n (t (t (t o1 o2) o3) o4), n (t (t (t (t o1 o2) o3) o4) o5), n (t (t (t (t (t o1 o2) o3) o4) o5) o6)⟩, ⟨n o2, n (t o2 o3), n (t (t o2 o3) o4), n (t (t (t o2 o3) o4) o5), n (t (t (t (t o2 o3) o4) o5) o6)⟩, ⟨n o3, n (t o3 o4), n (t (t o3 o4) o5), n (t (t (t o3 o4) o5) o6)⟩, ⟨n o4, n (t o4 o5), n (t (t o4 o5) o6)⟩, ⟨n o5, n (t o5 o6)⟩, n o6⟩
theorem LawS.nPH {w z cC cM VS} (S : LawS w z cC cM VS) : z.P ≠ z.A.H := S.ne21.1.1
theorem LawS.nPX {w z cC cM VS} (S : LawS w z cC cM VS) : z.P ≠ z.A.XL := S.ne21.1.2.1
theorem LawS.nPT {w z cC cM VS} (S : LawS w z cC cM VS) : z.P ≠ z.TO := S.ne21.1.2.2.1
theorem LawS.nPS {w z cC cM VS} (S : LawS w z cC cM VS) : z.P ≠ z.ST := S.ne21.1.2.2.2.1
theorem LawS.nPC {w z cC cM VS} (S : LawS w z cC cM VS) : z.P ≠ z.CE := S.ne21.1.2.2.2.2.1
theorem LawS.nPI {w z cC cM VS} (S : LawS w z cC cM VS) : z.P ≠ z.SI := S.ne21.1.2.2.2.2.2
theorem LawS.nHX {w z cC cM VS} (S : LawS w z cC cM VS) : z.A.H ≠ z.A.XL := S.ne21.2.1.1
theorem LawS.nHT {w z cC cM VS} (S : LawS w z cC cM VS) : z.A.H ≠ z.TO := S.ne21.2.1.2.1
theorem LawS.nHS {w z cC cM VS} (S : LawS w z cC cM VS) : z.A.H ≠ z.ST := S.ne21.2.1.2.2.1
theorem LawS.nHC {w z cC cM VS} (S : LawS w z cC cM VS) : z.A.H ≠ z.CE := S.ne21.2.1.2.2.2.1
theorem LawS.nHI {w z cC cM VS} (S : LawS w z cC cM VS) : z.A.H ≠ z.SI := S.ne21.2.1.2.2.2.2
theorem LawS.nXT {w z cC cM VS} (S : LawS w z cC cM VS) : z.A.XL ≠ z.TO := S.ne21.2.2.1.1
theorem LawS.nXS {w z cC cM VS} (S : LawS w z cC cM VS) : z.A.XL ≠ z.ST := S.ne21.2.2.1.2.1
theorem LawS.nXC {w z cC cM VS} (S : LawS w z cC cM VS) : z.A.XL ≠ z.CE := S.ne21.2.2.1.2.2.1
theorem LawS.nXI {w z cC cM VS} (S : LawS w z cC cM VS) : z.A.XL ≠ z.SI := S.ne21.2.2.1.2.2.2
theorem LawS.nTS {w z cC cM VS} (S : LawS w z cC cM VS) : z.TO ≠ z.ST := S.ne21.2.2.2.1.1
theorem LawS.nTC {w z cC cM VS} (S : LawS w z cC cM VS) : z.TO ≠ z.CE := S.ne21.2.2.2.1.2.1
theorem LawS.nTI {w z cC cM VS} (S : LawS w z cC cM VS) : z.TO ≠ z.SI := S.ne21.2.2.2.1.2.2
theorem LawS.nSC {w z cC cM VS} (S : LawS w z cC cM VS) : z.ST ≠ z.CE := S.ne21.2.2.2.2.1.1
theorem LawS.nSI {w z cC cM VS} (S : LawS w z cC cM VS) : z.ST ≠ z.SI := S.ne21.2.2.2.2.1.2
theorem LawS.nCI {w z cC cM VS} (S : LawS w z cC cM VS) : z.CE ≠ z.SI := S.ne21.2.2.2.2.2
theorem Row.lens {l hs to st ce si k T S} (R : Row l hs to st ce si k T S) (hk : k ≤ 6) : hs.length ≤ 13 ∧ to.length ≤ 7 ∧ st.length ≤ 6 ∧ ce.length ≤ 7 ∧ si.length ≤ 6 := by
  have a := R.lH; have b := R.lTO; have c := R.lST; have d := R.lCE; have e := R.lSI
  have m : 2 * k ≤ 12 := Nat.mul_le_mul_left 2 hk
  exact ⟨by rw [a]; exact Nat.succ_le_succ m, by rw [b]; exact Nat.succ_le_succ hk, by rw [c]; exact hk, by rw [d]; exact Nat.succ_le_succ hk, by rw [e]; exact hk⟩
theorem Row.le1 {l hs to st ce si k T S} (R : Row l hs to st ce si k T S) (hk : k ≤ 6) : hs.length ≤ 13 := (R.lens hk).1
theorem Row.le2 {l hs to st ce si k T S} (R : Row l hs to st ce si k T S) (hk : k ≤ 6) : to.length ≤ 7 := (R.lens hk).2.1
theorem Row.le3 {l hs to st ce si k T S} (R : Row l hs to st ce si k T S) (hk : k ≤ 6) : st.length ≤ 6 := (R.lens hk).2.2.1
theorem Row.le4 {l hs to st ce si k T S} (R : Row l hs to st ce si k T S) (hk : k ≤ 6) : ce.length ≤ 7 := (R.lens hk).2.2.2.1
theorem Row.le5 {l hs to st ce si k T S} (R : Row l hs to st ce si k T S) (hk : k ≤ 6) : si.length ≤ 6 := (R.lens hk).2.2.2.2
/-! L4 -/
local macro_rules | `(tactic| walk_at "execs cons") => `(tactic| (k_here; first | k_gentoks | ((with_reducible refine wpAny_execs_cons ?_); try dsimp only)))
local macro_rules | `(tactic| k_ne) => `(tactic| first | with_reducible assumption | (refine Ne.symm ?_; with_reducible assumption) | exact neL (by with_reducible assumption) | exact neG (by with_reducible assumption) | exact neA (by with_reducible assumption) (by walk_at "in") | exact neB (by with_reducible assumption) (by walk_at "in"))
local macro_rules | `(tactic| k_upd) => `(tactic| first | exact Del.head | (refine' Del.tail ?a; (case a => k_upd)))
local macro_rules | `(tactic| walk_at "d35") => `(tactic| skip)
local macro_rules | `(tactic| walk_at "d36") => `(tactic| skip)
theorem pBt {SI CE c z P H ST TO XL cC : Addr × Obj} {VS : List (Addr × Obj)} : ∀ q ∈ P :: H :: XL :: TO :: ST :: CE :: SI :: c :: z :: cC :: VS, q ∈ SI :: CE :: c :: z :: P :: H :: ST :: TO :: XL :: cC :: VS := by
  repeat (first | exact sub_self | refine List.forall_mem_cons.mpr ⟨by repeat (first | exact List.Mem.head _ | refine List.Mem.tail _ ?_), ?_⟩ | refine sub_tail ?_)
theorem pAt {XL H X Xd M Md CO AN TL Y D P SS C1 C2 : Addr × Obj} : ∀ q ∈ TL :: AN :: XL :: H :: CO :: P :: C1 :: C2 :: X :: Xd :: M :: Md :: Y :: D :: SS :: [], q ∈ [XL, H, X, Xd, M, Md, CO, AN, TL, Y, D, P, SS, C1, C2] := by
  repeat (first | exact sub_self | refine List.forall_mem_cons.mpr ⟨by repeat (first | exact List.Mem.head _ | refine List.Mem.tail _ ?_), ?_⟩ | refine sub_tail ?_)
noncomputable abbrev mB (z : LD) (SC : Addr) : Str → Option Value := fun y => if y = Str.ofString "sides" then some (.ref z.SI) else if y = Str.ofString "steps" then some (.ref z.ST) else if y = Str.ofString "totals" then some (.ref z.TO) else if y = Str.ofString "lacks" then some (.ref z.LK) else if y = Str.ofString "names" then some (.ref z.A.Y) else if y = Str.ofString "pool" then some (.ref z.P) else if y = Str.ofString "script" then some (.ref SC) else none
theorem pA4 {D0 D1 D2 D3 TL AN XL H CO P C1 C2 X Xd M Md Y D SS : Addr × Obj} : ∀ q ∈ P :: H :: XL :: C1 :: [D0, D1, D2, D3, TL, AN, CO, C2, X, Xd, M, Md, Y, D, SS], q ∈ [D0, D1, D2, D3, TL, AN, XL, H, CO, P, C1, C2, X, Xd, M, Md, Y, D, SS] := by
  repeat (first | exact sub_self | refine List.forall_mem_cons.mpr ⟨by repeat (first | exact List.Mem.head _ | refine List.Mem.tail _ ?_), ?_⟩ | refine sub_tail ?_)
theorem partA (w : World) (vs : List Value) (ns : List Int) (SC cC cM : Addr) (oC oM : Obj) (mean : ExcName → Option Value) (mg mb : Str → Option Value) (dp un : Nat) (gd : Option (List Code)) (a : Addr) (ccd : Value) (A₀ : Around) (base h₀ : Heap) (L : Addr) (s : Shared) (Q : Flow → Shared → Prop) (E : Value → Shared → Prop)
    (B : Below A₀ base [] h₀) (F : Fr h₀ L s.heap (fun y => if y = Str.ofString "script" then some (.ref SC) else none)) (XX : (Mine.K w.params).In h₀) (N : News h₀ L s.heap [(cC, oC), (cM, oM)]) (TT : Top VW LO mean mg mb h₀) (hd : dp + 200 < recursionLimit) (hu : un + 8000 < cLine)
    (hL : h₀.IsList SC vs.toArray) (hI : IntsAre vs ns) (hl : ns.length ≤ 63) (hoC : oC.data = .cell none) (hoM : oM.data = .cell none) (hlt : cM < cC)
    (cont : ∀ (z : LD) (x : DrawD) (hs xs to st ce si : List Value) (n : LN) (VS : List (Addr × Obj)) (T S : Nat → Int) (h' : Heap) (tk' : Nat), LawS w z cC cM VS → -1 ≤ x.p → Row VS hs to st ce si 0 T S → xs.length = 1 → Fr h₀ L h' (mB z SC) → News h₀ L h' (lawL z x hs xs to st ce si n VS) →
      wpAny (model PySem.Challenge.rw_sa0162_01.row.prog w) (lawTop dp un gd L a ccd cC cM) (execs (c55b.drop 8) (lawEnv L a ccd cC cM)) Q E { s with heap := h', toks := tk' }) :
    wpAny (model PySem.Challenge.rw_sa0162_01.row.prog w) (lawTop dp un gd L a ccd cC cM) (execs c55b (lawEnv L a ccd cC cM)) Q E s := by
  have hlt' := ltN hlt
  revert XX; k_fill; intro XX
  (try (refine foldAE ?_; intro envT AT))
  repeat' (((fail_if_success (with_reducible show wpAny _ _ (call (Value.ref 88) _ _) _ _ _)); (fail_if_success (with_reducible show wpAny _ _ (execs (Stmt.For _ _ _ _ _ :: _) _) _ _ _))); first | (k_here; (with_reducible show wpAny _ _ (call (Value.ref 699) _ _) _ _ _); k_dflt (refine' Cut.uz (by k_asm) (by k_asm) (by k_asm) (by k_asm) (by refine' Del.sub2 (by k_upd) (by k_upd)) (by k_asm) (by walk_at "R") (by ktr_room) (by ktr_units) (lcell _ _ _ _ _ _ _ _ _ _ _ _ _ _ _ _ (by walk_at "M") (by walk_at "A") (by walk_at "A") (by walk_at "N") (by walk_at "M") (by walk_at "N") (by walk_at "E") (by walk_at "L")) ?_; k_whole; intro x9z h9z tk9z p9z F9z N9z; ((first | (refine andNest p9z ?_; (try clear p9z); intro pa9z pb9z pc9z pd9z pe9z pf9z pg9z ph9z pi9z) | obtain ⟨⟨pa9z, pb9z, pc9z⟩, ⟨pd9z, pe9z, pf9z⟩, pg9z, ph9z, pi9z⟩ := p9z)); (replace pa9z := ltN pa9z); (replace pb9z := ltN pb9z); (replace pd9z := ltN pd9z); (replace pe9z := ltN pe9z); (try k_lt pc9z); (try k_lt pf9z); (try dsimp only at N9z); (try dsimp only); (try k_sweep); (try k_fold))) | (k_here; (with_reducible show wpAny _ _ (call (Value.ref 674) _ _) _ _ _); k_dflt (refine' Cut.uz (by k_asm) (by k_asm) (by k_asm) (by k_asm) sub_self (by k_asm) (by walk_at "R") (by ktr_room) (by ktr_units) (areas _ _ _ _) ?_; k_whole; intro x9z h9z tk9z p9z F9z N9z; ((first | (refine and7 p9z ?_; (try clear p9z); intro pz9z pa9z pb9z pc9z pd9z pe9z pf9z) | obtain ⟨pz9z, pa9z, pb9z, pc9z, pd9z, pe9z, pf9z⟩ := p9z)); (try k_lt pa9z); (replace pb9z := ltN pb9z); (replace pc9z := ltN pc9z); (replace pd9z := ltN pd9z); (replace pe9z := ltN pe9z); (replace pf9z := ltN pf9z); (have aM9z := alUp (o := emptyDict) pa9z pb9z); (have aXd9z := alUp (o := emptyDict) aM9z pc9z); (have aX9z := alUp (o := emptyDict) aXd9z pd9z); (have aH9z := alUp (o := emptyDict) aX9z pe9z); (have aL9z := alUp (o := emptyDict) aH9z pf9z); (try dsimp only at N9z); (try dsimp only); (try k_sweep); (try k_fold))) | (k_here; (with_reducible show wpAny _ _ (call (Value.ref 154) _ _) _ _ _); k_dflt (refine' Cut.uz (by k_asm) (by k_asm) (by k_asm) (by k_asm) sub_self (by k_asm) (by walk_at "R") (by ktr_room) (by ktr_units) (symbols _ _) ?_; k_whole; intro x9z h9z tk9z p9z F9z N9z; ((first | (refine and9 p9z ?_; (try clear p9z); intro pa9z pb9z pc9z pd9z pe9z pf9z pg9z ph9z pi9z) | obtain ⟨pa9z, pb9z, pc9z, pd9z, pe9z, pf9z, pg9z, ph9z, pi9z⟩ := p9z)); (try k_lt pa9z); (replace pb9z := ltN pb9z); (replace pc9z := ltN pc9z); (replace pd9z := ltN pd9z); (have aY9z := alUp (o := emptyDict) pa9z pb9z); (have aT9z := alUp (o := emptyDict) aY9z pc9z); (have aN9z := alUp (o := emptyDict) aT9z pd9z); (try dsimp only at N9z); (try dsimp only); (try k_sweep); (try k_fold))) | (k_here; (with_reducible show wpAny _ _ (call (Value.ref 692) _ _) _ _ _); k_dflt (refine' whole_use (by k_asm) (by k_asm) (by k_asm) (by k_asm) (by k_asm) (by walk_at "R") (by k_updF) (by walk_at "M") (by walk_at "N") (by walk_at "E") (by ktr_room) (by ktr_units) ?_; k_whole; intro x9z h9z tk9z p9z F9z N9z; ((first | (refine and2 p9z ?_; (try clear p9z); intro pa9z pc9z) | obtain ⟨pa9z, pc9z⟩ := p9z)); (try dsimp only at N9z); walk_at "Z")) | (k_here; (with_reducible show wpAny _ _ (call (Value.ref 685) _ _) _ _ _); k_dflt (refine' draw_use (by k_asm) (by k_asm) (by k_asm) (by k_asm) (by k_asm) (by walk_at "R") (by k_updF) (by walk_at "M") (by walk_at "N") (by walk_at "E") (by walk_at "E") (by walk_at "O") (by ktr_room) (by ktr_units) ?_; k_whole; intro x9z h9z tk9z p9z F9z N9z; ((first | (refine and3 p9z ?_; (try clear p9z); intro pa9z pb9z pc9z) | obtain ⟨pa9z, pb9z, pc9z⟩ := p9z)); (try dsimp only at N9z); walk_at "Z")) | (k_unfold; (try dsimp only)) | (k_end; wrow_close) | walk1 | (dsimp only; walk1) | (leave1; try dsimp only) | fail "no step")
  all_goals (have F9z := True.intro; have N9z := True.intro; have aH9z := True.intro; have aL9z := True.intro; have aM9z := True.intro; have aN9z := True.intro; have aT9z := True.intro; have aX9z := True.intro; have aXd9z := True.intro; have aY9z := True.intro; have h9z := True.intro; have p9z := True.intro; have pa9z := True.intro; have pb9z := True.intro; have pc9z := True.intro; have pd9z := True.intro; have pe9z := True.intro; have pf9z := True.intro; have pg9z := True.intro; have ph9z := True.intro; have pi9z := True.intro; have pz9z := True.intro; have tk9z := True.intro; have x9z := True.intro)
  rename_i SS ws h5 hI9 hC9 hL9 lSS P h4 lP h3 tk1 y h91 tk91 pe pf pg ph pi pa pb pc pd aY aT aN h2 tk2 CO h1 lCO ar h92 tk92 pz qa qb qc qd qe qf aM aXd aX aH aL h0 oM' F1 N1 dM
  clear F9z N9z aH9z aL9z aM9z aN9z aT9z aX9z aXd9z aY9z h9z p9z pa9z pb9z pc9z pd9z pe9z pf9z pg9z ph9z pi9z pz9z tk9z x9z
  refine' Cut.use (atom w y.Y y.S y.oN y.kvs _ _ y.ts y.nt _ ?z1 ?z2 ph pe ?z5 ?z6 ?z7 ?z8 ?z9 pi) B F1 XX (fun q hq => N1 q (pAt q hq)) sub_self TT rfl ?z10 ?z11 ?_
  (case z1 => k_mem)
  (case z2 => k_mem)
  (case z5 => repeat (first | exact List.forall_mem_nil _ | refine List.forall_mem_cons.mpr ⟨by k_ne, ?_⟩))
  (case z6 => repeat (first | exact List.forall_mem_nil _ | refine List.forall_mem_cons.mpr ⟨by k_ne, ?_⟩))
  (case z7 => k_ne)
  (case z8 => omega)
  (case z9 => omega)
  (case z10 => ktr_room)
  (case z11 => ktr_units)
  intro z h93 tk93 pz3 F3 N3
  (first | (refine and6 pz3 ?_; (try clear pz3); intro z1 z2 z3 z4 z5 z6) | obtain ⟨z1, z2, z3, z4, z5, z6⟩ := pz3)
  (try dsimp only at N3)
  clear N1 F1
  have hPool : Pool SS [(ar.A.X, instObj 402 ar.A.Xd), (ar.A.Xd, storeD w.params ar.A.Y ar.A.H ar.A.T ar.A.R ar.A.τ ar.A.n1), (ar.A.M, instObj 674 ar.A.Md), (ar.A.Md, areasD w.params ar.A), (y.Y, instObj 154 y.S.D), (y.S.D, symsD w.params y.S), (SS, listOf ws.toArray 0)] := ⟨ws, List.take 63 ns, 0, by repeat (first | exact List.Mem.head _ | refine List.Mem.tail _ ?_), hI9, List.length_take_le 63 ns⟩
  have hSP : SS ≠ P := by k_ne
  have hMach : Mach w.params ar.A [(ar.A.X, instObj 402 ar.A.Xd), (ar.A.Xd, storeD w.params ar.A.Y ar.A.H ar.A.T ar.A.R ar.A.τ ar.A.n1), (ar.A.M, instObj 674 ar.A.Md), (ar.A.Md, areasD w.params ar.A), (y.Y, instObj 154 y.S.D), (y.S.D, symsD w.params y.S), (SS, listOf ws.toArray 0)] :=
    ⟨by repeat (first | exact List.Mem.head _ | refine List.Mem.tail _ ?_), by repeat (first | exact List.Mem.head _ | refine List.Mem.tail _ ?_), by repeat (first | exact List.Mem.head _ | refine List.Mem.tail _ ?_), by repeat (first | exact List.Mem.head _ | refine List.Mem.tail _ ?_), ⟨by k_ne, by k_ne, by k_ne, by k_ne⟩, ⟨by k_ne, by k_ne, by k_ne, by k_ne⟩, by k_ne⟩
  (try dsimp only)
  (try (refine foldQ ?_; intro qkT2))
  repeat' (((fail_if_success (with_reducible show wpAny _ _ (call (Value.ref 692) _ _) _ _ _)); (fail_if_success (with_reducible show wpAny _ _ (execs (Stmt.For _ _ _ _ _ :: _) _) _ _ _))); first | (k_here; (with_reducible show wpAny _ _ (call (Value.ref 699) _ _) _ _ _); k_dflt (refine' Cut.uz (by k_asm) (by k_asm) (by k_asm) (by k_asm) (by refine' Del.sub2 (by k_upd) (by k_upd)) (by k_asm) (by walk_at "R") (by ktr_room) (by ktr_units) (lcell _ _ _ _ _ _ _ _ _ _ _ _ _ _ _ _ (by walk_at "M") (by walk_at "A") (by walk_at "A") (by walk_at "N") (by walk_at "M") (by walk_at "N") (by walk_at "E") (by walk_at "L")) ?_; k_whole; intro x9z h9z tk9z p9z F9z N9z; ((first | (refine andNest p9z ?_; (try clear p9z); intro pa9z pb9z pc9z pd9z pe9z pf9z pg9z ph9z pi9z) | obtain ⟨⟨pa9z, pb9z, pc9z⟩, ⟨pd9z, pe9z, pf9z⟩, pg9z, ph9z, pi9z⟩ := p9z)); (replace pa9z := ltN pa9z); (replace pb9z := ltN pb9z); (replace pd9z := ltN pd9z); (replace pe9z := ltN pe9z); (try k_lt pc9z); (try k_lt pf9z); (try dsimp only at N9z); (try dsimp only); (try k_sweep); (try k_fold))) | (k_here; (with_reducible show wpAny _ _ (call (Value.ref 674) _ _) _ _ _); k_dflt (refine' Cut.uz (by k_asm) (by k_asm) (by k_asm) (by k_asm) sub_self (by k_asm) (by walk_at "R") (by ktr_room) (by ktr_units) (areas _ _ _ _) ?_; k_whole; intro x9z h9z tk9z p9z F9z N9z; ((first | (refine and7 p9z ?_; (try clear p9z); intro pz9z pa9z pb9z pc9z pd9z pe9z pf9z) | obtain ⟨pz9z, pa9z, pb9z, pc9z, pd9z, pe9z, pf9z⟩ := p9z)); (try k_lt pa9z); (replace pb9z := ltN pb9z); (replace pc9z := ltN pc9z); (replace pd9z := ltN pd9z); (replace pe9z := ltN pe9z); (replace pf9z := ltN pf9z); (have aM9z := alUp (o := emptyDict) pa9z pb9z); (have aXd9z := alUp (o := emptyDict) aM9z pc9z); (have aX9z := alUp (o := emptyDict) aXd9z pd9z); (have aH9z := alUp (o := emptyDict) aX9z pe9z); (have aL9z := alUp (o := emptyDict) aH9z pf9z); (try dsimp only at N9z); (try dsimp only); (try k_sweep); (try k_fold))) | (k_here; (with_reducible show wpAny _ _ (call (Value.ref 154) _ _) _ _ _); k_dflt (refine' Cut.uz (by k_asm) (by k_asm) (by k_asm) (by k_asm) sub_self (by k_asm) (by walk_at "R") (by ktr_room) (by ktr_units) (symbols _ _) ?_; k_whole; intro x9z h9z tk9z p9z F9z N9z; ((first | (refine and9 p9z ?_; (try clear p9z); intro pa9z pb9z pc9z pd9z pe9z pf9z pg9z ph9z pi9z) | obtain ⟨pa9z, pb9z, pc9z, pd9z, pe9z, pf9z, pg9z, ph9z, pi9z⟩ := p9z)); (try k_lt pa9z); (replace pb9z := ltN pb9z); (replace pc9z := ltN pc9z); (replace pd9z := ltN pd9z); (have aY9z := alUp (o := emptyDict) pa9z pb9z); (have aT9z := alUp (o := emptyDict) aY9z pc9z); (have aN9z := alUp (o := emptyDict) aT9z pd9z); (try dsimp only at N9z); (try dsimp only); (try k_sweep); (try k_fold))) | (k_here; (with_reducible show wpAny _ _ (call (Value.ref 692) _ _) _ _ _); k_dflt (refine' whole_use (by k_asm) (by k_asm) (by k_asm) (by k_asm) (by k_asm) (by walk_at "R") (by k_updF) (by walk_at "M") (by walk_at "N") (by walk_at "E") (by ktr_room) (by ktr_units) ?_; k_whole; intro x9z h9z tk9z p9z F9z N9z; ((first | (refine and2 p9z ?_; (try clear p9z); intro pa9z pc9z) | obtain ⟨pa9z, pc9z⟩ := p9z)); (try dsimp only at N9z); walk_at "Z")) | (k_here; (with_reducible show wpAny _ _ (call (Value.ref 685) _ _) _ _ _); k_dflt (refine' draw_use (by k_asm) (by k_asm) (by k_asm) (by k_asm) (by k_asm) (by walk_at "R") (by k_updF) (by walk_at "M") (by walk_at "N") (by walk_at "E") (by walk_at "E") (by walk_at "O") (by ktr_room) (by ktr_units) ?_; k_whole; intro x9z h9z tk9z p9z F9z N9z; ((first | (refine and3 p9z ?_; (try clear p9z); intro pa9z pb9z pc9z) | obtain ⟨pa9z, pb9z, pc9z⟩ := p9z)); (try dsimp only at N9z); walk_at "Z")) | (k_unfold; (try dsimp only)) | (k_end; wrow_close) | walk1 | (dsimp only; walk1) | (leave1; try dsimp only) | fail "no step")
  all_goals (have F9z := True.intro; have N9z := True.intro; have aH9z := True.intro; have aL9z := True.intro; have aM9z := True.intro; have aN9z := True.intro; have aT9z := True.intro; have aX9z := True.intro; have aXd9z := True.intro; have aY9z := True.intro; have h9z := True.intro; have p9z := True.intro; have pa9z := True.intro; have pb9z := True.intro; have pc9z := True.intro; have pd9z := True.intro; have pe9z := True.intro; have pf9z := True.intro; have pg9z := True.intro; have ph9z := True.intro; have pi9z := True.intro; have pz9z := True.intro; have tk9z := True.intro; have x9z := True.intro)
  rename_i tkz D3 g1 e3 D2 g2 e2 D1 g3 e1 D0 g4 e0 g5 F9 N9
  clear F9z N9z aH9z aL9z aM9z aN9z aT9z aX9z aXd9z aY9z h9z p9z pa9z pb9z pc9z pd9z pe9z pf9z pg9z ph9z pi9z pz9z tk9z x9z
  have away : ∀ {P : Addr} {l : List (Addr × Obj)} {p : Addr × Obj}, p.1 ≠ P → (∀ q ∈ l, q.1 ≠ P) → ∀ q ∈ p :: l, q.1 ≠ P := fun g a q hq => (List.mem_cons.mp hq).elim (fun e => e ▸ g) (a q)
  have N0 : News h₀ L g5 ((P, W.listOf (List.toArray [Value.ref SS, Value.int 0 (s.toks + 1), Value.int (-1) (s.toks + 1 + 1 + 1), Value.int 0 (s.toks + 1 + 1 + 1 + 1)]) 0) :: (ar.A.H, W.listOf (List.toArray []) ar.nH) :: (ar.A.XL, W.listOf (List.toArray [Value.ref 201]) ar.nX) :: (cC, oC) :: [(D0, { cls := Value.type "tuple", data := Data.seq #[Value.str (Str.ofString "s") tkz, Value.int 16 245, Value.ref D1] }), (D1, { cls := Value.type "tuple", data := Data.seq #[Value.ref D3, Value.ref D2] }), (D2, { cls := Value.type "tuple", data := Data.seq #[Value.str (Str.ofString "a") tk93, Value.int 25 241] }), (D3, { cls := Value.type "tuple", data := Data.seq #[Value.str (Str.ofString "a") (tkz + 1), Value.int z.v z.t] }), (y.S.TL, W.listOf z.ts.toArray z.n), (y.S.AN, z.o), (CO, W.listOf #[] 0), (cM, oM'), (ar.A.X, instObj 402 ar.A.Xd), (ar.A.Xd, storeD w.params ar.A.Y ar.A.H ar.A.T ar.A.R ar.A.τ ar.A.n1), (ar.A.M, instObj 674 ar.A.Md), (ar.A.Md, areasD w.params ar.A), (y.Y, instObj 154 y.S.D), (y.S.D, symsD w.params y.S), (SS, W.listOf ws.toArray 0)]) := fun q hq => N9 q (pA4 q hq)
  have v1 : ∀ p ∈ ([(D0, { cls := Value.type "tuple", data := Data.seq #[Value.str (Str.ofString "s") tkz, Value.int 16 245, Value.ref D1] }), (D1, { cls := Value.type "tuple", data := Data.seq #[Value.ref D3, Value.ref D2] }), (D2, { cls := Value.type "tuple", data := Data.seq #[Value.str (Str.ofString "a") tk93, Value.int 25 241] }), (D3, { cls := Value.type "tuple", data := Data.seq #[Value.str (Str.ofString "a") (tkz + 1), Value.int z.v z.t] }), (y.S.TL, W.listOf z.ts.toArray z.n), (y.S.AN, z.o), (CO, W.listOf #[] 0), (cM, oM'), (ar.A.X, instObj 402 ar.A.Xd), (ar.A.Xd, storeD w.params ar.A.Y ar.A.H ar.A.T ar.A.R ar.A.τ ar.A.n1), (ar.A.M, instObj 674 ar.A.Md), (ar.A.Md, areasD w.params ar.A), (y.Y, instObj 154 y.S.D), (y.S.D, symsD w.params y.S), (SS, W.listOf ws.toArray 0)] : List (Addr × Obj)), p.1 ≠ P := by repeat (first | exact List.forall_mem_nil _ | refine away (by dsimp only; k_ne) ?_)
  have v2 : ∀ p ∈ ([(D0, { cls := Value.type "tuple", data := Data.seq #[Value.str (Str.ofString "s") tkz, Value.int 16 245, Value.ref D1] }), (D1, { cls := Value.type "tuple", data := Data.seq #[Value.ref D3, Value.ref D2] }), (D2, { cls := Value.type "tuple", data := Data.seq #[Value.str (Str.ofString "a") tk93, Value.int 25 241] }), (D3, { cls := Value.type "tuple", data := Data.seq #[Value.str (Str.ofString "a") (tkz + 1), Value.int z.v z.t] }), (y.S.TL, W.listOf z.ts.toArray z.n), (y.S.AN, z.o), (CO, W.listOf #[] 0), (cM, oM'), (ar.A.X, instObj 402 ar.A.Xd), (ar.A.Xd, storeD w.params ar.A.Y ar.A.H ar.A.T ar.A.R ar.A.τ ar.A.n1), (ar.A.M, instObj 674 ar.A.Md), (ar.A.Md, areasD w.params ar.A), (y.Y, instObj 154 y.S.D), (y.S.D, symsD w.params y.S), (SS, W.listOf ws.toArray 0)] : List (Addr × Obj)), p.1 ≠ ar.A.H := by repeat (first | exact List.forall_mem_nil _ | refine away (by dsimp only; k_ne) ?_)
  have v3 : ∀ p ∈ ([(D0, { cls := Value.type "tuple", data := Data.seq #[Value.str (Str.ofString "s") tkz, Value.int 16 245, Value.ref D1] }), (D1, { cls := Value.type "tuple", data := Data.seq #[Value.ref D3, Value.ref D2] }), (D2, { cls := Value.type "tuple", data := Data.seq #[Value.str (Str.ofString "a") tk93, Value.int 25 241] }), (D3, { cls := Value.type "tuple", data := Data.seq #[Value.str (Str.ofString "a") (tkz + 1), Value.int z.v z.t] }), (y.S.TL, W.listOf z.ts.toArray z.n), (y.S.AN, z.o), (CO, W.listOf #[] 0), (cM, oM'), (ar.A.X, instObj 402 ar.A.Xd), (ar.A.Xd, storeD w.params ar.A.Y ar.A.H ar.A.T ar.A.R ar.A.τ ar.A.n1), (ar.A.M, instObj 674 ar.A.Md), (ar.A.Md, areasD w.params ar.A), (y.Y, instObj 154 y.S.D), (y.S.D, symsD w.params y.S), (SS, W.listOf ws.toArray 0)] : List (Addr × Obj)), p.1 ≠ ar.A.XL := by repeat (first | exact List.forall_mem_nil _ | refine away (by dsimp only; k_ne) ?_)
  have v4 : ∀ p ∈ ([(D0, { cls := Value.type "tuple", data := Data.seq #[Value.str (Str.ofString "s") tkz, Value.int 16 245, Value.ref D1] }), (D1, { cls := Value.type "tuple", data := Data.seq #[Value.ref D3, Value.ref D2] }), (D2, { cls := Value.type "tuple", data := Data.seq #[Value.str (Str.ofString "a") tk93, Value.int 25 241] }), (D3, { cls := Value.type "tuple", data := Data.seq #[Value.str (Str.ofString "a") (tkz + 1), Value.int z.v z.t] }), (y.S.TL, W.listOf z.ts.toArray z.n), (y.S.AN, z.o), (CO, W.listOf #[] 0), (cM, oM'), (ar.A.X, instObj 402 ar.A.Xd), (ar.A.Xd, storeD w.params ar.A.Y ar.A.H ar.A.T ar.A.R ar.A.τ ar.A.n1), (ar.A.M, instObj 674 ar.A.Md), (ar.A.Md, areasD w.params ar.A), (y.Y, instObj 154 y.S.D), (y.S.D, symsD w.params y.S), (SS, W.listOf ws.toArray 0)] : List (Addr × Obj)), p.1 ≠ cC := by repeat (first | exact List.forall_mem_nil _ | refine away (by dsimp only; k_ne) ?_)
  have o0 : @LT.lt Nat _ cC P := ltA (by with_reducible assumption) (by walk_at "in")
  have o1 : @LT.lt Nat _ P ar.A.H := ltA (by with_reducible assumption) (by walk_at "in")
  have o2 : @LT.lt Nat _ ar.A.H ar.A.XL := qf
  have hM0 : Mach w.params ar.A [(D0, { cls := Value.type "tuple", data := Data.seq #[Value.str (Str.ofString "s") tkz, Value.int 16 245, Value.ref D1] }), (D1, { cls := Value.type "tuple", data := Data.seq #[Value.ref D3, Value.ref D2] }), (D2, { cls := Value.type "tuple", data := Data.seq #[Value.str (Str.ofString "a") tk93, Value.int 25 241] }), (D3, { cls := Value.type "tuple", data := Data.seq #[Value.str (Str.ofString "a") (tkz + 1), Value.int z.v z.t] }), (y.S.TL, W.listOf z.ts.toArray z.n), (y.S.AN, z.o), (CO, W.listOf #[] 0), (cM, oM'), (ar.A.X, instObj 402 ar.A.Xd), (ar.A.Xd, storeD w.params ar.A.Y ar.A.H ar.A.T ar.A.R ar.A.τ ar.A.n1), (ar.A.M, instObj 674 ar.A.Md), (ar.A.Md, areasD w.params ar.A), (y.Y, instObj 154 y.S.D), (y.S.D, symsD w.params y.S), (SS, W.listOf ws.toArray 0)] := hMach.mono (fun p hp => List.mem_append_right [_, _, _, _, _, _, _, _] hp)
  have hP0 : Pool SS [(D0, { cls := Value.type "tuple", data := Data.seq #[Value.str (Str.ofString "s") tkz, Value.int 16 245, Value.ref D1] }), (D1, { cls := Value.type "tuple", data := Data.seq #[Value.ref D3, Value.ref D2] }), (D2, { cls := Value.type "tuple", data := Data.seq #[Value.str (Str.ofString "a") tk93, Value.int 25 241] }), (D3, { cls := Value.type "tuple", data := Data.seq #[Value.str (Str.ofString "a") (tkz + 1), Value.int z.v z.t] }), (y.S.TL, W.listOf z.ts.toArray z.n), (y.S.AN, z.o), (CO, W.listOf #[] 0), (cM, oM'), (ar.A.X, instObj 402 ar.A.Xd), (ar.A.Xd, storeD w.params ar.A.Y ar.A.H ar.A.T ar.A.R ar.A.τ ar.A.n1), (ar.A.M, instObj 674 ar.A.Md), (ar.A.Md, areasD w.params ar.A), (y.Y, instObj 154 y.S.D), (y.S.D, symsD w.params y.S), (SS, W.listOf ws.toArray 0)] := hPool.mono (fun p hp => List.mem_append_right [_, _, _, _, _, _, _, _] hp)
  have hS0 : ∃ i ti S oN kvs, Syms w ar.A.Y i ti S oN kvs [(D0, { cls := Value.type "tuple", data := Data.seq #[Value.str (Str.ofString "s") tkz, Value.int 16 245, Value.ref D1] }), (D1, { cls := Value.type "tuple", data := Data.seq #[Value.ref D3, Value.ref D2] }), (D2, { cls := Value.type "tuple", data := Data.seq #[Value.str (Str.ofString "a") tk93, Value.int 25 241] }), (D3, { cls := Value.type "tuple", data := Data.seq #[Value.str (Str.ofString "a") (tkz + 1), Value.int z.v z.t] }), (y.S.TL, W.listOf z.ts.toArray z.n), (y.S.AN, z.o), (CO, W.listOf #[] 0), (cM, oM'), (ar.A.X, instObj 402 ar.A.Xd), (ar.A.Xd, storeD w.params ar.A.Y ar.A.H ar.A.T ar.A.R ar.A.τ ar.A.n1), (ar.A.M, instObj 674 ar.A.Md), (ar.A.Md, areasD w.params ar.A), (y.Y, instObj 154 y.S.D), (y.S.D, symsD w.params y.S), (SS, W.listOf ws.toArray 0)] ∧ Lacks [(D0, { cls := Value.type "tuple", data := Data.seq #[Value.str (Str.ofString "s") tkz, Value.int 16 245, Value.ref D1] }), (D1, { cls := Value.type "tuple", data := Data.seq #[Value.ref D3, Value.ref D2] }), (D2, { cls := Value.type "tuple", data := Data.seq #[Value.str (Str.ofString "a") tk93, Value.int 25 241] }), (D3, { cls := Value.type "tuple", data := Data.seq #[Value.str (Str.ofString "a") (tkz + 1), Value.int z.v z.t] }), (y.S.TL, W.listOf z.ts.toArray z.n), (y.S.AN, z.o), (CO, W.listOf #[] 0), (cM, oM'), (ar.A.X, instObj 402 ar.A.Xd), (ar.A.Xd, storeD w.params ar.A.Y ar.A.H ar.A.T ar.A.R ar.A.τ ar.A.n1), (ar.A.M, instObj 674 ar.A.Md), (ar.A.Md, areasD w.params ar.A), (y.Y, instObj 154 y.S.D), (y.S.D, symsD w.params y.S), (SS, W.listOf ws.toArray 0)] D0 i := ⟨z.v, z.t, y.S, z.o, z.kvs, ⟨by rw [pz]; (repeat (first | exact List.Mem.head _ | refine List.Mem.tail _ ?_)), by repeat (first | exact List.Mem.head _ | refine List.Mem.tail _ ?_), by repeat (first | exact List.Mem.head _ | refine List.Mem.tail _ ?_), z3, pe, z6, z1⟩, ⟨_, _, _, _, _, _, _, _, _, _, _, _, _, .head _, .tail _ (.head _), .tail _ (.tail _ (.tail _ (.head _))), .tail _ (.tail _ (.head _))⟩⟩
  have hcM0 : (cM, oM') ∈ ([(D0, { cls := Value.type "tuple", data := Data.seq #[Value.str (Str.ofString "s") tkz, Value.int 16 245, Value.ref D1] }), (D1, { cls := Value.type "tuple", data := Data.seq #[Value.ref D3, Value.ref D2] }), (D2, { cls := Value.type "tuple", data := Data.seq #[Value.str (Str.ofString "a") tk93, Value.int 25 241] }), (D3, { cls := Value.type "tuple", data := Data.seq #[Value.str (Str.ofString "a") (tkz + 1), Value.int z.v z.t] }), (y.S.TL, W.listOf z.ts.toArray z.n), (y.S.AN, z.o), (CO, W.listOf #[] 0), (cM, oM'), (ar.A.X, instObj 402 ar.A.Xd), (ar.A.Xd, storeD w.params ar.A.Y ar.A.H ar.A.T ar.A.R ar.A.τ ar.A.n1), (ar.A.M, instObj 674 ar.A.Md), (ar.A.Md, areasD w.params ar.A), (y.Y, instObj 154 y.S.D), (y.S.D, symsD w.params y.S), (SS, W.listOf ws.toArray 0)] : List (Addr × Obj)) := by simp
  clear N9 hMach hPool e0 e1 e2 e3 z1 z2 z3 z4 z5 z6 lSS lP lCO pa pb pc pd pe pf pg ph pi qa qb qc qd qe qf hL hI hI9 away
  revert N0 v1 v2 v3 v4 hM0 hP0 hS0 hcM0
  generalize [(D0, { cls := Value.type "tuple", data := Data.seq #[Value.str (Str.ofString "s") tkz, Value.int 16 245, Value.ref D1] }), (D1, { cls := Value.type "tuple", data := Data.seq #[Value.ref D3, Value.ref D2] }), (D2, { cls := Value.type "tuple", data := Data.seq #[Value.str (Str.ofString "a") tk93, Value.int 25 241] }), (D3, { cls := Value.type "tuple", data := Data.seq #[Value.str (Str.ofString "a") (tkz + 1), Value.int z.v z.t] }), (y.S.TL, W.listOf z.ts.toArray z.n), (y.S.AN, z.o), (CO, W.listOf #[] 0), (cM, oM'), (ar.A.X, instObj 402 ar.A.Xd), (ar.A.Xd, storeD w.params ar.A.Y ar.A.H ar.A.T ar.A.R ar.A.τ ar.A.n1), (ar.A.M, instObj 674 ar.A.Md), (ar.A.Md, areasD w.params ar.A), (y.Y, instObj 154 y.S.D), (y.S.D, symsD w.params y.S), (SS, W.listOf ws.toArray 0)] = VS
  intro N0 v1 v2 v3 v4 hM0 hP0 hS0 hcM0
  have m1 := hM0.x; have m2 := hM0.xd; have m3 := hM0.m; have m4 := hM0.md
  (try (refine foldQ ?_; intro qkT3))
  repeat' (((fail_if_success (with_reducible show wpAny _ _ (call (Value.ref 88) _ _) _ _ _)); (fail_if_success (with_reducible show wpAny _ _ (execs (Stmt.For _ _ _ _ _ :: _) _) _ _ _))); first | (k_here; (with_reducible show wpAny _ _ (call (Value.ref 699) _ _) _ _ _); k_dflt (refine' Cut.uz (by k_asm) (by k_asm) (by k_asm) (by k_asm) (by refine' Del.sub2 (by k_upd) (by k_upd)) (by k_asm) (by walk_at "R") (by ktr_room) (by ktr_units) (lcell _ _ _ _ _ _ _ _ _ _ _ _ _ _ _ _ (by walk_at "M") (by walk_at "A") (by walk_at "A") (by walk_at "N") (by walk_at "M") (by walk_at "N") (by walk_at "E") (by walk_at "L")) ?_; k_whole; intro x9z h9z tk9z p9z F9z N9z; ((first | (refine andNest p9z ?_; (try clear p9z); intro pa9z pb9z pc9z pd9z pe9z pf9z pg9z ph9z pi9z) | obtain ⟨⟨pa9z, pb9z, pc9z⟩, ⟨pd9z, pe9z, pf9z⟩, pg9z, ph9z, pi9z⟩ := p9z)); (replace pa9z := ltN pa9z); (replace pb9z := ltN pb9z); (replace pd9z := ltN pd9z); (replace pe9z := ltN pe9z); (try k_lt pc9z); (try k_lt pf9z); (try dsimp only at N9z); (try dsimp only); (try k_sweep); (try k_fold))) | (k_here; (with_reducible show wpAny _ _ (call (Value.ref 674) _ _) _ _ _); k_dflt (refine' Cut.uz (by k_asm) (by k_asm) (by k_asm) (by k_asm) sub_self (by k_asm) (by walk_at "R") (by ktr_room) (by ktr_units) (areas _ _ _ _) ?_; k_whole; intro x9z h9z tk9z p9z F9z N9z; ((first | (refine and7 p9z ?_; (try clear p9z); intro pz9z pa9z pb9z pc9z pd9z pe9z pf9z) | obtain ⟨pz9z, pa9z, pb9z, pc9z, pd9z, pe9z, pf9z⟩ := p9z)); (try k_lt pa9z); (replace pb9z := ltN pb9z); (replace pc9z := ltN pc9z); (replace pd9z := ltN pd9z); (replace pe9z := ltN pe9z); (replace pf9z := ltN pf9z); (have aM9z := alUp (o := emptyDict) pa9z pb9z); (have aXd9z := alUp (o := emptyDict) aM9z pc9z); (have aX9z := alUp (o := emptyDict) aXd9z pd9z); (have aH9z := alUp (o := emptyDict) aX9z pe9z); (have aL9z := alUp (o := emptyDict) aH9z pf9z); (try dsimp only at N9z); (try dsimp only); (try k_sweep); (try k_fold))) | (k_here; (with_reducible show wpAny _ _ (call (Value.ref 154) _ _) _ _ _); k_dflt (refine' Cut.uz (by k_asm) (by k_asm) (by k_asm) (by k_asm) sub_self (by k_asm) (by walk_at "R") (by ktr_room) (by ktr_units) (symbols _ _) ?_; k_whole; intro x9z h9z tk9z p9z F9z N9z; ((first | (refine and9 p9z ?_; (try clear p9z); intro pa9z pb9z pc9z pd9z pe9z pf9z pg9z ph9z pi9z) | obtain ⟨pa9z, pb9z, pc9z, pd9z, pe9z, pf9z, pg9z, ph9z, pi9z⟩ := p9z)); (try k_lt pa9z); (replace pb9z := ltN pb9z); (replace pc9z := ltN pc9z); (replace pd9z := ltN pd9z); (have aY9z := alUp (o := emptyDict) pa9z pb9z); (have aT9z := alUp (o := emptyDict) aY9z pc9z); (have aN9z := alUp (o := emptyDict) aT9z pd9z); (try dsimp only at N9z); (try dsimp only); (try k_sweep); (try k_fold))) | (k_here; (with_reducible show wpAny _ _ (call (Value.ref 692) _ _) _ _ _); k_dflt (refine' whole_use (by k_asm) (by k_asm) (by k_asm) (by k_asm) (by k_asm) (by walk_at "R") (by k_updF) (by walk_at "M") (by walk_at "N") (by walk_at "E") (by ktr_room) (by ktr_units) ?_; k_whole; intro x9z h9z tk9z p9z F9z N9z; ((first | (refine and2 p9z ?_; (try clear p9z); intro pa9z pc9z) | obtain ⟨pa9z, pc9z⟩ := p9z)); (try dsimp only at N9z); walk_at "Z")) | (k_here; (with_reducible show wpAny _ _ (call (Value.ref 685) _ _) _ _ _); k_dflt (refine' draw_use (by k_asm) (by k_asm) (by k_asm) (by k_asm) (by k_asm) (by walk_at "R") (by k_updF) (by walk_at "M") (by walk_at "N") (by walk_at "E") (by walk_at "E") (by walk_at "O") (by ktr_room) (by ktr_units) ?_; k_whole; intro x9z h9z tk9z p9z F9z N9z; ((first | (refine and3 p9z ?_; (try clear p9z); intro pa9z pb9z pc9z) | obtain ⟨pa9z, pb9z, pc9z⟩ := p9z)); (try dsimp only at N9z); walk_at "Z")) | (k_unfold; (try dsimp only)) | (k_end; wrow_close) | walk1 | (dsimp only; walk1) | (leave1; try dsimp only) | fail "no step")
  all_goals (have F9z := True.intro; have N9z := True.intro; have aH9z := True.intro; have aL9z := True.intro; have aM9z := True.intro; have aN9z := True.intro; have aT9z := True.intro; have aX9z := True.intro; have aXd9z := True.intro; have aY9z := True.intro; have h9z := True.intro; have p9z := True.intro; have pa9z := True.intro; have pb9z := True.intro; have pc9z := True.intro; have pd9z := True.intro; have pe9z := True.intro; have pf9z := True.intro; have pg9z := True.intro; have ph9z := True.intro; have pi9z := True.intro; have pz9z := True.intro; have tk9z := True.intro; have x9z := True.intro)
  repeat clear qk
  repeat clear ek
  rename_i x1 g6 tB w1 w2 TO g7 eTO g8 tC ST g9 eST g10 tE tD c g11 tF c1 c2 c3 c4 c5 c6 c7 c8 c9 CE g12 eCE g13 oC' dC SI g14 eSI g15 F9 N9
  clear F9z N9z aH9z aL9z aM9z aN9z aT9z aX9z aXd9z aY9z h9z p9z pa9z pb9z pc9z pd9z pe9z pf9z pg9z ph9z pi9z pz9z tk9z x9z
  have hoz : c.z = c.c ∧ c.oz = tup #[.int 0 c.t1, .int 0 c.t2] c.k ∨ ∃ t t' k, c.oz = tup #[.int 5 t, .int x1.d t'] k := by
    cases hb : c.b with
    | true => exact .inr (c2 hb)
    | false => exact .inl (c3 hb)
  refine cont ⟨ar.A, P, SS, TO, ST, CE, SI, D0⟩ c.p [.ref c.z] [.ref 201] [.int x1.d x1.t] [] [.ref c.c] [] ⟨_, _, _, _, _, _⟩ ((c.c, tup #[.int 0 c.t1, .int 0 c.t2] c.k) :: (c.z, c.oz) :: (cC, oC') :: VS) (fun _ => x1.d) (fun _ => 0) _ _ ?_ c1 ?_ rfl (by have e := F9; rw [← pz] at e; exact e) (fun q hq => N9 q (pBt q hq))
  · have away : ∀ {P : Addr} {l : List (Addr × Obj)} {p : Addr × Obj}, p.1 ≠ P → (∀ q ∈ l, q.1 ≠ P) → ∀ q ∈ p :: l, q.1 ≠ P := fun g a q hq => (List.mem_cons.mp hq).elim (fun e => e ▸ g) (a q)
    have S3 : ∀ p ∈ VS, p ∈ (c.c, tup #[.int 0 c.t1, .int 0 c.t2] c.k) :: (c.z, c.oz) :: (cC, oC') :: VS := sub_tail (sub_tail (sub_tail sub_self))
    (first | (refine and7 hS0 ?_; (try clear hS0); intro i ti Sy oN kvs y1 y2) | obtain ⟨i, ti, Sy, oN, kvs, y1, y2⟩ := hS0)
    (try simp only [AllLt, and_true] at c4 c5 c6 c7 c8 c9 eTO eST eCE eSI)
    refine ⟨hM0.mono S3, hP0.mono S3, hSP, ⟨i, ti, Sy, oN, kvs, by rw [← pz] at *; exact y1.mono S3, y2.mono S3⟩, ⟨oM', S3 _ hcM0, dM⟩, ⟨oC', .tail _ (.tail _ (.head _)), dC⟩, o1, o2, ?_, ?_, ?_, ?_, ?_, ?_, ?_, ?_, ?_, ?_, ?_⟩
    all_goals first
      | (refine ltN ?_; dsimp only; omega)
      | (refine away (by refine neN ?_; dsimp only; omega) (away (by refine neN ?_; dsimp only; omega) (away (by refine neN ?_; dsimp only; omega) ?_)); first | assumption | exact allNe_lt eTO.2.2.2.2 | exact allNe_lt eST.2.2.2.2.2 | exact allNe_lt eCE.2.2.2.2.2.2.2.2 | exact allNe_lt eSI.2.2.2.2.2.2.2.2.2)
  · refine Row.start w1 ⟨⟨_, _, _, .head _⟩, hoz.imp (fun h => h.1) fun ⟨t, t', k, e⟩ => ⟨t, t', k, ?_⟩⟩
    rw [← e]; exact .tail _ (.head _)
/-! L5 -/
local macro_rules | `(tactic| walk_at "call type:range") => `(tactic| (k_here; k_dflt (first | (refine' range1_led (by k_asm) (by k_asm) ?_; k_whole) | (refine' range2_led (by k_asm) (by k_asm) ?_; k_whole)); intro r9 h9 tk9 u91 u92 u93 F9 N9 l9; (try k_lt l9); (try k_sweep)))
theorem pB1 {R P H XL TO ST CE SI : Addr × Obj} {VS : List (Addr × Obj)} : ∀ q ∈ P :: H :: XL :: TO :: ST :: CE :: SI :: R :: VS, q ∈ R :: P :: H :: XL :: TO :: ST :: CE :: SI :: VS := by
  repeat (first | exact sub_self | refine List.forall_mem_cons.mpr ⟨by repeat (first | exact List.Mem.head _ | refine List.Mem.tail _ ?_), ?_⟩ | refine sub_tail ?_)
theorem pB2 {c2 z2 P H c1 z1 I XL TO ST CE SI : Addr × Obj} {VS : List (Addr × Obj)} : ∀ q ∈ I :: P :: H :: XL :: TO :: ST :: CE :: SI :: c2 :: z2 :: c1 :: z1 :: VS, q ∈ c2 :: z2 :: P :: H :: c1 :: z1 :: I :: XL :: TO :: ST :: CE :: SI :: VS := by
  repeat (first | exact sub_self | refine List.forall_mem_cons.mpr ⟨by repeat (first | exact List.Mem.head _ | refine List.Mem.tail _ ?_), ?_⟩ | refine sub_tail ?_)
theorem mB_us {z SC} : mB z SC = fun y => if y = Str.ofString "_" then none else mB z SC y := by
  funext y
  by_cases c : y = Str.ofString "_"
  · subst c; rfl
  · rw [if_neg c]
theorem us_us {h₀ : Heap} {L : Addr} {h : Heap} {x y : Option Value} {s : Str} {m : Str → Option Value} (F : Fr h₀ L h (fun q => if q = s then x else (if q = s then y else m q))) : Fr h₀ L h (fun q => if q = s then x else m q) := by
  have e : (fun q => if q = s then x else (if q = s then y else m q)) = fun q => if q = s then x else m q := by funext q; split <;> rfl
  rw [← e]; exact F
inductive JB (w : World) (z : LD) (SC cC cM : Addr) (i : Nat) (m : Str → Option Value) (nx : List (Addr × Obj)) : Prop
  | mk (x : DrawD) (hs xs to st ce si : List Value) (n : LN) (VS : List (Addr × Obj)) (T S : Nat → Int) (u : Option Value) (h0 : nx = lawL z x hs xs to st ce si n VS) (h1 : LawS w z cC cM VS) (h2 : (1 ≤ xs.length ∧ xs.length ≤ 10)) (h3 : -1 ≤ x.p) (h4 : Row VS hs to st ce si i T S) (h5 : m = fun y => if y = Str.ofString "_" then u else mB z SC y) : JB w z SC cC cM i m nx
theorem partB (w : World) (z : LD) (x : DrawD) (hs xs to st ce si : List Value) (n : LN) (VS : List (Addr × Obj)) (T S : Nat → Int) (SC cC cM : Addr) (mean : ExcName → Option Value) (mg mb : Str → Option Value) (dp un : Nat) (gd : Option (List Code)) (a : Addr) (ccd : Value) (A₀ : Around) (base h₀ : Heap) (L : Addr) (s : Shared) (Q : Flow → Shared → Prop) (E : Value → Shared → Prop)
    (B : Below A₀ base [] h₀) (F : Fr h₀ L s.heap (mB z SC)) (XX : (Mine.K w.params).In h₀) (N : News h₀ L s.heap (lawL z x hs xs to st ce si n VS)) (TT : Top VW LO mean mg mb h₀) (hd : dp + 200 < recursionLimit) (hu : un + 8000 < cLine)
    (hE : PassesOwn (model PySem.Challenge.rw_sa0162_01.row.prog w) (lawTop dp un gd L a ccd cC cM) (lawEnv L a ccd cC cM) E) (LS : LawS w z cC cM VS) (hx : 1 ≤ xs.length ∧ xs.length ≤ 10) (hp : -1 ≤ x.p) (R : Row VS hs to st ce si 0 T S)
    (cont : ∀ (k : Nat) (u : Option Value) (x : DrawD) (hs xs to st ce si : List Value) (n : LN) (VS : List (Addr × Obj)) (T S : Nat → Int) (h' : Heap) (tk' : Nat), k ≤ 6 → LawS w z cC cM VS → (1 ≤ xs.length ∧ xs.length ≤ 10) → -1 ≤ x.p → Row VS hs to st ce si k T S → Fr h₀ L h' (fun y => if y = Str.ofString "_" then u else mB z SC y) → News h₀ L h' (lawL z x hs xs to st ce si n VS) →
      wpAny (model PySem.Challenge.rw_sa0162_01.row.prog w) (lawTop dp un gd L a ccd cC cM) (execs (c55b.drop 9) (lawEnv L a ccd cC cM)) Q E { s with heap := h', toks := tk' }) :
    wpAny (model PySem.Challenge.rw_sa0162_01.row.prog w) (lawTop dp un gd L a ccd cC cM) (execs (c55b.drop 8) (lawEnv L a ccd cC cM)) Q E s := by
  revert XX; k_fill; intro XX
  have o1 := ltN LS.o1; have o2 := ltN LS.o2; have o3 := ltN LS.o3; have o4 := ltN LS.o4; have o5 := ltN LS.o5; have o6 := ltN LS.o6
  have a1 := LS.a1; have a2 := LS.a2; have a3 := LS.a3; have a4 := LS.a4; have a5 := LS.a5; have a6 := LS.a6; have a7 := LS.a7
  have hPool := LS.pool; have hSP := LS.nSP
  (try (refine foldAE ?_; intro envT AT))
  repeat' (((fail_if_success (with_reducible show wpAny _ _ (exec (Stmt.For _ _ _ _ _) _) _ _ _)); (fail_if_success (with_reducible show wpAny _ _ (pyIter _) _ _ _))); first | (k_here; (with_reducible show wpAny _ _ (call (Value.ref 699) _ _) _ _ _); k_dflt (refine' Cut.uz (by k_asm) (by k_asm) (by k_asm) (by k_asm) (by refine' Del.sub2 (by k_upd) (by k_upd)) (by k_asm) (by walk_at "R") (by ktr_room) (by ktr_units) (lcell _ _ _ _ _ _ _ _ _ _ _ _ _ _ _ _ (by walk_at "M") (by walk_at "A") (by walk_at "A") (by walk_at "N") (by walk_at "M") (by walk_at "N") (by walk_at "E") (by walk_at "L")) ?_; k_whole; intro x9z h9z tk9z p9z F9z N9z; ((first | (refine andNest p9z ?_; (try clear p9z); intro pa9z pb9z pc9z pd9z pe9z pf9z pg9z ph9z pi9z) | obtain ⟨⟨pa9z, pb9z, pc9z⟩, ⟨pd9z, pe9z, pf9z⟩, pg9z, ph9z, pi9z⟩ := p9z)); (replace pa9z := ltN pa9z); (replace pb9z := ltN pb9z); (replace pd9z := ltN pd9z); (replace pe9z := ltN pe9z); (try k_lt pc9z); (try k_lt pf9z); (try dsimp only at N9z); (try dsimp only); (try k_sweep); (try k_fold))) | (k_here; (with_reducible show wpAny _ _ (call (Value.ref 674) _ _) _ _ _); k_dflt (refine' Cut.uz (by k_asm) (by k_asm) (by k_asm) (by k_asm) sub_self (by k_asm) (by walk_at "R") (by ktr_room) (by ktr_units) (areas _ _ _ _) ?_; k_whole; intro x9z h9z tk9z p9z F9z N9z; ((first | (refine and7 p9z ?_; (try clear p9z); intro pz9z pa9z pb9z pc9z pd9z pe9z pf9z) | obtain ⟨pz9z, pa9z, pb9z, pc9z, pd9z, pe9z, pf9z⟩ := p9z)); (try k_lt pa9z); (replace pb9z := ltN pb9z); (replace pc9z := ltN pc9z); (replace pd9z := ltN pd9z); (replace pe9z := ltN pe9z); (replace pf9z := ltN pf9z); (try dsimp only at N9z); (try dsimp only); (try k_sweep); (try k_fold))) | (k_here; (with_reducible show wpAny _ _ (call (Value.ref 154) _ _) _ _ _); k_dflt (refine' Cut.uz (by k_asm) (by k_asm) (by k_asm) (by k_asm) sub_self (by k_asm) (by walk_at "R") (by ktr_room) (by ktr_units) (symbols _ _) ?_; k_whole; intro x9z h9z tk9z p9z F9z N9z; ((first | (refine and9 p9z ?_; (try clear p9z); intro pa9z pb9z pc9z pd9z pe9z pf9z pg9z ph9z pi9z) | obtain ⟨pa9z, pb9z, pc9z, pd9z, pe9z, pf9z, pg9z, ph9z, pi9z⟩ := p9z)); (try k_lt pa9z); (replace pb9z := ltN pb9z); (replace pc9z := ltN pc9z); (replace pd9z := ltN pd9z); (try dsimp only at N9z); (try dsimp only); (try k_sweep); (try k_fold))) | (k_here; (with_reducible show wpAny _ _ (call (Value.ref 692) _ _) _ _ _); k_dflt (refine' whole_use (by k_asm) (by k_asm) (by k_asm) (by k_asm) (by k_asm) (by walk_at "R") (by k_updF) (by walk_at "M") (by walk_at "N") (by walk_at "E") (by ktr_room) (by ktr_units) ?_; k_whole; intro x9z h9z tk9z p9z F9z N9z; ((first | (refine and2 p9z ?_; (try clear p9z); intro pa9z pc9z) | obtain ⟨pa9z, pc9z⟩ := p9z)); (try dsimp only at N9z); walk_at "Z")) | (k_here; (with_reducible show wpAny _ _ (call (Value.ref 685) _ _) _ _ _); k_dflt (refine' draw_use (by k_asm) (by k_asm) (by k_asm) (by k_asm) (by k_asm) (by walk_at "R") (by k_updF) (by walk_at "M") (by walk_at "N") (by walk_at "E") (by walk_at "E") (by walk_at "O") (by ktr_room) (by ktr_units) ?_; k_whole; intro x9z h9z tk9z p9z F9z N9z; ((first | (refine and3 p9z ?_; (try clear p9z); intro pa9z pb9z pc9z) | obtain ⟨pa9z, pb9z, pc9z⟩ := p9z)); (try dsimp only at N9z); walk_at "Z")) | (k_unfold; (try dsimp only)) | (k_end; wrow_close) | walk1 | (dsimp only; walk1) | (leave1; try dsimp only) | fail "no step")
  all_goals (have F9z := True.intro; have N9z := True.intro; have h9z := True.intro; have p9z := True.intro; have pa9z := True.intro; have pb9z := True.intro; have pc9z := True.intro; have pd9z := True.intro; have pe9z := True.intro; have pf9z := True.intro; have pg9z := True.intro; have ph9z := True.intro; have pi9z := True.intro; have pz9z := True.intro; have tk9z := True.intro; have x9z := True.intro)
  (rename Fr _ _ _ _ => lF)
  (with_unfolding_all refine' For_invVF lF ?k1 ?k2 ?_ (hE := hE)); (case k1 => exact rfl); (case k2 => exact rfl)
  (try (refine foldQ ?_; intro qkT2))
  repeat' (((fail_if_success (with_reducible show wpAny _ _ (exec (Stmt.For _ _ _ _ _) _) _ _ _)); (fail_if_success (with_reducible show wpAny _ _ (pyIter _) _ _ _))); first | (k_here; (with_reducible show wpAny _ _ (call (Value.ref 699) _ _) _ _ _); k_dflt (refine' Cut.uz (by k_asm) (by k_asm) (by k_asm) (by k_asm) (by refine' Del.sub2 (by k_upd) (by k_upd)) (by k_asm) (by walk_at "R") (by ktr_room) (by ktr_units) (lcell _ _ _ _ _ _ _ _ _ _ _ _ _ _ _ _ (by walk_at "M") (by walk_at "A") (by walk_at "A") (by walk_at "N") (by walk_at "M") (by walk_at "N") (by walk_at "E") (by walk_at "L")) ?_; k_whole; intro x9z h9z tk9z p9z F9z N9z; ((first | (refine andNest p9z ?_; (try clear p9z); intro pa9z pb9z pc9z pd9z pe9z pf9z pg9z ph9z pi9z) | obtain ⟨⟨pa9z, pb9z, pc9z⟩, ⟨pd9z, pe9z, pf9z⟩, pg9z, ph9z, pi9z⟩ := p9z)); (replace pa9z := ltN pa9z); (replace pb9z := ltN pb9z); (replace pd9z := ltN pd9z); (replace pe9z := ltN pe9z); (try k_lt pc9z); (try k_lt pf9z); (try dsimp only at N9z); (try dsimp only); (try k_sweep); (try k_fold))) | (k_here; (with_reducible show wpAny _ _ (call (Value.ref 674) _ _) _ _ _); k_dflt (refine' Cut.uz (by k_asm) (by k_asm) (by k_asm) (by k_asm) sub_self (by k_asm) (by walk_at "R") (by ktr_room) (by ktr_units) (areas _ _ _ _) ?_; k_whole; intro x9z h9z tk9z p9z F9z N9z; ((first | (refine and7 p9z ?_; (try clear p9z); intro pz9z pa9z pb9z pc9z pd9z pe9z pf9z) | obtain ⟨pz9z, pa9z, pb9z, pc9z, pd9z, pe9z, pf9z⟩ := p9z)); (try k_lt pa9z); (replace pb9z := ltN pb9z); (replace pc9z := ltN pc9z); (replace pd9z := ltN pd9z); (replace pe9z := ltN pe9z); (replace pf9z := ltN pf9z); (try dsimp only at N9z); (try dsimp only); (try k_sweep); (try k_fold))) | (k_here; (with_reducible show wpAny _ _ (call (Value.ref 154) _ _) _ _ _); k_dflt (refine' Cut.uz (by k_asm) (by k_asm) (by k_asm) (by k_asm) sub_self (by k_asm) (by walk_at "R") (by ktr_room) (by ktr_units) (symbols _ _) ?_; k_whole; intro x9z h9z tk9z p9z F9z N9z; ((first | (refine and9 p9z ?_; (try clear p9z); intro pa9z pb9z pc9z pd9z pe9z pf9z pg9z ph9z pi9z) | obtain ⟨pa9z, pb9z, pc9z, pd9z, pe9z, pf9z, pg9z, ph9z, pi9z⟩ := p9z)); (try k_lt pa9z); (replace pb9z := ltN pb9z); (replace pc9z := ltN pc9z); (replace pd9z := ltN pd9z); (try dsimp only at N9z); (try dsimp only); (try k_sweep); (try k_fold))) | (k_here; (with_reducible show wpAny _ _ (call (Value.ref 692) _ _) _ _ _); k_dflt (refine' whole_use (by k_asm) (by k_asm) (by k_asm) (by k_asm) (by k_asm) (by walk_at "R") (by k_updF) (by walk_at "M") (by walk_at "N") (by walk_at "E") (by ktr_room) (by ktr_units) ?_; k_whole; intro x9z h9z tk9z p9z F9z N9z; ((first | (refine and2 p9z ?_; (try clear p9z); intro pa9z pc9z) | obtain ⟨pa9z, pc9z⟩ := p9z)); (try dsimp only at N9z); walk_at "Z")) | (k_here; (with_reducible show wpAny _ _ (call (Value.ref 685) _ _) _ _ _); k_dflt (refine' draw_use (by k_asm) (by k_asm) (by k_asm) (by k_asm) (by k_asm) (by walk_at "R") (by k_updF) (by walk_at "M") (by walk_at "N") (by walk_at "E") (by walk_at "E") (by walk_at "O") (by ktr_room) (by ktr_units) ?_; k_whole; intro x9z h9z tk9z p9z F9z N9z; ((first | (refine and3 p9z ?_; (try clear p9z); intro pa9z pb9z pc9z) | obtain ⟨pa9z, pb9z, pc9z⟩ := p9z)); (try dsimp only at N9z); walk_at "Z")) | (k_unfold; (try dsimp only)) | (k_end; wrow_close) | walk1 | (dsimp only; walk1) | (leave1; try dsimp only) | fail "no step")
  all_goals (have F9z := True.intro; have N9z := True.intro; have h9z := True.intro; have p9z := True.intro; have pa9z := True.intro; have pb9z := True.intro; have pc9z := True.intro; have pd9z := True.intro; have pe9z := True.intro; have pf9z := True.intro; have pg9z := True.intro; have ph9z := True.intro; have pi9z := True.intro; have pz9z := True.intro; have tk9z := True.intro; have x9z := True.intro)
  rename_i x9 h8 tk8 pa pb pc r9 h9 tk9 u1 u2 u3 F9 N9 l9
  repeat clear qk
  repeat clear ek
  have hsm : Builtin.Range.small 0 x9.d 1 = true := small_one (by omega) (by omega) (by omega) (by omega)
  refine iter_rng (JB w z SC cC cM) rfl F9 (news := lawL z x9 hs xs to st ce si n ((r9, rng 0 x9.d u1 u2 u3) :: VS)) (fun q hq => N9 q (pB1 q hq)) (a := 0) (b := x9.d) (t := u1) (u := u2) (v := u3) (k := x9.d.toNat) (r := r9) ?_ hsm (rng_size pa) ?_ ?_ ?_
  · exact .tail _ (.tail _ (.tail _ (.tail _ (.tail _ (.tail _ (.tail _ (.head _)))))))
  · exact ⟨x9, hs, xs, to, st, ce, si, n, _, T, S, none, rfl, LS.add ⟨l9.1, l9.2.1, l9.2.2.1, l9.2.2.2.1, l9.2.2.2.2.1, l9.2.2.2.2.2.1, l9.2.2.2.2.2.2.1⟩, hx, pc, R.mono (sub_tail sub_self), mB_us⟩
  · clear N9 F9 LS R hPool hSP a1 a2 a3 a4 a5 a6 a7
    rintro i tv m nx h tk I io hi ⟨x, hs, xs, to, st, ce, si, n, VS, T, S, u, rfl, LS, hx, hp, R, rfl⟩ hI F1 N9
    have F9 : Fr h₀ L h (fun y => if y = Str.ofString "_" then some (.int (0 + (i : Int)) tv) else mB z SC y) := us_us F1
    clear F1
    have a1 := LS.a1; have a2 := LS.a2; have a3 := LS.a3; have a4 := LS.a4; have a5 := LS.a5; have a6 := LS.a6; have a7 := LS.a7
    have hk6 : i ≤ 6 := by omega
    have z1 := R.le1 hk6; have z2 := R.le2 hk6; have z3 := R.le3 hk6; have z4 := R.le4 hk6; have z5 := R.le5 hk6
    have ePH := LS.nPH; have ePX := LS.nPX; have ePT := LS.nPT; have ePS := LS.nPS; have ePC := LS.nPC; have ePI := LS.nPI; have eHX := LS.nHX; have eHT := LS.nHT; have eHS := LS.nHS; have eHC := LS.nHC; have eHI := LS.nHI; have eXT := LS.nXT; have eXS := LS.nXS; have eXC := LS.nXC; have eXI := LS.nXI; have eTS := LS.nTS; have eTC := LS.nTC; have eTI := LS.nTI; have eSC := LS.nSC; have eSI := LS.nSI; have eCI := LS.nCI
    have hPool := LS.pool; have hSP := LS.nSP; have hMach := LS.mach
    obtain ⟨oM, cm, cmd⟩ := LS.cm
    obtain ⟨oC, cc, ccd'⟩ := LS.cc
    have lH := R.lH; have lTO := R.lTO; have lST := R.lST; have lCE := R.lCE; have lSI := R.lSI
    obtain ⟨tT, eT⟩ := R.to i (Nat.le_refl _)
    have eT' : to[to.length - 1]? = some (.int (T i) tT) := by rw [lTO]; exact eT
    have n1 := neN (hI _ (.head _)); have n2 := neN (hI _ (.tail _ (.head _))); have n3 := neN (hI _ (.tail _ (.tail _ (.head _)))); have n4 := neN (hI _ (.tail _ (.tail _ (.tail _ (.head _))))); have n5 := neN (hI _ (.tail _ (.tail _ (.tail _ (.tail _ (.head _)))))); have n6 := neN (hI _ (.tail _ (.tail _ (.tail _ (.tail _ (.tail _ (.head _))))))); have n7 := neN (hI _ (.tail _ (.tail _ (.tail _ (.tail _ (.tail _ (.tail _ (.head _))))))))
    have hIV : ∀ p ∈ VS, p.1 ≠ I := fun p hp => hI p (.tail _ (.tail _ (.tail _ (.tail _ (.tail _ (.tail _ (.tail _ hp)))))))
    (try (refine foldQ ?_; intro qkT3))
    repeat' (((fail_if_success (with_reducible show wpAny _ _ (exec (Stmt.For _ _ _ _ _) _) _ _ _)); (fail_if_success (with_reducible show wpAny _ _ (pyIter _) _ _ _))); first | (k_here; (with_reducible show wpAny _ _ (call (Value.ref 699) _ _) _ _ _); k_dflt (refine' Cut.uz (by k_asm) (by k_asm) (by k_asm) (by k_asm) (by refine' Del.sub2 (by k_upd) (by k_upd)) (by k_asm) (by walk_at "R") (by ktr_room) (by ktr_units) (lcell _ _ _ _ _ _ _ _ _ _ _ _ _ _ _ _ (by walk_at "M") (by walk_at "A") (by walk_at "A") (by walk_at "N") (by walk_at "M") (by walk_at "N") (by walk_at "E") (by walk_at "L")) ?_; k_whole; intro x9z h9z tk9z p9z F9z N9z; ((first | (refine andNest p9z ?_; (try clear p9z); intro pa9z pb9z pc9z pd9z pe9z pf9z pg9z ph9z pi9z) | obtain ⟨⟨pa9z, pb9z, pc9z⟩, ⟨pd9z, pe9z, pf9z⟩, pg9z, ph9z, pi9z⟩ := p9z)); (replace pa9z := ltN pa9z); (replace pb9z := ltN pb9z); (replace pd9z := ltN pd9z); (replace pe9z := ltN pe9z); (try k_lt pc9z); (try k_lt pf9z); (try dsimp only at N9z); (try dsimp only); (try k_sweep); (try k_fold))) | (k_here; (with_reducible show wpAny _ _ (call (Value.ref 674) _ _) _ _ _); k_dflt (refine' Cut.uz (by k_asm) (by k_asm) (by k_asm) (by k_asm) sub_self (by k_asm) (by walk_at "R") (by ktr_room) (by ktr_units) (areas _ _ _ _) ?_; k_whole; intro x9z h9z tk9z p9z F9z N9z; ((first | (refine and7 p9z ?_; (try clear p9z); intro pz9z pa9z pb9z pc9z pd9z pe9z pf9z) | obtain ⟨pz9z, pa9z, pb9z, pc9z, pd9z, pe9z, pf9z⟩ := p9z)); (try k_lt pa9z); (replace pb9z := ltN pb9z); (replace pc9z := ltN pc9z); (replace pd9z := ltN pd9z); (replace pe9z := ltN pe9z); (replace pf9z := ltN pf9z); (try dsimp only at N9z); (try dsimp only); (try k_sweep); (try k_fold))) | (k_here; (with_reducible show wpAny _ _ (call (Value.ref 154) _ _) _ _ _); k_dflt (refine' Cut.uz (by k_asm) (by k_asm) (by k_asm) (by k_asm) sub_self (by k_asm) (by walk_at "R") (by ktr_room) (by ktr_units) (symbols _ _) ?_; k_whole; intro x9z h9z tk9z p9z F9z N9z; ((first | (refine and9 p9z ?_; (try clear p9z); intro pa9z pb9z pc9z pd9z pe9z pf9z pg9z ph9z pi9z) | obtain ⟨pa9z, pb9z, pc9z, pd9z, pe9z, pf9z, pg9z, ph9z, pi9z⟩ := p9z)); (try k_lt pa9z); (replace pb9z := ltN pb9z); (replace pc9z := ltN pc9z); (replace pd9z := ltN pd9z); (try dsimp only at N9z); (try dsimp only); (try k_sweep); (try k_fold))) | (k_here; (with_reducible show wpAny _ _ (call (Value.ref 692) _ _) _ _ _); k_dflt (refine' whole_use (by k_asm) (by k_asm) (by k_asm) (by k_asm) (by k_asm) (by walk_at "R") (by k_updF) (by walk_at "M") (by walk_at "N") (by walk_at "E") (by ktr_room) (by ktr_units) ?_; k_whole; intro x9z h9z tk9z p9z F9z N9z; ((first | (refine and2 p9z ?_; (try clear p9z); intro pa9z pc9z) | obtain ⟨pa9z, pc9z⟩ := p9z)); (try dsimp only at N9z); walk_at "Z")) | (k_here; (with_reducible show wpAny _ _ (call (Value.ref 685) _ _) _ _ _); k_dflt (refine' draw_use (by k_asm) (by k_asm) (by k_asm) (by k_asm) (by k_asm) (by walk_at "R") (by k_updF) (by walk_at "M") (by walk_at "N") (by walk_at "E") (by walk_at "E") (by walk_at "O") (by ktr_room) (by ktr_units) ?_; k_whole; intro x9z h9z tk9z p9z F9z N9z; ((first | (refine and3 p9z ?_; (try clear p9z); intro pa9z pb9z pc9z) | obtain ⟨pa9z, pb9z, pc9z⟩ := p9z)); (try dsimp only at N9z); walk_at "Z")) | (k_unfold; (try dsimp only)) | (k_end; wrow_close) | walk1 | (dsimp only; walk1) | (leave1; try dsimp only) | fail "no step")
    all_goals (have F9z := True.intro; have N9z := True.intro; have h9z := True.intro; have p9z := True.intro; have pa9z := True.intro; have pb9z := True.intro; have pc9z := True.intro; have pd9z := True.intro; have pe9z := True.intro; have pf9z := True.intro; have pg9z := True.intro; have ph9z := True.intro; have pi9z := True.intro; have pz9z := True.intro; have tk9z := True.intro; have x9z := True.intro)
    repeat clear qk
    repeat clear ek
    rename_i x0 h10 tk10 b1 b2 h11 tk11 h12 tk12 c1 h13 tk13 d1 d2 d3 d4 d5 d6 d7 d8 d9 h14 tk14 c2 h15 tk15 e1 e2 e3 e4 e5 e6 e7 e8 e9 h16 FF NN
    have hc1 : ∀ {b : Bool} {z c : Addr} {oz : Obj} {v : Int} {tt1 tt2 : Tok} {k : Nat} {m : Int} {l : List (Addr × Obj)}, (b = true → ∃ t t' k, oz = tup #[.int 5 t, .int v t'] k) → (b = false → z = c ∧ oz = tup #[.int 0 tt1, .int m tt2] k) → (z, oz) ∈ l → (z = c ∨ ∃ a b k, (z, tup #[.int 5 a, .int v b] k) ∈ l) := fun {b} => by
      intro z c oz v tt1 tt2 k m l g1 g2 hm
      cases b
      · exact .inl (g2 rfl).1
      · obtain ⟨t, t', k, rfl⟩ := g1 rfl
        exact .inr ⟨t, t', k, hm⟩
    have R' := R.ext (l' := (c2.c, tup #[Value.int 0 c2.t1, Value.int (↑(hs ++ [Value.ref c1.z]).length) c2.t2] c2.k) :: (c2.z, c2.oz) :: (c1.c, tup #[Value.int 0 c1.t1, Value.int (↑hs.length) c1.t2] c1.k) :: (c1.z, c1.oz) :: VS) (sub_tail (sub_tail (sub_tail (sub_tail sub_self)))) (s := x0.d) (ts := x0.t) (t := tk11 + 1 + 1 + 1 + 1) (c1 := c1.c) (z1 := c1.z) (c2 := c2.c) (z2 := c2.z) b1
      ⟨by rw [← lH]; exact ⟨_, _, _, .tail _ (.tail _ (.head _))⟩, hc1 d2 d3 (.tail _ (.tail _ (.tail _ (.head _))))⟩
      ⟨by rw [show 2 * i + 2 = (hs ++ [Value.ref c1.z]).length by simp [lH]]; exact ⟨_, _, _, .head _⟩, hc1 e2 e3 (.tail _ (.head _))⟩
    have LS' := (((LS.add (p := (c1.z, c1.oz)) ⟨d6, d7, d9.2.1, d9.2.2.1, d9.2.2.2.1, d9.2.2.2.2.1, d9.2.2.2.2.2.1⟩).add (p := (c1.c, tup #[Value.int 0 c1.t1, Value.int (↑hs.length) c1.t2] c1.k)) ⟨d4, d5, d8.2.1, d8.2.2.1, d8.2.2.2.1, d8.2.2.2.2.1, d8.2.2.2.2.2.1⟩).add (p := (c2.z, c2.oz)) ⟨e6, e7, e9.2.2.2.1, e9.2.2.2.2.1, e9.2.2.2.2.2.1, e9.2.2.2.2.2.2.1, e9.2.2.2.2.2.2.2.1⟩).add (p := (c2.c, tup #[Value.int 0 c2.t1, Value.int (↑(hs ++ [Value.ref c1.z]).length) c2.t2] c2.k)) ⟨e4, e5, e8.2.2.2.1, e8.2.2.2.2.1, e8.2.2.2.2.2.1, e8.2.2.2.2.2.2.1, e8.2.2.2.2.2.2.2.1⟩
    refine ⟨_, _, _, lawL z c2.p (hs ++ [Value.ref c1.z] ++ [Value.ref c2.z]) xs (to ++ [Value.int (T i + x0.d) (tk11 + 1 + 1 + 1 + 1)]) (st ++ [Value.int x0.d x0.t]) (ce ++ [Value.ref c2.c]) (si ++ [Value.ref c1.c]) ⟨c2.n2, n.n3, n.n4 + 1, n.n5 + 1, n.n6 + 1, n.n7 + 1⟩ _, rfl, FF, fun q hq => NN q (pB2 q hq), ?_, c2.p, _, _, _, _, _, _, _, _, _, _, some (.int (0 + (i : Int)) tv), rfl, LS', hx, e1, R', rfl⟩
    have away : ∀ {c : Addr}, I < c → c ≠ I := fun h => neN (Nat.ne_of_gt h)
    intro p hp
    rcases List.mem_cons.mp hp with rfl | hp; · exact neN n1
    rcases List.mem_cons.mp hp with rfl | hp; · exact neN n2
    rcases List.mem_cons.mp hp with rfl | hp; · exact neN n3
    rcases List.mem_cons.mp hp with rfl | hp; · exact neN n4
    rcases List.mem_cons.mp hp with rfl | hp; · exact neN n5
    rcases List.mem_cons.mp hp with rfl | hp; · exact neN n6
    rcases List.mem_cons.mp hp with rfl | hp; · exact neN n7
    rcases List.mem_cons.mp hp with rfl | hp; · exact away e8.2.2.1
    rcases List.mem_cons.mp hp with rfl | hp; · exact away e9.2.2.1
    rcases List.mem_cons.mp hp with rfl | hp; · exact away d8.1
    rcases List.mem_cons.mp hp with rfl | hp; · exact away d9.1
    exact hIV p hp
  · rintro m nx h tk ⟨x, hs, xs, to, st, ce, si, n, VS, T, S, u, rfl, LS, hx, hp, R, rfl⟩ F N
    exact cont _ u x hs xs to st ce si n VS T S h tk (by omega) LS hx hp R F N
/-! Cmp -/
section
variable {prog : Program} {w : World} {A : Around} {E : Value → Shared → Prop} {s : Shared} {h₀ : Heap} {L : Addr} {m : Str → Option Value} {env : Env}
theorem compEnd_mono {s₁ : Shared} {I : Addr} {oI : Obj} {C : Addr} {oC : Obj} {D : Addr} {oD : Obj} {S : List (Addr × Obj) → Prop} {R R' : Value → List (Addr × Obj) → Prop} {y : Value} {s₂ : Shared}
    (c : LCg.CompEnd h₀ L m s₁ I oI C oC D oD S R y s₂) (h : ∀ nx, R y nx → R' y nx) : LCg.CompEnd h₀ L m s₁ I oI C oC D oD S R' y s₂ :=
  let ⟨h', tk, nx, a, b, c, d, e, f⟩ := c; ⟨h', tk, nx, a, b, c, d, e, h _ f⟩
theorem restT_ind {ct elt : PySem.Expr} {x : Str} {scope : Scope} {cl : List (Str × Addr)} {S : List (Addr × Obj) → Prop} {P : Nat → Value → Prop} {Fin : List Value → List (Addr × Obj) → Prop} {n : Nat} {news : List (Addr × Obj)}
    (inv : Nat → List Value → List (Addr × Obj) → Prop) (h0 : inv 0 [] news) (fin : ∀ ys nx, inv n ys nx → Fin ys nx)
    (step : ∀ i ys nx, i < n → inv i ys nx → ∀ v I oI C oC D m₂ h tk (E' : Value → Shared → Prop), P i v → LCg.NsObj oC m₂ → m₂ x = some v → Fr h₀ L h m → News h₀ L h ((I, oI) :: (C, oC) :: (D, LCg.lst ys) :: nx) → LCg.Off3 I C D nx → ((@Ne Nat I C) ∧ (@Ne Nat I D) ∧ (@Ne Nat C D)) →
      wpAny (model prog w) A (isTrue ct (compEnvC scope cl C env) (eval ct (compEnvC scope cl C env))) (fun ok s' => if ok = true then
        wpAny (model prog w) A (eval elt (compEnvC scope cl C env)) (LCg.CompEnd h₀ L m { s with heap := h, toks := tk } I oI C oC D (LCg.lst ys) S (fun y nx' => inv (i + 1) (ys ++ [y]) nx')) E' s'
        else LCg.CompEnd h₀ L m { s with heap := h, toks := tk } I oI C oC D (LCg.lst ys) S (fun _ nx' => inv (i + 1) ys nx') Value.none s') E' { s with heap := h, toks := tk }) :
    LCt.CompRestT prog w A h₀ L m env ct elt x scope cl s S P Fin n 0 [] news := by
  have key : ∀ k i ys nx, i + k = n → inv i ys nx → LCt.CompRestT prog w A h₀ L m env ct elt x scope cl s S P Fin k i ys nx := by
    intro k
    induction k with
    | zero => intro i ys nx e h; exact LCt.CompRestT.zero (fin ys nx (by rw [← show i = n by omega]; exact h))
    | succ k ih =>
      intro i ys nx e h
      refine LCt.CompRestT.succ fun v I oI C oC D m₂ h' tk E' a1 a2 a3 a4 a5 a6 a7 => wpAny_mono (step i ys nx (by omega) h v I oI C oC D m₂ h' tk E' a1 a2 a3 a4 a5 a6 a7) (fun ok s' p => ?_) fun _ _ e => e
      cases ok with
      | true =>
        simp only [if_true] at p ⊢
        exact wpAny_mono p (fun y s'' q => compEnd_mono q fun nx' r => ih (i + 1) _ nx' (by omega) r) fun _ _ e => e
      | false =>
        simp only [Bool.false_eq_true, if_false] at p ⊢
        exact compEnd_mono p fun nx' r => ih (i + 1) _ nx' (by omega) r
  exact key n 0 [] news (by omega) h0
theorem restU_ind {elt : PySem.Expr} {x : Str} {scope : Scope} {cl : List (Str × Addr)} {S : List (Addr × Obj) → Prop} {P : Nat → Value → Prop} {Fin : List Value → List (Addr × Obj) → Prop} {n : Nat} {news : List (Addr × Obj)}
    (inv : Nat → List Value → List (Addr × Obj) → Prop) (h0 : inv 0 [] news) (fin : ∀ ys nx, inv n ys nx → Fin ys nx)
    (step : ∀ i ys nx, i < n → inv i ys nx → ∀ v I oI C oC D m₂ h tk (E' : Value → Shared → Prop), P i v → LCg.NsObj oC m₂ → m₂ x = some v → Fr h₀ L h m → News h₀ L h ((I, oI) :: (C, oC) :: (D, LCg.lst ys) :: nx) → LCg.Off3 I C D nx → ((@Ne Nat I C) ∧ (@Ne Nat I D) ∧ (@Ne Nat C D)) →
      wpAny (model prog w) A (eval elt (compEnvC scope cl C env)) (LCg.CompEnd h₀ L m { s with heap := h, toks := tk } I oI C oC D (LCg.lst ys) S (fun y nx' => inv (i + 1) (ys ++ [y]) nx')) E' { s with heap := h, toks := tk }) :
    LCg.CompRest prog w A h₀ L m env elt x scope cl s S P Fin n 0 [] news := by
  have key : ∀ k i ys nx, i + k = n → inv i ys nx → LCg.CompRest prog w A h₀ L m env elt x scope cl s S P Fin k i ys nx := by
    intro k
    induction k with
    | zero => intro i ys nx e h; exact LCg.CompRest.zero (fin ys nx (by rw [← show i = n by omega]; exact h))
    | succ k ih =>
      intro i ys nx e h
      exact LCg.CompRest.succ fun v I oI C oC D m₂ h' tk E' a1 a2 a3 a4 a5 a6 a7 => wpAny_mono (step i ys nx (by omega) h v I oI C oC D m₂ h' tk E' a1 a2 a3 a4 a5 a6 a7) (fun y s'' q => compEnd_mono q fun nx' r => ih (i + 1) _ nx' (by omega) r) fun _ _ e => e
  exact key n 0 [] news (by omega) h0
end
/-- lists of ints, read -/
theorem ints_all {h : Heap} : ∀ {vs : List Value} {ns : List Int}, IntsAre vs ns → ReadsAll h vs (ns.map PyData.int) []
  | _, _, .nil => .nil
  | _, _, .cons n t r => .cons (as := []) (bs := []) (.int n t) (ints_all r)
theorem ints_lay : ∀ (ns : List Int), PyData.canLayAll0 (ns.map PyData.int) = true
  | [] => rfl
  | n :: r => by simp [PyData.canLayAll0, PyData.canLay0, ints_lay r]
theorem ints_deep : ∀ (ns : List Int), PyData.depthAll (ns.map PyData.int) = 0
  | [] => rfl
  | n :: r => by simp [PyData.depthAll, PyData.depth, ints_deep r]
theorem ints_shaped (ns : List Int) : PySem.SeqAt.shaped (.list (ns.map PyData.int)) = true := by
  simp [PySem.SeqAt.shaped, PyData.canLay0, PyData.depth, ints_lay, ints_deep]
/-- lists of pairs (INT, v) -/
inductive PairsAre (l : List (Addr × Obj)) : List Value → List Int → Prop
  | nil : PairsAre l [] []
  | cons {q v t t' k ys vs} : (q, tup #[.int 5 t, .int v t'] k) ∈ l → PairsAre l ys vs → PairsAre l (.ref q :: ys) (v :: vs)
theorem PairsAre.mono {l l'} (h : ∀ p ∈ l, p ∈ l') : ∀ {ys vs}, PairsAre l ys vs → PairsAre l' ys vs
  | _, _, .nil => .nil
  | _, _, .cons m r => .cons (h _ m) (r.mono h)
theorem PairsAre.snoc {l q v t t' k} (m : (q, tup #[.int 5 t, .int v t'] k) ∈ l) : ∀ {ys vs}, PairsAre l ys vs → PairsAre l (ys ++ [.ref q]) (vs ++ [v])
  | _, _, .nil => .cons m .nil
  | _, _, .cons m' r => .cons m' (r.snoc m)
noncomputable abbrev pairOf (v : Int) : PyData := .tuple [.int 5, .int v]
theorem pairs_all {h₀ h : Heap} {L : Addr} {l : List (Addr × Obj)} (N : News h₀ L h l) : ∀ {ys vs}, PairsAre l ys vs → ReadsAll h ys (vs.map pairOf) []
  | _, _, .nil => .nil
  | _, _, .cons m r => .cons (as := []) (bs := []) (pair_reads (N _ m).1) (pairs_all N r)
theorem pairs_lay : ∀ (ns : List Int), PyData.canLayAll0 (ns.map pairOf) = true
  | [] => rfl
  | n :: r => by simp [PyData.canLayAll0, PyData.canLay0, pairs_lay r]
theorem pairs_deep : ∀ (ns : List Int), PyData.depthAll (ns.map pairOf) ≤ 1
  | [] => by simp [PyData.depthAll]
  | n :: r => by
    have := pairs_deep r
    simp only [List.map_cons, PyData.depthAll, PyData.depth]; omega
theorem pairs_shaped (ns : List Int) : PySem.SeqAt.shaped (.list (ns.map pairOf)) = true := by
  have := pairs_deep ns
  simp only [PySem.SeqAt.shaped, PyData.canLay0, PyData.depth, pairs_lay, Bool.true_and]; exact decide_eq_true (by omega)
theorem pairs_refl : ∀ (ns : List Int), PyData.eqvAll (ns.map pairOf) (ns.map pairOf) = true
  | [] => rfl
  | n :: r => by simp [PyData.eqvAll, PyData.eqv, pairs_refl r]
section
variable {prog : Program} {w : World} {A : Around} {E : Value → Shared → Prop} {s : Shared} {h₀ : Heap} {L : Addr} {news : List (Addr × Obj)} {Q : Value → Shared → Prop}
theorem ints_eq {a b : Addr} {vs ws : List Value} {ns ms : List Int} {k l : Nat} (N : News h₀ L s.heap news) (h1 : (a, listOf vs.toArray k) ∈ news) (h2 : (b, listOf ws.toArray l) ∈ news) (i1 : IntsAre vs ns) (i2 : IntsAre ws ms) (hu : A.units + 64 < cLine)
    (h : Q (.bool (PyData.eqvAll (ns.map PyData.int) (ms.map PyData.int))) s) : wpAny (model prog w) A (compareOp .Eq (.ref a) (.ref b)) Q E s :=
  eq_dataH (.list (N _ h1).1 rfl rfl (ints_all i1)) (.list (N _ h2).1 rfl rfl (ints_all i2)) (ints_shaped _) (ints_shaped _) hu h
theorem pairs_ne {a b : Addr} {vs ws : List Value} {ns : List Int} {k l : Nat} (N : News h₀ L s.heap news) (h1 : (a, listOf vs.toArray k) ∈ news) (h2 : (b, listOf ws.toArray l) ∈ news) (i1 : PairsAre news vs ns) (i2 : PairsAre news ws ns) (hu : A.units + 64 < cLine)
    (h : Q (.bool false) s) : wpAny (model prog w) A (compareOp .NotEq (.ref a) (.ref b)) Q E s :=
  ne_dataH (.list (N _ h1).1 rfl rfl (pairs_all N i1)) (.list (N _ h2).1 rfl rfl (pairs_all N i2)) (pairs_shaped _) (pairs_shaped _) hu (by
    rw [show PyData.eqv (.list (ns.map pairOf)) (.list (ns.map pairOf)) = true from pairs_refl ns]; exact h)
theorem tup0_led {value slice : PySem.Expr} {q : Addr} {x y : Value} {n : Nat} {u : Tok} (N : News h₀ L s.heap news) (hm : (q, tup #[x, y] n) ∈ news) (h : Q x s)
    (hs : subscripted slice false (.ref q) (.int 0 u) = operate [.ref q, .int 0 u] (getItem (.ref q) (.int 0 u)) := by with_unfolding_all rfl) :
    wpAny (model prog w) A (subscriptTail value slice (.ref q) (.int 0 u)) Q E s :=
  item_tupleT (l := [x, y]) ⟨_, (N _ hm).1, rfl, _, rfl⟩ (by decide) (by decide) (j := 0) rfl rfl h hs
theorem tup1_led {value slice : PySem.Expr} {q : Addr} {x y : Value} {n : Nat} {u : Tok} (N : News h₀ L s.heap news) (hm : (q, tup #[x, y] n) ∈ news) (h : Q y s)
    (hs : subscripted slice false (.ref q) (.int 1 u) = operate [.ref q, .int 1 u] (getItem (.ref q) (.int 1 u)) := by with_unfolding_all rfl) :
    wpAny (model prog w) A (subscriptTail value slice (.ref q) (.int 1 u)) Q E s :=
  item_tupleT (l := [x, y]) ⟨_, (N _ hm).1, rfl, _, rfl⟩ (by decide) (by decide) (j := 1) rfl rfl h hs
theorem ints_eq_nil {a b : Addr} {vs : List Value} {k l : Nat} (N : News h₀ L s.heap news) (h1 : (a, listOf vs.toArray k) ∈ news) (h2 : (b, listOf #[] l) ∈ news) (i1 : IntsAre vs []) (hu : A.units + 64 < cLine)
    (h : Q (.bool true) s) : wpAny (model prog w) A (compareOp .Eq (.ref a) (.ref b)) Q E s := ints_eq (ws := []) N h1 h2 i1 .nil hu h
theorem ints_eq_cons {a b : Addr} {vs : List Value} {n : Int} {ns : List Int} {k l : Nat} (N : News h₀ L s.heap news) (h1 : (a, listOf vs.toArray k) ∈ news) (h2 : (b, listOf #[] l) ∈ news) (i1 : IntsAre vs (n :: ns)) (hu : A.units + 64 < cLine)
    (h : Q (.bool false) s) : wpAny (model prog w) A (compareOp .Eq (.ref a) (.ref b)) Q E s := ints_eq (ws := []) N h1 h2 i1 .nil hu h
end
/-! L6 -/
local macro_rules | `(tactic| walk_at "exec Assign cons ListComp") => `(tactic| (k_here; k_dflt (first | (refine LCt.Assign_ListComp_T (F₀ := by k_asm) (by rfl) (by with_unfolding_all rfl) (by with_unfolding_all rfl) (by decide) (by rfl) (by decide) (by rfl) (by rfl) (by rfl) ?_) | (refine LCg.Assign_ListComp_U (F₀ := by k_asm) (by rfl) (by with_unfolding_all rfl) (by with_unfolding_all rfl) (by decide) (by rfl) (by decide) (by rfl) (by rfl) (by rfl) ?_))))
local macro_rules | `(tactic| walk_at "eval ListComp") => `(tactic| (k_here; k_dflt (first | (refine LCt.ListComp_T (F₀ := by k_asm) (by with_unfolding_all rfl) (by decide) (by rfl) (by decide) (by rfl) ?_) | (refine LCg.ListComp_U (F₀ := by k_asm) (by with_unfolding_all rfl) (by decide) (by rfl) (by decide) (by rfl) ?_))))
local macro_rules | `(tactic| walk_at "eval Name") => `(tactic| (k_here; (with_reducible show wpAny _ _ (eval (Expr.Name _ _) (compEnvC _ _ _ _)) _ _ _); (with_reducible rename LCg.NsObj _ _ => hC9); k_dflt (refine' LCgL.ld_own (by k_asm) (.tail _ (.head _)) hC9 (by with_reducible assumption) ?_; k_whole)))
local macro_rules | `(tactic| walk_at "subscriptTail") => `(tactic| (k_here; (with_reducible show wpAny _ _ (subscriptTail _ _ (Value.ref _) (Value.int 0 _)) _ _ _); k_dflt (refine' tup0_led (by k_asm) (by with_reducible assumption) ?_ (by walk_at "W"); k_whole)))
def Known (VS : List (Addr × Obj)) (hs : List Value) (T : Nat → Int) (n : Nat) (ys : List Value) : Prop := ∃ ns : List Int, IntsAre ys ns ∧ ys.length ≤ n ∧ ∀ v ∈ ns, ∃ p : Nat, v = (p : Int) ∧ p < n ∧ Bnd VS hs (2 * p) (T p)
theorem Known.nil {VS hs T n} : Known VS hs T n [] := ⟨[], .nil, Nat.zero_le _, fun _ h => nomatch h⟩
theorem Known.up {VS hs T n ys} (c : Known VS hs T n ys) : Known VS hs T (n + 1) ys := let ⟨ns, a, b, d⟩ := c; ⟨ns, a, by omega, fun v hv => let ⟨p, e, f, g⟩ := d v hv; ⟨p, e, by omega, g⟩⟩
theorem Known.snoc {VS hs T n ys t} (c : Known VS hs T n ys) (hb : Bnd VS hs (2 * n) (T n)) : Known VS hs T (n + 1) (ys ++ [.int (n : Int) t]) :=
  let ⟨ns, a, b, d⟩ := c
  ⟨ns ++ [(n : Int)], a.append (.cons _ _ .nil), by simp; omega, fun v hv => by
    rcases List.mem_append.mp hv with h | h
    · exact let ⟨p, e, f, g⟩ := d v h; ⟨p, e, by omega, g⟩
    · exact ⟨n, by simpa using h, by omega, hb⟩⟩
noncomputable abbrev mC (z : LD) (SC : Addr) (u : Option Value) (KN : Option Value) : Str → Option Value := fun y => if y = Str.ofString "known" then KN else if y = Str.ofString "_" then u else mB z SC y
theorem partC1 (w : World) (z : LD) (x : DrawD) (hs xs to st ce si : List Value) (n : LN) (VS : List (Addr × Obj)) (T S : Nat → Int) (SC cC cM : Addr) (k : Nat) (u : Option Value) (mean : ExcName → Option Value) (mg mb : Str → Option Value) (dp un : Nat) (gd : Option (List Code)) (a : Addr) (ccd : Value) (A₀ : Around) (base h₀ : Heap) (L : Addr) (s : Shared) (Q : Flow → Shared → Prop) (E : Value → Shared → Prop)
    (B : Below A₀ base [] h₀) (F : Fr h₀ L s.heap (fun y => if y = Str.ofString "_" then u else mB z SC y)) (XX : (Mine.K w.params).In h₀) (N : News h₀ L s.heap (lawL z x hs xs to st ce si n VS)) (TT : Top VW LO mean mg mb h₀) (hd : dp + 200 < recursionLimit) (hu : un + 8000 < cLine)
    (LS : LawS w z cC cM VS) (hk : k ≤ 6) (R : Row VS hs to st ce si k T S)
    (cont : ∀ (KN : Addr) (ys : List Value) (nk : Nat) (VS' : List (Addr × Obj)) (h' : Heap) (tk' : Nat), LawS w z cC cM VS' → (∀ p ∈ VS, p ∈ VS') → (KN, listOf ys.toArray nk) ∈ VS' → Known VS hs T (k + 1) ys → Fr h₀ L h' (mC z SC u (some (.ref KN))) → News h₀ L h' (lawL z x hs xs to st ce si n VS') →
      wpAny (model PySem.Challenge.rw_sa0162_01.row.prog w) (lawTop dp un gd L a ccd cC cM) (execs (c55b.drop 10) (lawEnv L a ccd cC cM)) Q E { s with heap := h', toks := tk' }) :
    wpAny (model PySem.Challenge.rw_sa0162_01.row.prog w) (lawTop dp un gd L a ccd cC cM) (execs (c55b.drop 9) (lawEnv L a ccd cC cM)) Q E s := by
  revert XX; k_fill; intro XX
  have o1 := ltN LS.o1; have o2 := ltN LS.o2; have o3 := ltN LS.o3; have o4 := ltN LS.o4; have o5 := ltN LS.o5; have o6 := ltN LS.o6
  have a1 := LS.a1; have a2 := LS.a2; have a3 := LS.a3; have a4 := LS.a4; have a5 := LS.a5; have a6 := LS.a6; have a7 := LS.a7
  have hPool := LS.pool; have hSP := LS.nSP; have hMach := LS.mach
  have m1 := hMach.x; have m2 := hMach.xd; have m3 := hMach.m; have m4 := hMach.md
  obtain ⟨oM, cm, cmd⟩ := LS.cm
  obtain ⟨oC, cc, ccd'⟩ := LS.cc
  have lH := R.lH; have lTO := R.lTO; have lST := R.lST; have lCE := R.lCE; have lSI := R.lSI
  (try (refine foldAE ?_; intro envT AT))
  repeat' (((fail_if_success (with_reducible show PyProof.Rows.LCt.CompSrcT _ _ _ _ _ _ _ _ _ _ _ _ _ _ _)); (fail_if_success (with_reducible show PyProof.Rows.LCg.CompEnd _ _ _ _ _ _ _ _ _ _ _ _ _ _))); first | (k_here; (with_reducible show wpAny _ _ (call (Value.ref 265) _ _) _ _ _); k_dflt (refine' bind_use (by k_asm) (by k_asm) (by k_asm) (by k_asm) (by k_asm) (by walk_at "R") (by k_updF) (by walk_at "M") (by k_mem) (by walk_at "N") (by walk_at "E") (by first | assumption | ((try simp only [List.length_append, List.length_cons, List.length_nil, List.length_set]); first | exact lenB (by assumption) rfl | exact lenA (by assumption) rfl | omega)) (by walk_at "E") (by ktr_room) (by ktr_units) ?_; k_whole; intro h9z tk9z F9z N9z; (try dsimp only at N9z); walk_at "Z")) | (k_here; (with_reducible show wpAny _ _ (call (Value.ref 230) _ _) _ _ _); k_dflt (refine' newvar_use (by k_asm) (by k_asm) (by k_asm) (by k_asm) (by k_asm) (by walk_at "R") (by k_updF) (by walk_at "M") (by walk_at "L") (by ktr_room) (by ktr_units) ?_; k_whole; intro x9z h9z tk9z p9z F9z N9z; (try dsimp only at N9z); (try k_lt p9z); walk_at "Z")) | (k_here; (with_reducible show wpAny _ _ (call (Value.ref 251) _ _) _ _ _); k_dflt (refine' Cut.uz (by k_asm) (by k_asm) (by k_asm) (by k_asm) sub_self (by k_asm) (by walk_at "R") (by ktr_room) (by ktr_units) (derefS (by walk_at "M") (by k_mem) (by walk_at "M") (by omega)) ?_; k_whole; intro x9z h9z tk9z p9z F9z N9z; (first | (obtain ⟨pa9z, ⟨pb9z, pc9z, pd9z, pe9z⟩, pf9z⟩ := p9z; subst pa9z) | (first | (refine and4 p9z ?_; (try clear p9z); intro pa9z pb9z pc9z pd9z) | obtain ⟨pa9z, pb9z, pc9z, pd9z⟩ := p9z)); (try dsimp only at N9z); walk_at "Z")) | (k_here; (with_reducible show wpAny _ _ (call (Value.ref 699) _ _) _ _ _); k_dflt (refine' Cut.uz (by k_asm) (by k_asm) (by k_asm) (by k_asm) (by refine' Del.sub2 (by k_upd) (by k_upd)) (by k_asm) (by walk_at "R") (by ktr_room) (by ktr_units) (lcell _ _ _ _ _ _ _ _ _ _ _ _ _ _ _ _ (by walk_at "M") (by walk_at "A") (by walk_at "A") (by walk_at "N") (by walk_at "M") (by walk_at "N") (by walk_at "E") (by walk_at "L")) ?_; k_whole; intro x9z h9z tk9z p9z F9z N9z; ((first | (refine andNest p9z ?_; (try clear p9z); intro pa9z pb9z pc9z pd9z pe9z pf9z pg9z ph9z pi9z) | obtain ⟨⟨pa9z, pb9z, pc9z⟩, ⟨pd9z, pe9z, pf9z⟩, pg9z, ph9z, pi9z⟩ := p9z)); (replace pa9z := ltN pa9z); (replace pb9z := ltN pb9z); (replace pd9z := ltN pd9z); (replace pe9z := ltN pe9z); (try k_lt pc9z); (try k_lt pf9z); (try dsimp only at N9z); (try dsimp only); (try k_sweep); (try k_fold))) | (k_here; (with_reducible show wpAny _ _ (call (Value.ref 674) _ _) _ _ _); k_dflt (refine' Cut.uz (by k_asm) (by k_asm) (by k_asm) (by k_asm) sub_self (by k_asm) (by walk_at "R") (by ktr_room) (by ktr_units) (areas _ _ _ _) ?_; k_whole; intro x9z h9z tk9z p9z F9z N9z; ((first | (refine and7 p9z ?_; (try clear p9z); intro pz9z pa9z pb9z pc9z pd9z pe9z pf9z) | obtain ⟨pz9z, pa9z, pb9z, pc9z, pd9z, pe9z, pf9z⟩ := p9z)); (try k_lt pa9z); (replace pb9z := ltN pb9z); (replace pc9z := ltN pc9z); (replace pd9z := ltN pd9z); (replace pe9z := ltN pe9z); (replace pf9z := ltN pf9z); (try dsimp only at N9z); (try dsimp only); (try k_sweep); (try k_fold))) | (k_here; (with_reducible show wpAny _ _ (call (Value.ref 154) _ _) _ _ _); k_dflt (refine' Cut.uz (by k_asm) (by k_asm) (by k_asm) (by k_asm) sub_self (by k_asm) (by walk_at "R") (by ktr_room) (by ktr_units) (symbols _ _) ?_; k_whole; intro x9z h9z tk9z p9z F9z N9z; ((first | (refine and9 p9z ?_; (try clear p9z); intro pa9z pb9z pc9z pd9z pe9z pf9z pg9z ph9z pi9z) | obtain ⟨pa9z, pb9z, pc9z, pd9z, pe9z, pf9z, pg9z, ph9z, pi9z⟩ := p9z)); (try k_lt pa9z); (replace pb9z := ltN pb9z); (replace pc9z := ltN pc9z); (replace pd9z := ltN pd9z); (try dsimp only at N9z); (try dsimp only); (try k_sweep); (try k_fold))) | (k_here; (with_reducible show wpAny _ _ (call (Value.ref 692) _ _) _ _ _); k_dflt (refine' whole_use (by k_asm) (by k_asm) (by k_asm) (by k_asm) (by k_asm) (by walk_at "R") (by k_updF) (by walk_at "M") (by walk_at "N") (by walk_at "E") (by ktr_room) (by ktr_units) ?_; k_whole; intro x9z h9z tk9z p9z F9z N9z; ((first | (refine and2 p9z ?_; (try clear p9z); intro pa9z pc9z) | obtain ⟨pa9z, pc9z⟩ := p9z)); (try dsimp only at N9z); walk_at "Z")) | (k_here; (with_reducible show wpAny _ _ (call (Value.ref 685) _ _) _ _ _); k_dflt (refine' draw_use (by k_asm) (by k_asm) (by k_asm) (by k_asm) (by k_asm) (by walk_at "R") (by k_updF) (by walk_at "M") (by walk_at "N") (by walk_at "E") (by walk_at "E") (by walk_at "O") (by ktr_room) (by ktr_units) ?_; k_whole; intro x9z h9z tk9z p9z F9z N9z; ((first | (refine and3 p9z ?_; (try clear p9z); intro pa9z pb9z pc9z) | obtain ⟨pa9z, pb9z, pc9z⟩ := p9z)); (try dsimp only at N9z); walk_at "Z")) | (k_unfold; (try dsimp only); (try clear qkC)) | (k_end; wrow_close) | ((with_reducible show wpAny _ _ (execs (List.cons _ _) _) _ _ _); first | k_gentoks | (refine execs_consF ?_; intro qkC)) | walk1 | (dsimp only; walk1) | (leave1; try dsimp only) | fail "no step")
  all_goals (have F9z := True.intro; have N9z := True.intro; have h9z := True.intro; have p9z := True.intro; have pa9z := True.intro; have pb9z := True.intro; have pc9z := True.intro; have pd9z := True.intro; have pe9z := True.intro; have pf9z := True.intro; have pg9z := True.intro; have ph9z := True.intro; have pi9z := True.intro; have pz9z := True.intro; have tk9z := True.intro; have x9z := True.intro)
  repeat clear qk
  repeat clear ek
  rename_i r9 h9 tk9 u1 u2 u3 F9 N9 l9
  have hsm : Builtin.Range.small 0 (ce.length : Int) 1 = true := small_one (by omega) (by omega) (by omega) (by omega)
  refine LCt.CompSrcT.range (news := lawL z x hs xs to st ce si n VS) (n := ce.length) rfl F9 (fun q hq => N9 q (.tail _ hq)) (N9 _ (.head _)).1 hsm (by rw [rangeSize_one]; split <;> omega) (Nat.le_trans (show ce.length ≤ 10 by omega) (by decide)) ?_
  intro g
  refine restT_ind (fun i ys nx => nx = lawL z x hs xs to st ce si n VS ∧ Known VS hs T i ys) ⟨rfl, .nil⟩ ?_ ?_
  · rintro ys nx ⟨rfl, hK⟩ D h tk F N off
    simp only [LCg.Off1] at off
    (first | (refine and8 off ?_; (try clear off); intro f1 f2 f3 f4 f5 f6 f7 f8) | obtain ⟨f1, f2, f3, f4, f5, f6, f7, f8⟩ := off)
    exact cont D ys ys.length ((D, LCg.lst ys) :: VS) h tk (LS.put ⟨Ne.symm f1, Ne.symm f2, Ne.symm f3, Ne.symm f4, Ne.symm f5, Ne.symm f6, Ne.symm f7⟩) (fun p hp => .tail _ hp) (.head _) (lCE ▸ hK) F (fun q hq => N q (pB1 q hq))
  · clear N9 F9 l9 cont
    rintro i ys nx hi ⟨rfl, hK⟩ v I oI C oC' D m₂ h tk E' ⟨tv, rfl⟩ hC hx F9 N9 off ne
    rw [Int.zero_add] at hx
    dsimp only
    obtain ⟨q, eq, hv⟩ := R.ce i (by omega)
    have eq' := at_nat eq
    obtain ⟨b, hb⟩ := hv.st
    cases b
    · (try (refine foldQ ?_; intro qkT2))
      repeat' (((fail_if_success (with_reducible show PyProof.Rows.LCt.CompSrcT _ _ _ _ _ _ _ _ _ _ _ _ _ _ _)); (fail_if_success (with_reducible show PyProof.Rows.LCg.CompEnd _ _ _ _ _ _ _ _ _ _ _ _ _ _))); first | (k_here; (with_reducible show wpAny _ _ (call (Value.ref 265) _ _) _ _ _); k_dflt (refine' bind_use (by k_asm) (by k_asm) (by k_asm) (by k_asm) (by k_asm) (by walk_at "R") (by k_updF) (by walk_at "M") (by k_mem) (by walk_at "N") (by walk_at "E") (by first | assumption | ((try simp only [List.length_append, List.length_cons, List.length_nil, List.length_set]); first | exact lenB (by assumption) rfl | exact lenA (by assumption) rfl | omega)) (by walk_at "E") (by ktr_room) (by ktr_units) ?_; k_whole; intro h9z tk9z F9z N9z; (try dsimp only at N9z); walk_at "Z")) | (k_here; (with_reducible show wpAny _ _ (call (Value.ref 230) _ _) _ _ _); k_dflt (refine' newvar_use (by k_asm) (by k_asm) (by k_asm) (by k_asm) (by k_asm) (by walk_at "R") (by k_updF) (by walk_at "M") (by walk_at "L") (by ktr_room) (by ktr_units) ?_; k_whole; intro x9z h9z tk9z p9z F9z N9z; (try dsimp only at N9z); (try k_lt p9z); walk_at "Z")) | (k_here; (with_reducible show wpAny _ _ (call (Value.ref 251) _ _) _ _ _); k_dflt (refine' Cut.uz (by k_asm) (by k_asm) (by k_asm) (by k_asm) sub_self (by k_asm) (by walk_at "R") (by ktr_room) (by ktr_units) (derefS (by walk_at "M") (by k_mem) (by walk_at "M") (by omega)) ?_; k_whole; intro x9z h9z tk9z p9z F9z N9z; (first | (obtain ⟨pa9z, ⟨pb9z, pc9z, pd9z, pe9z⟩, pf9z⟩ := p9z; subst pa9z) | (first | (refine and4 p9z ?_; (try clear p9z); intro pa9z pb9z pc9z pd9z) | obtain ⟨pa9z, pb9z, pc9z, pd9z⟩ := p9z)); (try dsimp only at N9z); walk_at "Z")) | (k_here; (with_reducible show wpAny _ _ (call (Value.ref 699) _ _) _ _ _); k_dflt (refine' Cut.uz (by k_asm) (by k_asm) (by k_asm) (by k_asm) (by refine' Del.sub2 (by k_upd) (by k_upd)) (by k_asm) (by walk_at "R") (by ktr_room) (by ktr_units) (lcell _ _ _ _ _ _ _ _ _ _ _ _ _ _ _ _ (by walk_at "M") (by walk_at "A") (by walk_at "A") (by walk_at "N") (by walk_at "M") (by walk_at "N") (by walk_at "E") (by walk_at "L")) ?_; k_whole; intro x9z h9z tk9z p9z F9z N9z; ((first | (refine andNest p9z ?_; (try clear p9z); intro pa9z pb9z pc9z pd9z pe9z pf9z pg9z ph9z pi9z) | obtain ⟨⟨pa9z, pb9z, pc9z⟩, ⟨pd9z, pe9z, pf9z⟩, pg9z, ph9z, pi9z⟩ := p9z)); (replace pa9z := ltN pa9z); (replace pb9z := ltN pb9z); (replace pd9z := ltN pd9z); (replace pe9z := ltN pe9z); (try k_lt pc9z); (try k_lt pf9z); (try dsimp only at N9z); (try dsimp only); (try k_sweep); (try k_fold))) | (k_here; (with_reducible show wpAny _ _ (call (Value.ref 674) _ _) _ _ _); k_dflt (refine' Cut.uz (by k_asm) (by k_asm) (by k_asm) (by k_asm) sub_self (by k_asm) (by walk_at "R") (by ktr_room) (by ktr_units) (areas _ _ _ _) ?_; k_whole; intro x9z h9z tk9z p9z F9z N9z; ((first | (refine and7 p9z ?_; (try clear p9z); intro pz9z pa9z pb9z pc9z pd9z pe9z pf9z) | obtain ⟨pz9z, pa9z, pb9z, pc9z, pd9z, pe9z, pf9z⟩ := p9z)); (try k_lt pa9z); (replace pb9z := ltN pb9z); (replace pc9z := ltN pc9z); (replace pd9z := ltN pd9z); (replace pe9z := ltN pe9z); (replace pf9z := ltN pf9z); (try dsimp only at N9z); (try dsimp only); (try k_sweep); (try k_fold))) | (k_here; (with_reducible show wpAny _ _ (call (Value.ref 154) _ _) _ _ _); k_dflt (refine' Cut.uz (by k_asm) (by k_asm) (by k_asm) (by k_asm) sub_self (by k_asm) (by walk_at "R") (by ktr_room) (by ktr_units) (symbols _ _) ?_; k_whole; intro x9z h9z tk9z p9z F9z N9z; ((first | (refine and9 p9z ?_; (try clear p9z); intro pa9z pb9z pc9z pd9z pe9z pf9z pg9z ph9z pi9z) | obtain ⟨pa9z, pb9z, pc9z, pd9z, pe9z, pf9z, pg9z, ph9z, pi9z⟩ := p9z)); (try k_lt pa9z); (replace pb9z := ltN pb9z); (replace pc9z := ltN pc9z); (replace pd9z := ltN pd9z); (try dsimp only at N9z); (try dsimp only); (try k_sweep); (try k_fold))) | (k_here; (with_reducible show wpAny _ _ (call (Value.ref 692) _ _) _ _ _); k_dflt (refine' whole_use (by k_asm) (by k_asm) (by k_asm) (by k_asm) (by k_asm) (by walk_at "R") (by k_updF) (by walk_at "M") (by walk_at "N") (by walk_at "E") (by ktr_room) (by ktr_units) ?_; k_whole; intro x9z h9z tk9z p9z F9z N9z; ((first | (refine and2 p9z ?_; (try clear p9z); intro pa9z pc9z) | obtain ⟨pa9z, pc9z⟩ := p9z)); (try dsimp only at N9z); walk_at "Z")) | (k_here; (with_reducible show wpAny _ _ (call (Value.ref 685) _ _) _ _ _); k_dflt (refine' draw_use (by k_asm) (by k_asm) (by k_asm) (by k_asm) (by k_asm) (by walk_at "R") (by k_updF) (by walk_at "M") (by walk_at "N") (by walk_at "E") (by walk_at "E") (by walk_at "O") (by ktr_room) (by ktr_units) ?_; k_whole; intro x9z h9z tk9z p9z F9z N9z; ((first | (refine and3 p9z ?_; (try clear p9z); intro pa9z pb9z pc9z) | obtain ⟨pa9z, pb9z, pc9z⟩ := p9z)); (try dsimp only at N9z); walk_at "Z")) | (k_unfold; (try dsimp only); (try clear qkC)) | (k_end; wrow_close) | ((with_reducible show wpAny _ _ (execs (List.cons _ _) _) _ _ _); first | k_gentoks | (refine execs_consF ?_; intro qkC)) | walk1 | (dsimp only; walk1) | (leave1; try dsimp only) | fail "no step")
      all_goals (have F9z := True.intro; have N9z := True.intro; have h9z := True.intro; have p9z := True.intro; have pa9z := True.intro; have pb9z := True.intro; have pc9z := True.intro; have pd9z := True.intro; have pe9z := True.intro; have pf9z := True.intro; have pg9z := True.intro; have ph9z := True.intro; have pi9z := True.intro; have pz9z := True.intro; have tk9z := True.intro; have x9z := True.intro)
      exact ⟨_, _, lawL z x hs xs to st ce si n VS, rfl, (by assumption), (by assumption), off, trivial, rfl, hK.snoc hb.2⟩
    · (try (refine foldQ ?_; intro qkT3))
      repeat' (((fail_if_success (with_reducible show PyProof.Rows.LCt.CompSrcT _ _ _ _ _ _ _ _ _ _ _ _ _ _ _)); (fail_if_success (with_reducible show PyProof.Rows.LCg.CompEnd _ _ _ _ _ _ _ _ _ _ _ _ _ _))); first | (k_here; (with_reducible show wpAny _ _ (call (Value.ref 265) _ _) _ _ _); k_dflt (refine' bind_use (by k_asm) (by k_asm) (by k_asm) (by k_asm) (by k_asm) (by walk_at "R") (by k_updF) (by walk_at "M") (by k_mem) (by walk_at "N") (by walk_at "E") (by first | assumption | ((try simp only [List.length_append, List.length_cons, List.length_nil, List.length_set]); first | exact lenB (by assumption) rfl | exact lenA (by assumption) rfl | omega)) (by walk_at "E") (by ktr_room) (by ktr_units) ?_; k_whole; intro h9z tk9z F9z N9z; (try dsimp only at N9z); walk_at "Z")) | (k_here; (with_reducible show wpAny _ _ (call (Value.ref 230) _ _) _ _ _); k_dflt (refine' newvar_use (by k_asm) (by k_asm) (by k_asm) (by k_asm) (by k_asm) (by walk_at "R") (by k_updF) (by walk_at "M") (by walk_at "L") (by ktr_room) (by ktr_units) ?_; k_whole; intro x9z h9z tk9z p9z F9z N9z; (try dsimp only at N9z); (try k_lt p9z); walk_at "Z")) | (k_here; (with_reducible show wpAny _ _ (call (Value.ref 251) _ _) _ _ _); k_dflt (refine' Cut.uz (by k_asm) (by k_asm) (by k_asm) (by k_asm) sub_self (by k_asm) (by walk_at "R") (by ktr_room) (by ktr_units) (derefS (by walk_at "M") (by k_mem) (by walk_at "M") (by omega)) ?_; k_whole; intro x9z h9z tk9z p9z F9z N9z; (first | (obtain ⟨pa9z, ⟨pb9z, pc9z, pd9z, pe9z⟩, pf9z⟩ := p9z; subst pa9z) | (first | (refine and4 p9z ?_; (try clear p9z); intro pa9z pb9z pc9z pd9z) | obtain ⟨pa9z, pb9z, pc9z, pd9z⟩ := p9z)); (try dsimp only at N9z); walk_at "Z")) | (k_here; (with_reducible show wpAny _ _ (call (Value.ref 699) _ _) _ _ _); k_dflt (refine' Cut.uz (by k_asm) (by k_asm) (by k_asm) (by k_asm) (by refine' Del.sub2 (by k_upd) (by k_upd)) (by k_asm) (by walk_at "R") (by ktr_room) (by ktr_units) (lcell _ _ _ _ _ _ _ _ _ _ _ _ _ _ _ _ (by walk_at "M") (by walk_at "A") (by walk_at "A") (by walk_at "N") (by walk_at "M") (by walk_at "N") (by walk_at "E") (by walk_at "L")) ?_; k_whole; intro x9z h9z tk9z p9z F9z N9z; ((first | (refine andNest p9z ?_; (try clear p9z); intro pa9z pb9z pc9z pd9z pe9z pf9z pg9z ph9z pi9z) | obtain ⟨⟨pa9z, pb9z, pc9z⟩, ⟨pd9z, pe9z, pf9z⟩, pg9z, ph9z, pi9z⟩ := p9z)); (replace pa9z := ltN pa9z); (replace pb9z := ltN pb9z); (replace pd9z := ltN pd9z); (replace pe9z := ltN pe9z); (try k_lt pc9z); (try k_lt pf9z); (try dsimp only at N9z); (try dsimp only); (try k_sweep); (try k_fold))) | (k_here; (with_reducible show wpAny _ _ (call (Value.ref 674) _ _) _ _ _); k_dflt (refine' Cut.uz (by k_asm) (by k_asm) (by k_asm) (by k_asm) sub_self (by k_asm) (by walk_at "R") (by ktr_room) (by ktr_units) (areas _ _ _ _) ?_; k_whole; intro x9z h9z tk9z p9z F9z N9z; ((first | (refine and7 p9z ?_; (try clear p9z); intro pz9z pa9z pb9z pc9z pd9z pe9z pf9z) | obtain ⟨pz9z, pa9z, pb9z, pc9z, pd9z, pe9z, pf9z⟩ := p9z)); (try k_lt pa9z); (replace pb9z := ltN pb9z); (replace pc9z := ltN pc9z); (replace pd9z := ltN pd9z); (replace pe9z := ltN pe9z); (replace pf9z := ltN pf9z); (try dsimp only at N9z); (try dsimp only); (try k_sweep); (try k_fold))) | (k_here; (with_reducible show wpAny _ _ (call (Value.ref 154) _ _) _ _ _); k_dflt (refine' Cut.uz (by k_asm) (by k_asm) (by k_asm) (by k_asm) sub_self (by k_asm) (by walk_at "R") (by ktr_room) (by ktr_units) (symbols _ _) ?_; k_whole; intro x9z h9z tk9z p9z F9z N9z; ((first | (refine and9 p9z ?_; (try clear p9z); intro pa9z pb9z pc9z pd9z pe9z pf9z pg9z ph9z pi9z) | obtain ⟨pa9z, pb9z, pc9z, pd9z, pe9z, pf9z, pg9z, ph9z, pi9z⟩ := p9z)); (try k_lt pa9z); (replace pb9z := ltN pb9z); (replace pc9z := ltN pc9z); (replace pd9z := ltN pd9z); (try dsimp only at N9z); (try dsimp only); (try k_sweep); (try k_fold))) | (k_here; (with_reducible show wpAny _ _ (call (Value.ref 692) _ _) _ _ _); k_dflt (refine' whole_use (by k_asm) (by k_asm) (by k_asm) (by k_asm) (by k_asm) (by walk_at "R") (by k_updF) (by walk_at "M") (by walk_at "N") (by walk_at "E") (by ktr_room) (by ktr_units) ?_; k_whole; intro x9z h9z tk9z p9z F9z N9z; ((first | (refine and2 p9z ?_; (try clear p9z); intro pa9z pc9z) | obtain ⟨pa9z, pc9z⟩ := p9z)); (try dsimp only at N9z); walk_at "Z")) | (k_here; (with_reducible show wpAny _ _ (call (Value.ref 685) _ _) _ _ _); k_dflt (refine' draw_use (by k_asm) (by k_asm) (by k_asm) (by k_asm) (by k_asm) (by walk_at "R") (by k_updF) (by walk_at "M") (by walk_at "N") (by walk_at "E") (by walk_at "E") (by walk_at "O") (by ktr_room) (by ktr_units) ?_; k_whole; intro x9z h9z tk9z p9z F9z N9z; ((first | (refine and3 p9z ?_; (try clear p9z); intro pa9z pb9z pc9z) | obtain ⟨pa9z, pb9z, pc9z⟩ := p9z)); (try dsimp only at N9z); walk_at "Z")) | (k_unfold; (try dsimp only); (try clear qkC)) | (k_end; wrow_close) | ((with_reducible show wpAny _ _ (execs (List.cons _ _) _) _ _ _); first | k_gentoks | (refine execs_consF ?_; intro qkC)) | walk1 | (dsimp only; walk1) | (leave1; try dsimp only) | fail "no step")
      all_goals (have F9z := True.intro; have N9z := True.intro; have h9z := True.intro; have p9z := True.intro; have pa9z := True.intro; have pb9z := True.intro; have pc9z := True.intro; have pd9z := True.intro; have pe9z := True.intro; have pf9z := True.intro; have pg9z := True.intro; have ph9z := True.intro; have pi9z := True.intro; have pz9z := True.intro; have tk9z := True.intro; have x9z := True.intro)
      exact ⟨_, _, lawL z x hs xs to st ce si n VS, rfl, (by assumption), (by assumption), off, trivial, rfl, hK.up⟩
/-! L7 -/
local macro_rules | `(tactic| walk_at "compareOp Eq ref ref") => `(tactic| (k_here; (rename IntsAre _ _ => hK9); k_dflt (first | (refine' ints_eq_nil (by k_asm) (by k_mem) (by k_mem) hK9 (by ktr_units) ?_; k_whole) | (refine' ints_eq_cons (by k_asm) (by k_mem) (by k_mem) hK9 (by ktr_units) ?_; k_whole))))
theorem pB3 {K D X P H XL TO ST CE SI : Addr × Obj} {VS : List (Addr × Obj)} : ∀ q ∈ P :: H :: XL :: TO :: ST :: CE :: SI :: K :: D :: VS, q ∈ K :: D :: X :: P :: H :: XL :: TO :: ST :: CE :: SI :: VS := by
  repeat (first | exact sub_self | refine List.forall_mem_cons.mpr ⟨by repeat (first | exact List.Mem.head _ | refine List.Mem.tail _ ?_), ?_⟩ | refine sub_tail ?_)
theorem partC2 (w : World) (z : LD) (x : DrawD) (hs xs to st ce si : List Value) (n : LN) (VS : List (Addr × Obj)) (T S : Nat → Int) (SC cC cM : Addr) (k : Nat) (u : Option Value) (KN : Addr) (ys : List Value) (nk : Nat) (mean : ExcName → Option Value) (mg mb : Str → Option Value) (dp un : Nat) (gd : Option (List Code)) (a : Addr) (ccd : Value) (A₀ : Around) (base h₀ : Heap) (L : Addr) (s : Shared) (Q : Flow → Shared → Prop) (E : Value → Shared → Prop)
    (B : Below A₀ base [] h₀) (F : Fr h₀ L s.heap (mC z SC u (some (.ref KN)))) (XX : (Mine.K w.params).In h₀) (N : News h₀ L s.heap (lawL z x hs xs to st ce si n VS)) (TT : Top VW LO mean mg mb h₀) (hd : dp + 200 < recursionLimit) (hu : un + 8000 < cLine)
    (LS : LawS w z cC cM VS) (hk : k ≤ 6) (R : Row VS hs to st ce si k T S) (hKN : (KN, listOf ys.toArray nk) ∈ VS) (hK : Known VS hs T (k + 1) ys)
    (cont : ∀ (KN : Addr) (k0 : Nat) (t0 : Tok) (ys : List Value) (nk : Nat) (hs : List Value) (n : LN) (VS : List (Addr × Obj)) (h' : Heap) (tk' : Nat), k0 ≤ k → LawS w z cC cM VS → Row VS hs to st ce si k T S → Bnd VS hs (2 * k0) (T k0) → (KN, listOf (.int (k0 : Int) t0 :: ys).toArray nk) ∈ VS → Fr h₀ L h' (mC z SC u (some (.ref KN))) → News h₀ L h' (lawL z x hs xs to st ce si n VS) →
      wpAny (model PySem.Challenge.rw_sa0162_01.row.prog w) (lawTop dp un gd L a ccd cC cM) (execs (c55b.drop 11) (lawEnv L a ccd cC cM)) Q E { s with heap := h', toks := tk' }) :
    wpAny (model PySem.Challenge.rw_sa0162_01.row.prog w) (lawTop dp un gd L a ccd cC cM) (execs (c55b.drop 10) (lawEnv L a ccd cC cM)) Q E s := by
  revert XX; k_fill; intro XX
  have o1 := ltN LS.o1; have o2 := ltN LS.o2; have o3 := ltN LS.o3; have o4 := ltN LS.o4; have o5 := ltN LS.o5; have o6 := ltN LS.o6
  have a1 := LS.a1; have a2 := LS.a2; have a3 := LS.a3; have a4 := LS.a4; have a5 := LS.a5; have a6 := LS.a6; have a7 := LS.a7
  have hPool := LS.pool; have hSP := LS.nSP; have hMach := LS.mach
  have m1 := hMach.x; have m2 := hMach.xd; have m3 := hMach.m; have m4 := hMach.md
  obtain ⟨oM, cm, cmd⟩ := LS.cm
  obtain ⟨oC, cc, ccd'⟩ := LS.cc
  have lH := R.lH; have lTO := R.lTO; have lST := R.lST; have lCE := R.lCE; have lSI := R.lSI
  have z1 := R.le1 hk; have z2 := R.le2 hk; have z3 := R.le3 hk; have z4 := R.le4 hk; have z5 := R.le5 hk; have ePH := LS.nPH; have ePX := LS.nPX; have ePT := LS.nPT; have ePS := LS.nPS; have ePC := LS.nPC; have ePI := LS.nPI; have eHX := LS.nHX; have eHT := LS.nHT; have eHS := LS.nHS; have eHC := LS.nHC; have eHI := LS.nHI; have eXT := LS.nXT; have eXS := LS.nXS; have eXC := LS.nXC; have eXI := LS.nXI; have eTS := LS.nTS; have eTC := LS.nTC; have eTI := LS.nTI; have eSC := LS.nSC; have eSI := LS.nSI; have eCI := LS.nCI
  (first | (refine and4 hK ?_; (try clear hK); intro ns hKI hKL hKB) | obtain ⟨ns, hKI, hKL, hKB⟩ := hK)
  obtain ⟨tT, eT⟩ := R.to k (Nat.le_refl _)
  have eT' : to[to.length - 1]? = some (.int (T k) tT) := by rw [lTO]; exact eT
  obtain ⟨q, eq, hq, _⟩ := R.ce k (Nat.le_refl _)
  have eC' : ce[ce.length - 1]? = some (.ref q) := by rw [lCE]; exact eq
  (first | (refine and4 hq ?_; (try clear hq); intro qa qb qc qm) | obtain ⟨qa, qb, qc, qm⟩ := hq)
  have nq : q ≠ z.A.H := neN (a2 _ qm)
  cases ns with
  | nil =>
    (try (refine foldAE ?_; intro envT AT))
    repeat' (((fail_if_success (with_reducible show wpAny _ _ (exec (Stmt.For _ _ _ _ _) _) _ _ _)); (fail_if_success (with_reducible show wpAny _ _ (execs (Stmt.For _ _ _ _ _ :: _) _) _ _ _))); first | (k_here; (with_reducible show wpAny _ _ (call (Value.ref 265) _ _) _ _ _); k_dflt (refine' bind_use (by k_asm) (by k_asm) (by k_asm) (by k_asm) (by k_asm) (by walk_at "R") (by k_updF) (by walk_at "M") (by k_mem) (by walk_at "N") (by walk_at "E") (by first | assumption | ((try simp only [List.length_append, List.length_cons, List.length_nil, List.length_set]); first | exact lenB (by assumption) rfl | exact lenA (by assumption) rfl | omega)) (by walk_at "E") (by ktr_room) (by ktr_units) ?_; k_whole; intro h9z tk9z F9z N9z; (try dsimp only at N9z); walk_at "Z")) | (k_here; (with_reducible show wpAny _ _ (call (Value.ref 230) _ _) _ _ _); k_dflt (refine' newvar_use (by k_asm) (by k_asm) (by k_asm) (by k_asm) (by k_asm) (by walk_at "R") (by k_updF) (by walk_at "M") (by walk_at "L") (by ktr_room) (by ktr_units) ?_; k_whole; intro x9z h9z tk9z p9z F9z N9z; (try dsimp only at N9z); (try k_lt p9z); walk_at "Z")) | (k_here; (with_reducible show wpAny _ _ (call (Value.ref 251) _ _) _ _ _); k_dflt (refine' Cut.uz (by k_asm) (by k_asm) (by k_asm) (by k_asm) sub_self (by k_asm) (by walk_at "R") (by ktr_room) (by ktr_units) (derefS (by walk_at "M") (by k_mem) (by walk_at "M") (by omega)) ?_; k_whole; intro x9z h9z tk9z p9z F9z N9z; (first | (obtain ⟨pa9z, ⟨pb9z, pc9z, pd9z, pe9z⟩, pf9z⟩ := p9z; subst pa9z) | (first | (refine and4 p9z ?_; (try clear p9z); intro pa9z pb9z pc9z pd9z) | obtain ⟨pa9z, pb9z, pc9z, pd9z⟩ := p9z)); (try dsimp only at N9z); walk_at "Z")) | (k_here; (with_reducible show wpAny _ _ (call (Value.ref 699) _ _) _ _ _); k_dflt (refine' Cut.uz (by k_asm) (by k_asm) (by k_asm) (by k_asm) (by refine' Del.sub2 (by k_upd) (by k_upd)) (by k_asm) (by walk_at "R") (by ktr_room) (by ktr_units) (lcell _ _ _ _ _ _ _ _ _ _ _ _ _ _ _ _ (by walk_at "M") (by walk_at "A") (by walk_at "A") (by walk_at "N") (by walk_at "M") (by walk_at "N") (by walk_at "E") (by walk_at "L")) ?_; k_whole; intro x9z h9z tk9z p9z F9z N9z; ((first | (refine andNest p9z ?_; (try clear p9z); intro pa9z pb9z pc9z pd9z pe9z pf9z pg9z ph9z pi9z) | obtain ⟨⟨pa9z, pb9z, pc9z⟩, ⟨pd9z, pe9z, pf9z⟩, pg9z, ph9z, pi9z⟩ := p9z)); (replace pa9z := ltN pa9z); (replace pb9z := ltN pb9z); (replace pd9z := ltN pd9z); (replace pe9z := ltN pe9z); (try k_lt pc9z); (try k_lt pf9z); (try dsimp only at N9z); (try dsimp only); (try k_sweep); (try k_fold))) | (k_here; (with_reducible show wpAny _ _ (call (Value.ref 674) _ _) _ _ _); k_dflt (refine' Cut.uz (by k_asm) (by k_asm) (by k_asm) (by k_asm) sub_self (by k_asm) (by walk_at "R") (by ktr_room) (by ktr_units) (areas _ _ _ _) ?_; k_whole; intro x9z h9z tk9z p9z F9z N9z; ((first | (refine and7 p9z ?_; (try clear p9z); intro pz9z pa9z pb9z pc9z pd9z pe9z pf9z) | obtain ⟨pz9z, pa9z, pb9z, pc9z, pd9z, pe9z, pf9z⟩ := p9z)); (try k_lt pa9z); (replace pb9z := ltN pb9z); (replace pc9z := ltN pc9z); (replace pd9z := ltN pd9z); (replace pe9z := ltN pe9z); (replace pf9z := ltN pf9z); (try dsimp only at N9z); (try dsimp only); (try k_sweep); (try k_fold))) | (k_here; (with_reducible show wpAny _ _ (call (Value.ref 154) _ _) _ _ _); k_dflt (refine' Cut.uz (by k_asm) (by k_asm) (by k_asm) (by k_asm) sub_self (by k_asm) (by walk_at "R") (by ktr_room) (by ktr_units) (symbols _ _) ?_; k_whole; intro x9z h9z tk9z p9z F9z N9z; ((first | (refine and9 p9z ?_; (try clear p9z); intro pa9z pb9z pc9z pd9z pe9z pf9z pg9z ph9z pi9z) | obtain ⟨pa9z, pb9z, pc9z, pd9z, pe9z, pf9z, pg9z, ph9z, pi9z⟩ := p9z)); (try k_lt pa9z); (replace pb9z := ltN pb9z); (replace pc9z := ltN pc9z); (replace pd9z := ltN pd9z); (try dsimp only at N9z); (try dsimp only); (try k_sweep); (try k_fold))) | (k_here; (with_reducible show wpAny _ _ (call (Value.ref 692) _ _) _ _ _); k_dflt (refine' whole_use (by k_asm) (by k_asm) (by k_asm) (by k_asm) (by k_asm) (by walk_at "R") (by k_updF) (by walk_at "M") (by walk_at "N") (by walk_at "E") (by ktr_room) (by ktr_units) ?_; k_whole; intro x9z h9z tk9z p9z F9z N9z; ((first | (refine and2 p9z ?_; (try clear p9z); intro pa9z pc9z) | obtain ⟨pa9z, pc9z⟩ := p9z)); (try dsimp only at N9z); walk_at "Z")) | (k_here; (with_reducible show wpAny _ _ (call (Value.ref 685) _ _) _ _ _); k_dflt (refine' draw_use (by k_asm) (by k_asm) (by k_asm) (by k_asm) (by k_asm) (by walk_at "R") (by k_updF) (by walk_at "M") (by walk_at "N") (by walk_at "E") (by walk_at "E") (by walk_at "O") (by ktr_room) (by ktr_units) ?_; k_whole; intro x9z h9z tk9z p9z F9z N9z; ((first | (refine and3 p9z ?_; (try clear p9z); intro pa9z pb9z pc9z) | obtain ⟨pa9z, pb9z, pc9z⟩ := p9z)); (try dsimp only at N9z); walk_at "Z")) | (k_unfold; (try dsimp only); (try clear qkC)) | (k_end; wrow_close) | ((with_reducible show wpAny _ _ (execs (List.cons _ _) _) _ _ _); first | k_gentoks | (refine execs_consF ?_; intro qkC)) | walk1 | (dsimp only; walk1) | (leave1; try dsimp only) | fail "no step")
    all_goals (have F9z := True.intro; have N9z := True.intro; have h9z := True.intro; have p9z := True.intro; have pa9z := True.intro; have pb9z := True.intro; have pc9z := True.intro; have pd9z := True.intro; have pe9z := True.intro; have pf9z := True.intro; have pg9z := True.intro; have ph9z := True.intro; have pi9z := True.intro; have pz9z := True.intro; have tk9z := True.intro; have x9z := True.intro)
    rename_i lE hE' l1 D hD' l2 h9 tk9 lK hK' l3 hh FF NN
    rw [Int.toNat_natCast, show ((ce.length : Int) - 1) = ((k : Nat) : Int) by omega] at NN
    have hz := NN _ (.tail _ (.head _))
    have LS' := (LS.add (p := (D, { cls := Value.type "tuple", data := Data.seq #[Value.int 5 442, Value.int (T k) tT] })) ⟨l2.2.1, l2.2.2.1, l2.2.2.2.1, l2.2.2.2.2.1, l2.2.2.2.2.2.1, l2.2.2.2.2.2.2.1, l2.2.2.2.2.2.2.2.1⟩).add (p := (lK, W.listOf #[Value.int ((k : Nat) : Int) (tk9 + 1 + 1 + 1)] 0)) ⟨l3.2.2.1, l3.2.2.2.1, l3.2.2.2.2.1, l3.2.2.2.2.2.1, l3.2.2.2.2.2.2.1, l3.2.2.2.2.2.2.2.1, l3.2.2.2.2.2.2.2.2.1⟩
    obtain ⟨R', b', _⟩ := R.set (l' := (lK, W.listOf #[Value.int ((k : Nat) : Int) (tk9 + 1 + 1 + 1)] 0) :: (D, { cls := Value.type "tuple", data := Data.seq #[Value.int 5 442, Value.int (T k) tT] }) :: VS) (sub_tail (sub_tail sub_self)) (j := 2 * k) (z := D) (t := 442) (t' := tT) (v := T k) (by omega) (.tail _ (.head _)) ⟨fun i hi e => by rw [show i = k by omega], fun i hi e => by omega⟩
    exact cont lK k _ [] 0 (hs.set (2 * k) (.ref D)) n _ _ _ (Nat.le_refl _) LS' R' b' (.head _) (us_us FF) (fun q hq => NN q (pB3 q hq))
  | cons v ns =>
    (try (refine foldQ ?_; intro qkT2))
    repeat' (((fail_if_success (with_reducible show wpAny _ _ (exec (Stmt.For _ _ _ _ _) _) _ _ _)); (fail_if_success (with_reducible show wpAny _ _ (execs (Stmt.For _ _ _ _ _ :: _) _) _ _ _))); first | (k_here; (with_reducible show wpAny _ _ (call (Value.ref 265) _ _) _ _ _); k_dflt (refine' bind_use (by k_asm) (by k_asm) (by k_asm) (by k_asm) (by k_asm) (by walk_at "R") (by k_updF) (by walk_at "M") (by k_mem) (by walk_at "N") (by walk_at "E") (by first | assumption | ((try simp only [List.length_append, List.length_cons, List.length_nil, List.length_set]); first | exact lenB (by assumption) rfl | exact lenA (by assumption) rfl | omega)) (by walk_at "E") (by ktr_room) (by ktr_units) ?_; k_whole; intro h9z tk9z F9z N9z; (try dsimp only at N9z); walk_at "Z")) | (k_here; (with_reducible show wpAny _ _ (call (Value.ref 230) _ _) _ _ _); k_dflt (refine' newvar_use (by k_asm) (by k_asm) (by k_asm) (by k_asm) (by k_asm) (by walk_at "R") (by k_updF) (by walk_at "M") (by walk_at "L") (by ktr_room) (by ktr_units) ?_; k_whole; intro x9z h9z tk9z p9z F9z N9z; (try dsimp only at N9z); (try k_lt p9z); walk_at "Z")) | (k_here; (with_reducible show wpAny _ _ (call (Value.ref 251) _ _) _ _ _); k_dflt (refine' Cut.uz (by k_asm) (by k_asm) (by k_asm) (by k_asm) sub_self (by k_asm) (by walk_at "R") (by ktr_room) (by ktr_units) (derefS (by walk_at "M") (by k_mem) (by walk_at "M") (by omega)) ?_; k_whole; intro x9z h9z tk9z p9z F9z N9z; (first | (obtain ⟨pa9z, ⟨pb9z, pc9z, pd9z, pe9z⟩, pf9z⟩ := p9z; subst pa9z) | (first | (refine and4 p9z ?_; (try clear p9z); intro pa9z pb9z pc9z pd9z) | obtain ⟨pa9z, pb9z, pc9z, pd9z⟩ := p9z)); (try dsimp only at N9z); walk_at "Z")) | (k_here; (with_reducible show wpAny _ _ (call (Value.ref 699) _ _) _ _ _); k_dflt (refine' Cut.uz (by k_asm) (by k_asm) (by k_asm) (by k_asm) (by refine' Del.sub2 (by k_upd) (by k_upd)) (by k_asm) (by walk_at "R") (by ktr_room) (by ktr_units) (lcell _ _ _ _ _ _ _ _ _ _ _ _ _ _ _ _ (by walk_at "M") (by walk_at "A") (by walk_at "A") (by walk_at "N") (by walk_at "M") (by walk_at "N") (by walk_at "E") (by walk_at "L")) ?_; k_whole; intro x9z h9z tk9z p9z F9z N9z; ((first | (refine andNest p9z ?_; (try clear p9z); intro pa9z pb9z pc9z pd9z pe9z pf9z pg9z ph9z pi9z) | obtain ⟨⟨pa9z, pb9z, pc9z⟩, ⟨pd9z, pe9z, pf9z⟩, pg9z, ph9z, pi9z⟩ := p9z)); (replace pa9z := ltN pa9z); (replace pb9z := ltN pb9z); (replace pd9z := ltN pd9z); (replace pe9z := ltN pe9z); (try k_lt pc9z); (try k_lt pf9z); (try dsimp only at N9z); (try dsimp only); (try k_sweep); (try k_fold))) | (k_here; (with_reducible show wpAny _ _ (call (Value.ref 674) _ _) _ _ _); k_dflt (refine' Cut.uz (by k_asm) (by k_asm) (by k_asm) (by k_asm) sub_self (by k_asm) (by walk_at "R") (by ktr_room) (by ktr_units) (areas _ _ _ _) ?_; k_whole; intro x9z h9z tk9z p9z F9z N9z; ((first | (refine and7 p9z ?_; (try clear p9z); intro pz9z pa9z pb9z pc9z pd9z pe9z pf9z) | obtain ⟨pz9z, pa9z, pb9z, pc9z, pd9z, pe9z, pf9z⟩ := p9z)); (try k_lt pa9z); (replace pb9z := ltN pb9z); (replace pc9z := ltN pc9z); (replace pd9z := ltN pd9z); (replace pe9z := ltN pe9z); (replace pf9z := ltN pf9z); (try dsimp only at N9z); (try dsimp only); (try k_sweep); (try k_fold))) | (k_here; (with_reducible show wpAny _ _ (call (Value.ref 154) _ _) _ _ _); k_dflt (refine' Cut.uz (by k_asm) (by k_asm) (by k_asm) (by k_asm) sub_self (by k_asm) (by walk_at "R") (by ktr_room) (by ktr_units) (symbols _ _) ?_; k_whole; intro x9z h9z tk9z p9z F9z N9z; ((first | (refine and9 p9z ?_; (try clear p9z); intro pa9z pb9z pc9z pd9z pe9z pf9z pg9z ph9z pi9z) | obtain ⟨pa9z, pb9z, pc9z, pd9z, pe9z, pf9z, pg9z, ph9z, pi9z⟩ := p9z)); (try k_lt pa9z); (replace pb9z := ltN pb9z); (replace pc9z := ltN pc9z); (replace pd9z := ltN pd9z); (try dsimp only at N9z); (try dsimp only); (try k_sweep); (try k_fold))) | (k_here; (with_reducible show wpAny _ _ (call (Value.ref 692) _ _) _ _ _); k_dflt (refine' whole_use (by k_asm) (by k_asm) (by k_asm) (by k_asm) (by k_asm) (by walk_at "R") (by k_updF) (by walk_at "M") (by walk_at "N") (by walk_at "E") (by ktr_room) (by ktr_units) ?_; k_whole; intro x9z h9z tk9z p9z F9z N9z; ((first | (refine and2 p9z ?_; (try clear p9z); intro pa9z pc9z) | obtain ⟨pa9z, pc9z⟩ := p9z)); (try dsimp only at N9z); walk_at "Z")) | (k_here; (with_reducible show wpAny _ _ (call (Value.ref 685) _ _) _ _ _); k_dflt (refine' draw_use (by k_asm) (by k_asm) (by k_asm) (by k_asm) (by k_asm) (by walk_at "R") (by k_updF) (by walk_at "M") (by walk_at "N") (by walk_at "E") (by walk_at "E") (by walk_at "O") (by ktr_room) (by ktr_units) ?_; k_whole; intro x9z h9z tk9z p9z F9z N9z; ((first | (refine and3 p9z ?_; (try clear p9z); intro pa9z pb9z pc9z) | obtain ⟨pa9z, pb9z, pc9z⟩ := p9z)); (try dsimp only at N9z); walk_at "Z")) | (k_unfold; (try dsimp only); (try clear qkC)) | (k_end; wrow_close) | ((with_reducible show wpAny _ _ (execs (List.cons _ _) _) _ _ _); first | k_gentoks | (refine execs_consF ?_; intro qkC)) | walk1 | (dsimp only; walk1) | (leave1; try dsimp only) | fail "no step")
    all_goals (have F9z := True.intro; have N9z := True.intro; have h9z := True.intro; have p9z := True.intro; have pa9z := True.intro; have pb9z := True.intro; have pc9z := True.intro; have pd9z := True.intro; have pe9z := True.intro; have pf9z := True.intro; have pg9z := True.intro; have ph9z := True.intro; have pi9z := True.intro; have pz9z := True.intro; have tk9z := True.intro; have x9z := True.intro)
    rename_i lE hE' FF NN l1
    rename IntsAre _ _ => hI9
    cases hI9 with
    | cons n₀ t r =>
      obtain ⟨k0, rfl, g1, g2⟩ := hKB _ (.head _)
      exact cont KN k0 t _ nk hs n VS _ _ (by omega) LS R g2 hKN FF (fun q hq => NN q (.tail _ hq))
/-! L8 -/
theorem bits8 {v : Int} (h : v.natAbs ≤ 8 * BB) : (Builtin.Int.intBits v : Int) ≤ 4096 := by
  have : Builtin.Int.intBits v ≤ 4096 := intBits_le_iff.mpr (Nat.lt_of_le_of_lt h (by decide +kernel))
  omega
theorem Bnd.val {l hs j v v'} (b : Bnd l hs j v) (e : v = v') : Bnd l hs j v' := e ▸ b
noncomputable abbrev lawR (z : LD) (x : DrawD) (to st ce si : List Value) (n : LN) (VS : List (Addr × Obj)) : List (Addr × Obj) :=
  (z.P, poolD z.SS x) :: (z.TO, listOf to.toArray n.n4) :: (z.ST, listOf st.toArray n.n5) :: (z.CE, listOf ce.toArray n.n6) :: (z.SI, listOf si.toArray n.n7) :: VS
theorem lr1 {P H XL a b c d : Addr × Obj} {VS : List (Addr × Obj)} : ∀ q ∈ H :: XL :: P :: a :: b :: c :: d :: VS, q ∈ P :: H :: XL :: a :: b :: c :: d :: VS := by
  repeat (first | exact sub_self | refine List.forall_mem_cons.mpr ⟨by repeat (first | exact List.Mem.head _ | refine List.Mem.tail _ ?_), ?_⟩ | refine sub_tail ?_)
theorem lr2 {P H XL a b c d : Addr × Obj} {VS : List (Addr × Obj)} : ∀ q ∈ XL :: H :: P :: a :: b :: c :: d :: VS, q ∈ P :: H :: XL :: a :: b :: c :: d :: VS := by
  repeat (first | exact sub_self | refine List.forall_mem_cons.mpr ⟨by repeat (first | exact List.Mem.head _ | refine List.Mem.tail _ ?_), ?_⟩ | refine sub_tail ?_)
theorem lr3 {N P H XL a b c d : Addr × Obj} {VS : List (Addr × Obj)} : ∀ q ∈ P :: H :: XL :: a :: b :: c :: d :: N :: VS, q ∈ N :: H :: XL :: P :: a :: b :: c :: d :: VS := by
  repeat (first | exact sub_self | refine List.forall_mem_cons.mpr ⟨by repeat (first | exact List.Mem.head _ | refine List.Mem.tail _ ?_), ?_⟩ | refine sub_tail ?_)
theorem lr4 {P H XL a b c d : Addr × Obj} {VS : List (Addr × Obj)} : ∀ q ∈ P :: H :: XL :: a :: b :: c :: d :: VS, q ∈ XL :: H :: P :: a :: b :: c :: d :: VS := by
  repeat (first | exact sub_self | refine List.forall_mem_cons.mpr ⟨by repeat (first | exact List.Mem.head _ | refine List.Mem.tail _ ?_), ?_⟩ | refine sub_tail ?_)
section
variable {w : World} {z : LD} {x : DrawD} {hs xs to st ce si : List Value} {n : LN} {VS : List (Addr × Obj)} {T S : Nat → Int} {cC cM : Addr} {k p : Nat}
theorem LawS.ords (LS : LawS w z cC cM VS) : (z.P ≠ z.A.H ∧ z.TO ≠ z.A.H ∧ z.ST ≠ z.A.H ∧ z.CE ≠ z.A.H ∧ z.SI ≠ z.A.H ∧ z.A.XL ≠ z.A.H) ∧ (z.P ≠ z.A.XL ∧ z.TO ≠ z.A.XL ∧ z.ST ≠ z.A.XL ∧ z.CE ≠ z.A.XL ∧ z.SI ≠ z.A.XL ∧ z.A.H ≠ z.A.XL) := by
  have e := LS.ne21
  exact ⟨⟨e.1.1, e.2.1.2.1.symm, e.2.1.2.2.1.symm, e.2.1.2.2.2.1.symm, e.2.1.2.2.2.2.symm, e.2.1.1.symm⟩, e.1.2.1, e.2.2.1.1.symm, e.2.2.1.2.1.symm, e.2.2.1.2.2.1.symm, e.2.2.1.2.2.2.symm, e.2.1.1⟩
theorem LawS.rH (LS : LawS w z cC cM VS) : ∀ q ∈ lawR z x to st ce si n VS, q.1 ≠ z.A.H := fun q hq => by
  obtain ⟨⟨e1, e2, e3, e4, e5, e6⟩, _⟩ := LS.ords
  simp only [List.mem_cons] at hq
  rcases hq with rfl | rfl | rfl | rfl | rfl | hq
  · exact e1
  · exact e2
  · exact e3
  · exact e4
  · exact e5
  · exact LS.a2 q hq
theorem LawS.rX (LS : LawS w z cC cM VS) : ∀ q ∈ lawR z x to st ce si n VS, q.1 ≠ z.A.XL := fun q hq => by
  obtain ⟨_, ⟨e1, e2, e3, e4, e5, e6⟩⟩ := LS.ords
  simp only [List.mem_cons] at hq
  rcases hq with rfl | rfl | rfl | rfl | rfl | hq
  · exact e1
  · exact e2
  · exact e3
  · exact e4
  · exact e5
  · exact LS.a3 q hq
theorem inR {q} (h : q ∈ VS) : q ∈ lawR z x to st ce si n VS := .tail _ (.tail _ (.tail _ (.tail _ (.tail _ h))))
structure HD where
  hs : List Value
  xs : List Value
  n : LN
  VS : List (Addr × Obj)
  t : Tok
/-- what a call of plus/3 that holds leaves -/
def HPost (w : World) (z : LD) (cC cM : Addr) (VS : List (Addr × Obj)) (hs to st ce si : List Value) (k : Nat) (T S : Nat → Int) (p : Nat) (d : HD) : Prop :=
  (1 ≤ d.xs.length ∧ d.xs.length ≤ 10) ∧ LawS w z cC cM d.VS ∧ (∀ q ∈ VS, q ∈ d.VS) ∧ Row d.VS d.hs to st ce si k T S ∧ Bnd d.VS d.hs (2 * p) (T p) ∧ Bnd d.VS d.hs (2 * p + 1) (S p) ∧ Bnd d.VS d.hs (2 * (p + 1)) (T (p + 1)) ∧
  ∀ i v, i ≠ 2 * p → i ≠ 2 * p + 1 → i ≠ 2 * (p + 1) → Bnd VS hs i v → Bnd d.VS d.hs i v
theorem set_fin (R : Row VS hs to st ce si k T S) (LS : LawS w z cC cM VS) {j : Nat} {q : Addr} {t t' : Tok} {kk : Nat} {v : Int} (h1 : z.A.H < q) (h2 : z.A.XL < q) (h3 : ∀ p ∈ lawR z x to st ce si n VS, p.1 < q) (hj : j < 2 * k + 1)
    (hv : (∀ i, i ≤ k → j = 2 * i → v = T i) ∧ (∀ i, i < k → j = 2 * i + 1 → v = S i)) : LawS w z cC cM ((q, tup #[.int 5 t, .int v t'] kk) :: VS) ∧ Row ((q, tup #[.int 5 t, .int v t'] kk) :: VS) (hs.set j (.ref q)) to st ce si k T S ∧ Bnd ((q, tup #[.int 5 t, .int v t'] kk) :: VS) (hs.set j (.ref q)) j v ∧ ∀ i w, i ≠ j → Bnd VS hs i w → Bnd ((q, tup #[.int 5 t, .int v t'] kk) :: VS) (hs.set j (.ref q)) i w :=
  ⟨LS.add ⟨h3 _ (.head _), h1, h2, h3 _ (.tail _ (.head _)), h3 _ (.tail _ (.tail _ (.head _))), h3 _ (.tail _ (.tail _ (.tail _ (.head _)))), h3 _ (.tail _ (.tail _ (.tail _ (.tail _ (.head _)))))⟩, R.set (sub_tail sub_self) hj (.head _) hv⟩
theorem len4 {a b : Nat} (h : a = max b 4) (g : b ≤ 10) : 1 ≤ a ∧ a ≤ 10 := ⟨h ▸ Nat.le_trans (by decide) (Nat.le_max_right b 4), h ▸ Nat.max_le.mpr ⟨g, by decide⟩⟩
theorem idx {hs : List Value} {k j : Nat} (lH : hs.length = 2 * k + 1) (h : j < 2 * k + 1) : (j : Int) < hs.length := by rw [lH]; exact Int.ofNat_lt.mpr h
theorem i63 {k j : Nat} (hk : k ≤ 6) (h : j < 2 * k + 1) : (j : Int) < 2 ^ 63 := by omega
theorem ev_inj {a b : Nat} (h : 2 * a = 2 * b) : a = b := Nat.eq_of_mul_eq_mul_left (by decide) h
theorem ev_od {a b : Nat} (h : 2 * a = 2 * b + 1) : False := by omega
theorem len1k {hs : List Value} {k : Nat} (lH : hs.length = 2 * k + 1) (hk : k ≤ 6) : hs.length ≤ 1000 := by omega
theorem sumH (R : Row VS hs to st ce si k T S) (LS : LawS w z cC cM VS) (hx : 1 ≤ xs.length ∧ xs.length ≤ 10) (hk : k ≤ 6) (hp : p < k) {q1 q2 q3 : Addr} {b1 b2 b3 : Bool} (c1 : StB VS hs (2 * p) q1 (T p) b1) (c2 : StB VS hs (2 * p + 1) q2 (S p) b2) (c3 : StB VS hs (2 * (p + 1)) q3 (T (p + 1)) b3)
    (hb : (b1 = false ∧ b2 = false) ∨ (b1 = false ∧ b3 = false) ∨ (b2 = false ∧ b3 = false)) :
    Cut w 706 [.ref z.A.M, .ref q1, .ref q2, .ref q3] 80 3500 (lawL z x hs xs to st ce si n VS) (HPost w z cC cM VS hs to st ce si k T S p) (fun d => .str (Str.ofString "holds") d.t) (fun d => lawL z x d.hs d.xs to st ce si d.n d.VS) := by
  have lH := R.lH
  have eS := R.sum p hp
  have bT := R.bT p (Nat.le_of_lt hp); have bT1 := R.bT (p + 1) hp; have bS := R.bS p hp
  have M : Mach w.params z.A (lawR z x to st ce si n VS) := LS.mach.mono fun q hq => inR hq
  obtain ⟨r1, D1, s1⟩ := c1.der (by omega)
  obtain ⟨r2, D2, s2⟩ := c2.der (by omega)
  obtain ⟨r3, D3, s3⟩ := c3.der (by omega)
  have up : ∀ {q r}, Der VS hs q r → Der (lawR z x to st ce si n VS) hs q r := fun d => d.mono fun q hq => inR hq
  have hbT : (Builtin.Int.intBits (T p) : Int) ≤ 4096 := bits8 (Nat.le_trans bT (Nat.mul_le_mul_right _ (by omega)))
  have hbT1 : (Builtin.Int.intBits (T (p + 1)) : Int) ≤ 4096 := bits8 (Nat.le_trans bT1 (Nat.mul_le_mul_right _ (by omega)))
  have hbS : (Builtin.Int.intBits (S p) : Int) ≤ 4096 := bits8 (Nat.le_trans bS (by decide))
  have h1k := len1k lH hk
  have h100 : xs.length ≤ 100 := Nat.le_trans hx.2 (by decide)
  have i1 := ev_lt (Nat.le_of_lt hp); have i2 := od_lt hp; have i3 : 2 * (p + 1) < 2 * k + 1 := ev_lt hp
  have d1 : T (p + 1) - S p = T p := by rw [eS, Int.add_sub_cancel]
  have d2 : T (p + 1) - T p = S p := by rw [eS, Int.add_comm, Int.add_sub_cancel]
  have n12 : 2 * p ≠ 2 * p + 1 := fun e => ev_od e
  have n13 : 2 * p ≠ 2 * (p + 1) := fun e => Nat.succ_ne_self p (ev_inj e).symm
  have n23 : 2 * p + 1 ≠ 2 * (p + 1) := fun e => ev_od e.symm
  cases b1 with
  | true =>
    obtain ⟨rfl, rfl⟩ : b2 = false ∧ b3 = false := by revert hb; cases b2 <;> cases b3 <;> simp
    obtain ⟨⟨t1, t1', k1, m1⟩, g1⟩ := c1
    obtain ⟨t2, t2', k2, m2⟩ := s2
    obtain ⟨t3, t3', k3, m3⟩ := s3
    refine ((lsum_1 w z.A q1 q2 q3 r2 r3 (S p) (T (p + 1)) ((2 * p : Nat) : Int) t1 t1' t2 t2' t3 t3' k1 k2 k3 n.n2 n.n3 hs xs (lawR z x to st ce si n VS) M LS.rH LS.rX h1k h100 hx.1 (up D2) (up D3) (inR m2) (inR m3) (inR m1) (at_nat g1) (Int.natCast_nonneg _) (idx lH i1) (i63 hk i1) (by rw [d1]; exact hbT)).sub lr1).conseq fun y hy => ?_
    obtain ⟨y1, y2, y3, y4⟩ := hy
    have f := set_fin (t := y.t1) (t' := y.t2) (kk := y.k) (v := T (p + 1) - S p) R LS y2 y3 y4 (j := 2 * p) i1 ⟨fun i hi e => ev_inj e ▸ d1, fun i hi e => (ev_od e).elim⟩
    exact ⟨⟨hs.set (2 * p) (.ref y.q), y.xs, ⟨y.n2, y.n, n.n4, n.n5, n.n6, n.n7⟩, _, y.t⟩, ⟨len4 y1 hx.2, f.1, sub_tail sub_self, f.2.1, f.2.2.1.val d1, f.2.2.2 _ _ n12.symm c2.2, f.2.2.2 _ _ n13.symm c3.2, fun i v e _ _ b => f.2.2.2 i v e b⟩, rfl, by rw [Int.toNat_natCast]; exact lr3⟩
  | false =>
    obtain ⟨t1, t1', k1, m1⟩ := s1
    cases b2 with
    | true =>
      obtain rfl : b3 = false := by revert hb; cases b3 <;> simp
      obtain ⟨⟨t2, t2', k2, m2⟩, g2⟩ := c2
      obtain ⟨t3, t3', k3, m3⟩ := s3
      refine ((lsum_2 w z.A q1 q2 q3 r1 r3 (T p) (T (p + 1)) ((2 * p + 1 : Nat) : Int) t1 t1' t2 t2' t3 t3' k1 k2 k3 n.n2 n.n3 hs xs (lawR z x to st ce si n VS) M LS.rH LS.rX h1k h100 hx.1 (up D1) (up D3) (inR m1) (inR m3) (inR m2) (at_nat g2) (Int.natCast_nonneg _) (idx lH i2) (i63 hk i2) (by rw [d2]; exact hbS)).sub lr1).conseq fun y hy => ?_
      obtain ⟨y1, y2, y3, y4⟩ := hy
      have f := set_fin (t := y.t1) (t' := y.t2) (kk := y.k) (v := T (p + 1) - T p) R LS y2 y3 y4 (j := 2 * p + 1) i2 ⟨fun i hi e => (ev_od e.symm).elim, fun i hi e => ev_inj (Nat.succ.inj e) ▸ d2⟩
      exact ⟨⟨hs.set (2 * p + 1) (.ref y.q), y.xs, ⟨y.n2, y.n, n.n4, n.n5, n.n6, n.n7⟩, _, y.t⟩, ⟨len4 y1 hx.2, f.1, sub_tail sub_self, f.2.1, f.2.2.2 _ _ n12 c1.2, f.2.2.1.val d2, f.2.2.2 _ _ n23.symm c3.2, fun i v _ e _ b => f.2.2.2 i v e b⟩, rfl, by rw [Int.toNat_natCast]; exact lr3⟩
    | false =>
      obtain ⟨t2, t2', k2, m2⟩ := s2
      cases b3 with
      | true =>
        obtain ⟨⟨t3, t3', k3, m3⟩, g3⟩ := c3
        refine ((lsum_3 w z.A q1 q2 q3 r1 r2 (T p) (S p) ((2 * (p + 1) : Nat) : Int) t1 t1' t2 t2' t3 t3' k1 k2 k3 n.n2 n.n3 hs xs (lawR z x to st ce si n VS) M LS.rH LS.rX h1k h100 hx.1 (up D1) (up D2) (inR m1) (inR m2) (inR m3) (at_nat g3) (Int.natCast_nonneg _) (idx lH i3) (i63 hk i3) (by rw [← eS]; exact hbT1)).sub lr1).conseq fun y hy => ?_
        obtain ⟨y1, y2, y3, y4⟩ := hy
        have f := set_fin (t := y.t1) (t' := y.t2) (kk := y.k) (v := T p + S p) R LS y2 y3 y4 (j := 2 * (p + 1)) i3 ⟨fun i hi e => ev_inj e ▸ eS.symm, fun i hi e => (ev_od e).elim⟩
        exact ⟨⟨hs.set (2 * (p + 1)) (.ref y.q), y.xs, ⟨y.n2, y.n, n.n4, n.n5, n.n6, n.n7⟩, _, y.t⟩, ⟨len4 y1 hx.2, f.1, sub_tail sub_self, f.2.1, f.2.2.2 _ _ n13 c1.2, f.2.2.2 _ _ n23 c2.2, f.2.2.1.val eS.symm, fun i v _ _ e b => f.2.2.2 i v e b⟩, rfl, by rw [Int.toNat_natCast]; exact lr3⟩
      | false =>
        obtain ⟨t3, t3', k3, m3⟩ := s3
        rw [eS] at m3
        have XH : ∀ q ∈ (z.A.H, listOf hs.toArray n.n2) :: lawR z x to st ce si n VS, q.1 ≠ z.A.XL := fun q hq => (List.mem_cons.mp hq).elim (fun e => e ▸ LS.ords.2.2.2.2.2.2) fun hq => LS.rX q hq
        have up2 : ∀ {q r}, Der VS hs q r → Der ((z.A.H, listOf hs.toArray n.n2) :: lawR z x to st ce si n VS) hs q r := fun d => (up d).mono (sub_tail sub_self)
        refine ((lsum_same w z.A q1 q2 q3 r1 r2 r3 (T p) (S p) 0 t1 t2 t3 t1' t2' t3' k1 k2 k3 n.n2 n.n3 hs xs ((z.A.H, listOf hs.toArray n.n2) :: lawR z x to st ce si n VS) (M.mono (sub_tail sub_self)) XH (.head _) h1k h100 hx.1 (up2 D1) (up2 D2) (up2 D3) (.tail _ (inR m1)) (.tail _ (inR m2)) (.tail _ (inR m3)) (by rw [← eS]; exact hbT1)).sub lr2).conseq fun y hy => ?_
        exact ⟨⟨hs, y.xs, ⟨n.n2, y.n, n.n4, n.n5, n.n6, n.n7⟩, VS, y.t⟩, ⟨len4 hy hx.2, LS, sub_self, R, c1.2, c2.2, c3.2, fun i v _ _ _ b => b⟩, rfl, lr4⟩
end
/-! L9 -/
theorem CutT.sub {w : World} {f : Addr} {vs : List Value} {d u : Nat} {E E2 : List (Addr × Obj)} {D : Type} {Post : D → Prop} {V : D → Value} {E' : D → List (Addr × Obj)} (C : CutT w f vs d u E Post V E') (h : ∀ p ∈ E, p ∈ E2) : CutT w f vs d u E2 Post V E' :=
  fun _ _ _ _ _ _ _ _ _ _ _ _ _ _ _ _ _ _ _ B F X N T XB TB hk hd hu ret => C _ _ _ _ _ _ _ _ _ _ _ _ _ _ _ _ _ _ _ B F X (fun q hq => N q (h q hq)) T XB TB hk hd hu ret
theorem CutT.conseq {w : World} {f : Addr} {vs : List Value} {d u : Nat} {E : List (Addr × Obj)} {D D' : Type} {Post : D → Prop} {V : D → Value} {E' : D → List (Addr × Obj)} {Post' : D' → Prop} {V' : D' → Value} {E'' : D' → List (Addr × Obj)}
    (C : CutT w f vs d u E Post V E') (h : ∀ x, Post x → ∃ y, Post' y ∧ V x = V' y ∧ ∀ p ∈ E'' y, p ∈ E' x) : CutT w f vs d u E Post' V' E'' := by
  intro mean mg mb dp un gd cn cs a ccd cl A₀ base h₀ L m s Q Xx B F XX N TT XB TB hks hd hu hret
  refine C mean mg mb dp un gd cn cs a ccd cl A₀ base h₀ L m s Q Xx B F XX N TT XB TB hks hd hu fun x h' tk' hp F' N' => ?_
  obtain ⟨y, p1, p2, p3⟩ := h x hp
  rw [p2]
  exact hret y h' tk' p1 F' fun q hq => N' q (p3 q hq)
theorem CutT.use {w : World} {f : Addr} {vs : List Value} {d u : Nat} {E : List (Addr × Obj)} {D : Type} {Post : D → Prop} {V : D → Value} {E' : D → List (Addr × Obj)} (C : CutT w f vs d u E Post V E')
    {mean : ExcName → Option Value} {mg mb : Str → Option Value} {dp un : Nat} {gd : Option (List Code)} {cn : Str} {cs : Scope} {a : Addr} {ccd : Value} {cl : List (Str × Addr)} {A₀ : Around} {base h₀ : Heap} {L : Addr} {m : Str → Option Value} {s : Shared}
    {Q X : Value → Shared → Prop} {news : List (Addr × Obj)}
    (B : Below A₀ base [] h₀) (F : Fr h₀ L s.heap m) (X₀ : (Mine.K w.params).In h₀) (N : News h₀ L s.heap news) (hE : ∀ q ∈ E, q ∈ news) (T : Top VW LO mean mg mb h₀) (XB : (Mine.K w.params).In base) (TB : Top VW LO mean mg mb base) (hk : cs.kind = .function) (hd : dp + d < recursionLimit) (hu : un + u < cLine)
    (ret : ∀ x h' tk', Post x → Fr h₀ L h' m → News h₀ L h' (E' x) → Q (V x) { s with heap := h', toks := tk' }) :
    wpAny (model PySem.Challenge.rw_sa0162_01.row.prog w) (ktrTop dp un gd cn cs L a ccd cl []) (call (.ref f) vs) Q X s :=
  C _ _ _ _ _ _ _ _ _ _ _ _ _ _ _ _ _ _ _ B F X₀ (fun q hq => N q (hE q hq)) T XB TB hk hd hu ret
theorem lr5 {B C D E P H XL a b c d : Addr × Obj} {VS : List (Addr × Obj)} : ∀ q ∈ P :: H :: XL :: a :: b :: c :: d :: B :: C :: D :: E :: VS, q ∈ B :: C :: D :: E :: XL :: H :: P :: a :: b :: c :: d :: VS := by
  repeat (first | exact sub_self | refine List.forall_mem_cons.mpr ⟨by repeat (first | exact List.Mem.head _ | refine List.Mem.tail _ ?_), ?_⟩ | refine sub_tail ?_)
section
variable {w : World} {z : LD} {x : DrawD} {hs xs to st ce si : List Value} {n : LN} {VS : List (Addr × Obj)} {T S : Nat → Int} {cC cM : Addr} {k p : Nat}
structure ED where
  xs : List Value
  n : LN
  VS : List (Addr × Obj)
  b : Addr
/-- what a call of plus/3 that raises leaves -/
def EPost (w : World) (z : LD) (cC cM : Addr) (VS : List (Addr × Obj)) (d : ED) : Prop :=
  (1 ≤ d.xs.length ∧ d.xs.length ≤ 10) ∧ LawS w z cC cM d.VS ∧ (∀ q ∈ VS, q ∈ d.VS) ∧ ∃ i, Lacks d.VS z.LK i ∧ Lacks d.VS d.b i
theorem sumE_fin (LS : LawS w z cC cM VS) (hx : 1 ≤ xs.length ∧ xs.length ≤ 10) {i : Int} {ti : Tok} (hl : Lacks VS z.LK i) {ys : List Value} {yn : Nat} {e : IE} (h1 : ys.length = max xs.length 4)
    (h2 : NewIE e ((z.A.XL, listOf xs.toArray n.n3) :: (z.A.H, listOf hs.toArray n.n2) :: lawR z x to st ce si n VS)) :
    ∃ y : ED, EPost w z cC cM VS y ∧ Value.ref e.b = Value.ref y.b ∧ ∀ q ∈ lawL z x hs y.xs to st ce si y.n y.VS, q ∈ ballL e i ti ((z.A.XL, listOf ys.toArray yn) :: (z.A.H, listOf hs.toArray n.n2) :: lawR z x to st ce si n VS) := by
  obtain ⟨g, ⟨g1, _⟩, ⟨g2, _⟩, ⟨g3, _⟩, _⟩ := h2
  have f : ∀ {q : Addr}, (∀ p ∈ (z.A.XL, listOf xs.toArray n.n3) :: (z.A.H, listOf hs.toArray n.n2) :: lawR z x to st ce si n VS, p.1 < q) → z.P < q ∧ z.A.H < q ∧ z.A.XL < q ∧ z.TO < q ∧ z.ST < q ∧ z.CE < q ∧ z.SI < q := fun h =>
    ⟨h _ (.tail _ (.tail _ (.head _))), h _ (.tail _ (.head _)), h _ (.head _), h _ (.tail _ (.tail _ (.tail _ (.head _)))), h _ (.tail _ (.tail _ (.tail _ (.tail _ (.head _))))), h _ (.tail _ (.tail _ (.tail _ (.tail _ (.tail _ (.head _)))))), h _ (.tail _ (.tail _ (.tail _ (.tail _ (.tail _ (.tail _ (.head _))))))) ⟩
  have ga : ∀ p ∈ (z.A.XL, listOf xs.toArray n.n3) :: (z.A.H, listOf hs.toArray n.n2) :: lawR z x to st ce si n VS, p.1 < e.q2 := fun p hp => Nat.lt_trans (g p hp) g1
  have gb : ∀ p ∈ (z.A.XL, listOf xs.toArray n.n3) :: (z.A.H, listOf hs.toArray n.n2) :: lawR z x to st ce si n VS, p.1 < e.p := fun p hp => Nat.lt_trans (ga p hp) g2
  have gc : ∀ p ∈ (z.A.XL, listOf xs.toArray n.n3) :: (z.A.H, listOf hs.toArray n.n2) :: lawR z x to st ce si n VS, p.1 < e.b := fun p hp => Nat.lt_trans (gb p hp) g3
  have LS' := (((LS.add (p := (e.q1, tup #[.str (Str.ofString "a") e.k4, .int i ti] 0)) (f g)).add (p := (e.q2, tup #[.str (Str.ofString "a") e.k3, .int 25 241] 0)) (f ga)).add (p := (e.p, tup #[.ref e.q1, .ref e.q2] 0)) (f gb)).add (p := (e.b, tup #[.str (Str.ofString "s") e.k2, .int 16 245, .ref e.p] 0)) (f gc)
  exact ⟨⟨ys, ⟨n.n2, yn, n.n4, n.n5, n.n6, n.n7⟩, _, e.b⟩, ⟨(by dsimp only; omega), LS', sub_tail (sub_tail (sub_tail (sub_tail sub_self))), i, hl.mono (sub_tail (sub_tail (sub_tail (sub_tail sub_self)))),
    ⟨_, _, _, _, _, _, _, _, _, _, _, _, _, .head _, .tail _ (.head _), .tail _ (.tail _ (.tail _ (.head _))), .tail _ (.tail _ (.head _))⟩⟩, rfl, lr5⟩
theorem sumE (LS : LawS w z cC cM VS) (R : Row VS hs to st ce si k T S) (hx : 1 ≤ xs.length ∧ xs.length ≤ 10) (hk : k ≤ 6) (hp : p < k) {q1 q2 q3 : Addr} {b1 b3 : Bool} (c1 : StB VS hs (2 * p) q1 (T p) b1) (c2 : StB VS hs (2 * p + 1) q2 (S p) true) (c3 : StB VS hs (2 * (p + 1)) q3 (T (p + 1)) b3)
    (hb : b1 = !b3) :
    CutT w 706 [.ref z.A.M, .ref q1, .ref q2, .ref q3] 80 3500 (lawL z x hs xs to st ce si n VS) (EPost w z cC cM VS) (fun d => .ref d.b) (fun d => lawL z x hs d.xs to st ce si d.n d.VS) := by
  have lH := R.lH
  obtain ⟨i, ti, Sy, oN, kvs, SY, hLk⟩ := LS.syms
  have M : Mach w.params z.A ((z.A.H, listOf hs.toArray n.n2) :: lawR z x to st ce si n VS) := LS.mach.mono fun q hq => .tail _ (inR hq)
  obtain ⟨r1, D1, s1⟩ := c1.der (by omega)
  obtain ⟨r3, D3, s3⟩ := c3.der (by omega)
  obtain ⟨⟨t2, t2', k2, m2⟩, g2⟩ := c2
  have up : ∀ {q r}, Der VS hs q r → Der ((z.A.H, listOf hs.toArray n.n2) :: lawR z x to st ce si n VS) hs q r := fun d => d.mono fun q hq => .tail _ (inR hq)
  have XH : ∀ q ∈ (z.A.H, listOf hs.toArray n.n2) :: lawR z x to st ce si n VS, q.1 ≠ z.A.XL := fun q hq => (List.mem_cons.mp hq).elim (fun e => e ▸ LS.ords.2.2.2.2.2.2) fun hq => LS.rX q hq
  have SY' : Syms w z.A.Y i ti Sy oN kvs ((z.A.H, listOf hs.toArray n.n2) :: lawR z x to st ce si n VS) := SY.mono fun q hq => .tail _ (inR hq)
  cases b3 with
  | false =>
    obtain rfl : b1 = true := hb
    obtain ⟨⟨t1, t1', k1, m1⟩, g1⟩ := c1
    obtain ⟨t3, t3', k3, m3⟩ := s3
    exact ((lsum_FFI w z.A q1 q2 q3 ((2 * p : Nat) : Int) ((2 * p + 1 : Nat) : Int) r3 (T (p + 1)) t1 t2 t3 t1' t2' t3' k1 k2 k3 n.n2 n.n3 hs xs _ M XH (.head _) (by omega) hx.1 (.tail _ (inR m1)) (at_nat g1) (by omega) (by omega) (.tail _ (inR m2)) (at_nat g2) (by omega) (by omega) (up D3) (.tail _ (inR m3)) i ti Sy oN kvs SY').sub lr2).conseq fun y hy => sumE_fin LS hx hLk hy.1 hy.2
  | true =>
    obtain rfl : b1 = false := hb
    obtain ⟨⟨t3, t3', k3, m3⟩, g3⟩ := c3
    obtain ⟨t1, t1', k1, m1⟩ := s1
    exact ((lsum_IFF w z.A q1 q2 q3 r1 (T p) ((2 * p + 1 : Nat) : Int) ((2 * (p + 1) : Nat) : Int) t1 t2 t3 t1' t2' t3' k1 k2 k3 n.n2 n.n3 hs xs _ M XH (.head _) (by omega) hx.1 (up D1) (.tail _ (inR m1)) (.tail _ (inR m2)) (at_nat g2) (by omega) (by omega) (.tail _ (inR m3)) (at_nat g3) (by omega) (by omega) i ti Sy oN kvs SY').sub lr2).conseq fun y hy => sumE_fin LS hx hLk hy.1 hy.2
end
/-! L10 -/
noncomputable abbrev dbody : List Stmt := match c55b.drop 11 with | .For _ _ b _ _ :: _ => b | _ => []
noncomputable abbrev mD (z : LD) (SC : Addr) (u KN pl tr fr to' : Option Value) : Str → Option Value := fun y => if y = Str.ofString "told" then to' else if y = Str.ofString "free" then fr else if y = Str.ofString "triple" then tr else if y = Str.ofString "place" then pl else mC z SC u KN y
theorem mD_ft {z SC u KN pl tr fr to' a b} : (fun y => if y = Str.ofString "free" then b else if y = Str.ofString "triple" then a else mD z SC u KN pl tr fr to' y) = mD z SC u KN pl a b to' := by
  funext y
  by_cases c1 : y = Str.ofString "told"
  · subst c1; rfl
  · by_cases c2 : y = Str.ofString "free"
    · subst c2; rfl
    · by_cases c3 : y = Str.ofString "triple"
      · subst c3; rfl
      · simp only [mD, if_neg c1, if_neg c2, if_neg c3]
noncomputable def freeOf (l : List (Addr × Bool)) : List Value := (l.filter (·.2)).map fun p => Value.ref p.1
theorem freeOf_snoc {l : List (Addr × Bool)} {q : Addr} {b : Bool} : freeOf (l ++ [(q, b)]) = if b then freeOf l ++ [Value.ref q] else freeOf l := by
  cases b <;> simp [freeOf]
theorem take_succ' {α : Type} {l : List α} {i : Nat} {a : α} (h : l[i]? = some a) : l.take (i + 1) = l.take i ++ [a] := by
  rw [List.take_add_one, h]; rfl
theorem pD1 {D TL P H XL TO ST CE SI : Addr × Obj} {VS : List (Addr × Obj)} : ∀ q ∈ P :: H :: XL :: TO :: ST :: CE :: SI :: D :: TL :: VS, q ∈ D :: TL :: P :: H :: XL :: TO :: ST :: CE :: SI :: VS := by
  repeat (first | exact sub_self | refine List.forall_mem_cons.mpr ⟨by repeat (first | exact List.Mem.head _ | refine List.Mem.tail _ ?_), ?_⟩ | refine sub_tail ?_)
theorem turnD1 (w : World) (z : LD) (x : DrawD) (hs xs to st ce si : List Value) (n : LN) (VS : List (Addr × Obj)) (T S : Nat → Int) (SC cC cM : Addr) (k : Nat) (u KN tr fr to' : Option Value) (p : Nat) (tp : Tok) (q1 q2 q3 : Addr) (b1 b2 b3 : Bool) (mean : ExcName → Option Value) (mg mb : Str → Option Value) (dp un : Nat) (gd : Option (List Code)) (a : Addr) (ccd : Value) (A₀ : Around) (base h₀ : Heap) (L : Addr) (s : Shared) (Q : Flow → Shared → Prop) (E : Value → Shared → Prop)
    (B : Below A₀ base [] h₀) (F : Fr h₀ L s.heap (mD z SC u KN (some (.int (p : Int) tp)) tr fr to')) (XX : (Mine.K w.params).In h₀) (N : News h₀ L s.heap (lawL z x hs xs to st ce si n VS)) (TT : Top VW LO mean mg mb h₀) (hd : dp + 200 < recursionLimit) (hu : un + 8000 < cLine)
    (LS : LawS w z cC cM VS) (hk : k ≤ 6) (R : Row VS hs to st ce si k T S) (hp : p < k) (g1 : ce[p]? = some (.ref q1)) (g2 : si[p]? = some (.ref q2)) (g3 : ce[p + 1]? = some (.ref q3)) (c1 : StB VS hs (2 * p) q1 (T p) b1) (c2 : StB VS hs (2 * p + 1) q2 (S p) b2) (c3 : StB VS hs (2 * (p + 1)) q3 (T (p + 1)) b3)
    (cont : ∀ (TL FL : Addr) (nf : Nat) (VS' : List (Addr × Obj)) (h' : Heap) (tk' : Nat), LawS w z cC cM VS' → (∀ q ∈ VS, q ∈ VS') → (TL, listOf #[.ref q1, .ref q2, .ref q3] 0) ∈ VS' → (FL, listOf (freeOf [(q1, b1), (q2, b2), (q3, b3)]).toArray nf) ∈ VS' →
      Fr h₀ L h' (mD z SC u KN (some (.int (p : Int) tp)) (some (.ref TL)) (some (.ref FL)) to') → News h₀ L h' (lawL z x hs xs to st ce si n VS') →
      wpAny (model PySem.Challenge.rw_sa0162_01.row.prog w) (lawTop dp un gd L a ccd cC cM) (execs (dbody.drop 2) (lawEnv L a ccd cC cM)) Q E { s with heap := h', toks := tk' }) :
    wpAny (model PySem.Challenge.rw_sa0162_01.row.prog w) (lawTop dp un gd L a ccd cC cM) (execs dbody (lawEnv L a ccd cC cM)) Q E s := by
  revert XX; k_fill; intro XX
  have o1 := ltN LS.o1; have o2 := ltN LS.o2; have o3 := ltN LS.o3; have o4 := ltN LS.o4; have o5 := ltN LS.o5; have o6 := ltN LS.o6
  have a1 := LS.a1; have a2 := LS.a2; have a3 := LS.a3; have a4 := LS.a4; have a5 := LS.a5; have a6 := LS.a6; have a7 := LS.a7
  have hPool := LS.pool; have hSP := LS.nSP; have hMach := LS.mach
  have m1 := hMach.x; have m2 := hMach.xd; have m3 := hMach.m; have m4 := hMach.md
  obtain ⟨oM, cm, cmd⟩ := LS.cm
  obtain ⟨oC, cc, ccd'⟩ := LS.cc
  have lH := R.lH; have lTO := R.lTO; have lST := R.lST; have lCE := R.lCE; have lSI := R.lSI
  have e1 := at_nat g1; have e2 := at_nat g2
  have e3 : ce[((p : Int) + 1).toNat]? = some (.ref q3) := by rw [show ((p : Int) + 1).toNat = p + 1 by omega]; exact g3
  (try (refine foldAE ?_; intro envT AT))
  repeat' (((fail_if_success (with_reducible show PyProof.Rows.LCt.CompSrcT _ _ _ _ _ _ _ _ _ _ _ _ _ _ _)); (fail_if_success (with_reducible show PyProof.Rows.LCg.CompEnd _ _ _ _ _ _ _ _ _ _ _ _ _ _)); (fail_if_success (with_reducible show wpAny _ _ (call (Value.ref 706) _ _) _ _ _))); first | (k_here; (with_reducible show wpAny _ _ (call (Value.ref 265) _ _) _ _ _); k_dflt (refine' bind_use (by k_asm) (by k_asm) (by k_asm) (by k_asm) (by k_asm) (by walk_at "R") (by k_updF) (by walk_at "M") (by k_mem) (by walk_at "N") (by walk_at "E") (by first | assumption | ((try simp only [List.length_append, List.length_cons, List.length_nil, List.length_set]); first | exact lenB (by assumption) rfl | exact lenA (by assumption) rfl | omega)) (by walk_at "E") (by ktr_room) (by ktr_units) ?_; k_whole; intro h9z tk9z F9z N9z; (try dsimp only at N9z); walk_at "Z")) | (k_here; (with_reducible show wpAny _ _ (call (Value.ref 230) _ _) _ _ _); k_dflt (refine' newvar_use (by k_asm) (by k_asm) (by k_asm) (by k_asm) (by k_asm) (by walk_at "R") (by k_updF) (by walk_at "M") (by walk_at "L") (by ktr_room) (by ktr_units) ?_; k_whole; intro x9z h9z tk9z p9z F9z N9z; (try dsimp only at N9z); (try k_lt p9z); walk_at "Z")) | (k_here; (with_reducible show wpAny _ _ (call (Value.ref 258) _ _) _ _ _); k_dflt (refine' Cut.uz (by k_asm) (by k_asm) (by k_asm) (by k_asm) sub_self (by k_asm) (by walk_at "R") (by ktr_room) (by ktr_units) (unbS (by walk_at "M") (by k_mem) (by walk_at "M") (by omega)) ?_; k_whole; intro x9z h9z tk9z p9z F9z N9z; clear p9z; (try dsimp only at N9z); walk_at "Z")) | (k_here; (with_reducible show wpAny _ _ (call (Value.ref 251) _ _) _ _ _); k_dflt (refine' Cut.uz (by k_asm) (by k_asm) (by k_asm) (by k_asm) sub_self (by k_asm) (by walk_at "R") (by ktr_room) (by ktr_units) (derefS (by walk_at "M") (by k_mem) (by walk_at "M") (by omega)) ?_; k_whole; intro x9z h9z tk9z p9z F9z N9z; (have pz9z := p9z); (first | (obtain ⟨pa9z, ⟨pb9z, pc9z, pd9z, pe9z⟩, pf9z⟩ := p9z; subst pa9z) | (first | (refine and4 p9z ?_; (try clear p9z); intro pa9z pb9z pc9z pd9z) | obtain ⟨pa9z, pb9z, pc9z, pd9z⟩ := p9z)); (try dsimp only at N9z); walk_at "Z")) | (k_here; (with_reducible show wpAny _ _ (call (Value.ref 699) _ _) _ _ _); k_dflt (refine' Cut.uz (by k_asm) (by k_asm) (by k_asm) (by k_asm) (by refine' Del.sub2 (by k_upd) (by k_upd)) (by k_asm) (by walk_at "R") (by ktr_room) (by ktr_units) (lcell _ _ _ _ _ _ _ _ _ _ _ _ _ _ _ _ (by walk_at "M") (by walk_at "A") (by walk_at "A") (by walk_at "N") (by walk_at "M") (by walk_at "N") (by walk_at "E") (by walk_at "L")) ?_; k_whole; intro x9z h9z tk9z p9z F9z N9z; ((first | (refine andNest p9z ?_; (try clear p9z); intro pa9z pb9z pc9z pd9z pe9z pf9z pg9z ph9z pi9z) | obtain ⟨⟨pa9z, pb9z, pc9z⟩, ⟨pd9z, pe9z, pf9z⟩, pg9z, ph9z, pi9z⟩ := p9z)); (replace pa9z := ltN pa9z); (replace pb9z := ltN pb9z); (replace pd9z := ltN pd9z); (replace pe9z := ltN pe9z); (try k_lt pc9z); (try k_lt pf9z); (try dsimp only at N9z); (try dsimp only); (try k_sweep); (try k_fold))) | (k_here; (with_reducible show wpAny _ _ (call (Value.ref 674) _ _) _ _ _); k_dflt (refine' Cut.uz (by k_asm) (by k_asm) (by k_asm) (by k_asm) sub_self (by k_asm) (by walk_at "R") (by ktr_room) (by ktr_units) (areas _ _ _ _) ?_; k_whole; intro x9z h9z tk9z p9z F9z N9z; ((first | (refine and7 p9z ?_; (try clear p9z); intro pz9z pa9z pb9z pc9z pd9z pe9z pf9z) | obtain ⟨pz9z, pa9z, pb9z, pc9z, pd9z, pe9z, pf9z⟩ := p9z)); (try k_lt pa9z); (replace pb9z := ltN pb9z); (replace pc9z := ltN pc9z); (replace pd9z := ltN pd9z); (replace pe9z := ltN pe9z); (replace pf9z := ltN pf9z); (try dsimp only at N9z); (try dsimp only); (try k_sweep); (try k_fold))) | (k_here; (with_reducible show wpAny _ _ (call (Value.ref 154) _ _) _ _ _); k_dflt (refine' Cut.uz (by k_asm) (by k_asm) (by k_asm) (by k_asm) sub_self (by k_asm) (by walk_at "R") (by ktr_room) (by ktr_units) (symbols _ _) ?_; k_whole; intro x9z h9z tk9z p9z F9z N9z; ((first | (refine and9 p9z ?_; (try clear p9z); intro pa9z pb9z pc9z pd9z pe9z pf9z pg9z ph9z pi9z) | obtain ⟨pa9z, pb9z, pc9z, pd9z, pe9z, pf9z, pg9z, ph9z, pi9z⟩ := p9z)); (try k_lt pa9z); (replace pb9z := ltN pb9z); (replace pc9z := ltN pc9z); (replace pd9z := ltN pd9z); (try dsimp only at N9z); (try dsimp only); (try k_sweep); (try k_fold))) | (k_here; (with_reducible show wpAny _ _ (call (Value.ref 692) _ _) _ _ _); k_dflt (refine' whole_use (by k_asm) (by k_asm) (by k_asm) (by k_asm) (by k_asm) (by walk_at "R") (by k_updF) (by walk_at "M") (by walk_at "N") (by walk_at "E") (by ktr_room) (by ktr_units) ?_; k_whole; intro x9z h9z tk9z p9z F9z N9z; ((first | (refine and2 p9z ?_; (try clear p9z); intro pa9z pc9z) | obtain ⟨pa9z, pc9z⟩ := p9z)); (try dsimp only at N9z); walk_at "Z")) | (k_here; (with_reducible show wpAny _ _ (call (Value.ref 685) _ _) _ _ _); k_dflt (refine' draw_use (by k_asm) (by k_asm) (by k_asm) (by k_asm) (by k_asm) (by walk_at "R") (by k_updF) (by walk_at "M") (by walk_at "N") (by walk_at "E") (by walk_at "E") (by walk_at "O") (by ktr_room) (by ktr_units) ?_; k_whole; intro x9z h9z tk9z p9z F9z N9z; ((first | (refine and3 p9z ?_; (try clear p9z); intro pa9z pb9z pc9z) | obtain ⟨pa9z, pb9z, pc9z⟩ := p9z)); (try dsimp only at N9z); walk_at "Z")) | (k_unfold; (try dsimp only); (try clear qkC)) | (k_end; wrow_close) | ((with_reducible show wpAny _ _ (execs (List.cons _ _) _) _ _ _); first | k_gentoks | (refine execs_consF ?_; intro qkC)) | walk1 | (dsimp only; walk1) | (leave1; try dsimp only) | fail "no step")
  all_goals (have F9z := True.intro; have N9z := True.intro; have h9z := True.intro; have p9z := True.intro; have pa9z := True.intro; have pb9z := True.intro; have pc9z := True.intro; have pd9z := True.intro; have pe9z := True.intro; have pf9z := True.intro; have pg9z := True.intro; have ph9z := True.intro; have pi9z := True.intro; have pz9z := True.intro; have tk9z := True.intro; have x9z := True.intro)
  rename_i TL hT l1 hh F9 N9
  refine LCt.CompSrcT.ledger (news := (TL, listOf #[.ref q1, .ref q2, .ref q3] 0) :: lawL z x hs xs to st ce si n VS) rfl F9 N9 (.head _) (show 3 ≤ sizeLine by decide) ?_
  intro g
  refine restT_ind (fun i ys nx => nx = (TL, listOf #[.ref q1, .ref q2, .ref q3] 0) :: lawL z x hs xs to st ce si n VS ∧ ys = freeOf ([(q1, b1), (q2, b2), (q3, b3)].take i)) ⟨rfl, rfl⟩ ?_ ?_
  · rintro ys nx ⟨rfl, rfl⟩ D h tk F N off
    simp only [LCg.Off1] at off
    (first | (refine and9 off ?_; (try clear off); intro f0 f1 f2 f3 f4 f5 f6 f7 f8) | obtain ⟨f0, f1, f2, f3, f4, f5, f6, f7, f8⟩ := off)
    refine cont TL D _ ((D, LCg.lst (freeOf [(q1, b1), (q2, b2), (q3, b3)])) :: (TL, listOf #[.ref q1, .ref q2, .ref q3] 0) :: VS) h tk ((LS.add ⟨l1.1, l1.2.1, l1.2.2.1, l1.2.2.2.1, l1.2.2.2.2.1, l1.2.2.2.2.2.1, l1.2.2.2.2.2.2.1⟩).put ⟨Ne.symm f1, Ne.symm f2, Ne.symm f3, Ne.symm f4, Ne.symm f5, Ne.symm f6, Ne.symm f7⟩) (sub_tail (sub_tail sub_self)) (.tail _ (.head _)) (.head _) (by rw [← mD_ft (tr := tr) (fr := fr)]; exact F) (fun q hq => N q (pD1 q hq))
  · clear N9 F9 l1 cont
    rintro i ys nx hi ⟨rfl, rfl⟩ v I oI C oC' D m₂ h tk E' hv hC hx F9 N9 off ne
    obtain ⟨q, b, j, val, rfl, hl, hj, hb⟩ : ∃ q b j val, v = Value.ref q ∧ [(q1, b1), (q2, b2), (q3, b3)][i]? = some (q, b) ∧ j ≤ 1000 ∧ StB VS hs j q val b := by
      match i, hi, hv with
      | 0, _, hv => exact ⟨q1, b1, 2 * p, T p, (Option.some.inj hv).symm, rfl, by omega, c1⟩
      | 1, _, hv => exact ⟨q2, b2, 2 * p + 1, S p, (Option.some.inj hv).symm, rfl, by omega, c2⟩
      | 2, _, hv => exact ⟨q3, b3, 2 * (p + 1), T (p + 1), (Option.some.inj hv).symm, rfl, by omega, c3⟩
      | i + 3, hi, _ => exact absurd hi (Nat.not_lt.mpr (Nat.le_add_left 3 i))
    clear e1 e2 e3 g1 g2 g3
    dsimp only
    cases b
    · (try (refine foldQ ?_; intro qkT2))
      repeat' (((fail_if_success (with_reducible show PyProof.Rows.LCt.CompSrcT _ _ _ _ _ _ _ _ _ _ _ _ _ _ _)); (fail_if_success (with_reducible show PyProof.Rows.LCg.CompEnd _ _ _ _ _ _ _ _ _ _ _ _ _ _)); (fail_if_success (with_reducible show wpAny _ _ (call (Value.ref 706) _ _) _ _ _))); first | (k_here; (with_reducible show wpAny _ _ (call (Value.ref 265) _ _) _ _ _); k_dflt (refine' bind_use (by k_asm) (by k_asm) (by k_asm) (by k_asm) (by k_asm) (by walk_at "R") (by k_updF) (by walk_at "M") (by k_mem) (by walk_at "N") (by walk_at "E") (by first | assumption | ((try simp only [List.length_append, List.length_cons, List.length_nil, List.length_set]); first | exact lenB (by assumption) rfl | exact lenA (by assumption) rfl | omega)) (by walk_at "E") (by ktr_room) (by ktr_units) ?_; k_whole; intro h9z tk9z F9z N9z; (try dsimp only at N9z); walk_at "Z")) | (k_here; (with_reducible show wpAny _ _ (call (Value.ref 230) _ _) _ _ _); k_dflt (refine' newvar_use (by k_asm) (by k_asm) (by k_asm) (by k_asm) (by k_asm) (by walk_at "R") (by k_updF) (by walk_at "M") (by walk_at "L") (by ktr_room) (by ktr_units) ?_; k_whole; intro x9z h9z tk9z p9z F9z N9z; (try dsimp only at N9z); (try k_lt p9z); walk_at "Z")) | (k_here; (with_reducible show wpAny _ _ (call (Value.ref 258) _ _) _ _ _); k_dflt (refine' Cut.uz (by k_asm) (by k_asm) (by k_asm) (by k_asm) sub_self (by k_asm) (by walk_at "R") (by ktr_room) (by ktr_units) (unbS (by walk_at "M") (by k_mem) (by walk_at "M") (by omega)) ?_; k_whole; intro x9z h9z tk9z p9z F9z N9z; clear p9z; (try dsimp only at N9z); walk_at "Z")) | (k_here; (with_reducible show wpAny _ _ (call (Value.ref 251) _ _) _ _ _); k_dflt (refine' Cut.uz (by k_asm) (by k_asm) (by k_asm) (by k_asm) sub_self (by k_asm) (by walk_at "R") (by ktr_room) (by ktr_units) (derefS (by walk_at "M") (by k_mem) (by walk_at "M") (by omega)) ?_; k_whole; intro x9z h9z tk9z p9z F9z N9z; (have pz9z := p9z); (first | (obtain ⟨pa9z, ⟨pb9z, pc9z, pd9z, pe9z⟩, pf9z⟩ := p9z; subst pa9z) | (first | (refine and4 p9z ?_; (try clear p9z); intro pa9z pb9z pc9z pd9z) | obtain ⟨pa9z, pb9z, pc9z, pd9z⟩ := p9z)); (try dsimp only at N9z); walk_at "Z")) | (k_here; (with_reducible show wpAny _ _ (call (Value.ref 699) _ _) _ _ _); k_dflt (refine' Cut.uz (by k_asm) (by k_asm) (by k_asm) (by k_asm) (by refine' Del.sub2 (by k_upd) (by k_upd)) (by k_asm) (by walk_at "R") (by ktr_room) (by ktr_units) (lcell _ _ _ _ _ _ _ _ _ _ _ _ _ _ _ _ (by walk_at "M") (by walk_at "A") (by walk_at "A") (by walk_at "N") (by walk_at "M") (by walk_at "N") (by walk_at "E") (by walk_at "L")) ?_; k_whole; intro x9z h9z tk9z p9z F9z N9z; ((first | (refine andNest p9z ?_; (try clear p9z); intro pa9z pb9z pc9z pd9z pe9z pf9z pg9z ph9z pi9z) | obtain ⟨⟨pa9z, pb9z, pc9z⟩, ⟨pd9z, pe9z, pf9z⟩, pg9z, ph9z, pi9z⟩ := p9z)); (replace pa9z := ltN pa9z); (replace pb9z := ltN pb9z); (replace pd9z := ltN pd9z); (replace pe9z := ltN pe9z); (try k_lt pc9z); (try k_lt pf9z); (try dsimp only at N9z); (try dsimp only); (try k_sweep); (try k_fold))) | (k_here; (with_reducible show wpAny _ _ (call (Value.ref 674) _ _) _ _ _); k_dflt (refine' Cut.uz (by k_asm) (by k_asm) (by k_asm) (by k_asm) sub_self (by k_asm) (by walk_at "R") (by ktr_room) (by ktr_units) (areas _ _ _ _) ?_; k_whole; intro x9z h9z tk9z p9z F9z N9z; ((first | (refine and7 p9z ?_; (try clear p9z); intro pz9z pa9z pb9z pc9z pd9z pe9z pf9z) | obtain ⟨pz9z, pa9z, pb9z, pc9z, pd9z, pe9z, pf9z⟩ := p9z)); (try k_lt pa9z); (replace pb9z := ltN pb9z); (replace pc9z := ltN pc9z); (replace pd9z := ltN pd9z); (replace pe9z := ltN pe9z); (replace pf9z := ltN pf9z); (try dsimp only at N9z); (try dsimp only); (try k_sweep); (try k_fold))) | (k_here; (with_reducible show wpAny _ _ (call (Value.ref 154) _ _) _ _ _); k_dflt (refine' Cut.uz (by k_asm) (by k_asm) (by k_asm) (by k_asm) sub_self (by k_asm) (by walk_at "R") (by ktr_room) (by ktr_units) (symbols _ _) ?_; k_whole; intro x9z h9z tk9z p9z F9z N9z; ((first | (refine and9 p9z ?_; (try clear p9z); intro pa9z pb9z pc9z pd9z pe9z pf9z pg9z ph9z pi9z) | obtain ⟨pa9z, pb9z, pc9z, pd9z, pe9z, pf9z, pg9z, ph9z, pi9z⟩ := p9z)); (try k_lt pa9z); (replace pb9z := ltN pb9z); (replace pc9z := ltN pc9z); (replace pd9z := ltN pd9z); (try dsimp only at N9z); (try dsimp only); (try k_sweep); (try k_fold))) | (k_here; (with_reducible show wpAny _ _ (call (Value.ref 692) _ _) _ _ _); k_dflt (refine' whole_use (by k_asm) (by k_asm) (by k_asm) (by k_asm) (by k_asm) (by walk_at "R") (by k_updF) (by walk_at "M") (by walk_at "N") (by walk_at "E") (by ktr_room) (by ktr_units) ?_; k_whole; intro x9z h9z tk9z p9z F9z N9z; ((first | (refine and2 p9z ?_; (try clear p9z); intro pa9z pc9z) | obtain ⟨pa9z, pc9z⟩ := p9z)); (try dsimp only at N9z); walk_at "Z")) | (k_here; (with_reducible show wpAny _ _ (call (Value.ref 685) _ _) _ _ _); k_dflt (refine' draw_use (by k_asm) (by k_asm) (by k_asm) (by k_asm) (by k_asm) (by walk_at "R") (by k_updF) (by walk_at "M") (by walk_at "N") (by walk_at "E") (by walk_at "E") (by walk_at "O") (by ktr_room) (by ktr_units) ?_; k_whole; intro x9z h9z tk9z p9z F9z N9z; ((first | (refine and3 p9z ?_; (try clear p9z); intro pa9z pb9z pc9z) | obtain ⟨pa9z, pb9z, pc9z⟩ := p9z)); (try dsimp only at N9z); walk_at "Z")) | (k_unfold; (try dsimp only); (try clear qkC)) | (k_end; wrow_close) | ((with_reducible show wpAny _ _ (execs (List.cons _ _) _) _ _ _); first | k_gentoks | (refine execs_consF ?_; intro qkC)) | walk1 | (dsimp only; walk1) | (leave1; try dsimp only) | fail "no step")
      all_goals (have F9z := True.intro; have N9z := True.intro; have h9z := True.intro; have p9z := True.intro; have pa9z := True.intro; have pb9z := True.intro; have pc9z := True.intro; have pd9z := True.intro; have pe9z := True.intro; have pf9z := True.intro; have pg9z := True.intro; have ph9z := True.intro; have pi9z := True.intro; have pz9z := True.intro; have tk9z := True.intro; have x9z := True.intro)
      exact ⟨_, _, (TL, listOf #[.ref q1, .ref q2, .ref q3] 0) :: lawL z x hs xs to st ce si n VS, rfl, (by assumption), (by assumption), off, .inr ⟨_, .head _, rfl, _, rfl⟩, rfl, by rw [take_succ' hl, freeOf_snoc]; rfl⟩
    · (try (refine foldQ ?_; intro qkT3))
      repeat' (((fail_if_success (with_reducible show PyProof.Rows.LCt.CompSrcT _ _ _ _ _ _ _ _ _ _ _ _ _ _ _)); (fail_if_success (with_reducible show PyProof.Rows.LCg.CompEnd _ _ _ _ _ _ _ _ _ _ _ _ _ _)); (fail_if_success (with_reducible show wpAny _ _ (call (Value.ref 706) _ _) _ _ _))); first | (k_here; (with_reducible show wpAny _ _ (call (Value.ref 265) _ _) _ _ _); k_dflt (refine' bind_use (by k_asm) (by k_asm) (by k_asm) (by k_asm) (by k_asm) (by walk_at "R") (by k_updF) (by walk_at "M") (by k_mem) (by walk_at "N") (by walk_at "E") (by first | assumption | ((try simp only [List.length_append, List.length_cons, List.length_nil, List.length_set]); first | exact lenB (by assumption) rfl | exact lenA (by assumption) rfl | omega)) (by walk_at "E") (by ktr_room) (by ktr_units) ?_; k_whole; intro h9z tk9z F9z N9z; (try dsimp only at N9z); walk_at "Z")) | (k_here; (with_reducible show wpAny _ _ (call (Value.ref 230) _ _) _ _ _); k_dflt (refine' newvar_use (by k_asm) (by k_asm) (by k_asm) (by k_asm) (by k_asm) (by walk_at "R") (by k_updF) (by walk_at "M") (by walk_at "L") (by ktr_room) (by ktr_units) ?_; k_whole; intro x9z h9z tk9z p9z F9z N9z; (try dsimp only at N9z); (try k_lt p9z); walk_at "Z")) | (k_here; (with_reducible show wpAny _ _ (call (Value.ref 258) _ _) _ _ _); k_dflt (refine' Cut.uz (by k_asm) (by k_asm) (by k_asm) (by k_asm) sub_self (by k_asm) (by walk_at "R") (by ktr_room) (by ktr_units) (unbS (by walk_at "M") (by k_mem) (by walk_at "M") (by omega)) ?_; k_whole; intro x9z h9z tk9z p9z F9z N9z; clear p9z; (try dsimp only at N9z); walk_at "Z")) | (k_here; (with_reducible show wpAny _ _ (call (Value.ref 251) _ _) _ _ _); k_dflt (refine' Cut.uz (by k_asm) (by k_asm) (by k_asm) (by k_asm) sub_self (by k_asm) (by walk_at "R") (by ktr_room) (by ktr_units) (derefS (by walk_at "M") (by k_mem) (by walk_at "M") (by omega)) ?_; k_whole; intro x9z h9z tk9z p9z F9z N9z; (have pz9z := p9z); (first | (obtain ⟨pa9z, ⟨pb9z, pc9z, pd9z, pe9z⟩, pf9z⟩ := p9z; subst pa9z) | (first | (refine and4 p9z ?_; (try clear p9z); intro pa9z pb9z pc9z pd9z) | obtain ⟨pa9z, pb9z, pc9z, pd9z⟩ := p9z)); (try dsimp only at N9z); walk_at "Z")) | (k_here; (with_reducible show wpAny _ _ (call (Value.ref 699) _ _) _ _ _); k_dflt (refine' Cut.uz (by k_asm) (by k_asm) (by k_asm) (by k_asm) (by refine' Del.sub2 (by k_upd) (by k_upd)) (by k_asm) (by walk_at "R") (by ktr_room) (by ktr_units) (lcell _ _ _ _ _ _ _ _ _ _ _ _ _ _ _ _ (by walk_at "M") (by walk_at "A") (by walk_at "A") (by walk_at "N") (by walk_at "M") (by walk_at "N") (by walk_at "E") (by walk_at "L")) ?_; k_whole; intro x9z h9z tk9z p9z F9z N9z; ((first | (refine andNest p9z ?_; (try clear p9z); intro pa9z pb9z pc9z pd9z pe9z pf9z pg9z ph9z pi9z) | obtain ⟨⟨pa9z, pb9z, pc9z⟩, ⟨pd9z, pe9z, pf9z⟩, pg9z, ph9z, pi9z⟩ := p9z)); (replace pa9z := ltN pa9z); (replace pb9z := ltN pb9z); (replace pd9z := ltN pd9z); (replace pe9z := ltN pe9z); (try k_lt pc9z); (try k_lt pf9z); (try dsimp only at N9z); (try dsimp only); (try k_sweep); (try k_fold))) | (k_here; (with_reducible show wpAny _ _ (call (Value.ref 674) _ _) _ _ _); k_dflt (refine' Cut.uz (by k_asm) (by k_asm) (by k_asm) (by k_asm) sub_self (by k_asm) (by walk_at "R") (by ktr_room) (by ktr_units) (areas _ _ _ _) ?_; k_whole; intro x9z h9z tk9z p9z F9z N9z; ((first | (refine and7 p9z ?_; (try clear p9z); intro pz9z pa9z pb9z pc9z pd9z pe9z pf9z) | obtain ⟨pz9z, pa9z, pb9z, pc9z, pd9z, pe9z, pf9z⟩ := p9z)); (try k_lt pa9z); (replace pb9z := ltN pb9z); (replace pc9z := ltN pc9z); (replace pd9z := ltN pd9z); (replace pe9z := ltN pe9z); (replace pf9z := ltN pf9z); (try dsimp only at N9z); (try dsimp only); (try k_sweep); (try k_fold))) | (k_here; (with_reducible show wpAny _ _ (call (Value.ref 154) _ _) _ _ _); k_dflt (refine' Cut.uz (by k_asm) (by k_asm) (by k_asm) (by k_asm) sub_self (by k_asm) (by walk_at "R") (by ktr_room) (by ktr_units) (symbols _ _) ?_; k_whole; intro x9z h9z tk9z p9z F9z N9z; ((first | (refine and9 p9z ?_; (try clear p9z); intro pa9z pb9z pc9z pd9z pe9z pf9z pg9z ph9z pi9z) | obtain ⟨pa9z, pb9z, pc9z, pd9z, pe9z, pf9z, pg9z, ph9z, pi9z⟩ := p9z)); (try k_lt pa9z); (replace pb9z := ltN pb9z); (replace pc9z := ltN pc9z); (replace pd9z := ltN pd9z); (try dsimp only at N9z); (try dsimp only); (try k_sweep); (try k_fold))) | (k_here; (with_reducible show wpAny _ _ (call (Value.ref 692) _ _) _ _ _); k_dflt (refine' whole_use (by k_asm) (by k_asm) (by k_asm) (by k_asm) (by k_asm) (by walk_at "R") (by k_updF) (by walk_at "M") (by walk_at "N") (by walk_at "E") (by ktr_room) (by ktr_units) ?_; k_whole; intro x9z h9z tk9z p9z F9z N9z; ((first | (refine and2 p9z ?_; (try clear p9z); intro pa9z pc9z) | obtain ⟨pa9z, pc9z⟩ := p9z)); (try dsimp only at N9z); walk_at "Z")) | (k_here; (with_reducible show wpAny _ _ (call (Value.ref 685) _ _) _ _ _); k_dflt (refine' draw_use (by k_asm) (by k_asm) (by k_asm) (by k_asm) (by k_asm) (by walk_at "R") (by k_updF) (by walk_at "M") (by walk_at "N") (by walk_at "E") (by walk_at "E") (by walk_at "O") (by ktr_room) (by ktr_units) ?_; k_whole; intro x9z h9z tk9z p9z F9z N9z; ((first | (refine and3 p9z ?_; (try clear p9z); intro pa9z pb9z pc9z) | obtain ⟨pa9z, pb9z, pc9z⟩ := p9z)); (try dsimp only at N9z); walk_at "Z")) | (k_unfold; (try dsimp only); (try clear qkC)) | (k_end; wrow_close) | ((with_reducible show wpAny _ _ (execs (List.cons _ _) _) _ _ _); first | k_gentoks | (refine execs_consF ?_; intro qkC)) | walk1 | (dsimp only; walk1) | (leave1; try dsimp only) | fail "no step")
      all_goals (have F9z := True.intro; have N9z := True.intro; have h9z := True.intro; have p9z := True.intro; have pa9z := True.intro; have pb9z := True.intro; have pc9z := True.intro; have pd9z := True.intro; have pe9z := True.intro; have pf9z := True.intro; have pg9z := True.intro; have ph9z := True.intro; have pi9z := True.intro; have pz9z := True.intro; have tk9z := True.intro; have x9z := True.intro)
      exact ⟨_, _, (TL, listOf #[.ref q1, .ref q2, .ref q3] 0) :: lawL z x hs xs to st ce si n VS, rfl, (by assumption), (by assumption), off, .inr ⟨_, .head _, rfl, _, rfl⟩, rfl, by rw [take_succ' hl, freeOf_snoc]; rfl⟩
/-! L11 -/
def InFL (FL : Addr) (ys : List Value) (VS : List (Addr × Obj)) : Prop := ∃ nf, (FL, listOf ys.toArray nf) ∈ VS
theorem InFL.mono {FL ys VS VS'} (c : InFL FL ys VS) (h : ∀ q ∈ VS, q ∈ VS') : InFL FL ys VS' := let ⟨n, m⟩ := c; ⟨n, h _ m⟩
def InTL (TL q1 q2 q3 : Addr) (VS : List (Addr × Obj)) : Prop := (TL, listOf #[Value.ref q1, .ref q2, .ref q3] 0) ∈ VS
theorem InTL.mono {TL q1 q2 q3 VS VS'} (c : InTL TL q1 q2 q3 VS) (h : ∀ q ∈ VS, q ∈ VS') : InTL TL q1 q2 q3 VS' := h _ c
local macro_rules | `(tactic| walk_at "call builtin:len") => `(tactic| (k_here; (with_reducible show wpAny _ _ (call (Value.builtin "len") [Value.ref _]) _ _ _); k_dflt (refine' len_lit (by k_asm) (by k_mem) (by assumption) (by decide) ?_; k_whole)))
theorem len_lit {prog : Program} {w : World} {A : Around} {E : Value → Shared → Prop} {s : Shared} {h₀ : Heap} {L : Addr} {news : List (Addr × Obj)} {l : Addr} {vs : List Value} {n : Nat} {i : Int} {Q : Value → Shared → Prop} (N : News h₀ L s.heap news) (hm : (l, listOf vs.toArray n) ∈ news) (hi : ((vs.length : Nat) : Int) = i) (hz : i ≤ 16384) (h : Q (.int i (s.toks + 1)) { s with toks := s.toks + 1 + 1 }) :
    wpAny (model prog w) A (call (.builtin "len") [.ref l]) Q E s := by
  subst hi
  exact len_led N hm (by omega) h
theorem mD_t {z SC u KN pl tr fr to' a} : (fun y => if y = Str.ofString "told" then a else mD z SC u KN pl tr fr to' y) = mD z SC u KN pl tr fr a := by
  funext y
  by_cases c1 : y = Str.ofString "told"
  · subst c1; rfl
  · simp only [mD, if_neg c1]
theorem turnD2 (w : World) (z : LD) (x : DrawD) (hs xs to st ce si : List Value) (n : LN) (VS : List (Addr × Obj)) (T S : Nat → Int) (SC cC cM : Addr) (k : Nat) (u KN to' : Option Value) (p : Nat) (tp : Tok) (q1 q2 q3 : Addr) (b1 b2 b3 : Bool) (TL FL : Addr) (nf : Nat) (ys : List Value) (i : Int) (mean : ExcName → Option Value) (mg mb : Str → Option Value) (dp un : Nat) (gd : Option (List Code)) (a : Addr) (ccd : Value) (A₀ : Around) (base h₀ : Heap) (L : Addr) (s : Shared) (Q : Flow → Shared → Prop) (E : Value → Shared → Prop)
    (B : Below A₀ base [] h₀) (F : Fr h₀ L s.heap (mD z SC u KN (some (.int (p : Int) tp)) (some (.ref TL)) (some (.ref FL)) to')) (XX : (Mine.K w.params).In h₀) (N : News h₀ L s.heap (lawL z x hs xs to st ce si n VS)) (TT : Top VW LO mean mg mb h₀) (hd : dp + 200 < recursionLimit) (hu : un + 8000 < cLine)
    (LS : LawS w z cC cM VS) (hx : 1 ≤ xs.length ∧ xs.length ≤ 10) (hk : k ≤ 6) (R : Row VS hs to st ce si k T S) (hp : p < k) (c1 : StB VS hs (2 * p) q1 (T p) b1) (c2 : StB VS hs (2 * p + 1) q2 (S p) b2) (c3 : StB VS hs (2 * (p + 1)) q3 (T (p + 1)) b3)
    (hb : (b1 = false ∧ b2 = false) ∨ (b1 = false ∧ b3 = false) ∨ (b2 = false ∧ b3 = false)) (hTL : (TL, listOf #[.ref q1, .ref q2, .ref q3] 0) ∈ VS) (hFL : (FL, listOf ys.toArray nf) ∈ VS) (hlen : ((ys.length : Nat) : Int) = i) (hi : i = 0 ∨ i = 1)
    (cont : ∀ (d : HD) (h' : Heap) (tk' : Nat), HPost w z cC cM VS hs to st ce si k T S p d →
      Fr h₀ L h' (mD z SC u KN (some (.int (p : Int) tp)) (some (.ref TL)) (some (.ref FL)) (some (.str (Str.ofString "holds") d.t))) → News h₀ L h' (lawL z x d.hs d.xs to st ce si d.n d.VS) → Q .next { s with heap := h', toks := tk' }) :
    wpAny (model PySem.Challenge.rw_sa0162_01.row.prog w) (lawTop dp un gd L a ccd cC cM) (execs (dbody.drop 2) (lawEnv L a ccd cC cM)) Q E s := by
  revert XX; k_fill; intro XX
  have o1 := ltN LS.o1; have o2 := ltN LS.o2; have o3 := ltN LS.o3; have o4 := ltN LS.o4; have o5 := ltN LS.o5; have o6 := ltN LS.o6
  have a1 := LS.a1; have a2 := LS.a2; have a3 := LS.a3; have a4 := LS.a4; have a5 := LS.a5; have a6 := LS.a6; have a7 := LS.a7
  have hPool := LS.pool; have hSP := LS.nSP; have hMach := LS.mach
  have m1 := hMach.x; have m2 := hMach.xd; have m3 := hMach.m; have m4 := hMach.md
  obtain ⟨oM, cm, cmd⟩ := LS.cm
  obtain ⟨oC, cc, ccd'⟩ := LS.cc
  have lH := R.lH; have lTO := R.lTO; have lST := R.lST; have lCE := R.lCE; have lSI := R.lSI
  have fFL : InFL FL ys VS := ⟨_, hFL⟩
  have y0 : [Value.ref q1, Value.ref q2, Value.ref q3][(0 : Int).toNat]? = some (Value.ref q1) := rfl
  have y1 : [Value.ref q1, Value.ref q2, Value.ref q3][(1 : Int).toNat]? = some (Value.ref q2) := rfl
  have y2 : [Value.ref q1, Value.ref q2, Value.ref q3][(2 : Int).toNat]? = some (Value.ref q3) := rfl
  rcases hi with rfl | rfl
  · (try (refine foldAE ?_; intro envT AT))
    repeat' (((fail_if_success (with_reducible show PyProof.Rows.LCt.CompSrcT _ _ _ _ _ _ _ _ _ _ _ _ _ _ _)); (fail_if_success (with_reducible show PyProof.Rows.LCg.CompEnd _ _ _ _ _ _ _ _ _ _ _ _ _ _))); first | (k_here; (with_reducible show wpAny _ _ (call (Value.ref 706) _ _) _ _ _); k_dflt (refine' Cut.uz (by k_asm) (by k_asm) (by k_asm) (by k_asm) sub_self (by k_asm) (by walk_at "R") (by ktr_room) (by ktr_units) (sumH (by assumption) (by assumption) (by assumption) (by assumption) (by assumption) (by assumption) (by assumption) (by assumption) (by assumption)) ?_; k_whole; intro x9z h9z tk9z p9z F9z N9z; (have pk9z := p9z); ((first | (refine and8 p9z ?_; (try clear p9z); intro pa9z pb9z pc9z pd9z pe9z pf9z pg9z ph9z) | obtain ⟨pa9z, pb9z, pc9z, pd9z, pe9z, pf9z, pg9z, ph9z⟩ := p9z)); (obtain ⟨_, pi9z⟩ := InFL.mono (by assumption) pc9z); (try dsimp only at N9z); walk_at "Z")) | (k_here; (with_reducible show wpAny _ _ (call (Value.ref 265) _ _) _ _ _); k_dflt (refine' bind_use (by k_asm) (by k_asm) (by k_asm) (by k_asm) (by k_asm) (by walk_at "R") (by k_updF) (by walk_at "M") (by k_mem) (by walk_at "N") (by walk_at "E") (by first | assumption | ((try simp only [List.length_append, List.length_cons, List.length_nil, List.length_set]); first | exact lenB (by assumption) rfl | exact lenA (by assumption) rfl | omega)) (by walk_at "E") (by ktr_room) (by ktr_units) ?_; k_whole; intro h9z tk9z F9z N9z; (try dsimp only at N9z); walk_at "Z")) | (k_here; (with_reducible show wpAny _ _ (call (Value.ref 230) _ _) _ _ _); k_dflt (refine' newvar_use (by k_asm) (by k_asm) (by k_asm) (by k_asm) (by k_asm) (by walk_at "R") (by k_updF) (by walk_at "M") (by walk_at "L") (by ktr_room) (by ktr_units) ?_; k_whole; intro x9z h9z tk9z p9z F9z N9z; (try dsimp only at N9z); (try k_lt p9z); walk_at "Z")) | (k_here; (with_reducible show wpAny _ _ (call (Value.ref 258) _ _) _ _ _); k_dflt (refine' Cut.uz (by k_asm) (by k_asm) (by k_asm) (by k_asm) sub_self (by k_asm) (by walk_at "R") (by ktr_room) (by ktr_units) (unbS (by walk_at "M") (by k_mem) (by walk_at "M") (by omega)) ?_; k_whole; intro x9z h9z tk9z p9z F9z N9z; clear p9z; (try dsimp only at N9z); walk_at "Z")) | (k_here; (with_reducible show wpAny _ _ (call (Value.ref 251) _ _) _ _ _); k_dflt (refine' Cut.uz (by k_asm) (by k_asm) (by k_asm) (by k_asm) sub_self (by k_asm) (by walk_at "R") (by ktr_room) (by ktr_units) (derefS (by walk_at "M") (by k_mem) (by walk_at "M") (by omega)) ?_; k_whole; intro x9z h9z tk9z p9z F9z N9z; (have pz9z := p9z); (first | (obtain ⟨pa9z, ⟨pb9z, pc9z, pd9z, pe9z⟩, pf9z⟩ := p9z; subst pa9z) | (first | (refine and4 p9z ?_; (try clear p9z); intro pa9z pb9z pc9z pd9z) | obtain ⟨pa9z, pb9z, pc9z, pd9z⟩ := p9z)); (try dsimp only at N9z); walk_at "Z")) | (k_here; (with_reducible show wpAny _ _ (call (Value.ref 699) _ _) _ _ _); k_dflt (refine' Cut.uz (by k_asm) (by k_asm) (by k_asm) (by k_asm) (by refine' Del.sub2 (by k_upd) (by k_upd)) (by k_asm) (by walk_at "R") (by ktr_room) (by ktr_units) (lcell _ _ _ _ _ _ _ _ _ _ _ _ _ _ _ _ (by walk_at "M") (by walk_at "A") (by walk_at "A") (by walk_at "N") (by walk_at "M") (by walk_at "N") (by walk_at "E") (by walk_at "L")) ?_; k_whole; intro x9z h9z tk9z p9z F9z N9z; ((first | (refine andNest p9z ?_; (try clear p9z); intro pa9z pb9z pc9z pd9z pe9z pf9z pg9z ph9z pi9z) | obtain ⟨⟨pa9z, pb9z, pc9z⟩, ⟨pd9z, pe9z, pf9z⟩, pg9z, ph9z, pi9z⟩ := p9z)); (replace pa9z := ltN pa9z); (replace pb9z := ltN pb9z); (replace pd9z := ltN pd9z); (replace pe9z := ltN pe9z); (try k_lt pc9z); (try k_lt pf9z); (try dsimp only at N9z); (try dsimp only); (try k_sweep); (try k_fold))) | (k_here; (with_reducible show wpAny _ _ (call (Value.ref 674) _ _) _ _ _); k_dflt (refine' Cut.uz (by k_asm) (by k_asm) (by k_asm) (by k_asm) sub_self (by k_asm) (by walk_at "R") (by ktr_room) (by ktr_units) (areas _ _ _ _) ?_; k_whole; intro x9z h9z tk9z p9z F9z N9z; ((first | (refine and7 p9z ?_; (try clear p9z); intro pz9z pa9z pb9z pc9z pd9z pe9z pf9z) | obtain ⟨pz9z, pa9z, pb9z, pc9z, pd9z, pe9z, pf9z⟩ := p9z)); (try k_lt pa9z); (replace pb9z := ltN pb9z); (replace pc9z := ltN pc9z); (replace pd9z := ltN pd9z); (replace pe9z := ltN pe9z); (replace pf9z := ltN pf9z); (try dsimp only at N9z); (try dsimp only); (try k_sweep); (try k_fold))) | (k_here; (with_reducible show wpAny _ _ (call (Value.ref 154) _ _) _ _ _); k_dflt (refine' Cut.uz (by k_asm) (by k_asm) (by k_asm) (by k_asm) sub_self (by k_asm) (by walk_at "R") (by ktr_room) (by ktr_units) (symbols _ _) ?_; k_whole; intro x9z h9z tk9z p9z F9z N9z; ((first | (refine and9 p9z ?_; (try clear p9z); intro pa9z pb9z pc9z pd9z pe9z pf9z pg9z ph9z pi9z) | obtain ⟨pa9z, pb9z, pc9z, pd9z, pe9z, pf9z, pg9z, ph9z, pi9z⟩ := p9z)); (try k_lt pa9z); (replace pb9z := ltN pb9z); (replace pc9z := ltN pc9z); (replace pd9z := ltN pd9z); (try dsimp only at N9z); (try dsimp only); (try k_sweep); (try k_fold))) | (k_here; (with_reducible show wpAny _ _ (call (Value.ref 692) _ _) _ _ _); k_dflt (refine' whole_use (by k_asm) (by k_asm) (by k_asm) (by k_asm) (by k_asm) (by walk_at "R") (by k_updF) (by walk_at "M") (by walk_at "N") (by walk_at "E") (by ktr_room) (by ktr_units) ?_; k_whole; intro x9z h9z tk9z p9z F9z N9z; ((first | (refine and2 p9z ?_; (try clear p9z); intro pa9z pc9z) | obtain ⟨pa9z, pc9z⟩ := p9z)); (try dsimp only at N9z); walk_at "Z")) | (k_here; (with_reducible show wpAny _ _ (call (Value.ref 685) _ _) _ _ _); k_dflt (refine' draw_use (by k_asm) (by k_asm) (by k_asm) (by k_asm) (by k_asm) (by walk_at "R") (by k_updF) (by walk_at "M") (by walk_at "N") (by walk_at "E") (by walk_at "E") (by walk_at "O") (by ktr_room) (by ktr_units) ?_; k_whole; intro x9z h9z tk9z p9z F9z N9z; ((first | (refine and3 p9z ?_; (try clear p9z); intro pa9z pb9z pc9z) | obtain ⟨pa9z, pb9z, pc9z⟩ := p9z)); (try dsimp only at N9z); walk_at "Z")) | (k_unfold; (try dsimp only); (try clear qkC)) | (k_end; wrow_close) | ((with_reducible show wpAny _ _ (execs (List.cons _ _) _) _ _ _); first | k_gentoks | (refine execs_consF ?_; intro qkC)) | walk1 | (dsimp only; walk1) | (leave1; try dsimp only) | fail "no step")
    all_goals (have F9z := True.intro; have N9z := True.intro; have h9z := True.intro; have p9z := True.intro; have pa9z := True.intro; have pb9z := True.intro; have pc9z := True.intro; have pd9z := True.intro; have pe9z := True.intro; have pf9z := True.intro; have pg9z := True.intro; have ph9z := True.intro; have pi9z := True.intro; have pk9z := True.intro; have pz9z := True.intro; have tk9z := True.intro; have x9z := True.intro)
    exact cont _ _ _ (by assumption) (by rw [← mD_t (to' := to')]; assumption) (by assumption)
  · (try (refine foldQ ?_; intro qkT2))
    repeat' (((fail_if_success (with_reducible show PyProof.Rows.LCt.CompSrcT _ _ _ _ _ _ _ _ _ _ _ _ _ _ _)); (fail_if_success (with_reducible show PyProof.Rows.LCg.CompEnd _ _ _ _ _ _ _ _ _ _ _ _ _ _))); first | (k_here; (with_reducible show wpAny _ _ (call (Value.ref 706) _ _) _ _ _); k_dflt (refine' Cut.uz (by k_asm) (by k_asm) (by k_asm) (by k_asm) sub_self (by k_asm) (by walk_at "R") (by ktr_room) (by ktr_units) (sumH (by assumption) (by assumption) (by assumption) (by assumption) (by assumption) (by assumption) (by assumption) (by assumption) (by assumption)) ?_; k_whole; intro x9z h9z tk9z p9z F9z N9z; (have pk9z := p9z); ((first | (refine and8 p9z ?_; (try clear p9z); intro pa9z pb9z pc9z pd9z pe9z pf9z pg9z ph9z) | obtain ⟨pa9z, pb9z, pc9z, pd9z, pe9z, pf9z, pg9z, ph9z⟩ := p9z)); (obtain ⟨_, pi9z⟩ := InFL.mono (by assumption) pc9z); (try dsimp only at N9z); walk_at "Z")) | (k_here; (with_reducible show wpAny _ _ (call (Value.ref 265) _ _) _ _ _); k_dflt (refine' bind_use (by k_asm) (by k_asm) (by k_asm) (by k_asm) (by k_asm) (by walk_at "R") (by k_updF) (by walk_at "M") (by k_mem) (by walk_at "N") (by walk_at "E") (by first | assumption | ((try simp only [List.length_append, List.length_cons, List.length_nil, List.length_set]); first | exact lenB (by assumption) rfl | exact lenA (by assumption) rfl | omega)) (by walk_at "E") (by ktr_room) (by ktr_units) ?_; k_whole; intro h9z tk9z F9z N9z; (try dsimp only at N9z); walk_at "Z")) | (k_here; (with_reducible show wpAny _ _ (call (Value.ref 230) _ _) _ _ _); k_dflt (refine' newvar_use (by k_asm) (by k_asm) (by k_asm) (by k_asm) (by k_asm) (by walk_at "R") (by k_updF) (by walk_at "M") (by walk_at "L") (by ktr_room) (by ktr_units) ?_; k_whole; intro x9z h9z tk9z p9z F9z N9z; (try dsimp only at N9z); (try k_lt p9z); walk_at "Z")) | (k_here; (with_reducible show wpAny _ _ (call (Value.ref 258) _ _) _ _ _); k_dflt (refine' Cut.uz (by k_asm) (by k_asm) (by k_asm) (by k_asm) sub_self (by k_asm) (by walk_at "R") (by ktr_room) (by ktr_units) (unbS (by walk_at "M") (by k_mem) (by walk_at "M") (by omega)) ?_; k_whole; intro x9z h9z tk9z p9z F9z N9z; clear p9z; (try dsimp only at N9z); walk_at "Z")) | (k_here; (with_reducible show wpAny _ _ (call (Value.ref 251) _ _) _ _ _); k_dflt (refine' Cut.uz (by k_asm) (by k_asm) (by k_asm) (by k_asm) sub_self (by k_asm) (by walk_at "R") (by ktr_room) (by ktr_units) (derefS (by walk_at "M") (by k_mem) (by walk_at "M") (by omega)) ?_; k_whole; intro x9z h9z tk9z p9z F9z N9z; (have pz9z := p9z); (first | (obtain ⟨pa9z, ⟨pb9z, pc9z, pd9z, pe9z⟩, pf9z⟩ := p9z; subst pa9z) | (first | (refine and4 p9z ?_; (try clear p9z); intro pa9z pb9z pc9z pd9z) | obtain ⟨pa9z, pb9z, pc9z, pd9z⟩ := p9z)); (try dsimp only at N9z); walk_at "Z")) | (k_here; (with_reducible show wpAny _ _ (call (Value.ref 699) _ _) _ _ _); k_dflt (refine' Cut.uz (by k_asm) (by k_asm) (by k_asm) (by k_asm) (by refine' Del.sub2 (by k_upd) (by k_upd)) (by k_asm) (by walk_at "R") (by ktr_room) (by ktr_units) (lcell _ _ _ _ _ _ _ _ _ _ _ _ _ _ _ _ (by walk_at "M") (by walk_at "A") (by walk_at "A") (by walk_at "N") (by walk_at "M") (by walk_at "N") (by walk_at "E") (by walk_at "L")) ?_; k_whole; intro x9z h9z tk9z p9z F9z N9z; ((first | (refine andNest p9z ?_; (try clear p9z); intro pa9z pb9z pc9z pd9z pe9z pf9z pg9z ph9z pi9z) | obtain ⟨⟨pa9z, pb9z, pc9z⟩, ⟨pd9z, pe9z, pf9z⟩, pg9z, ph9z, pi9z⟩ := p9z)); (replace pa9z := ltN pa9z); (replace pb9z := ltN pb9z); (replace pd9z := ltN pd9z); (replace pe9z := ltN pe9z); (try k_lt pc9z); (try k_lt pf9z); (try dsimp only at N9z); (try dsimp only); (try k_sweep); (try k_fold))) | (k_here; (with_reducible show wpAny _ _ (call (Value.ref 674) _ _) _ _ _); k_dflt (refine' Cut.uz (by k_asm) (by k_asm) (by k_asm) (by k_asm) sub_self (by k_asm) (by walk_at "R") (by ktr_room) (by ktr_units) (areas _ _ _ _) ?_; k_whole; intro x9z h9z tk9z p9z F9z N9z; ((first | (refine and7 p9z ?_; (try clear p9z); intro pz9z pa9z pb9z pc9z pd9z pe9z pf9z) | obtain ⟨pz9z, pa9z, pb9z, pc9z, pd9z, pe9z, pf9z⟩ := p9z)); (try k_lt pa9z); (replace pb9z := ltN pb9z); (replace pc9z := ltN pc9z); (replace pd9z := ltN pd9z); (replace pe9z := ltN pe9z); (replace pf9z := ltN pf9z); (try dsimp only at N9z); (try dsimp only); (try k_sweep); (try k_fold))) | (k_here; (with_reducible show wpAny _ _ (call (Value.ref 154) _ _) _ _ _); k_dflt (refine' Cut.uz (by k_asm) (by k_asm) (by k_asm) (by k_asm) sub_self (by k_asm) (by walk_at "R") (by ktr_room) (by ktr_units) (symbols _ _) ?_; k_whole; intro x9z h9z tk9z p9z F9z N9z; ((first | (refine and9 p9z ?_; (try clear p9z); intro pa9z pb9z pc9z pd9z pe9z pf9z pg9z ph9z pi9z) | obtain ⟨pa9z, pb9z, pc9z, pd9z, pe9z, pf9z, pg9z, ph9z, pi9z⟩ := p9z)); (try k_lt pa9z); (replace pb9z := ltN pb9z); (replace pc9z := ltN pc9z); (replace pd9z := ltN pd9z); (try dsimp only at N9z); (try dsimp only); (try k_sweep); (try k_fold))) | (k_here; (with_reducible show wpAny _ _ (call (Value.ref 692) _ _) _ _ _); k_dflt (refine' whole_use (by k_asm) (by k_asm) (by k_asm) (by k_asm) (by k_asm) (by walk_at "R") (by k_updF) (by walk_at "M") (by walk_at "N") (by walk_at "E") (by ktr_room) (by ktr_units) ?_; k_whole; intro x9z h9z tk9z p9z F9z N9z; ((first | (refine and2 p9z ?_; (try clear p9z); intro pa9z pc9z) | obtain ⟨pa9z, pc9z⟩ := p9z)); (try dsimp only at N9z); walk_at "Z")) | (k_here; (with_reducible show wpAny _ _ (call (Value.ref 685) _ _) _ _ _); k_dflt (refine' draw_use (by k_asm) (by k_asm) (by k_asm) (by k_asm) (by k_asm) (by walk_at "R") (by k_updF) (by walk_at "M") (by walk_at "N") (by walk_at "E") (by walk_at "E") (by walk_at "O") (by ktr_room) (by ktr_units) ?_; k_whole; intro x9z h9z tk9z p9z F9z N9z; ((first | (refine and3 p9z ?_; (try clear p9z); intro pa9z pb9z pc9z) | obtain ⟨pa9z, pb9z, pc9z⟩ := p9z)); (try dsimp only at N9z); walk_at "Z")) | (k_unfold; (try dsimp only); (try clear qkC)) | (k_end; wrow_close) | ((with_reducible show wpAny _ _ (execs (List.cons _ _) _) _ _ _); first | k_gentoks | (refine execs_consF ?_; intro qkC)) | walk1 | (dsimp only; walk1) | (leave1; try dsimp only) | fail "no step")
    all_goals (have F9z := True.intro; have N9z := True.intro; have h9z := True.intro; have p9z := True.intro; have pa9z := True.intro; have pb9z := True.intro; have pc9z := True.intro; have pd9z := True.intro; have pe9z := True.intro; have pf9z := True.intro; have pg9z := True.intro; have ph9z := True.intro; have pi9z := True.intro; have pk9z := True.intro; have pz9z := True.intro; have tk9z := True.intro; have x9z := True.intro)
    exact cont _ _ _ (by assumption) (by rw [← mD_t (to' := to')]; assumption) (by assumption)
/-! L12 -/
local macro_rules | `(tactic| walk_at "call ref") => `(tactic| (k_here; (with_reducible show wpAny _ _ (call (Value.ref 706) _ _) _ _ _); k_dflt (refine' CutT.use (sumE ?s1 ?s2 ?s3 ?s4 ?s5 ?s6 ?s7 ?s8 ?s9) ?q1 ?q2 ?q3 ?q4 ?q5 ?q6 ?r1 ?r2 ?q7 ?q8 ?q9 ?_; (case q1 => k_asm); (case q2 => k_asm); (case q3 => k_asm); (case q4 => k_asm); (case q5 => exact sub_self); (case q6 => k_asm); (case r1 => assumption); (case r2 => assumption); (case q7 => walk_at "R"); (case q8 => ktr_room); (case q9 => ktr_units); (case s1 => assumption); (case s2 => assumption); (case s3 => assumption); (case s4 => assumption); (case s5 => assumption); (case s6 => assumption); (case s7 => assumption); (case s8 => assumption); (case s9 => assumption); k_whole; intro x9 h9 tk9 p9 F9 N9; ((first | (refine and6 p9 ?_; (try clear p9); intro pa9 pb9 pc9 y9 pd9 pe9) | obtain ⟨pa9, pb9, pc9, y9, pd9, pe9⟩ := p9)); (obtain ⟨_, pi9⟩ := InFL.mono (by assumption) pc9); (try dsimp only at N9); walk_at "Z")))
theorem StB.set {l l' hs hs' j q v b} (c : StB l hs j q v b) (h : ∀ p ∈ l, p ∈ l') (e : hs'[j]? = hs[j]?) : StB l' hs' j q v b := by
  cases b
  · exact ⟨c.1.mono h, (c.2.mono h).at e⟩
  · exact ⟨c.1.mono h, e.trans c.2⟩
theorem pD5 {D E P H XL TO ST CE SI : Addr × Obj} {VS : List (Addr × Obj)} : ∀ q ∈ P :: H :: XL :: TO :: ST :: CE :: SI :: D :: VS, q ∈ D :: E :: P :: H :: XL :: TO :: ST :: CE :: SI :: VS := by
  repeat (first | exact sub_self | refine List.forall_mem_cons.mpr ⟨by repeat (first | exact List.Mem.head _ | refine List.Mem.tail _ ?_), ?_⟩ | refine sub_tail ?_)
theorem lacks_reads {h₀ h : Heap} {L : Addr} {news : List (Addr × Obj)} {q : Addr} {i : Int} (N : News h₀ L h news) (c : Lacks news q i) : Reads h (.ref q) (.tuple [.str (Str.ofString "s"), .int 16, .tuple [.tuple [.str (Str.ofString "a"), .int i], .tuple [.str (Str.ofString "a"), .int 25]]]) [] := by
  obtain ⟨l2, l3, l4, t1, t2, t3, t4, t5, t6, k1, k2, k3, k4, m1, m2, m3, m4⟩ := c
  exact .tuple (N _ m1).1 rfl rfl (.cons (as := []) (bs := []) (.str _ _) (.cons (as := []) (bs := []) (.int _ _) (.cons (as := []) (bs := []) (.tuple (N _ m2).1 rfl rfl (.cons (as := []) (bs := []) (.tuple (N _ m3).1 rfl rfl (.cons (as := []) (bs := []) (.str _ _) (.cons (as := []) (bs := []) (.int _ _) .nil))) (.cons (as := []) (bs := []) (.tuple (N _ m4).1 rfl rfl (.cons (as := []) (bs := []) (.str _ _) (.cons (as := []) (bs := []) (.int _ _) .nil))) .nil))) .nil)))
theorem lacks_shaped (i : Int) : PySem.SeqAt.shaped (.tuple [.str (Str.ofString "s"), .int 16, .tuple [.tuple [.str (Str.ofString "a"), .int i], .tuple [.str (Str.ofString "a"), .int 25]]]) = true := by
  have a : PyData.strOk (Str.ofString "s") = true := by decide +kernel
  have b : PyData.strOk (Str.ofString "a") = true := by decide +kernel
  simp [PySem.SeqAt.shaped, PyData.canLay0, PyData.canLayAll0, PyData.depth, PyData.depthAll, a, b]
section
variable {prog : Program} {w : World} {A : Around} {E : Value → Shared → Prop} {s : Shared} {h₀ : Heap} {L : Addr} {news : List (Addr × Obj)} {Q : Value → Shared → Prop}
theorem lacks_ne {a b : Addr} {i : Int} (N : News h₀ L s.heap news) (h1 : Lacks news a i) (h2 : Lacks news b i) (hu : A.units + 64 < cLine) (h : Q (.bool false) s) :
    wpAny (model prog w) A (compareOp .NotEq (.ref a) (.ref b)) Q E s :=
  ne_dataH (lacks_reads N h1) (lacks_reads N h2) (lacks_shaped i) (lacks_shaped i) hu (by
    have e : PyData.eqv (.tuple [.str (Str.ofString "s"), .int 16, .tuple [.tuple [.str (Str.ofString "a"), .int i], .tuple [.str (Str.ofString "a"), .int 25]]]) (.tuple [.str (Str.ofString "s"), .int 16, .tuple [.tuple [.str (Str.ofString "a"), .int i], .tuple [.str (Str.ofString "a"), .int 25]]]) = true := by simp [PyData.eqv, PyData.eqvAll]
    rw [e]; exact h)
theorem nil_ne {a b : Addr} {k l : Nat} (N : News h₀ L s.heap news) (h1 : (a, listOf #[] k) ∈ news) (h2 : (b, listOf #[] l) ∈ news) (hu : A.units + 64 < cLine) (h : Q (.bool false) s) :
    wpAny (model prog w) A (compareOp .NotEq (.ref a) (.ref b)) Q E s := pairs_ne (vs := []) (ws := []) (ns := []) N h1 h2 .nil .nil hu h
end
local macro_rules | `(tactic| walk_at "compareOp NotEq ref ref") => `(tactic| (k_here; k_dflt (first | (refine' lacks_ne (by k_asm) (by walk_at "M") (by walk_at "M") (by ktr_units) ?_; k_whole) | (refine' nil_ne (by k_asm) (by k_mem) (by k_mem) (by ktr_units) ?_; k_whole))))
theorem turnD3 (w : World) (z : LD) (x : DrawD) (hs xs to st ce si : List Value) (n : LN) (VS : List (Addr × Obj)) (T S : Nat → Int) (SC cC cM : Addr) (k : Nat) (u KN to' : Option Value) (p : Nat) (tp : Tok) (q1 q2 q3 : Addr) (b1 b3 : Bool) (TL FL : Addr) (nf : Nat) (f1 f2 : Addr) (j1 j2 : Nat) (v1 v2 : Int) (mean : ExcName → Option Value) (mg mb : Str → Option Value) (dp un : Nat) (gd : Option (List Code)) (a : Addr) (ccd : Value) (A₀ : Around) (base h₀ : Heap) (L : Addr) (s : Shared) (Q : Flow → Shared → Prop) (E : Value → Shared → Prop)
    (B : Below A₀ base [] h₀) (F : Fr h₀ L s.heap (mD z SC u KN (some (.int (p : Int) tp)) (some (.ref TL)) (some (.ref FL)) to')) (XX : (Mine.K w.params).In h₀) (N : News h₀ L s.heap (lawL z x hs xs to st ce si n VS)) (TT : Top VW LO mean mg mb h₀) (XB : (Mine.K w.params).In base) (TB : Top VW LO mean mg mb base) (hd : dp + 200 < recursionLimit) (hu : un + 8000 < cLine)
    (LS : LawS w z cC cM VS) (hx : 1 ≤ xs.length ∧ xs.length ≤ 10) (hk : k ≤ 6) (R : Row VS hs to st ce si k T S) (hp : p < k) (g2 : si[p]? = some (.ref q2)) (c1 : StB VS hs (2 * p) q1 (T p) b1) (c2 : StB VS hs (2 * p + 1) q2 (S p) true) (c3 : StB VS hs (2 * (p + 1)) q3 (T (p + 1)) b3)
    (hb : b1 = !b3) (hTL : (TL, listOf #[.ref q1, .ref q2, .ref q3] 0) ∈ VS) (hFL : (FL, listOf #[.ref f1, .ref f2] nf) ∈ VS) (hj1 : j1 ≤ 1000) (hj2 : j2 ≤ 1000) (hf1 : StB VS hs j1 f1 v1 true) (hf2 : StB VS hs j2 f2 v2 true)
    (cont : ∀ (d : HD) (h' : Heap) (tk' : Nat), HPost w z cC cM VS hs to st ce si k T S p d →
      Fr h₀ L h' (mD z SC u KN (some (.int (p : Int) tp)) (some (.ref TL)) (some (.ref FL)) (some (.str (Str.ofString "holds") d.t))) → News h₀ L h' (lawL z x d.hs d.xs to st ce si d.n d.VS) → Q .next { s with heap := h', toks := tk' }) :
    wpAny (model PySem.Challenge.rw_sa0162_01.row.prog w) (lawTop dp un gd L a ccd cC cM) (execs (dbody.drop 2) (lawEnv L a ccd cC cM)) Q E s := by
  revert XX; k_fill; intro XX
  have o1 := ltN LS.o1; have o2 := ltN LS.o2; have o3 := ltN LS.o3; have o4 := ltN LS.o4; have o5 := ltN LS.o5; have o6 := ltN LS.o6
  have a1 := LS.a1; have a2 := LS.a2; have a3 := LS.a3; have a4 := LS.a4; have a5 := LS.a5; have a6 := LS.a6; have a7 := LS.a7
  have hPool := LS.pool; have hSP := LS.nSP; have hMach := LS.mach
  have m1 := hMach.x; have m2 := hMach.xd; have m3 := hMach.m; have m4 := hMach.md
  obtain ⟨oM, cm, cmd⟩ := LS.cm
  obtain ⟨oC, cc, ccd'⟩ := LS.cc
  have lH := R.lH; have lTO := R.lTO; have lST := R.lST; have lCE := R.lCE; have lSI := R.lSI
  have z1 := R.le1 hk; have z2 := R.le2 hk; have z3 := R.le3 hk; have z4 := R.le4 hk; have z5 := R.le5 hk; have ePH := LS.nPH; have ePX := LS.nPX; have ePT := LS.nPT; have ePS := LS.nPS; have ePC := LS.nPC; have ePI := LS.nPI; have eHX := LS.nHX; have eHT := LS.nHT; have eHS := LS.nHS; have eHC := LS.nHC; have eHI := LS.nHI; have eXT := LS.nXT; have eXS := LS.nXS; have eXC := LS.nXC; have eXI := LS.nXI; have eTS := LS.nTS; have eTC := LS.nTC; have eTI := LS.nTI; have eSC := LS.nSC; have eSI := LS.nSI; have eCI := LS.nCI
  have e2 := at_nat g2
  obtain ⟨tS, eS⟩ := R.st p hp
  have eS' := at_nat eS
  have fFL : InFL FL [.ref f1, .ref f2] VS := ⟨_, hFL⟩
  have hlen : (([Value.ref f1, Value.ref f2].length : Nat) : Int) = 2 := rfl
  have y0 : [Value.ref q1, Value.ref q2, Value.ref q3][(0 : Int).toNat]? = some (Value.ref q1) := rfl
  have y1 : [Value.ref q1, Value.ref q2, Value.ref q3][(1 : Int).toNat]? = some (Value.ref q2) := rfl
  have y2 : [Value.ref q1, Value.ref q2, Value.ref q3][(2 : Int).toNat]? = some (Value.ref q3) := rfl
  (try (refine foldAE ?_; intro envT AT))
  repeat' (((fail_if_success (with_reducible show PyProof.Rows.LCt.CompSrcT _ _ _ _ _ _ _ _ _ _ _ _ _ _ _)); (fail_if_success (with_reducible show PyProof.Rows.LCg.CompEnd _ _ _ _ _ _ _ _ _ _ _ _ _ _))); first | (k_here; (with_reducible show wpAny _ _ (call (Value.ref 265) _ _) _ _ _); k_dflt (refine' bind_use (by k_asm) (by k_asm) (by k_asm) (by k_asm) (by k_asm) (by walk_at "R") (by k_updF) (by walk_at "M") (by k_mem) (by walk_at "N") (by walk_at "E") (by first | assumption | ((try simp only [List.length_append, List.length_cons, List.length_nil, List.length_set]); first | exact lenB (by assumption) rfl | exact lenA (by assumption) rfl | omega)) (by walk_at "E") (by ktr_room) (by ktr_units) ?_; k_whole; intro h9z tk9z F9z N9z; (try dsimp only at N9z); walk_at "Z")) | (k_here; (with_reducible show wpAny _ _ (call (Value.ref 230) _ _) _ _ _); k_dflt (refine' newvar_use (by k_asm) (by k_asm) (by k_asm) (by k_asm) (by k_asm) (by walk_at "R") (by k_updF) (by walk_at "M") (by walk_at "L") (by ktr_room) (by ktr_units) ?_; k_whole; intro x9z h9z tk9z p9z F9z N9z; (try dsimp only at N9z); (try k_lt p9z); walk_at "Z")) | (k_here; (with_reducible show wpAny _ _ (call (Value.ref 258) _ _) _ _ _); k_dflt (refine' Cut.uz (by k_asm) (by k_asm) (by k_asm) (by k_asm) sub_self (by k_asm) (by walk_at "R") (by ktr_room) (by ktr_units) (unbS (by walk_at "M") (by k_mem) (by walk_at "M") (by omega)) ?_; k_whole; intro x9z h9z tk9z p9z F9z N9z; clear p9z; (try dsimp only at N9z); walk_at "Z")) | (k_here; (with_reducible show wpAny _ _ (call (Value.ref 251) _ _) _ _ _); k_dflt (refine' Cut.uz (by k_asm) (by k_asm) (by k_asm) (by k_asm) sub_self (by k_asm) (by walk_at "R") (by ktr_room) (by ktr_units) (derefS (by walk_at "M") (by k_mem) (by walk_at "M") (by omega)) ?_; k_whole; intro x9z h9z tk9z p9z F9z N9z; (have pz9z := p9z); (first | (obtain ⟨pa9z, ⟨pb9z, pc9z, pd9z, pe9z⟩, pf9z⟩ := p9z; subst pa9z) | (first | (refine and4 p9z ?_; (try clear p9z); intro pa9z pb9z pc9z pd9z) | obtain ⟨pa9z, pb9z, pc9z, pd9z⟩ := p9z)); (try dsimp only at N9z); walk_at "Z")) | (k_here; (with_reducible show wpAny _ _ (call (Value.ref 699) _ _) _ _ _); k_dflt (refine' Cut.uz (by k_asm) (by k_asm) (by k_asm) (by k_asm) (by refine' Del.sub2 (by k_upd) (by k_upd)) (by k_asm) (by walk_at "R") (by ktr_room) (by ktr_units) (lcell _ _ _ _ _ _ _ _ _ _ _ _ _ _ _ _ (by walk_at "M") (by walk_at "A") (by walk_at "A") (by walk_at "N") (by walk_at "M") (by walk_at "N") (by walk_at "E") (by walk_at "L")) ?_; k_whole; intro x9z h9z tk9z p9z F9z N9z; ((first | (refine andNest p9z ?_; (try clear p9z); intro pa9z pb9z pc9z pd9z pe9z pf9z pg9z ph9z pi9z) | obtain ⟨⟨pa9z, pb9z, pc9z⟩, ⟨pd9z, pe9z, pf9z⟩, pg9z, ph9z, pi9z⟩ := p9z)); (replace pa9z := ltN pa9z); (replace pb9z := ltN pb9z); (replace pd9z := ltN pd9z); (replace pe9z := ltN pe9z); (try k_lt pc9z); (try k_lt pf9z); (try dsimp only at N9z); (try dsimp only); (try k_sweep); (try k_fold))) | (k_here; (with_reducible show wpAny _ _ (call (Value.ref 674) _ _) _ _ _); k_dflt (refine' Cut.uz (by k_asm) (by k_asm) (by k_asm) (by k_asm) sub_self (by k_asm) (by walk_at "R") (by ktr_room) (by ktr_units) (areas _ _ _ _) ?_; k_whole; intro x9z h9z tk9z p9z F9z N9z; ((first | (refine and7 p9z ?_; (try clear p9z); intro pz9z pa9z pb9z pc9z pd9z pe9z pf9z) | obtain ⟨pz9z, pa9z, pb9z, pc9z, pd9z, pe9z, pf9z⟩ := p9z)); (try k_lt pa9z); (replace pb9z := ltN pb9z); (replace pc9z := ltN pc9z); (replace pd9z := ltN pd9z); (replace pe9z := ltN pe9z); (replace pf9z := ltN pf9z); (try dsimp only at N9z); (try dsimp only); (try k_sweep); (try k_fold))) | (k_here; (with_reducible show wpAny _ _ (call (Value.ref 154) _ _) _ _ _); k_dflt (refine' Cut.uz (by k_asm) (by k_asm) (by k_asm) (by k_asm) sub_self (by k_asm) (by walk_at "R") (by ktr_room) (by ktr_units) (symbols _ _) ?_; k_whole; intro x9z h9z tk9z p9z F9z N9z; ((first | (refine and9 p9z ?_; (try clear p9z); intro pa9z pb9z pc9z pd9z pe9z pf9z pg9z ph9z pi9z) | obtain ⟨pa9z, pb9z, pc9z, pd9z, pe9z, pf9z, pg9z, ph9z, pi9z⟩ := p9z)); (try k_lt pa9z); (replace pb9z := ltN pb9z); (replace pc9z := ltN pc9z); (replace pd9z := ltN pd9z); (try dsimp only at N9z); (try dsimp only); (try k_sweep); (try k_fold))) | (k_here; (with_reducible show wpAny _ _ (call (Value.ref 692) _ _) _ _ _); k_dflt (refine' whole_use (by k_asm) (by k_asm) (by k_asm) (by k_asm) (by k_asm) (by walk_at "R") (by k_updF) (by walk_at "M") (by walk_at "N") (by walk_at "E") (by ktr_room) (by ktr_units) ?_; k_whole; intro x9z h9z tk9z p9z F9z N9z; ((first | (refine and2 p9z ?_; (try clear p9z); intro pa9z pc9z) | obtain ⟨pa9z, pc9z⟩ := p9z)); (try dsimp only at N9z); walk_at "Z")) | (k_here; (with_reducible show wpAny _ _ (call (Value.ref 685) _ _) _ _ _); k_dflt (refine' draw_use (by k_asm) (by k_asm) (by k_asm) (by k_asm) (by k_asm) (by walk_at "R") (by k_updF) (by walk_at "M") (by walk_at "N") (by walk_at "E") (by walk_at "E") (by walk_at "O") (by ktr_room) (by ktr_units) ?_; k_whole; intro x9z h9z tk9z p9z F9z N9z; ((first | (refine and3 p9z ?_; (try clear p9z); intro pa9z pb9z pc9z) | obtain ⟨pa9z, pb9z, pc9z⟩ := p9z)); (try dsimp only at N9z); walk_at "Z")) | (k_unfold; (try dsimp only)) | (k_end; wrow_close) | walk1 | (dsimp only; walk1) | (leave1; try dsimp only) | fail "no step")
  all_goals (have F9z := True.intro; have N9z := True.intro; have h9z := True.intro; have p9z := True.intro; have pa9z := True.intro; have pb9z := True.intro; have pc9z := True.intro; have pd9z := True.intro; have pe9z := True.intro; have pf9z := True.intro; have pg9z := True.intro; have ph9z := True.intro; have pi9z := True.intro; have pz9z := True.intro; have tk9z := True.intro; have x9z := True.intro)
  rename_i d h9 tk9 pa pb pc y pd pe nf' pi hh F9 N9 tk0
  clear a1 a2 a3 a4 a5 a6 a7 hPool hSP hMach m1 m2 m3 m4 cm cc o1 o2 o3 o4 o5 o6 hlen
  refine LCt.CompSrcT.ledger (news := lawL z x hs d.xs to st ce si d.n d.VS) rfl F9 N9 (.tail _ (.tail _ (.tail _ (.tail _ (.tail _ (.tail _ (.tail _ pi))))))) (show 2 ≤ sizeLine by decide) ?_
  intro g
  refine restT_ind (fun i ys nx => nx = lawL z x hs d.xs to st ce si d.n d.VS ∧ ys = []) ⟨rfl, rfl⟩ ?_ ?_
  · rintro ys nx ⟨rfl, rfl⟩ D h tk F N off
    simp only [LCg.Off1] at off
    (first | (refine and8 off ?_; (try clear off); intro w1 w2 w3 w4 w5 w6 w7 w8) | obtain ⟨w1, w2, w3, w4, w5, w6, w7, w8⟩ := off)
    have LS1 := pb.put (p := (D, LCg.lst [])) ⟨Ne.symm w1, Ne.symm w2, Ne.symm w3, Ne.symm w4, Ne.symm w5, Ne.symm w6, Ne.symm w7⟩
    have N1 : News h₀ L h (lawL z x hs d.xs to st ce si d.n ((D, LCg.lst []) :: d.VS)) := fun q hq => N q (pB1 q hq)
    have sub1 : ∀ q ∈ VS, q ∈ (D, LCg.lst []) :: d.VS := fun q hq => .tail _ (pc q hq)
    have R1 := R.mono sub1
    have c11 := c1.mono sub1; have c31 := c3.mono sub1
    have hD : (D, listOf #[] 0) ∈ (D, LCg.lst []) :: d.VS := .head _
    obtain ⟨⟨ta, tb, kc, mc⟩, gc⟩ := c2.mono sub1
    clear N F9 N9 pb pc pd pe R c1 c2 c3 LS
    revert LS1 N1 R1 c11 c31 hD mc sub1
    generalize (D, LCg.lst []) :: d.VS = VS1
    intro LS N1 sub1 R c1 c3 hD mc
    have hTL1 := sub1 _ hTL
    have fFL1 : InFL FL [.ref f1, .ref f2] VS1 := ⟨_, sub1 _ hFL⟩
    have fTL1 : InTL TL q1 q2 q3 VS1 := sub1 _ hTL
    clear fFL lH lTO lST lCE lSI ccd' cmd
    have o1 := ltN LS.o1; have o2 := ltN LS.o2; have o3 := ltN LS.o3; have o4 := ltN LS.o4; have o5 := ltN LS.o5; have o6 := ltN LS.o6
    have a1 := LS.a1; have a2 := LS.a2; have a3 := LS.a3; have a4 := LS.a4; have a5 := LS.a5; have a6 := LS.a6; have a7 := LS.a7
    have hPool := LS.pool; have hSP := LS.nSP; have hMach := LS.mach
    have m1 := hMach.x; have m2 := hMach.xd; have m3 := hMach.m; have m4 := hMach.md
    obtain ⟨oM, cm, cmd⟩ := LS.cm
    obtain ⟨oC, cc, ccd'⟩ := LS.cc
    have lH := R.lH; have lTO := R.lTO; have lST := R.lST; have lCE := R.lCE; have lSI := R.lSI
    have z1 := R.le1 hk; have z2 := R.le2 hk; have z3 := R.le3 hk; have z4 := R.le4 hk; have z5 := R.le5 hk; have ePH := LS.nPH; have ePX := LS.nPX; have ePT := LS.nPT; have ePS := LS.nPS; have ePC := LS.nPC; have ePI := LS.nPI; have eHX := LS.nHX; have eHT := LS.nHT; have eHS := LS.nHS; have eHC := LS.nHC; have eHI := LS.nHI; have eXT := LS.nXT; have eXS := LS.nXS; have eXC := LS.nXC; have eXI := LS.nXI; have eTS := LS.nTS; have eTC := LS.nTC; have eTI := LS.nTI; have eSC := LS.nSC; have eSI := LS.nSI; have eCI := LS.nCI
    have nq : q2 ≠ z.A.H := neN (a2 _ mc)
    dsimp only
    (try (refine foldQ ?_; intro qkT2))
    repeat' (((fail_if_success (with_reducible show PyProof.Rows.LCt.CompSrcT _ _ _ _ _ _ _ _ _ _ _ _ _ _ _)); (fail_if_success (with_reducible show PyProof.Rows.LCg.CompEnd _ _ _ _ _ _ _ _ _ _ _ _ _ _)); (fail_if_success (with_reducible show wpAny _ _ (call (Value.ref 706) _ _) _ _ _))); first | (k_here; (with_reducible show wpAny _ _ (call (Value.ref 265) _ _) _ _ _); k_dflt (refine' bind_use (by k_asm) (by k_asm) (by k_asm) (by k_asm) (by k_asm) (by walk_at "R") (by k_updF) (by walk_at "M") (by k_mem) (by walk_at "N") (by walk_at "E") (by first | assumption | ((try simp only [List.length_append, List.length_cons, List.length_nil, List.length_set]); first | exact lenB (by assumption) rfl | exact lenA (by assumption) rfl | omega)) (by walk_at "E") (by ktr_room) (by ktr_units) ?_; k_whole; intro h9z tk9z F9z N9z; (try dsimp only at N9z); walk_at "Z")) | (k_here; (with_reducible show wpAny _ _ (call (Value.ref 230) _ _) _ _ _); k_dflt (refine' newvar_use (by k_asm) (by k_asm) (by k_asm) (by k_asm) (by k_asm) (by walk_at "R") (by k_updF) (by walk_at "M") (by walk_at "L") (by ktr_room) (by ktr_units) ?_; k_whole; intro x9z h9z tk9z p9z F9z N9z; (try dsimp only at N9z); (try k_lt p9z); walk_at "Z")) | (k_here; (with_reducible show wpAny _ _ (call (Value.ref 258) _ _) _ _ _); k_dflt (refine' Cut.uz (by k_asm) (by k_asm) (by k_asm) (by k_asm) sub_self (by k_asm) (by walk_at "R") (by ktr_room) (by ktr_units) (unbS (by walk_at "M") (by k_mem) (by walk_at "M") (by omega)) ?_; k_whole; intro x9z h9z tk9z p9z F9z N9z; clear p9z; (try dsimp only at N9z); walk_at "Z")) | (k_here; (with_reducible show wpAny _ _ (call (Value.ref 251) _ _) _ _ _); k_dflt (refine' Cut.uz (by k_asm) (by k_asm) (by k_asm) (by k_asm) sub_self (by k_asm) (by walk_at "R") (by ktr_room) (by ktr_units) (derefS (by walk_at "M") (by k_mem) (by walk_at "M") (by omega)) ?_; k_whole; intro x9z h9z tk9z p9z F9z N9z; (have pz9z := p9z); (first | (obtain ⟨pa9z, ⟨pb9z, pc9z, pd9z, pe9z⟩, pf9z⟩ := p9z; subst pa9z) | (first | (refine and4 p9z ?_; (try clear p9z); intro pa9z pb9z pc9z pd9z) | obtain ⟨pa9z, pb9z, pc9z, pd9z⟩ := p9z)); (try dsimp only at N9z); walk_at "Z")) | (k_here; (with_reducible show wpAny _ _ (call (Value.ref 699) _ _) _ _ _); k_dflt (refine' Cut.uz (by k_asm) (by k_asm) (by k_asm) (by k_asm) (by refine' Del.sub2 (by k_upd) (by k_upd)) (by k_asm) (by walk_at "R") (by ktr_room) (by ktr_units) (lcell _ _ _ _ _ _ _ _ _ _ _ _ _ _ _ _ (by walk_at "M") (by walk_at "A") (by walk_at "A") (by walk_at "N") (by walk_at "M") (by walk_at "N") (by walk_at "E") (by walk_at "L")) ?_; k_whole; intro x9z h9z tk9z p9z F9z N9z; ((first | (refine andNest p9z ?_; (try clear p9z); intro pa9z pb9z pc9z pd9z pe9z pf9z pg9z ph9z pi9z) | obtain ⟨⟨pa9z, pb9z, pc9z⟩, ⟨pd9z, pe9z, pf9z⟩, pg9z, ph9z, pi9z⟩ := p9z)); (replace pa9z := ltN pa9z); (replace pb9z := ltN pb9z); (replace pd9z := ltN pd9z); (replace pe9z := ltN pe9z); (try k_lt pc9z); (try k_lt pf9z); (try dsimp only at N9z); (try dsimp only); (try k_sweep); (try k_fold))) | (k_here; (with_reducible show wpAny _ _ (call (Value.ref 674) _ _) _ _ _); k_dflt (refine' Cut.uz (by k_asm) (by k_asm) (by k_asm) (by k_asm) sub_self (by k_asm) (by walk_at "R") (by ktr_room) (by ktr_units) (areas _ _ _ _) ?_; k_whole; intro x9z h9z tk9z p9z F9z N9z; ((first | (refine and7 p9z ?_; (try clear p9z); intro pz9z pa9z pb9z pc9z pd9z pe9z pf9z) | obtain ⟨pz9z, pa9z, pb9z, pc9z, pd9z, pe9z, pf9z⟩ := p9z)); (try k_lt pa9z); (replace pb9z := ltN pb9z); (replace pc9z := ltN pc9z); (replace pd9z := ltN pd9z); (replace pe9z := ltN pe9z); (replace pf9z := ltN pf9z); (try dsimp only at N9z); (try dsimp only); (try k_sweep); (try k_fold))) | (k_here; (with_reducible show wpAny _ _ (call (Value.ref 154) _ _) _ _ _); k_dflt (refine' Cut.uz (by k_asm) (by k_asm) (by k_asm) (by k_asm) sub_self (by k_asm) (by walk_at "R") (by ktr_room) (by ktr_units) (symbols _ _) ?_; k_whole; intro x9z h9z tk9z p9z F9z N9z; ((first | (refine and9 p9z ?_; (try clear p9z); intro pa9z pb9z pc9z pd9z pe9z pf9z pg9z ph9z pi9z) | obtain ⟨pa9z, pb9z, pc9z, pd9z, pe9z, pf9z, pg9z, ph9z, pi9z⟩ := p9z)); (try k_lt pa9z); (replace pb9z := ltN pb9z); (replace pc9z := ltN pc9z); (replace pd9z := ltN pd9z); (try dsimp only at N9z); (try dsimp only); (try k_sweep); (try k_fold))) | (k_here; (with_reducible show wpAny _ _ (call (Value.ref 692) _ _) _ _ _); k_dflt (refine' whole_use (by k_asm) (by k_asm) (by k_asm) (by k_asm) (by k_asm) (by walk_at "R") (by k_updF) (by walk_at "M") (by walk_at "N") (by walk_at "E") (by ktr_room) (by ktr_units) ?_; k_whole; intro x9z h9z tk9z p9z F9z N9z; ((first | (refine and2 p9z ?_; (try clear p9z); intro pa9z pc9z) | obtain ⟨pa9z, pc9z⟩ := p9z)); (try dsimp only at N9z); walk_at "Z")) | (k_here; (with_reducible show wpAny _ _ (call (Value.ref 685) _ _) _ _ _); k_dflt (refine' draw_use (by k_asm) (by k_asm) (by k_asm) (by k_asm) (by k_asm) (by walk_at "R") (by k_updF) (by walk_at "M") (by walk_at "N") (by walk_at "E") (by walk_at "E") (by walk_at "O") (by ktr_room) (by ktr_units) ?_; k_whole; intro x9z h9z tk9z p9z F9z N9z; ((first | (refine and3 p9z ?_; (try clear p9z); intro pa9z pb9z pc9z) | obtain ⟨pa9z, pb9z, pc9z⟩ := p9z)); (try dsimp only at N9z); walk_at "Z")) | (k_unfold; (try dsimp only)) | (k_end; wrow_close) | walk1 | (dsimp only; walk1) | (leave1; try dsimp only) | fail "no step")
    all_goals (have F9z := True.intro; have N9z := True.intro; have h9z := True.intro; have p9z := True.intro; have pa9z := True.intro; have pb9z := True.intro; have pc9z := True.intro; have pd9z := True.intro; have pe9z := True.intro; have pf9z := True.intro; have pg9z := True.intro; have ph9z := True.intro; have pi9z := True.intro; have pz9z := True.intro; have tk9z := True.intro; have x9z := True.intro)
    rename_i lE hE' l1 D2 h2 F0 N0 l2 h9' tk9' F9 N9
    rw [Int.toNat_natCast] at N9
    obtain ⟨R2, bS, pres⟩ := R.set (l' := (D2, { cls := Value.type "tuple", data := Data.seq #[Value.int 5 442, Value.int (S p) tS] }) :: VS1) (sub_tail sub_self) (j := 2 * p + 1) (z := D2) (t := 442) (t' := tS) (v := S p) (by omega) (.head _) ⟨fun i hi e => by omega, fun i hi e => by rw [show i = p by omega]⟩
    have LS2 := LS.add (p := (D2, { cls := Value.type "tuple", data := Data.seq #[Value.int 5 442, Value.int (S p) tS] })) ⟨l2.2.1, l2.2.2.1, l2.2.2.2.1, l2.2.2.2.2.1, l2.2.2.2.2.2.1, l2.2.2.2.2.2.2.1, l2.2.2.2.2.2.2.2.1⟩
    have d1 : StB ((D2, { cls := Value.type "tuple", data := Data.seq #[Value.int 5 442, Value.int (S p) tS] }) :: VS1) (hs.set (2 * p + 1) (.ref D2)) (2 * p) q1 (T p) b1 := c1.set (sub_tail sub_self) (List.getElem?_set_ne (by omega))
    have d3 : StB ((D2, { cls := Value.type "tuple", data := Data.seq #[Value.int 5 442, Value.int (S p) tS] }) :: VS1) (hs.set (2 * p + 1) (.ref D2)) (2 * (p + 1)) q3 (T (p + 1)) b3 := c3.set (sub_tail sub_self) (List.getElem?_set_ne (by omega))
    have d2 : StB ((D2, { cls := Value.type "tuple", data := Data.seq #[Value.int 5 442, Value.int (S p) tS] }) :: VS1) (hs.set (2 * p + 1) (.ref D2)) (2 * p + 1) q2 (S p) false := ⟨⟨ta, tb, kc, .tail _ mc⟩, bS⟩
    have hb2 : (b1 = false ∧ false = false) ∨ (b1 = false ∧ b3 = false) ∨ (false = false ∧ b3 = false) := by subst hb; cases b3 <;> simp
    have N2 : News h₀ L h9' (lawL z x (hs.set (2 * p + 1) (.ref D2)) d.xs to st ce si d.n ((D2, { cls := Value.type "tuple", data := Data.seq #[Value.int 5 442, Value.int (S p) tS] }) :: VS1)) := fun q hq => N9 q (pD5 q hq)
    clear N9 N0 F0
    k_dflt (refine' Cut.use (sumH R2 LS2 pa hk hp d1 d2 d3 hb2) ?q1 ?q2 ?q3 ?q4 ?q5 ?q6 ?q7 ?q8 ?q9 ?_; (case q1 => k_asm); (case q2 => k_asm); (case q3 => k_asm); (case q4 => exact N2); (case q5 => exact sub_self); (case q6 => k_asm); (case q7 => first | exact rfl | assumption); (case q8 => ktr_room); (case q9 => ktr_units); k_whole)
    intro d' h10 tk10 p10 F10 N10
    clear N2 F9
    have pk := p10
    (first | (refine and8 p10 ?_; (try clear p10); intro pa9 pb9 pc9 pd9 pe9 pf9 pg9 ph9) | obtain ⟨pa9, pb9, pc9, pd9, pe9, pf9, pg9, ph9⟩ := p10)
    (try dsimp only); (try k_fold)
    (try (refine foldQ ?_; intro qkT3))
    repeat' (((fail_if_success (with_reducible show PyProof.Rows.LCt.CompSrcT _ _ _ _ _ _ _ _ _ _ _ _ _ _ _)); (fail_if_success (with_reducible show PyProof.Rows.LCg.CompEnd _ _ _ _ _ _ _ _ _ _ _ _ _ _))); first | (k_here; (with_reducible show wpAny _ _ (call (Value.ref 265) _ _) _ _ _); k_dflt (refine' bind_use (by k_asm) (by k_asm) (by k_asm) (by k_asm) (by k_asm) (by walk_at "R") (by k_updF) (by walk_at "M") (by k_mem) (by walk_at "N") (by walk_at "E") (by first | assumption | ((try simp only [List.length_append, List.length_cons, List.length_nil, List.length_set]); first | exact lenB (by assumption) rfl | exact lenA (by assumption) rfl | omega)) (by walk_at "E") (by ktr_room) (by ktr_units) ?_; k_whole; intro h9z tk9z F9z N9z; (try dsimp only at N9z); walk_at "Z")) | (k_here; (with_reducible show wpAny _ _ (call (Value.ref 230) _ _) _ _ _); k_dflt (refine' newvar_use (by k_asm) (by k_asm) (by k_asm) (by k_asm) (by k_asm) (by walk_at "R") (by k_updF) (by walk_at "M") (by walk_at "L") (by ktr_room) (by ktr_units) ?_; k_whole; intro x9z h9z tk9z p9z F9z N9z; (try dsimp only at N9z); (try k_lt p9z); walk_at "Z")) | (k_here; (with_reducible show wpAny _ _ (call (Value.ref 258) _ _) _ _ _); k_dflt (refine' Cut.uz (by k_asm) (by k_asm) (by k_asm) (by k_asm) sub_self (by k_asm) (by walk_at "R") (by ktr_room) (by ktr_units) (unbS (by walk_at "M") (by k_mem) (by walk_at "M") (by omega)) ?_; k_whole; intro x9z h9z tk9z p9z F9z N9z; clear p9z; (try dsimp only at N9z); walk_at "Z")) | (k_here; (with_reducible show wpAny _ _ (call (Value.ref 251) _ _) _ _ _); k_dflt (refine' Cut.uz (by k_asm) (by k_asm) (by k_asm) (by k_asm) sub_self (by k_asm) (by walk_at "R") (by ktr_room) (by ktr_units) (derefS (by walk_at "M") (by k_mem) (by walk_at "M") (by omega)) ?_; k_whole; intro x9z h9z tk9z p9z F9z N9z; (have pz9z := p9z); (first | (obtain ⟨pa9z, ⟨pb9z, pc9z, pd9z, pe9z⟩, pf9z⟩ := p9z; subst pa9z) | (first | (refine and4 p9z ?_; (try clear p9z); intro pa9z pb9z pc9z pd9z) | obtain ⟨pa9z, pb9z, pc9z, pd9z⟩ := p9z)); (try dsimp only at N9z); walk_at "Z")) | (k_here; (with_reducible show wpAny _ _ (call (Value.ref 699) _ _) _ _ _); k_dflt (refine' Cut.uz (by k_asm) (by k_asm) (by k_asm) (by k_asm) (by refine' Del.sub2 (by k_upd) (by k_upd)) (by k_asm) (by walk_at "R") (by ktr_room) (by ktr_units) (lcell _ _ _ _ _ _ _ _ _ _ _ _ _ _ _ _ (by walk_at "M") (by walk_at "A") (by walk_at "A") (by walk_at "N") (by walk_at "M") (by walk_at "N") (by walk_at "E") (by walk_at "L")) ?_; k_whole; intro x9z h9z tk9z p9z F9z N9z; ((first | (refine andNest p9z ?_; (try clear p9z); intro pa9z pb9z pc9z pd9z pe9z pf9z pg9z ph9z pi9z) | obtain ⟨⟨pa9z, pb9z, pc9z⟩, ⟨pd9z, pe9z, pf9z⟩, pg9z, ph9z, pi9z⟩ := p9z)); (replace pa9z := ltN pa9z); (replace pb9z := ltN pb9z); (replace pd9z := ltN pd9z); (replace pe9z := ltN pe9z); (try k_lt pc9z); (try k_lt pf9z); (try dsimp only at N9z); (try dsimp only); (try k_sweep); (try k_fold))) | (k_here; (with_reducible show wpAny _ _ (call (Value.ref 674) _ _) _ _ _); k_dflt (refine' Cut.uz (by k_asm) (by k_asm) (by k_asm) (by k_asm) sub_self (by k_asm) (by walk_at "R") (by ktr_room) (by ktr_units) (areas _ _ _ _) ?_; k_whole; intro x9z h9z tk9z p9z F9z N9z; ((first | (refine and7 p9z ?_; (try clear p9z); intro pz9z pa9z pb9z pc9z pd9z pe9z pf9z) | obtain ⟨pz9z, pa9z, pb9z, pc9z, pd9z, pe9z, pf9z⟩ := p9z)); (try k_lt pa9z); (replace pb9z := ltN pb9z); (replace pc9z := ltN pc9z); (replace pd9z := ltN pd9z); (replace pe9z := ltN pe9z); (replace pf9z := ltN pf9z); (try dsimp only at N9z); (try dsimp only); (try k_sweep); (try k_fold))) | (k_here; (with_reducible show wpAny _ _ (call (Value.ref 154) _ _) _ _ _); k_dflt (refine' Cut.uz (by k_asm) (by k_asm) (by k_asm) (by k_asm) sub_self (by k_asm) (by walk_at "R") (by ktr_room) (by ktr_units) (symbols _ _) ?_; k_whole; intro x9z h9z tk9z p9z F9z N9z; ((first | (refine and9 p9z ?_; (try clear p9z); intro pa9z pb9z pc9z pd9z pe9z pf9z pg9z ph9z pi9z) | obtain ⟨pa9z, pb9z, pc9z, pd9z, pe9z, pf9z, pg9z, ph9z, pi9z⟩ := p9z)); (try k_lt pa9z); (replace pb9z := ltN pb9z); (replace pc9z := ltN pc9z); (replace pd9z := ltN pd9z); (try dsimp only at N9z); (try dsimp only); (try k_sweep); (try k_fold))) | (k_here; (with_reducible show wpAny _ _ (call (Value.ref 692) _ _) _ _ _); k_dflt (refine' whole_use (by k_asm) (by k_asm) (by k_asm) (by k_asm) (by k_asm) (by walk_at "R") (by k_updF) (by walk_at "M") (by walk_at "N") (by walk_at "E") (by ktr_room) (by ktr_units) ?_; k_whole; intro x9z h9z tk9z p9z F9z N9z; ((first | (refine and2 p9z ?_; (try clear p9z); intro pa9z pc9z) | obtain ⟨pa9z, pc9z⟩ := p9z)); (try dsimp only at N9z); walk_at "Z")) | (k_here; (with_reducible show wpAny _ _ (call (Value.ref 685) _ _) _ _ _); k_dflt (refine' draw_use (by k_asm) (by k_asm) (by k_asm) (by k_asm) (by k_asm) (by walk_at "R") (by k_updF) (by walk_at "M") (by walk_at "N") (by walk_at "E") (by walk_at "E") (by walk_at "O") (by ktr_room) (by ktr_units) ?_; k_whole; intro x9z h9z tk9z p9z F9z N9z; ((first | (refine and3 p9z ?_; (try clear p9z); intro pa9z pb9z pc9z) | obtain ⟨pa9z, pb9z, pc9z⟩ := p9z)); (try dsimp only at N9z); walk_at "Z")) | (k_unfold; (try dsimp only)) | (k_end; wrow_close) | walk1 | (dsimp only; walk1) | (leave1; try dsimp only) | fail "no step")
    all_goals (have F9z := True.intro; have N9z := True.intro; have h9z := True.intro; have p9z := True.intro; have pa9z := True.intro; have pb9z := True.intro; have pc9z := True.intro; have pd9z := True.intro; have pe9z := True.intro; have pf9z := True.intro; have pg9z := True.intro; have ph9z := True.intro; have pi9z := True.intro; have pz9z := True.intro; have tk9z := True.intro; have x9z := True.intro)
    exact cont d' _ _ ⟨pa9, pb9, fun q hq => pc9 q (.tail _ (sub1 q hq)), pd9, pe9, pf9, pg9, fun i v n1 n2 n3 b => ph9 i v n1 n2 n3 (pres i v n2 (b.mono sub1))⟩ (by rw [← mD_t (to' := some (.ref d.b)), ← mD_t (to' := to')]; assumption) (by assumption)
  · clear F9 N9 cont LS lH lTO lST lCE lSI ccd' cmd e2 eS eS' y2
    rintro i ys nx hi ⟨rfl, rfl⟩ v I oI C oC' D m₂ h tk E' hv hC hx' F9 N9 off ne
    obtain ⟨q, j, val, rfl, hj, hb'⟩ : ∃ q j val, v = Value.ref q ∧ j ≤ 1000 ∧ StB d.VS hs j q val true := by
      match i, hi, hv with
      | 0, _, hv => exact ⟨f1, j1, v1, (Option.some.inj hv).symm, hj1, hf1.mono pc⟩
      | 1, _, hv => exact ⟨f2, j2, v2, (Option.some.inj hv).symm, hj2, hf2.mono pc⟩
      | i + 2, hi, _ => exact absurd hi (Nat.not_lt.mpr (Nat.le_add_left 2 i))
    have hs' : StR d.VS hs j q q val true := ⟨rfl, hb'.1, hb'.2⟩
    have LS := pb
    replace R := R.mono pc
    have o1 := ltN LS.o1; have o2 := ltN LS.o2; have o3 := ltN LS.o3; have o4 := ltN LS.o4; have o5 := ltN LS.o5; have o6 := ltN LS.o6
    have a1 := LS.a1; have a2 := LS.a2; have a3 := LS.a3; have a4 := LS.a4; have a5 := LS.a5; have a6 := LS.a6; have a7 := LS.a7
    have hPool := LS.pool; have hSP := LS.nSP; have hMach := LS.mach
    have m1 := hMach.x; have m2 := hMach.xd; have m3 := hMach.m; have m4 := hMach.md
    obtain ⟨oM, cm, cmd⟩ := LS.cm
    obtain ⟨oC, cc, ccd'⟩ := LS.cc
    have lH := R.lH; have lTO := R.lTO; have lST := R.lST; have lCE := R.lCE; have lSI := R.lSI
    have z1 := R.le1 hk; have z2 := R.le2 hk; have z3 := R.le3 hk; have z4 := R.le4 hk; have z5 := R.le5 hk; have ePH := LS.nPH; have ePX := LS.nPX; have ePT := LS.nPT; have ePS := LS.nPS; have ePC := LS.nPC; have ePI := LS.nPI; have eHX := LS.nHX; have eHT := LS.nHT; have eHS := LS.nHS; have eHC := LS.nHC; have eHI := LS.nHI; have eXT := LS.nXT; have eXS := LS.nXS; have eXC := LS.nXC; have eXI := LS.nXI; have eTS := LS.nTS; have eTC := LS.nTC; have eTI := LS.nTI; have eSC := LS.nSC; have eSI := LS.nSI; have eCI := LS.nCI
    dsimp only
    (try (refine foldQ ?_; intro qkT4))
    repeat' (((fail_if_success (with_reducible show PyProof.Rows.LCt.CompSrcT _ _ _ _ _ _ _ _ _ _ _ _ _ _ _)); (fail_if_success (with_reducible show PyProof.Rows.LCg.CompEnd _ _ _ _ _ _ _ _ _ _ _ _ _ _))); first | (k_here; (with_reducible show wpAny _ _ (call (Value.ref 265) _ _) _ _ _); k_dflt (refine' bind_use (by k_asm) (by k_asm) (by k_asm) (by k_asm) (by k_asm) (by walk_at "R") (by k_updF) (by walk_at "M") (by k_mem) (by walk_at "N") (by walk_at "E") (by first | assumption | ((try simp only [List.length_append, List.length_cons, List.length_nil, List.length_set]); first | exact lenB (by assumption) rfl | exact lenA (by assumption) rfl | omega)) (by walk_at "E") (by ktr_room) (by ktr_units) ?_; k_whole; intro h9z tk9z F9z N9z; (try dsimp only at N9z); walk_at "Z")) | (k_here; (with_reducible show wpAny _ _ (call (Value.ref 230) _ _) _ _ _); k_dflt (refine' newvar_use (by k_asm) (by k_asm) (by k_asm) (by k_asm) (by k_asm) (by walk_at "R") (by k_updF) (by walk_at "M") (by walk_at "L") (by ktr_room) (by ktr_units) ?_; k_whole; intro x9z h9z tk9z p9z F9z N9z; (try dsimp only at N9z); (try k_lt p9z); walk_at "Z")) | (k_here; (with_reducible show wpAny _ _ (call (Value.ref 258) _ _) _ _ _); k_dflt (refine' Cut.uz (by k_asm) (by k_asm) (by k_asm) (by k_asm) sub_self (by k_asm) (by walk_at "R") (by ktr_room) (by ktr_units) (unbS (by walk_at "M") (by k_mem) (by walk_at "M") (by omega)) ?_; k_whole; intro x9z h9z tk9z p9z F9z N9z; clear p9z; (try dsimp only at N9z); walk_at "Z")) | (k_here; (with_reducible show wpAny _ _ (call (Value.ref 251) _ _) _ _ _); k_dflt (refine' Cut.uz (by k_asm) (by k_asm) (by k_asm) (by k_asm) sub_self (by k_asm) (by walk_at "R") (by ktr_room) (by ktr_units) (derefS (by walk_at "M") (by k_mem) (by walk_at "M") (by omega)) ?_; k_whole; intro x9z h9z tk9z p9z F9z N9z; (have pz9z := p9z); (first | (obtain ⟨pa9z, ⟨pb9z, pc9z, pd9z, pe9z⟩, pf9z⟩ := p9z; subst pa9z) | (first | (refine and4 p9z ?_; (try clear p9z); intro pa9z pb9z pc9z pd9z) | obtain ⟨pa9z, pb9z, pc9z, pd9z⟩ := p9z)); (try dsimp only at N9z); walk_at "Z")) | (k_here; (with_reducible show wpAny _ _ (call (Value.ref 699) _ _) _ _ _); k_dflt (refine' Cut.uz (by k_asm) (by k_asm) (by k_asm) (by k_asm) (by refine' Del.sub2 (by k_upd) (by k_upd)) (by k_asm) (by walk_at "R") (by ktr_room) (by ktr_units) (lcell _ _ _ _ _ _ _ _ _ _ _ _ _ _ _ _ (by walk_at "M") (by walk_at "A") (by walk_at "A") (by walk_at "N") (by walk_at "M") (by walk_at "N") (by walk_at "E") (by walk_at "L")) ?_; k_whole; intro x9z h9z tk9z p9z F9z N9z; ((first | (refine andNest p9z ?_; (try clear p9z); intro pa9z pb9z pc9z pd9z pe9z pf9z pg9z ph9z pi9z) | obtain ⟨⟨pa9z, pb9z, pc9z⟩, ⟨pd9z, pe9z, pf9z⟩, pg9z, ph9z, pi9z⟩ := p9z)); (replace pa9z := ltN pa9z); (replace pb9z := ltN pb9z); (replace pd9z := ltN pd9z); (replace pe9z := ltN pe9z); (try k_lt pc9z); (try k_lt pf9z); (try dsimp only at N9z); (try dsimp only); (try k_sweep); (try k_fold))) | (k_here; (with_reducible show wpAny _ _ (call (Value.ref 674) _ _) _ _ _); k_dflt (refine' Cut.uz (by k_asm) (by k_asm) (by k_asm) (by k_asm) sub_self (by k_asm) (by walk_at "R") (by ktr_room) (by ktr_units) (areas _ _ _ _) ?_; k_whole; intro x9z h9z tk9z p9z F9z N9z; ((first | (refine and7 p9z ?_; (try clear p9z); intro pz9z pa9z pb9z pc9z pd9z pe9z pf9z) | obtain ⟨pz9z, pa9z, pb9z, pc9z, pd9z, pe9z, pf9z⟩ := p9z)); (try k_lt pa9z); (replace pb9z := ltN pb9z); (replace pc9z := ltN pc9z); (replace pd9z := ltN pd9z); (replace pe9z := ltN pe9z); (replace pf9z := ltN pf9z); (try dsimp only at N9z); (try dsimp only); (try k_sweep); (try k_fold))) | (k_here; (with_reducible show wpAny _ _ (call (Value.ref 154) _ _) _ _ _); k_dflt (refine' Cut.uz (by k_asm) (by k_asm) (by k_asm) (by k_asm) sub_self (by k_asm) (by walk_at "R") (by ktr_room) (by ktr_units) (symbols _ _) ?_; k_whole; intro x9z h9z tk9z p9z F9z N9z; ((first | (refine and9 p9z ?_; (try clear p9z); intro pa9z pb9z pc9z pd9z pe9z pf9z pg9z ph9z pi9z) | obtain ⟨pa9z, pb9z, pc9z, pd9z, pe9z, pf9z, pg9z, ph9z, pi9z⟩ := p9z)); (try k_lt pa9z); (replace pb9z := ltN pb9z); (replace pc9z := ltN pc9z); (replace pd9z := ltN pd9z); (try dsimp only at N9z); (try dsimp only); (try k_sweep); (try k_fold))) | (k_here; (with_reducible show wpAny _ _ (call (Value.ref 692) _ _) _ _ _); k_dflt (refine' whole_use (by k_asm) (by k_asm) (by k_asm) (by k_asm) (by k_asm) (by walk_at "R") (by k_updF) (by walk_at "M") (by walk_at "N") (by walk_at "E") (by ktr_room) (by ktr_units) ?_; k_whole; intro x9z h9z tk9z p9z F9z N9z; ((first | (refine and2 p9z ?_; (try clear p9z); intro pa9z pc9z) | obtain ⟨pa9z, pc9z⟩ := p9z)); (try dsimp only at N9z); walk_at "Z")) | (k_here; (with_reducible show wpAny _ _ (call (Value.ref 685) _ _) _ _ _); k_dflt (refine' draw_use (by k_asm) (by k_asm) (by k_asm) (by k_asm) (by k_asm) (by walk_at "R") (by k_updF) (by walk_at "M") (by walk_at "N") (by walk_at "E") (by walk_at "E") (by walk_at "O") (by ktr_room) (by ktr_units) ?_; k_whole; intro x9z h9z tk9z p9z F9z N9z; ((first | (refine and3 p9z ?_; (try clear p9z); intro pa9z pb9z pc9z) | obtain ⟨pa9z, pb9z, pc9z⟩ := p9z)); (try dsimp only at N9z); walk_at "Z")) | (k_unfold; (try dsimp only)) | (k_end; wrow_close) | walk1 | (dsimp only; walk1) | (leave1; try dsimp only) | fail "no step")
    all_goals (have F9z := True.intro; have N9z := True.intro; have h9z := True.intro; have p9z := True.intro; have pa9z := True.intro; have pb9z := True.intro; have pc9z := True.intro; have pd9z := True.intro; have pe9z := True.intro; have pf9z := True.intro; have pg9z := True.intro; have ph9z := True.intro; have pi9z := True.intro; have pz9z := True.intro; have tk9z := True.intro; have x9z := True.intro)
    exact ⟨_, _, lawL z x hs d.xs to st ce si d.n d.VS, rfl, (by assumption), (by assumption), off, .inr ⟨_, .tail _ (.tail _ (.tail _ (.tail _ (.tail _ (.tail _ (.tail _ pi)))))), rfl, _, rfl⟩, rfl, rfl⟩
/-! L13 -/
theorem HPost.sub {w : World} {z : LD} {cC cM : Addr} {VS VS' : List (Addr × Obj)} {hs to st ce si : List Value} {k : Nat} {T S : Nat → Int} {p : Nat} {d : HD} (c : HPost w z cC cM VS' hs to st ce si k T S p d) (h : ∀ q ∈ VS, q ∈ VS') : HPost w z cC cM VS hs to st ce si k T S p d :=
  ⟨c.1, c.2.1, fun q hq => c.2.2.1 q (h q hq), c.2.2.2.1, c.2.2.2.2.1, c.2.2.2.2.2.1, c.2.2.2.2.2.2.1, fun i v a b e f => c.2.2.2.2.2.2.2 i v a b e (f.mono h)⟩
theorem turnD (w : World) (z : LD) (x : DrawD) (hs xs to st ce si : List Value) (n : LN) (VS : List (Addr × Obj)) (T S : Nat → Int) (SC cC cM : Addr) (k : Nat) (u KN tr fr to' : Option Value) (p : Nat) (tp : Tok) (mean : ExcName → Option Value) (mg mb : Str → Option Value) (dp un : Nat) (gd : Option (List Code)) (a : Addr) (ccd : Value) (A₀ : Around) (base h₀ : Heap) (L : Addr) (s : Shared) (Q : Flow → Shared → Prop) (E : Value → Shared → Prop)
    (B : Below A₀ base [] h₀) (F : Fr h₀ L s.heap (mD z SC u KN (some (.int (p : Int) tp)) tr fr to')) (XX : (Mine.K w.params).In h₀) (N : News h₀ L s.heap (lawL z x hs xs to st ce si n VS)) (TT : Top VW LO mean mg mb h₀) (XB : (Mine.K w.params).In base) (TB : Top VW LO mean mg mb base) (hd : dp + 200 < recursionLimit) (hu : un + 8000 < cLine)
    (LS : LawS w z cC cM VS) (hx : 1 ≤ xs.length ∧ xs.length ≤ 10) (hk : k ≤ 6) (R : Row VS hs to st ce si k T S) (hp : p < k) (hb : Bnd VS hs (2 * p) (T p) ∨ Bnd VS hs (2 * (p + 1)) (T (p + 1)))
    (cont : ∀ (d : HD) (tr fr to' : Option Value) (h' : Heap) (tk' : Nat), HPost w z cC cM VS hs to st ce si k T S p d →
      Fr h₀ L h' (mD z SC u KN (some (.int (p : Int) tp)) tr fr to') → News h₀ L h' (lawL z x d.hs d.xs to st ce si d.n d.VS) → Q .next { s with heap := h', toks := tk' }) :
    wpAny (model PySem.Challenge.rw_sa0162_01.row.prog w) (lawTop dp un gd L a ccd cC cM) (execs dbody (lawEnv L a ccd cC cM)) Q E s := by
  obtain ⟨q1, g1, v1⟩ := R.ce p (by omega)
  obtain ⟨q2, g2, v2⟩ := R.si p hp
  obtain ⟨q3, g3, v3⟩ := R.ce (p + 1) (by omega)
  obtain ⟨b1, b2, b3, c1, c2, c3, hbb⟩ : ∃ b1 b2 b3, StB VS hs (2 * p) q1 (T p) b1 ∧ StB VS hs (2 * p + 1) q2 (S p) b2 ∧ StB VS hs (2 * (p + 1)) q3 (T (p + 1)) b3 ∧ (b1 = false ∨ b3 = false) := by
    obtain ⟨b1, c1⟩ := v1.st
    obtain ⟨b2, c2⟩ := v2.st
    obtain ⟨b3, c3⟩ := v3.st
    rcases hb with hb | hb
    · exact ⟨false, b2, b3, ⟨v1.1, hb⟩, c2, c3, .inl rfl⟩
    · exact ⟨b1, b2, false, c1, c2, ⟨v3.1, hb⟩, .inr rfl⟩
  refine turnD1 w z x hs xs to st ce si n VS T S SC cC cM k u KN tr fr to' p tp q1 q2 q3 b1 b2 b3 mean mg mb dp un gd a ccd A₀ base h₀ L s Q E B F XX N TT hd hu LS hk R hp g1 g2 g3 c1 c2 c3 fun TL FL nf VS' h' tk' LS' sub hTL hFL F' N' => ?_
  have fin : ∀ (d : HD) (h' : Heap) (tk' : Nat), HPost w z cC cM VS' hs to st ce si k T S p d →
      Fr h₀ L h' (mD z SC u KN (some (.int (p : Int) tp)) (some (.ref TL)) (some (.ref FL)) (some (.str (Str.ofString "holds") d.t))) → News h₀ L h' (lawL z x d.hs d.xs to st ce si d.n d.VS) → Q .next { s with heap := h', toks := tk' } := fun d h' tk' hp F N => cont d _ _ _ h' tk' (hp.sub sub) F N
  have one : ∀ (ys : List Value) (i : Int), (FL, listOf ys.toArray nf) ∈ VS' → ((ys.length : Nat) : Int) = i → (i = 0 ∨ i = 1) → ((b1 = false ∧ b2 = false) ∨ (b1 = false ∧ b3 = false) ∨ (b2 = false ∧ b3 = false)) →
      wpAny (model PySem.Challenge.rw_sa0162_01.row.prog w) (lawTop dp un gd L a ccd cC cM) (execs (dbody.drop 2) (lawEnv L a ccd cC cM)) Q E { s with heap := h', toks := tk' } := fun ys i m e hi hb => 
    turnD2 w z x hs xs to st ce si n VS' T S SC cC cM k u KN to' p tp q1 q2 q3 b1 b2 b3 TL FL nf ys i mean mg mb dp un gd a ccd A₀ base h₀ L _ Q E B F' XX N' TT hd hu LS' hx hk (R.mono sub) hp (c1.mono sub) (c2.mono sub) (c3.mono sub) hb hTL m e hi fin
  cases b1 with
  | false =>
    cases b2 with
    | false => cases b3 with
      | false => exact one _ _ hFL rfl (.inl rfl) (by simp)
      | true => exact one _ _ hFL rfl (.inr rfl) (by simp)
    | true => cases b3 with
      | false => exact one _ _ hFL rfl (.inr rfl) (by simp)
      | true => exact turnD3 w z x hs xs to st ce si n VS' T S SC cC cM k u KN to' p tp q1 q2 q3 false true TL FL nf q2 q3 (2 * p + 1) (2 * (p + 1)) (S p) (T (p + 1)) mean mg mb dp un gd a ccd A₀ base h₀ L _ Q E B F' XX N' TT XB TB hd hu LS' hx hk (R.mono sub) hp g2 (c1.mono sub) (c2.mono sub) (c3.mono sub) rfl hTL hFL (by omega) (by omega) (c2.mono sub) (c3.mono sub) fin
  | true =>
    obtain rfl : b3 = false := by rcases hbb with h | h <;> first | exact h | cases h
    cases b2 with
    | false => exact one _ _ hFL rfl (.inr rfl) (by simp)
    | true => exact turnD3 w z x hs xs to st ce si n VS' T S SC cC cM k u KN to' p tp q1 q2 q3 true false TL FL nf q1 q2 (2 * p) (2 * p + 1) (T p) (S p) mean mg mb dp un gd a ccd A₀ base h₀ L _ Q E B F' XX N' TT XB TB hd hu LS' hx hk (R.mono sub) hp g2 (c1.mono sub) (c2.mono sub) (c3.mono sub) rfl hTL hFL (by omega) (by omega) (c1.mono sub) (c2.mono sub) fin
/-! Rng3 -/
noncomputable abbrev rng3 (a b c : Int) (t u v : Tok) : Obj := { cls := .type "range", dict := none, data := .fields #[.int a t, .int b u, .int c v], slots := #[] }
section
variable {prog : Program} {w : World} {A : Around} {E : Value → Shared → Prop} {s : Shared} {h₀ : Heap} {L : Addr} {m : Str → Option Value} {news : List (Addr × Obj)} {Q : Value → Shared → Prop}
theorem range3_led {a b c : Int} {t u v : Tok} (F : Fr h₀ L s.heap m) (N : News h₀ L s.heap news) (hc : c ≠ 0) (hp : Builtin.divisionGoesByPylong (b - a) c = false)
    (h : ∀ r h' tk t₁ u₁ v₁, Fr h₀ L h' m → News h₀ L h' ((r, rng3 a b c t₁ u₁ v₁) :: news) → (∀ p ∈ news, p.1 < r) → Q (.ref r) { s with heap := h', toks := tk }) :
    wpAny (model prog w) A (call (.type "range") [.int a t, .int b u, .int c v]) Q E s :=
  call_range_3 hc (h _ _ _ _ _ _ (F.push _) (N.push F _) fun p hp => Heap.lt_size (N p hp).1) (.inl hp)
def StepsOf (a c : Int) (us : List Value) (n : Nat) : Prop := us.length = n ∧ ∀ j, j < n → ∃ t, us[j]? = some (.int (a + (j : Int) * c) t)
theorem listrng_led {a b c : Int} {t u v : Tok} {r : Addr} {n : Nat} (hh : A.handled = none) (F : Fr h₀ L s.heap m) (N : News h₀ L s.heap news) (hr : (r, rng3 a b c t u v) ∈ news) (hsmall : Builtin.Range.small a b c = true) (hn : Builtin.Range.rangeSize a b c = ((n : Nat) : Int)) (hz : n ≤ 2 ^ 24)
    (h : ∀ D us cap h' tk, Fr h₀ L h' m → News h₀ L h' ((D, listOf (List.toArray us) cap) :: news) → (∀ p ∈ news, p.1 < D) → StepsOf a c us n → Q (.ref D) { s with heap := h', toks := tk }) :
    wpAny (model prog w) A (call (.type "list") [.ref r]) Q E s := by
  refine call_list_range hh (N _ hr).1 hsmall hn hz fun h' tk acc c hk hD hI => ?_
  have hD' : h'.get? s.heap.objs.size = some (listOf (List.toArray acc.toList) c) := by
    rw [Array.toArray_toList]
    exact hD
  refine h _ acc.toList c h' tk (F.keeps hk) (news_pushed F N hk hD' rfl) (fun p hp => Heap.lt_size (N p hp).1) ⟨by rw [Array.length_toList]; exact hI.1, fun j hj => ?_⟩
  have hlt : j < acc.size := by rw [hI.1]; exact hj
  obtain ⟨t, e⟩ := hI.2 j acc[j] (by simp [hlt])
  exact ⟨t, by rw [Array.getElem?_toList, Array.getElem?_eq_getElem hlt, e]⟩
theorem addlist_led {a b : Addr} {us ws : List Value} {ca cb : Nat} (F : Fr h₀ L s.heap m) (N : News h₀ L s.heap news) (ha : (a, listOf us.toArray ca) ∈ news) (hb : (b, listOf ws.toArray cb) ∈ news) (hz : us.length + ws.length ≤ sizeLine)
    (h : ∀ D h', Fr h₀ L h' m → News h₀ L h' ((D, listOf (us ++ ws).toArray 0) :: news) → (∀ p ∈ news, p.1 < D) → Q (.ref D) { s with heap := h' }) : wpAny (model prog w) A (binaryOp .Add (.ref a) (.ref b)) Q E s :=
  kmk_add_lit F N ⟨_, (N _ ha).1, rfl, _, rfl⟩ ⟨_, (N _ hb).1, rfl, _, rfl⟩ (zs := us ++ ws) (by simp) h (by simpa using hz)
end
theorem down_facts {k : Nat} (h : k ≤ 6) : Builtin.Range.rangeSize ((k : Int) - 1) (-1) (-1) = ((k : Nat) : Int) ∧ Builtin.Range.small ((k : Int) - 1) (-1) (-1) = true ∧ Builtin.divisionGoesByPylong (-1 - ((k : Int) - 1)) (-1) = false := by
  obtain rfl | rfl | rfl | rfl | rfl | rfl | rfl : k = 0 ∨ k = 1 ∨ k = 2 ∨ k = 3 ∨ k = 4 ∨ k = 5 ∨ k = 6 := by omega
  all_goals decide +kernel
/-- the places in the order of the loop -/
theorem places {k k0 : Nat} (h0 : k0 ≤ k) {us ws : List Value} (hu : StepsOf (k0 : Int) 1 us (k - k0)) (hw : StepsOf ((k0 : Int) - 1) (-1) ws k0) {j : Nat} (hj : j < k) :
    ∃ t, (us ++ ws)[j]? = some (.int (((if j < k - k0 then k0 + j else k0 - 1 - (j - (k - k0))) : Nat) : Int) t) := by
  by_cases c : j < k - k0
  · obtain ⟨t, e⟩ := hu.2 j c
    refine ⟨t, ?_⟩
    rw [List.getElem?_append_left (by rw [hu.1]; exact c), e, if_pos c]
    congr 2; omega
  · obtain ⟨t, e⟩ := hw.2 (j - (k - k0)) (by omega)
    refine ⟨t, ?_⟩
    rw [List.getElem?_append_right (by rw [hu.1]; omega), hu.1, e, if_neg c]
    congr 2; omega
/-! Off -/
section
variable {w : World} {z : LD} {x x' : DrawD} {hs xs to st ce si hs' xs' to' st' ce' si' : List Value} {n n' : LN} {VS VS' : List (Addr × Obj)} {cC cM I : Addr}
theorem law_ne (h : ∀ p ∈ lawL z x hs xs to st ce si n VS, p.1 ≠ I) (hV : ∀ p ∈ VS', p.1 ≠ I) : ∀ p ∈ lawL z x' hs' xs' to' st' ce' si' n' VS', p.1 ≠ I := fun p hp => by
  rcases List.mem_cons.mp hp with rfl | hp; · exact h (z.P, poolD z.SS x) (.head _)
  rcases List.mem_cons.mp hp with rfl | hp; · exact h (z.A.H, listOf hs.toArray n.n2) (.tail _ (.head _))
  rcases List.mem_cons.mp hp with rfl | hp; · exact h (z.A.XL, listOf xs.toArray n.n3) (.tail _ (.tail _ (.head _)))
  rcases List.mem_cons.mp hp with rfl | hp; · exact h (z.TO, listOf to.toArray n.n4) (.tail _ (.tail _ (.tail _ (.head _))))
  rcases List.mem_cons.mp hp with rfl | hp; · exact h (z.ST, listOf st.toArray n.n5) (.tail _ (.tail _ (.tail _ (.tail _ (.head _)))))
  rcases List.mem_cons.mp hp with rfl | hp; · exact h (z.CE, listOf ce.toArray n.n6) (.tail _ (.tail _ (.tail _ (.tail _ (.tail _ (.head _))))))
  rcases List.mem_cons.mp hp with rfl | hp; · exact h (z.SI, listOf si.toArray n.n7) (.tail _ (.tail _ (.tail _ (.tail _ (.tail _ (.tail _ (.head _)))))))
  exact hV p hp
theorem law_in {p : Addr × Obj} (h : p ∈ VS) : p ∈ lawL z x hs xs to st ce si n VS := .tail _ (.tail _ (.tail _ (.tail _ (.tail _ (.tail _ (.tail _ h))))))
theorem law_up (h : ∀ p ∈ VS, p ∈ VS') : ∀ p ∈ lawL z x hs xs to st ce si n VS, p ∈ lawL z x hs xs to st ce si n VS' := fun p hp => by
  rcases List.mem_cons.mp hp with rfl | hp; · exact .head _
  rcases List.mem_cons.mp hp with rfl | hp; · exact .tail _ (.head _)
  rcases List.mem_cons.mp hp with rfl | hp; · exact .tail _ (.tail _ (.head _))
  rcases List.mem_cons.mp hp with rfl | hp; · exact .tail _ (.tail _ (.tail _ (.head _)))
  rcases List.mem_cons.mp hp with rfl | hp; · exact .tail _ (.tail _ (.tail _ (.tail _ (.head _))))
  rcases List.mem_cons.mp hp with rfl | hp; · exact .tail _ (.tail _ (.tail _ (.tail _ (.tail _ (.head _)))))
  rcases List.mem_cons.mp hp with rfl | hp; · exact .tail _ (.tail _ (.tail _ (.tail _ (.tail _ (.tail _ (.head _))))))
  exact law_in (h p hp)
theorem law_pull {R : Addr × Obj} : ∀ q ∈ lawL z x hs xs to st ce si n (R :: VS), q ∈ R :: lawL z x hs xs to st ce si n VS := by
  repeat (first | exact sub_self | refine List.forall_mem_cons.mpr ⟨by repeat (first | exact List.Mem.head _ | refine List.Mem.tail _ ?_), ?_⟩ | refine sub_tail ?_)
theorem law_push {R : Addr × Obj} : ∀ q ∈ R :: lawL z x hs xs to st ce si n VS, q ∈ lawL z x hs xs to st ce si n (R :: VS) := by
  repeat (first | exact sub_self | refine List.forall_mem_cons.mpr ⟨by repeat (first | exact List.Mem.head _ | refine List.Mem.tail _ ?_), ?_⟩ | refine sub_tail ?_)
theorem LawS.putI (S : LawS w z cC cM VS) {o : Obj} (h : ∀ p ∈ lawL z x hs xs to st ce si n VS', p.1 ≠ I) : LawS w z cC cM ((I, o) :: VS) :=
  S.put ⟨Ne.symm (h _ (.head _)), Ne.symm (h _ (.tail _ (.head _))), Ne.symm (h _ (.tail _ (.tail _ (.head _)))), Ne.symm (h _ (.tail _ (.tail _ (.tail _ (.head _))))), Ne.symm (h _ (.tail _ (.tail _ (.tail _ (.tail _ (.head _)))))), Ne.symm (h _ (.tail _ (.tail _ (.tail _ (.tail _ (.tail _ (.head _))))))), Ne.symm (h _ (.tail _ (.tail _ (.tail _ (.tail _ (.tail _ (.tail _ (.head _))))))))⟩
end
theorem HPost.off {w : World} {z : LD} {cC cM : Addr} {VS : List (Addr × Obj)} {hs to st ce si : List Value} {k : Nat} {T S : Nat → Int} {p : Nat} {d : HD} {I : Addr} {io : Obj} {h₀ h : Heap} {L : Addr} {x : DrawD}
    (c : HPost w z cC cM ((I, io) :: VS) hs to st ce si k T S p d) (LS : LawS w z cC cM VS) (R : Row VS hs to st ce si k T S) (hI : ∀ q ∈ VS, q.1 ≠ I) (N : News h₀ L h (lawL z x d.hs d.xs to st ce si d.n d.VS)) (hio : io.cls = .type "list_iterator") :
    ∃ VS', HPost w z cC cM VS hs to st ce si k T S p { d with VS := VS' } ∧ (∀ q ∈ VS', q.1 ≠ I) ∧ ∀ q ∈ VS', q ∈ d.VS := by
  obtain ⟨cx, cL, cs, cR, b1, b2, b3, pres⟩ := c
  have up : ∀ {q}, q ∈ d.VS → q ∈ lawL z x d.hs d.xs to st ce si d.n d.VS := fun h => .tail _ (.tail _ (.tail _ (.tail _ (.tail _ (.tail _ (.tail _ h))))))
  have hIm : (I, io) ∈ d.VS := cs _ (.head _)
  have notup : ∀ {q : Addr} {t t' : Tok} {v : Int} {kk : Nat}, (q, tup #[.int 5 t, .int v t'] kk) ∈ d.VS → q ≠ I := fun {q t t' v kk} hm e => by
    subst e
    have e1 := (N _ (up hm)).1
    have e2 := (N _ (up hIm)).1
    have e3 : tup #[.int 5 t, .int v t'] kk = io := Option.some.inj (e1.symm.trans e2)
    rw [← e3] at hio
    have e4 : ("tuple" : String) = "list_iterator" := Value.type.inj hio
    exact absurd e4 (by decide)
  have memF : ∀ q, q ∈ d.VS.filter (fun q => !(Nat.beq q.1 I)) ↔ q ∈ d.VS ∧ q.1 ≠ I := fun q => by
    rw [List.mem_filter]
    refine and_congr Iff.rfl ?_
    show (!(Nat.beq q.1 I)) = true ↔ ¬ q.1 = I
    rw [← Nat.beq_eq (x := q.1) (y := I)]
    cases Nat.beq q.1 I <;> simp
  have sub : ∀ q ∈ VS, q ∈ d.VS.filter (fun q => !(Nat.beq q.1 I)) := fun q hq => (memF q).mpr ⟨cs q (.tail _ hq), hI q hq⟩
  have dn : ∀ q ∈ d.VS.filter (fun q => !(Nat.beq q.1 I)), q ∈ d.VS := fun q hq => ((memF q).mp hq).1
  have boff : ∀ {i v}, Bnd d.VS d.hs i v → Bnd (d.VS.filter (fun q => !(Nat.beq q.1 I))) d.hs i v := fun ⟨q, t, t', kk, e, m⟩ => ⟨q, t, t', kk, e, (memF _).mpr ⟨m, notup m⟩⟩
  obtain ⟨i, ti, Sy, oN, kvs, y1, y2⟩ := LS.syms
  obtain ⟨o, m1, m2⟩ := LS.cm
  obtain ⟨o', m3, m4⟩ := LS.cc
  refine ⟨d.VS.filter (fun q => !(Nat.beq q.1 I)), ⟨cx, ⟨LS.mach.mono sub, LS.pool.mono sub, LS.nSP, ⟨i, ti, Sy, oN, kvs, y1.mono sub, y2.mono sub⟩, ⟨o, sub _ m1, m2⟩, ⟨o', sub _ m3, m4⟩, LS.o1, LS.o2, LS.o3, LS.o4, LS.o5, LS.o6,
    fun q hq => cL.a1 q (dn q hq), fun q hq => cL.a2 q (dn q hq), fun q hq => cL.a3 q (dn q hq), fun q hq => cL.a4 q (dn q hq), fun q hq => cL.a5 q (dn q hq), fun q hq => cL.a6 q (dn q hq), fun q hq => cL.a7 q (dn q hq)⟩, sub,
    { cR with ce := fun i hi => ?_, si := fun i hi => ?_ }, boff b1, boff b2, boff b3, fun i v n1 n2 n3 b => boff (pres i v n1 n2 n3 (b.mono (sub_tail sub_self)))⟩, fun q hq => ((memF q).mp hq).2, dn⟩
  · obtain ⟨q, e, c0, v⟩ := cR.ce i hi
    obtain ⟨q0, e0, c00, _⟩ := R.ce i hi
    obtain rfl : q0 = q := Value.ref.inj (Option.some.inj (e0.symm.trans e))
    exact ⟨q0, e, c00.mono sub, v.imp id boff⟩
  · obtain ⟨q, e, c0, v⟩ := cR.si i hi
    obtain ⟨q0, e0, c00, _⟩ := R.si i hi
    obtain rfl : q0 = q := Value.ref.inj (Option.some.inj (e0.symm.trans e))
    exact ⟨q0, e, c00.mono sub, v.imp id boff⟩

/-- the part of the row that is bound before the turn j of the loop -/
def Span (k k0 j lo hi : Nat) : Prop := (j ≤ k - k0 ∧ lo = k0 ∧ hi = k0 + j) ∨ (k - k0 ≤ j ∧ hi = k ∧ lo + (j - (k - k0)) = k0)
theorem placesStep {k k0 j lo hi : Nat} (h0 : k0 ≤ k) {us ws : List Value} (hu : StepsOf (k0 : Int) 1 us (k - k0)) (hw : StepsOf ((k0 : Int) - 1) (-1) ws k0) (hj : j < k) (rel : Span k k0 j lo hi) :
    ∃ p t lo' hi', (us ++ ws)[j]? = some (.int ((p : Nat) : Int) t) ∧ p < k ∧ (p = hi ∨ p + 1 = lo) ∧ lo ≤ hi ∧ Span k k0 (j + 1) lo' hi' ∧ (∀ i, lo' ≤ i → i ≤ hi' → i = p ∨ i = p + 1 ∨ (lo ≤ i ∧ i ≤ hi)) ∧ (∀ i, lo' ≤ i → i < hi' → i = p ∨ (lo ≤ i ∧ i < hi)) := by
  obtain ⟨t, e⟩ := places h0 hu hw hj
  by_cases c : j < k - k0
  · rw [if_pos c] at e
    rcases rel with ⟨r1, r2, r3⟩ | ⟨r1, r2, r3⟩
    · subst r2 r3
      exact ⟨lo + j, t, lo, lo + j + 1, e, Nat.add_lt_of_lt_sub' c, .inl rfl, Nat.le_add_right _ _, .inl ⟨Nat.succ_le_of_lt c, rfl, rfl⟩,
        fun i h1 h2 => (Nat.le_or_eq_of_le_succ h2).elim (fun h => .inr (.inr ⟨h1, h⟩)) (fun e => .inr (.inl e)), fun i h1 h2 => (Nat.eq_or_lt_of_le (Nat.le_of_lt_succ h2)).elim .inl (fun h => .inr ⟨h1, h⟩)⟩
    · exact absurd c (Nat.not_lt.mpr r1)
  · rw [if_neg c] at e
    have rel' : hi = k ∧ lo + (j - (k - k0)) = k0 := by
      rcases rel with ⟨r1, r2, r3⟩ | ⟨r1, r2, r3⟩
      · clear e hu hw; omega
      · exact ⟨r2, r3⟩
    clear rel hu hw
    obtain ⟨r2, r3⟩ := rel'
    subst r2
    obtain ⟨d, hd⟩ : ∃ d, d = j - (hi - k0) := ⟨_, rfl⟩
    have hdk : d < k0 := by clear e; omega
    have c' : hi - k0 ≤ j := Nat.not_lt.mp c
    rw [← hd] at r3 e
    obtain ⟨q, rfl⟩ : ∃ q, lo = q + 1 := ⟨lo - 1, by clear e hd c c' hj; omega⟩
    have hp : k0 - 1 - d = q := by clear e hd c c' hj hdk; omega
    have hq : q + 1 ≤ hi := Nat.le_trans (Nat.le_trans (Nat.le_add_right _ _) (Nat.le_of_eq r3)) h0
    rw [hp] at e
    exact ⟨q, t, q, hi, e, hq, .inr rfl, hq, .inr ⟨Nat.le_succ_of_le c', rfl, by rw [Nat.succ_sub c', ← hd, ← r3, Nat.add_succ, Nat.succ_add]⟩,
      fun i h1 h2 => (Nat.eq_or_lt_of_le h1).elim (fun e => .inl e.symm) (fun h => .inr (.inr ⟨h, h2⟩)), fun i h1 h2 => (Nat.eq_or_lt_of_le h1).elim (fun e => .inl e.symm) (fun h => .inr ⟨h, h2⟩)⟩
theorem span_end {k k0 lo hi : Nat} (h0 : k0 ≤ k) (rel : Span k k0 k lo hi) : lo = 0 ∧ hi = k := by rcases rel with ⟨r1, r2, r3⟩ | ⟨r1, r2, r3⟩ <;> omega
theorem n2a {i p : Nat} (h : i ≠ p) : 2 * i ≠ 2 * p := by omega
theorem n2b {i p : Nat} : 2 * i ≠ 2 * p + 1 := by omega
theorem n2c {i p : Nat} (h : i ≠ p + 1) : 2 * i ≠ 2 * (p + 1) := by omega
theorem n2d {i p : Nat} : 2 * i + 1 ≠ 2 * p := by omega
theorem n2e {i p : Nat} (h : i ≠ p) : 2 * i + 1 ≠ 2 * p + 1 := by omega
theorem n2f {i p : Nat} : 2 * i + 1 ≠ 2 * (p + 1) := by omega
theorem rs_sub {k k0 : Nat} (h0 : k0 ≤ k) : Builtin.Range.rangeSize (k0 : Int) (k : Int) 1 = (((k - k0 : Nat) : Nat) : Int) := by rw [rangeSize_one]; split <;> omega
theorem sm_sub {k k0 : Nat} (h0 : k0 ≤ k) (hk : k ≤ 6) : Builtin.Range.small (k0 : Int) (k : Int) 1 = true := small_one (by omega) (by omega) (by omega) (by omega)
theorem len_sum {us ws : List Value} {k k0 : Nat} (h0 : k0 ≤ k) (h1 : us.length = k - k0) (h2 : ws.length = k0) : (us ++ ws).length = k := by rw [List.length_append]; omega
theorem sz_sum {us ws : List Value} {k k0 : Nat} (h0 : k0 ≤ k) (hk : k ≤ 6) (h1 : us.length = k - k0) (h2 : ws.length = k0) : us.length + ws.length ≤ sizeLine := by rw [sizeLine_eq]; omega
theorem le24 {k k0 : Nat} (hk : k ≤ 6) : k - k0 ≤ 2 ^ 24 := by omega
/-! L14 -/
local macro_rules | `(tactic| walk_at "subscriptTail") => `(tactic| (k_here; (with_reducible show wpAny _ _ (subscriptTail _ _ (Value.ref _) (Value.int 0 _)) _ _ _); (with_reducible rename ∀ nx : List (Addr × Obj), (∀ p ∈ _, p ∈ nx) → _ ∈ nx => hKN9); (with_unfolding_all refine' item_led ?k0 (hKN9 _ ?k1) (by decide) (by decide) rfl ?_ ?k6); (case k0 => assumption); (case k1 => repeat (first | exact sub_self | refine sub_tail ?_)); (case k6 => walk_at "W"); k_whole))
local macro_rules | `(tactic| walk_at "call type:range") => `(tactic| (k_here; k_dflt (refine' range3_led (by k_asm) (by k_asm) (by decide) (by with_reducible assumption) ?_; k_whole); intro r9 h9 tk9 u91 u92 u93 F9 N9 l9; (try k_lt l9); (try k_sweep)))
local macro_rules | `(tactic| walk_at "call type:list") => `(tactic| (k_here; k_dflt (refine' listrng_led (by rfl) (by k_asm) (by k_asm) (by k_mem) (by with_reducible assumption) (by with_reducible assumption) (by first | exact le24 (by assumption) | omega) ?_; k_whole); intro r9 us9 c9 h9 tk9 F9 N9 l9 st9; (try k_lt l9); (try k_sweep)))
local macro_rules | `(tactic| walk_at "binaryOp Add ref ref") => `(tactic| (k_here; k_dflt (refine' addlist_led (by k_asm) (by k_asm) (by k_mem) (by k_mem) (by (rename StepsOf _ 1 _ _ => hS1); (rename StepsOf _ (-1) _ _ => hS2); exact sz_sum (by assumption) (by assumption) hS1.1 hS2.1) ?_; k_whole); intro r9 h9 F9 N9 l9; (try k_lt l9); (try k_sweep)))
theorem mD_no {z SC u KN} : mC z SC u KN = mD z SC u KN none none none none := by
  funext y
  by_cases c2 : y = Str.ofString "told"
  · subst c2; rfl
  · by_cases c3 : y = Str.ofString "free"
    · subst c3; rfl
    · by_cases c4 : y = Str.ofString "triple"
      · subst c4; rfl
      · by_cases c5 : y = Str.ofString "place"
        · subst c5; rfl
        · simp only [mD, if_neg c2, if_neg c3, if_neg c4, if_neg c5]
theorem mD_pl {z SC u KN pl tr fr to' a} : (fun y => if y = Str.ofString "place" then a else mD z SC u KN pl tr fr to' y) = mD z SC u KN a tr fr to' := by
  funext y
  by_cases c2 : y = Str.ofString "told"
  · subst c2; rfl
  · by_cases c3 : y = Str.ofString "free"
    · subst c3; rfl
    · by_cases c4 : y = Str.ofString "triple"
      · subst c4; rfl
      · simp only [mD, if_neg c2, if_neg c3, if_neg c4]
        by_cases c5 : y = Str.ofString "place"
        · simp only [if_pos c5]
        · simp only [if_neg c5]
inductive JD (w : World) (z : LD) (x : DrawD) (to st ce si : List Value) (T S : Nat → Int) (SC cC cM : Addr) (k : Nat) (u : Option Value) (KN : Addr) (k0 : Nat) (rE : Addr) (ps : List Value) (j : Nat) (m : Str → Option Value) (nx : List (Addr × Obj)) : Prop
  | mk (pl tr fr to' : Option Value) (hs xs : List Value) (n : LN) (VS : List (Addr × Obj)) (lo hi : Nat) (h0 : nx = lawL z x hs xs to st ce si n VS) (h1 : LawS w z cC cM VS) (h2 : (1 ≤ xs.length ∧ xs.length ≤ 10)) (h3 : Row VS hs to st ce si k T S) (h4 : Span k k0 j lo hi) (h5 : (∀ i, lo ≤ i → i ≤ hi → Bnd VS hs (2 * i) (T i))) (h6 : (∀ i, lo ≤ i → i < hi → Bnd VS hs (2 * i + 1) (S i))) (h7 : (rE, W.listOf ps.toArray 0) ∈ VS) (h8 : m = mD z SC u (some (.ref KN)) pl tr fr to') : JD w z x to st ce si T S SC cC cM k u KN k0 rE ps j m nx
theorem partD (w : World) (z : LD) (x : DrawD) (hs xs to st ce si : List Value) (n : LN) (VS : List (Addr × Obj)) (T S : Nat → Int) (SC cC cM : Addr) (k : Nat) (u : Option Value) (KN : Addr) (k0 : Nat) (t0 : Tok) (ys : List Value) (nk : Nat) (mean : ExcName → Option Value) (mg mb : Str → Option Value) (dp un : Nat) (gd : Option (List Code)) (a : Addr) (ccd : Value) (A₀ : Around) (base h₀ : Heap) (L : Addr) (s : Shared) (Q : Flow → Shared → Prop) (E : Value → Shared → Prop)
    (B : Below A₀ base [] h₀) (F : Fr h₀ L s.heap (mC z SC u (some (.ref KN)))) (XX : (Mine.K w.params).In h₀) (N : News h₀ L s.heap (lawL z x hs xs to st ce si n VS)) (TT : Top VW LO mean mg mb h₀) (XB : (Mine.K w.params).In base) (TB : Top VW LO mean mg mb base) (hd : dp + 200 < recursionLimit) (hu : un + 8000 < cLine)
    (hE : PassesOwn (model PySem.Challenge.rw_sa0162_01.row.prog w) (lawTop dp un gd L a ccd cC cM) (lawEnv L a ccd cC cM) E)
    (LS : LawS w z cC cM VS) (hx : 1 ≤ xs.length ∧ xs.length ≤ 10) (hk : k ≤ 6) (h0 : k0 ≤ k) (R : Row VS hs to st ce si k T S) (hb : Bnd VS hs (2 * k0) (T k0)) (hKN : (KN, listOf (.int (k0 : Int) t0 :: ys).toArray nk) ∈ VS)
    (cont : ∀ (pl tr fr to' : Option Value) (hs xs : List Value) (n : LN) (VS : List (Addr × Obj)) (h' : Heap) (tk' : Nat), LawS w z cC cM VS → (1 ≤ xs.length ∧ xs.length ≤ 10) → Row VS hs to st ce si k T S → (∀ i, i ≤ k → Bnd VS hs (2 * i) (T i)) → (∀ i, i < k → Bnd VS hs (2 * i + 1) (S i)) →
      Fr h₀ L h' (mD z SC u (some (.ref KN)) pl tr fr to') → News h₀ L h' (lawL z x hs xs to st ce si n VS) →
      wpAny (model PySem.Challenge.rw_sa0162_01.row.prog w) (lawTop dp un gd L a ccd cC cM) (execs (c55b.drop 12) (lawEnv L a ccd cC cM)) Q E { s with heap := h', toks := tk' }) :
    wpAny (model PySem.Challenge.rw_sa0162_01.row.prog w) (lawTop dp un gd L a ccd cC cM) (execs (c55b.drop 11) (lawEnv L a ccd cC cM)) Q E s := by
  revert XX; k_fill; intro XX
  have o1 := ltN LS.o1; have o2 := ltN LS.o2; have o3 := ltN LS.o3; have o4 := ltN LS.o4; have o5 := ltN LS.o5; have o6 := ltN LS.o6
  have a1 := LS.a1; have a2 := LS.a2; have a3 := LS.a3; have a4 := LS.a4; have a5 := LS.a5; have a6 := LS.a6; have a7 := LS.a7
  have hPool := LS.pool; have hSP := LS.nSP; have hMach := LS.mach
  have m1 := hMach.x; have m2 := hMach.xd; have m3 := hMach.m; have m4 := hMach.md
  obtain ⟨oM, cm, cmd⟩ := LS.cm
  obtain ⟨oC, cc, ccd'⟩ := LS.cc
  have lH := R.lH; have lTO := R.lTO; have lST := R.lST; have lCE := R.lCE; have lSI := R.lSI
  have z1 := R.le1 hk; have z2 := R.le2 hk; have z3 := R.le3 hk; have z4 := R.le4 hk; have z5 := R.le5 hk; have ePH := LS.nPH; have ePX := LS.nPX; have ePT := LS.nPT; have ePS := LS.nPS; have ePC := LS.nPC; have ePI := LS.nPI; have eHX := LS.nHX; have eHT := LS.nHT; have eHS := LS.nHS; have eHC := LS.nHC; have eHI := LS.nHI; have eXT := LS.nXT; have eXS := LS.nXS; have eXC := LS.nXC; have eXI := LS.nXI; have eTS := LS.nTS; have eTC := LS.nTC; have eTI := LS.nTI; have eSC := LS.nSC; have eSI := LS.nSI; have eCI := LS.nCI
  obtain ⟨df1, df2, df3⟩ := down_facts (Nat.le_trans h0 hk)
  have hKNup : ∀ nx : List (Addr × Obj), (∀ p ∈ VS, p ∈ nx) → (KN, W.listOf (List.toArray (Value.int (k0 : Int) t0 :: ys)) nk) ∈ nx := fun nx h => h _ hKN
  have y0 : (Value.int (k0 : Int) t0 :: ys)[(0 : Int).toNat]? = some (Value.int (k0 : Int) t0) := rfl
  have uf1 : Builtin.Range.rangeSize (k0 : Int) (st.length : Int) 1 = (((k - k0 : Nat) : Nat) : Int) := by rw [lST]; exact rs_sub h0
  have uf2 : Builtin.Range.small (k0 : Int) (st.length : Int) 1 = true := by rw [lST]; exact sm_sub h0 hk
  (try (refine foldAE ?_; intro envT AT))
  repeat' (((fail_if_success (with_reducible show wpAny _ _ (exec (Stmt.For _ _ _ _ _) _) _ _ _)); (fail_if_success (with_reducible show wpAny _ _ (pyIter _) _ _ _))); first | (k_here; (with_reducible show wpAny _ _ (call (Value.ref 265) _ _) _ _ _); k_dflt (refine' bind_use (by k_asm) (by k_asm) (by k_asm) (by k_asm) (by k_asm) (by walk_at "R") (by k_updF) (by walk_at "M") (by k_mem) (by walk_at "N") (by walk_at "E") (by first | assumption | ((try simp only [List.length_append, List.length_cons, List.length_nil, List.length_set]); first | exact lenB (by assumption) rfl | exact lenA (by assumption) rfl | omega)) (by walk_at "E") (by ktr_room) (by ktr_units) ?_; k_whole; intro h9z tk9z F9z N9z; (try dsimp only at N9z); walk_at "Z")) | (k_here; (with_reducible show wpAny _ _ (call (Value.ref 230) _ _) _ _ _); k_dflt (refine' newvar_use (by k_asm) (by k_asm) (by k_asm) (by k_asm) (by k_asm) (by walk_at "R") (by k_updF) (by walk_at "M") (by walk_at "L") (by ktr_room) (by ktr_units) ?_; k_whole; intro x9z h9z tk9z p9z F9z N9z; (try dsimp only at N9z); (try k_lt p9z); walk_at "Z")) | (k_here; (with_reducible show wpAny _ _ (call (Value.ref 258) _ _) _ _ _); k_dflt (refine' Cut.uz (by k_asm) (by k_asm) (by k_asm) (by k_asm) sub_self (by k_asm) (by walk_at "R") (by ktr_room) (by ktr_units) (unbS (by walk_at "M") (by k_mem) (by walk_at "M") (by omega)) ?_; k_whole; intro x9z h9z tk9z p9z F9z N9z; clear p9z; (try dsimp only at N9z); walk_at "Z")) | (k_here; (with_reducible show wpAny _ _ (call (Value.ref 251) _ _) _ _ _); k_dflt (refine' Cut.uz (by k_asm) (by k_asm) (by k_asm) (by k_asm) sub_self (by k_asm) (by walk_at "R") (by ktr_room) (by ktr_units) (derefS (by walk_at "M") (by k_mem) (by walk_at "M") (by omega)) ?_; k_whole; intro x9z h9z tk9z p9z F9z N9z; (have pz9z := p9z); (first | (obtain ⟨pa9z, ⟨pb9z, pc9z, pd9z, pe9z⟩, pf9z⟩ := p9z; subst pa9z) | (first | (refine and4 p9z ?_; (try clear p9z); intro pa9z pb9z pc9z pd9z) | obtain ⟨pa9z, pb9z, pc9z, pd9z⟩ := p9z)); (try dsimp only at N9z); walk_at "Z")) | (k_here; (with_reducible show wpAny _ _ (call (Value.ref 699) _ _) _ _ _); k_dflt (refine' Cut.uz (by k_asm) (by k_asm) (by k_asm) (by k_asm) (by refine' Del.sub2 (by k_upd) (by k_upd)) (by k_asm) (by walk_at "R") (by ktr_room) (by ktr_units) (lcell _ _ _ _ _ _ _ _ _ _ _ _ _ _ _ _ (by walk_at "M") (by walk_at "A") (by walk_at "A") (by walk_at "N") (by walk_at "M") (by walk_at "N") (by walk_at "E") (by walk_at "L")) ?_; k_whole; intro x9z h9z tk9z p9z F9z N9z; ((first | (refine andNest p9z ?_; (try clear p9z); intro pa9z pb9z pc9z pd9z pe9z pf9z pg9z ph9z pi9z) | obtain ⟨⟨pa9z, pb9z, pc9z⟩, ⟨pd9z, pe9z, pf9z⟩, pg9z, ph9z, pi9z⟩ := p9z)); (replace pa9z := ltN pa9z); (replace pb9z := ltN pb9z); (replace pd9z := ltN pd9z); (replace pe9z := ltN pe9z); (try k_lt pc9z); (try k_lt pf9z); (try dsimp only at N9z); (try dsimp only); (try k_sweep); (try k_fold))) | (k_here; (with_reducible show wpAny _ _ (call (Value.ref 674) _ _) _ _ _); k_dflt (refine' Cut.uz (by k_asm) (by k_asm) (by k_asm) (by k_asm) sub_self (by k_asm) (by walk_at "R") (by ktr_room) (by ktr_units) (areas _ _ _ _) ?_; k_whole; intro x9z h9z tk9z p9z F9z N9z; ((first | (refine and7 p9z ?_; (try clear p9z); intro pz9z pa9z pb9z pc9z pd9z pe9z pf9z) | obtain ⟨pz9z, pa9z, pb9z, pc9z, pd9z, pe9z, pf9z⟩ := p9z)); (try k_lt pa9z); (replace pb9z := ltN pb9z); (replace pc9z := ltN pc9z); (replace pd9z := ltN pd9z); (replace pe9z := ltN pe9z); (replace pf9z := ltN pf9z); (try dsimp only at N9z); (try dsimp only); (try k_sweep); (try k_fold))) | (k_here; (with_reducible show wpAny _ _ (call (Value.ref 154) _ _) _ _ _); k_dflt (refine' Cut.uz (by k_asm) (by k_asm) (by k_asm) (by k_asm) sub_self (by k_asm) (by walk_at "R") (by ktr_room) (by ktr_units) (symbols _ _) ?_; k_whole; intro x9z h9z tk9z p9z F9z N9z; ((first | (refine and9 p9z ?_; (try clear p9z); intro pa9z pb9z pc9z pd9z pe9z pf9z pg9z ph9z pi9z) | obtain ⟨pa9z, pb9z, pc9z, pd9z, pe9z, pf9z, pg9z, ph9z, pi9z⟩ := p9z)); (try k_lt pa9z); (replace pb9z := ltN pb9z); (replace pc9z := ltN pc9z); (replace pd9z := ltN pd9z); (try dsimp only at N9z); (try dsimp only); (try k_sweep); (try k_fold))) | (k_here; (with_reducible show wpAny _ _ (call (Value.ref 692) _ _) _ _ _); k_dflt (refine' whole_use (by k_asm) (by k_asm) (by k_asm) (by k_asm) (by k_asm) (by walk_at "R") (by k_updF) (by walk_at "M") (by walk_at "N") (by walk_at "E") (by ktr_room) (by ktr_units) ?_; k_whole; intro x9z h9z tk9z p9z F9z N9z; ((first | (refine and2 p9z ?_; (try clear p9z); intro pa9z pc9z) | obtain ⟨pa9z, pc9z⟩ := p9z)); (try dsimp only at N9z); walk_at "Z")) | (k_here; (with_reducible show wpAny _ _ (call (Value.ref 685) _ _) _ _ _); k_dflt (refine' draw_use (by k_asm) (by k_asm) (by k_asm) (by k_asm) (by k_asm) (by walk_at "R") (by k_updF) (by walk_at "M") (by walk_at "N") (by walk_at "E") (by walk_at "E") (by walk_at "O") (by ktr_room) (by ktr_units) ?_; k_whole; intro x9z h9z tk9z p9z F9z N9z; ((first | (refine and3 p9z ?_; (try clear p9z); intro pa9z pb9z pc9z) | obtain ⟨pa9z, pb9z, pc9z⟩ := p9z)); (try dsimp only at N9z); walk_at "Z")) | (k_unfold; (try dsimp only); (try clear qkC)) | (k_end; wrow_close) | ((with_reducible show wpAny _ _ (execs (List.cons _ _) _) _ _ _); first | k_gentoks | (refine execs_consF ?_; intro qkC)) | walk1 | (dsimp only; walk1) | (leave1; try dsimp only) | fail "no step")
  all_goals (have F9z := True.intro; have N9z := True.intro; have h9z := True.intro; have p9z := True.intro; have pa9z := True.intro; have pb9z := True.intro; have pc9z := True.intro; have pd9z := True.intro; have pe9z := True.intro; have pf9z := True.intro; have pg9z := True.intro; have ph9z := True.intro; have pi9z := True.intro; have pz9z := True.intro; have tk9z := True.intro; have x9z := True.intro)
  (rename Fr _ _ _ _ => lF)
  (with_unfolding_all refine' For_invVF lF ?k1 ?k2 ?_ (hE := hE)); (case k1 => exact rfl); (case k2 => exact rfl)
  (try (refine foldQ ?_; intro qkT2))
  repeat' (((fail_if_success (with_reducible show wpAny _ _ (exec (Stmt.For _ _ _ _ _) _) _ _ _)); (fail_if_success (with_reducible show wpAny _ _ (pyIter _) _ _ _))); first | (k_here; (with_reducible show wpAny _ _ (call (Value.ref 265) _ _) _ _ _); k_dflt (refine' bind_use (by k_asm) (by k_asm) (by k_asm) (by k_asm) (by k_asm) (by walk_at "R") (by k_updF) (by walk_at "M") (by k_mem) (by walk_at "N") (by walk_at "E") (by first | assumption | ((try simp only [List.length_append, List.length_cons, List.length_nil, List.length_set]); first | exact lenB (by assumption) rfl | exact lenA (by assumption) rfl | omega)) (by walk_at "E") (by ktr_room) (by ktr_units) ?_; k_whole; intro h9z tk9z F9z N9z; (try dsimp only at N9z); walk_at "Z")) | (k_here; (with_reducible show wpAny _ _ (call (Value.ref 230) _ _) _ _ _); k_dflt (refine' newvar_use (by k_asm) (by k_asm) (by k_asm) (by k_asm) (by k_asm) (by walk_at "R") (by k_updF) (by walk_at "M") (by walk_at "L") (by ktr_room) (by ktr_units) ?_; k_whole; intro x9z h9z tk9z p9z F9z N9z; (try dsimp only at N9z); (try k_lt p9z); walk_at "Z")) | (k_here; (with_reducible show wpAny _ _ (call (Value.ref 258) _ _) _ _ _); k_dflt (refine' Cut.uz (by k_asm) (by k_asm) (by k_asm) (by k_asm) sub_self (by k_asm) (by walk_at "R") (by ktr_room) (by ktr_units) (unbS (by walk_at "M") (by k_mem) (by walk_at "M") (by omega)) ?_; k_whole; intro x9z h9z tk9z p9z F9z N9z; clear p9z; (try dsimp only at N9z); walk_at "Z")) | (k_here; (with_reducible show wpAny _ _ (call (Value.ref 251) _ _) _ _ _); k_dflt (refine' Cut.uz (by k_asm) (by k_asm) (by k_asm) (by k_asm) sub_self (by k_asm) (by walk_at "R") (by ktr_room) (by ktr_units) (derefS (by walk_at "M") (by k_mem) (by walk_at "M") (by omega)) ?_; k_whole; intro x9z h9z tk9z p9z F9z N9z; (have pz9z := p9z); (first | (obtain ⟨pa9z, ⟨pb9z, pc9z, pd9z, pe9z⟩, pf9z⟩ := p9z; subst pa9z) | (first | (refine and4 p9z ?_; (try clear p9z); intro pa9z pb9z pc9z pd9z) | obtain ⟨pa9z, pb9z, pc9z, pd9z⟩ := p9z)); (try dsimp only at N9z); walk_at "Z")) | (k_here; (with_reducible show wpAny _ _ (call (Value.ref 699) _ _) _ _ _); k_dflt (refine' Cut.uz (by k_asm) (by k_asm) (by k_asm) (by k_asm) (by refine' Del.sub2 (by k_upd) (by k_upd)) (by k_asm) (by walk_at "R") (by ktr_room) (by ktr_units) (lcell _ _ _ _ _ _ _ _ _ _ _ _ _ _ _ _ (by walk_at "M") (by walk_at "A") (by walk_at "A") (by walk_at "N") (by walk_at "M") (by walk_at "N") (by walk_at "E") (by walk_at "L")) ?_; k_whole; intro x9z h9z tk9z p9z F9z N9z; ((first | (refine andNest p9z ?_; (try clear p9z); intro pa9z pb9z pc9z pd9z pe9z pf9z pg9z ph9z pi9z) | obtain ⟨⟨pa9z, pb9z, pc9z⟩, ⟨pd9z, pe9z, pf9z⟩, pg9z, ph9z, pi9z⟩ := p9z)); (replace pa9z := ltN pa9z); (replace pb9z := ltN pb9z); (replace pd9z := ltN pd9z); (replace pe9z := ltN pe9z); (try k_lt pc9z); (try k_lt pf9z); (try dsimp only at N9z); (try dsimp only); (try k_sweep); (try k_fold))) | (k_here; (with_reducible show wpAny _ _ (call (Value.ref 674) _ _) _ _ _); k_dflt (refine' Cut.uz (by k_asm) (by k_asm) (by k_asm) (by k_asm) sub_self (by k_asm) (by walk_at "R") (by ktr_room) (by ktr_units) (areas _ _ _ _) ?_; k_whole; intro x9z h9z tk9z p9z F9z N9z; ((first | (refine and7 p9z ?_; (try clear p9z); intro pz9z pa9z pb9z pc9z pd9z pe9z pf9z) | obtain ⟨pz9z, pa9z, pb9z, pc9z, pd9z, pe9z, pf9z⟩ := p9z)); (try k_lt pa9z); (replace pb9z := ltN pb9z); (replace pc9z := ltN pc9z); (replace pd9z := ltN pd9z); (replace pe9z := ltN pe9z); (replace pf9z := ltN pf9z); (try dsimp only at N9z); (try dsimp only); (try k_sweep); (try k_fold))) | (k_here; (with_reducible show wpAny _ _ (call (Value.ref 154) _ _) _ _ _); k_dflt (refine' Cut.uz (by k_asm) (by k_asm) (by k_asm) (by k_asm) sub_self (by k_asm) (by walk_at "R") (by ktr_room) (by ktr_units) (symbols _ _) ?_; k_whole; intro x9z h9z tk9z p9z F9z N9z; ((first | (refine and9 p9z ?_; (try clear p9z); intro pa9z pb9z pc9z pd9z pe9z pf9z pg9z ph9z pi9z) | obtain ⟨pa9z, pb9z, pc9z, pd9z, pe9z, pf9z, pg9z, ph9z, pi9z⟩ := p9z)); (try k_lt pa9z); (replace pb9z := ltN pb9z); (replace pc9z := ltN pc9z); (replace pd9z := ltN pd9z); (try dsimp only at N9z); (try dsimp only); (try k_sweep); (try k_fold))) | (k_here; (with_reducible show wpAny _ _ (call (Value.ref 692) _ _) _ _ _); k_dflt (refine' whole_use (by k_asm) (by k_asm) (by k_asm) (by k_asm) (by k_asm) (by walk_at "R") (by k_updF) (by walk_at "M") (by walk_at "N") (by walk_at "E") (by ktr_room) (by ktr_units) ?_; k_whole; intro x9z h9z tk9z p9z F9z N9z; ((first | (refine and2 p9z ?_; (try clear p9z); intro pa9z pc9z) | obtain ⟨pa9z, pc9z⟩ := p9z)); (try dsimp only at N9z); walk_at "Z")) | (k_here; (with_reducible show wpAny _ _ (call (Value.ref 685) _ _) _ _ _); k_dflt (refine' draw_use (by k_asm) (by k_asm) (by k_asm) (by k_asm) (by k_asm) (by walk_at "R") (by k_updF) (by walk_at "M") (by walk_at "N") (by walk_at "E") (by walk_at "E") (by walk_at "O") (by ktr_room) (by ktr_units) ?_; k_whole; intro x9z h9z tk9z p9z F9z N9z; ((first | (refine and3 p9z ?_; (try clear p9z); intro pa9z pb9z pc9z) | obtain ⟨pa9z, pb9z, pc9z⟩ := p9z)); (try dsimp only at N9z); walk_at "Z")) | (k_unfold; (try dsimp only); (try clear qkC)) | (k_end; wrow_close) | ((with_reducible show wpAny _ _ (execs (List.cons _ _) _) _ _ _); first | k_gentoks | (refine execs_consF ?_; intro qkC)) | walk1 | (dsimp only; walk1) | (leave1; try dsimp only) | fail "no step")
  all_goals (have F9z := True.intro; have N9z := True.intro; have h9z := True.intro; have p9z := True.intro; have pa9z := True.intro; have pb9z := True.intro; have pc9z := True.intro; have pd9z := True.intro; have pe9z := True.intro; have pf9z := True.intro; have pg9z := True.intro; have ph9z := True.intro; have pi9z := True.intro; have pz9z := True.intro; have tk9z := True.intro; have x9z := True.intro)
  repeat clear qk
  repeat clear ek
  rename_i rA hA tA a1u a2u a3u lA rB us cB hB tB sB lB rC hC tC c1u c2u c3u lC rD ws cD hD tD sD lD rE hE9 F9 N9 lE
  have hsz : (us ++ ws).length = k := len_sum h0 sB.1 sD.1
  have LS0 : LawS w z cC cM ((rE, W.listOf (us ++ ws).toArray 0) :: VS) := LS.add ⟨lE.2.2.2.2.1, lE.2.2.2.2.2.1, lE.2.2.2.2.2.2.1, lE.2.2.2.2.2.2.2.1, lE.2.2.2.2.2.2.2.2.1, lE.2.2.2.2.2.2.2.2.2.1, lE.2.2.2.2.2.2.2.2.2.2.1⟩
  have N0 : News h₀ L hE9 (lawL z x hs xs to st ce si n ((rE, W.listOf (us ++ ws).toArray 0) :: VS)) := fun q hq => N9 q ((List.mem_cons.mp (law_pull q hq)).elim (fun e => e ▸ .head _) fun h => .tail _ (.tail _ (.tail _ (.tail _ (.tail _ h)))))
  refine iter_ledI (JD w z x to st ce si T S SC cC cM k u KN k0 rE (us ++ ws)) rfl F9 N0 (law_in (.head _)) ?_ ?_ ?_ ?_
  · rintro i m nx ⟨pl, tr, fr, to', hs, xs, n, VS, lo, hi, rfl, g1, g2, g3, g4, g5, g6, g7, g8⟩
    exact law_in g7
  · exact ⟨none, none, none, none, hs, xs, n, _, k0, k0, rfl, LS0, hx, R.mono (sub_tail sub_self), .inl ⟨Nat.zero_le _, rfl, rfl⟩, fun i h1 h2 => (Nat.le_antisymm h1 h2) ▸ hb.mono (sub_tail sub_self), fun i h1 h2 => absurd h1 (Nat.not_le.mpr h2), .head _, mD_no⟩
  · clear N9 F9 N0 cont LS0
    rintro j v m nx h tk I io hio hv ⟨pl, tr, fr, to', hs, xs, n, VS, lo, hi, rfl, LS, hx, R, rel, hT, hS, hm, rfl⟩ hI F1 N1
    rw [List.getElem?_toArray] at hv
    have hj : j < k := hsz ▸ (List.getElem?_eq_some_iff.mp hv).1
    obtain ⟨p, t, lo', hi', ev, hp, hpe, hlh, rel', cT, cS⟩ := placesStep h0 sB sD hj rel
    obtain rfl : v = .int (p : Int) t := Option.some.inj (hv.symm.trans ev)
    have F2 : Fr h₀ L h (mD z SC u (some (.ref KN)) (some (.int (p : Int) t)) tr fr to') := by
      rw [← mD_pl (pl := pl)]; exact F1
    have hIV : ∀ q ∈ VS, q.1 ≠ I := fun q hq => hI q (law_in hq)
    refine turnD w z x hs xs to st ce si n ((I, io) :: VS) T S SC cC cM k u (some (.ref KN)) tr fr to' p t mean mg mb dp un gd a ccd A₀ base h₀ L _ _ E B F2 XX (fun q hq => N1 q (law_pull q hq)) TT XB TB hd hu (LS.putI hI) hx hk (R.mono (sub_tail sub_self)) hp ?_ fun d tr' fr' to'' h' tk' hP F' N' => ?_
    · rcases hpe with e | e
      · exact .inl ((hT p (by omega) (by omega)).mono (sub_tail sub_self))
      · exact .inr ((hT (p + 1) (by omega) (by omega)).mono (sub_tail sub_self))
    obtain ⟨VS', hP', hI', sub'⟩ := hP.off LS R hIV N' hio
    (first | (refine and8 hP' ?_; (try clear hP'); intro q1 q2 q3 q4 q5 q6 q7 q8) | obtain ⟨q1, q2, q3, q4, q5, q6, q7, q8⟩ := hP')
    show TurnEnd _ _ _ _ _ _ _
    refine ⟨h', tk', _, lawL z x d.hs d.xs to st ce si d.n VS', rfl, F', fun q hq => ?_, law_ne hI hI', _, tr', fr', to'', d.hs, d.xs, d.n, VS', lo', hi', rfl, q2, q1, q4, rel', fun i h1 h2 => ?_, fun i h1 h2 => ?_, q3 _ hm, rfl⟩
    · rcases List.mem_cons.mp hq with rfl | hq
      · exact N' _ (law_in (hP.2.2.1 _ (.head _)))
      · exact N' q (law_up sub' q hq)
    · by_cases e1 : i = p
      · subst e1; exact q5
      by_cases e2 : i = p + 1
      · subst e2; exact q7
      obtain ⟨h3, h4⟩ := ((cT i h1 h2).resolve_left e1).resolve_left e2
      exact q8 (2 * i) _ (n2a e1) n2b (n2c e2) (hT i h3 h4)
    · by_cases e1 : i = p
      · subst e1; exact q6
      obtain ⟨h3, h4⟩ := (cS i h1 h2).resolve_left e1
      exact q8 (2 * i + 1) _ n2d (n2e e1) n2f (hS i h3 h4)
  · rintro m nx h tk ⟨pl, tr, fr, to', hs, xs, n, VS, lo, hi, rfl, LS, hx, R, rel, hT, hS, hm, rfl⟩ F N
    rw [List.size_toArray, hsz] at rel
    obtain ⟨e1, e2⟩ := span_end h0 rel
    subst e1 e2
    exact cont pl tr fr to' hs xs n VS h tk LS hx R (fun i hi => hT i (Nat.zero_le _) hi) (fun i hi => hS i (Nat.zero_le _) hi) F N
/-! NextW -/
/-- what a call of succ/2 that binds the variable j to v leaves -/
def NPost (w : World) (z : LD) (cC cM : Addr) (VS : List (Addr × Obj)) (hs : List Value) (j : Nat) (v : Int) (d : HD) : Prop :=
  (1 ≤ d.xs.length ∧ d.xs.length ≤ 10) ∧ LawS w z cC cM d.VS ∧ (∀ q ∈ VS, q ∈ d.VS) ∧ d.hs.length = hs.length ∧ Bnd d.VS d.hs j v ∧ (∀ i u, i ≠ j → Bnd VS hs i u → Bnd d.VS d.hs i u) ∧ ∀ i, i ≠ j → d.hs[i]? = hs[i]?
section
variable {w : World} {z : LD} {x : DrawD} {hs xs to st ce si : List Value} {n : LN} {VS : List (Addr × Obj)} {cC cM : Addr}
theorem n_fin (LS : LawS w z cC cM VS) {j : Nat} {q : Addr} {t t' : Tok} {kk : Nat} {v : Int} (h1 : z.A.H < q) (h2 : z.A.XL < q) (h3 : ∀ p ∈ lawR z x to st ce si n VS, p.1 < q) (hj : j < hs.length) {ys : List Value} {n2 n3 : Nat} {tt : Tok} (hy : 1 ≤ ys.length ∧ ys.length ≤ 10) :
    NPost w z cC cM VS hs j v ⟨hs.set j (.ref q), ys, ⟨n2, n3, n.n4, n.n5, n.n6, n.n7⟩, (q, tup #[.int 5 t, .int v t'] kk) :: VS, tt⟩ := by
  have other : ∀ i, i ≠ j → (hs.set j (Value.ref q))[i]? = hs[i]? := fun i hi => List.getElem?_set_ne (Ne.symm hi)
  exact ⟨hy, LS.add ⟨h3 _ (.head _), h1, h2, h3 _ (.tail _ (.head _)), h3 _ (.tail _ (.tail _ (.head _))), h3 _ (.tail _ (.tail _ (.tail _ (.head _)))), h3 _ (.tail _ (.tail _ (.tail _ (.tail _ (.head _)))))⟩, sub_tail sub_self, by rw [List.length_set],
    ⟨q, t, t', kk, by rw [List.getElem?_set_self hj], .head _⟩, fun i u hi b => (b.mono (sub_tail sub_self)).at (other i hi), other⟩
theorem LawS.xh (LS : LawS w z cC cM VS) : ∀ q ∈ (z.A.H, listOf hs.toArray n.n2) :: lawR z x to st ce si n VS, q.1 ≠ z.A.XL := fun q hq => by
  rcases List.mem_cons.mp hq with rfl | hq
  · exact LS.ords.2.2.2.2.2.2
  · exact LS.rX q hq
theorem inH {o} (h : o ∈ VS) : o ∈ (z.A.H, listOf hs.toArray n.n2) :: lawR z x to st ce si n VS := .tail _ (inR h)
theorem Bnd.der {l j q v} (c : Cell0 l j q) (b : Bnd l hs j v) (hj : j ≤ 1000) : ∃ r t t' k, Der l hs q r ∧ (r, tup #[.int 5 t, .int v t'] k) ∈ l :=
  let ⟨_, _, _, m⟩ := c
  let ⟨r, t, t', k, e, m'⟩ := b
  ⟨r, t, t', k, .bound m (at_nat e) (by omega) (nat63 hj) m', m'⟩
theorem lt_of_at {i : Nat} {v : Value} (g : hs[i]? = some v) : i < hs.length := (List.getElem?_eq_some_iff.mp g).1
theorem Bnd.lt {l j v} (b : Bnd l hs j v) : j < hs.length := let ⟨_, _, _, _, e, _⟩ := b; lt_of_at e
theorem nextUp (LS : LawS w z cC cM VS) (hl : hs.length ≤ 1000) (hx : 1 ≤ xs.length ∧ xs.length ≤ 10) {q1 q2 : Addr} {a : Int} {i : Nat} {s1 u1 : Tok} {k1 : Nat} (m1 : (q1, tup #[.int 5 s1, .int a u1] k1) ∈ VS) (ha : 0 ≤ a) (hb : (a + 1).natAbs ≤ 8 * BB) (c : Cell0 VS i q2) (g : hs[i]? = some (.ref q2)) :
    Cut w 713 [.ref z.A.M, .ref q1, .ref q2] 90 3800 (lawL z x hs xs to st ce si n VS) (NPost w z cC cM VS hs i (a + 1)) (fun _ => .bool true) (fun d => lawL z x d.hs d.xs to st ce si d.n d.VS) := by
  have M : Mach w.params z.A (lawR z x to st ce si n VS) := LS.mach.mono fun q hq => inR hq
  have hi := lt_of_at g
  obtain ⟨s2, u2, k2, m2⟩ := c
  refine ((lnext_up w z.A q1 q2 q1 a (i : Int) s1 u1 s2 u2 k1 k2 n.n2 n.n3 hs xs (lawR z x to st ce si n VS) M LS.rH LS.rX hl (by omega) hx.1 (.int (inR m1)) (inR m1) ha (inR m2) (at_nat g) (by omega) (by omega) (nat63 (by omega)) (bits8 hb)).sub lr1).conseq fun y hy => ?_
  obtain ⟨y1, y2, y3, y4⟩ := hy
  exact ⟨⟨hs.set i (.ref y.q), y.xs, ⟨y.n2, y.n, n.n4, n.n5, n.n6, n.n7⟩, _, y.t⟩, n_fin LS (t := y.t1) (t' := y.t2) (kk := y.k) y2 y3 y4 hi (by omega), rfl, by rw [Int.toNat_natCast]; exact lr3⟩
theorem nextDown (LS : LawS w z cC cM VS) (hl : hs.length ≤ 1000) (hx : 1 ≤ xs.length ∧ xs.length ≤ 10) {q1 q2 : Addr} {a : Int} {i j : Nat} (ha : 0 ≤ a) (c1 : Cell0 VS i q1) (g : hs[i]? = some (.ref q1)) (c2 : Cell0 VS j q2) (b2 : Bnd VS hs j (a + 1)) :
    Cut w 713 [.ref z.A.M, .ref q1, .ref q2] 90 3800 (lawL z x hs xs to st ce si n VS) (NPost w z cC cM VS hs i a) (fun _ => .bool true) (fun d => lawL z x d.hs d.xs to st ce si d.n d.VS) := by
  have M : Mach w.params z.A (lawR z x to st ce si n VS) := LS.mach.mono fun q hq => inR hq
  have hi := lt_of_at g
  have hj := b2.lt
  obtain ⟨s1, u1, k1, m1⟩ := c1
  obtain ⟨r, s2, u2, k2, D2, m2⟩ := b2.der c2 (by omega)
  have up : ∀ {q r}, Der VS hs q r → Der (lawR z x to st ce si n VS) hs q r := fun d => d.mono fun q hq => inR hq
  refine ((lnext_down w z.A q1 q2 r (a + 1) (i : Int) s1 u1 s2 u2 k1 k2 n.n2 n.n3 hs xs (lawR z x to st ce si n VS) M LS.rH LS.rX hl (by omega) hx.1 (up D2) (inR m2) (by omega) (inR m1) (at_nat g) (by omega) (by omega) (nat63 (by omega))).sub lr1).conseq fun y hy => ?_
  obtain ⟨y1, y2, y3, y4⟩ := hy
  exact ⟨⟨hs.set i (.ref y.q), y.xs, ⟨y.n2, y.n, n.n4, n.n5, n.n6, n.n7⟩, _, y.t⟩, n_fin LS (t := y.t1) (t' := y.t2) (kk := y.k) y2 y3 y4 hi (by omega), rfl, by rw [Int.toNat_natCast, show a + 1 - 1 = a by omega]; exact lr3⟩
theorem nextSame (LS : LawS w z cC cM VS) (hl : hs.length ≤ 1000) (hx : 1 ≤ xs.length ∧ xs.length ≤ 10) {q1 q2 : Addr} {a : Int} {i j : Nat} (ha : 0 ≤ a) (hb : (a + 1).natAbs ≤ 8 * BB) (c1 : Cell0 VS i q1) (b1 : Bnd VS hs i a) (c2 : Cell0 VS j q2) (b2 : Bnd VS hs j (a + 1)) :
    Cut w 713 [.ref z.A.M, .ref q1, .ref q2] 90 3800 (lawL z x hs xs to st ce si n VS) (fun y : SxD => 1 ≤ y.xs.length ∧ y.xs.length ≤ 10) (fun _ => .bool true) (fun y => lawL z x hs y.xs to st ce si ⟨n.n2, y.n, n.n4, n.n5, n.n6, n.n7⟩ VS) := by
  have M : Mach w.params z.A ((z.A.H, listOf hs.toArray n.n2) :: lawR z x to st ce si n VS) := LS.mach.mono fun q hq => inH hq
  have hi := b1.lt
  have hj := b2.lt
  obtain ⟨r1, s1, u1, k1, D1, m1⟩ := b1.der c1 (by omega)
  obtain ⟨r2, s2, u2, k2, D2, m2⟩ := b2.der c2 (by omega)
  have up : ∀ {q r}, Der VS hs q r → Der ((z.A.H, listOf hs.toArray n.n2) :: lawR z x to st ce si n VS) hs q r := fun d => d.mono fun q hq => inH hq
  refine ((lnext_same w z.A q1 q2 r1 r2 a s1 u1 s2 u2 k1 k2 n.n2 n.n3 hs xs _ M LS.xh hl (by omega) hx.1 (.head _) (up D1) (up D2) (inH m1) (inH m2) ha (bits8 hb)).sub lr2).conseq fun y hy => ?_
  exact ⟨y, (by (try dsimp only); omega), rfl, lr4⟩
theorem nextOther (LS : LawS w z cC cM VS) (hl : hs.length ≤ 1000) (hx : 1 ≤ xs.length ∧ xs.length ≤ 10) {q1 : Addr} {a : Int} {i : Nat} (ha : 0 ≤ a) (hb : (a + 1).natAbs ≤ 8 * BB) (c1 : Cell0 VS i q1) (b1 : Bnd VS hs i a) :
    Cut w 713 [.ref z.A.M, .ref q1, .ref q1] 90 3800 (lawL z x hs xs to st ce si n VS) (fun y : SxD => 1 ≤ y.xs.length ∧ y.xs.length ≤ 10) (fun _ => .bool false) (fun y => lawL z x hs y.xs to st ce si ⟨n.n2, y.n, n.n4, n.n5, n.n6, n.n7⟩ VS) := by
  have M : Mach w.params z.A ((z.A.H, listOf hs.toArray n.n2) :: lawR z x to st ce si n VS) := LS.mach.mono fun q hq => inH hq
  have hi := b1.lt
  obtain ⟨r1, s1, u1, k1, D1, m1⟩ := b1.der c1 (by omega)
  have up : ∀ {q r}, Der VS hs q r → Der ((z.A.H, listOf hs.toArray n.n2) :: lawR z x to st ce si n VS) hs q r := fun d => d.mono fun q hq => inH hq
  refine ((lnext_other w z.A q1 q1 r1 r1 a a s1 u1 s1 u1 k1 k1 n.n2 n.n3 hs xs _ M LS.xh hl (by omega) hx.1 (.head _) (up D1) (up D1) (inH m1) (inH m1) ha ha (by omega) (bits8 hb)).sub lr2).conseq fun y hy => ?_
  exact ⟨y, (by (try dsimp only); omega), rfl, lr4⟩
theorem nextZero (LS : LawS w z cC cM VS) (hl : hs.length ≤ 1000) (hx : 1 ≤ xs.length ∧ xs.length ≤ 10) {q1 q2 : Addr} {i : Nat} {s2 u2 : Tok} {k2 : Nat} (c : Cell0 VS i q1) (g : hs[i]? = some (.ref q1)) (m2 : (q2, tup #[.int 5 s2, .int 0 u2] k2) ∈ VS) :
    Cut w 713 [.ref z.A.M, .ref q1, .ref q2] 90 3800 (lawL z x hs xs to st ce si n VS) (fun y : SxD => 1 ≤ y.xs.length ∧ y.xs.length ≤ 10) (fun _ => .bool false) (fun y => lawL z x hs y.xs to st ce si ⟨n.n2, y.n, n.n4, n.n5, n.n6, n.n7⟩ VS) := by
  have M : Mach w.params z.A ((z.A.H, listOf hs.toArray n.n2) :: lawR z x to st ce si n VS) := LS.mach.mono fun q hq => inH hq
  have hi := lt_of_at g
  obtain ⟨s1, u1, k1, m1⟩ := c
  refine ((lnext_zero w z.A q1 q2 q2 (i : Int) s1 u1 s2 u2 k1 k2 n.n2 n.n3 hs xs _ M LS.xh hl (by omega) hx.1 (.head _) (.int (inH m2)) (inH m2) (inH m1) (at_nat g) (by omega) (by omega) (nat63 (by omega))).sub lr2).conseq fun y hy => ?_
  exact ⟨y, (by (try dsimp only); omega), rfl, lr4⟩
end
/-! L15 -/
local macro_rules | `(tactic| walk_at "eval ListComp") => `(tactic| (k_here; k_dflt (refine LCg.ListComp_U (F₀ := by k_asm) (by with_unfolding_all rfl) (by decide) (by rfl) (by decide) (by rfl) ?_)))
theorem pE1 {I C D P H XL TO ST CE SI R : Addr × Obj} {VS : List (Addr × Obj)} : ∀ q ∈ I :: C :: D :: P :: H :: XL :: TO :: ST :: CE :: SI :: R :: VS, q ∈ R :: I :: C :: D :: P :: H :: XL :: TO :: ST :: CE :: SI :: VS := by
  repeat (first | exact sub_self | refine List.forall_mem_cons.mpr ⟨by repeat (first | exact List.Mem.head _ | refine List.Mem.tail _ ?_), ?_⟩ | refine sub_tail ?_)

theorem partE1 (w : World) (z : LD) (x : DrawD) (hs xs to st ce si : List Value) (n : LN) (VS : List (Addr × Obj)) (T S : Nat → Int) (SC cC cM : Addr) (k : Nat) (u KN pl tr fr to' : Option Value) (mean : ExcName → Option Value) (mg mb : Str → Option Value) (dp un : Nat) (gd : Option (List Code)) (a : Addr) (ccd : Value) (A₀ : Around) (base h₀ : Heap) (L : Addr) (s : Shared) (Q : Flow → Shared → Prop) (E : Value → Shared → Prop)
    (B : Below A₀ base [] h₀) (F : Fr h₀ L s.heap (mD z SC u KN pl tr fr to')) (XX : (Mine.K w.params).In h₀) (N : News h₀ L s.heap (lawL z x hs xs to st ce si n VS)) (TT : Top VW LO mean mg mb h₀) (hd : dp + 200 < recursionLimit) (hu : un + 8000 < cLine)
    (LS : LawS w z cC cM VS) (hk : k ≤ 6) (R : Row VS hs to st ce si k T S) (hb : ∀ i, i < (k + 1) → Bnd VS hs (2 * i) (T i))
    (cont : ∀ (VS' : List (Addr × Obj)) (h' : Heap) (tk' : Nat), LawS w z cC cM VS' → (∀ p ∈ VS, p ∈ VS') → Fr h₀ L h' (mD z SC u KN pl tr fr to') → News h₀ L h' (lawL z x hs xs to st ce si n VS') →
      wpAny (model PySem.Challenge.rw_sa0162_01.row.prog w) (lawTop dp un gd L a ccd cC cM) (execs (c55b.drop 13) (lawEnv L a ccd cC cM)) Q E { s with heap := h', toks := tk' }) :
    wpAny (model PySem.Challenge.rw_sa0162_01.row.prog w) (lawTop dp un gd L a ccd cC cM) (execs (c55b.drop 12) (lawEnv L a ccd cC cM)) Q E s := by
  revert XX; k_fill; intro XX
  have o1 := ltN LS.o1; have o2 := ltN LS.o2; have o3 := ltN LS.o3; have o4 := ltN LS.o4; have o5 := ltN LS.o5; have o6 := ltN LS.o6
  have a1 := LS.a1; have a2 := LS.a2; have a3 := LS.a3; have a4 := LS.a4; have a5 := LS.a5; have a6 := LS.a6; have a7 := LS.a7
  have hPool := LS.pool; have hSP := LS.nSP; have hMach := LS.mach
  have m1 := hMach.x; have m2 := hMach.xd; have m3 := hMach.m; have m4 := hMach.md
  obtain ⟨oM, cm, cmd⟩ := LS.cm
  obtain ⟨oC, cc, ccd'⟩ := LS.cc
  have lH := R.lH; have lTO := R.lTO; have lST := R.lST; have lCE := R.lCE; have lSI := R.lSI
  have nXP := neN LS.nSP

  iterate 2 ((((fail_if_success (with_reducible show PyProof.Rows.LCg.CompSrc _ _ _ _ _ _ _ _ _ _ _ _ _ _)); (fail_if_success (with_reducible show PyProof.Rows.LCg.CompEnd _ _ _ _ _ _ _ _ _ _ _ _ _ _)); (fail_if_success (with_reducible show wpAny _ _ (exec (Stmt.For _ _ _ _ _) _) _ _ _)); (fail_if_success (with_reducible show wpAny _ _ (pyIter _) _ _ _))); first | (k_here; (with_reducible show wpAny _ _ (call (Value.ref 251) _ _) _ _ _); k_dflt (refine' Cut.uz (by k_asm) (by k_asm) (by k_asm) (by k_asm) sub_self (by k_asm) (by walk_at "R") (by ktr_room) (by ktr_units) (deref _ _ _ _ _ _ _ (by walk_at "M") (by k_mem) (by walk_at "M")) ?_; k_whole; intro x9z h9z tk9z p9z F9z N9z; (try dsimp only at N9z); walk_at "Z")) | (k_here; (with_reducible show wpAny _ _ (call (Value.ref 265) _ _) _ _ _); k_dflt (refine' bind_use (by k_asm) (by k_asm) (by k_asm) (by k_asm) (by k_asm) (by walk_at "R") (by k_updF) (by walk_at "M") (by k_mem) (by walk_at "N") (by walk_at "E") (by first | assumption | ((try simp only [List.length_append, List.length_cons, List.length_nil, List.length_set]); first | exact lenB (by assumption) rfl | exact lenA (by assumption) rfl | omega)) (by walk_at "E") (by ktr_room) (by ktr_units) ?_; k_whole; intro h9z tk9z F9z N9z; (try dsimp only at N9z); walk_at "Z")) | (k_here; (with_reducible show wpAny _ _ (call (Value.ref 230) _ _) _ _ _); k_dflt (refine' newvar_use (by k_asm) (by k_asm) (by k_asm) (by k_asm) (by k_asm) (by walk_at "R") (by k_updF) (by walk_at "M") (by walk_at "L") (by ktr_room) (by ktr_units) ?_; k_whole; intro x9z h9z tk9z p9z F9z N9z; (try dsimp only at N9z); (try k_lt p9z); walk_at "Z")) | (k_here; (with_reducible show wpAny _ _ (call (Value.ref 251) _ _) _ _ _); k_dflt (refine' Cut.uz (by k_asm) (by k_asm) (by k_asm) (by k_asm) sub_self (by k_asm) (by walk_at "R") (by ktr_room) (by ktr_units) (derefS (by walk_at "M") (by k_mem) (by walk_at "M") (by omega)) ?_; k_whole; intro x9z h9z tk9z p9z F9z N9z; (have pz9z := p9z); (first | (obtain ⟨pa9z, ⟨pb9z, pc9z, pd9z, pe9z⟩, pf9z⟩ := p9z; subst pa9z) | (first | (refine and4 p9z ?_; (try clear p9z); intro pa9z pb9z pc9z pd9z) | obtain ⟨pa9z, pb9z, pc9z, pd9z⟩ := p9z)); (try dsimp only at N9z); walk_at "Z")) | (k_here; (with_reducible show wpAny _ _ (call (Value.ref 699) _ _) _ _ _); k_dflt (refine' Cut.uz (by k_asm) (by k_asm) (by k_asm) (by k_asm) (by refine' Del.sub2 (by k_upd) (by k_upd)) (by k_asm) (by walk_at "R") (by ktr_room) (by ktr_units) (lcell _ _ _ _ _ _ _ _ _ _ _ _ _ _ _ _ (by walk_at "M") (by walk_at "A") (by walk_at "A") (by walk_at "N") (by walk_at "M") (by walk_at "N") (by walk_at "E") (by walk_at "L")) ?_; k_whole; intro x9z h9z tk9z p9z F9z N9z; ((first | (refine andNest p9z ?_; (try clear p9z); intro pa9z pb9z pc9z pd9z pe9z pf9z pg9z ph9z pi9z) | obtain ⟨⟨pa9z, pb9z, pc9z⟩, ⟨pd9z, pe9z, pf9z⟩, pg9z, ph9z, pi9z⟩ := p9z)); (replace pa9z := ltN pa9z); (replace pb9z := ltN pb9z); (replace pd9z := ltN pd9z); (replace pe9z := ltN pe9z); (try k_lt pc9z); (try k_lt pf9z); (try dsimp only at N9z); (try dsimp only); (try k_sweep); (try k_fold))) | (k_here; (with_reducible show wpAny _ _ (call (Value.ref 674) _ _) _ _ _); k_dflt (refine' Cut.uz (by k_asm) (by k_asm) (by k_asm) (by k_asm) sub_self (by k_asm) (by walk_at "R") (by ktr_room) (by ktr_units) (areas _ _ _ _) ?_; k_whole; intro x9z h9z tk9z p9z F9z N9z; ((first | (refine and7 p9z ?_; (try clear p9z); intro pz9z pa9z pb9z pc9z pd9z pe9z pf9z) | obtain ⟨pz9z, pa9z, pb9z, pc9z, pd9z, pe9z, pf9z⟩ := p9z)); (try k_lt pa9z); (replace pb9z := ltN pb9z); (replace pc9z := ltN pc9z); (replace pd9z := ltN pd9z); (replace pe9z := ltN pe9z); (replace pf9z := ltN pf9z); (try dsimp only at N9z); (try dsimp only); (try k_sweep); (try k_fold))) | (k_here; (with_reducible show wpAny _ _ (call (Value.ref 154) _ _) _ _ _); k_dflt (refine' Cut.uz (by k_asm) (by k_asm) (by k_asm) (by k_asm) sub_self (by k_asm) (by walk_at "R") (by ktr_room) (by ktr_units) (symbols _ _) ?_; k_whole; intro x9z h9z tk9z p9z F9z N9z; ((first | (refine and9 p9z ?_; (try clear p9z); intro pa9z pb9z pc9z pd9z pe9z pf9z pg9z ph9z pi9z) | obtain ⟨pa9z, pb9z, pc9z, pd9z, pe9z, pf9z, pg9z, ph9z, pi9z⟩ := p9z)); (try k_lt pa9z); (replace pb9z := ltN pb9z); (replace pc9z := ltN pc9z); (replace pd9z := ltN pd9z); (try dsimp only at N9z); (try dsimp only); (try k_sweep); (try k_fold))) | (k_here; (with_reducible show wpAny _ _ (call (Value.ref 692) _ _) _ _ _); k_dflt (refine' whole_use (by k_asm) (by k_asm) (by k_asm) (by k_asm) (by k_asm) (by walk_at "R") (by k_updF) (by walk_at "M") (by walk_at "N") (by walk_at "E") (by ktr_room) (by ktr_units) ?_; k_whole; intro x9z h9z tk9z p9z F9z N9z; ((first | (refine and2 p9z ?_; (try clear p9z); intro pa9z pc9z) | obtain ⟨pa9z, pc9z⟩ := p9z)); (try dsimp only at N9z); walk_at "Z")) | (k_here; (with_reducible show wpAny _ _ (call (Value.ref 685) _ _) _ _ _); k_dflt (refine' draw_use (by k_asm) (by k_asm) (by k_asm) (by k_asm) (by k_asm) (by walk_at "R") (by k_updF) (by walk_at "M") (by walk_at "N") (by walk_at "E") (by walk_at "E") (by walk_at "O") (by ktr_room) (by ktr_units) ?_; k_whole; intro x9z h9z tk9z p9z F9z N9z; ((first | (refine and3 p9z ?_; (try clear p9z); intro pa9z pb9z pc9z) | obtain ⟨pa9z, pb9z, pc9z⟩ := p9z)); (try dsimp only at N9z); walk_at "Z")) | (k_unfold; (try dsimp only); (try clear qkC)) | (k_end; wrow_close) | ((with_reducible show wpAny _ _ (execs (List.cons _ _) _) _ _ _); first | k_gentoks | (refine execs_consF ?_; intro qkC)) | walk1 | (dsimp only; walk1) | (leave1; try dsimp only) | fail "no step"))
  all_goals (have F9z := True.intro; have N9z := True.intro; have h9z := True.intro; have p9z := True.intro; have pa9z := True.intro; have pb9z := True.intro; have pc9z := True.intro; have pd9z := True.intro; have pe9z := True.intro; have pf9z := True.intro; have pg9z := True.intro; have ph9z := True.intro; have pi9z := True.intro; have pz9z := True.intro; have tk9z := True.intro; have x9z := True.intro)
  (try (refine foldAE ?_; intro envT AT))
  repeat' (((fail_if_success (with_reducible show PyProof.Rows.LCg.CompSrc _ _ _ _ _ _ _ _ _ _ _ _ _ _)); (fail_if_success (with_reducible show PyProof.Rows.LCg.CompEnd _ _ _ _ _ _ _ _ _ _ _ _ _ _)); (fail_if_success (with_reducible show wpAny _ _ (exec (Stmt.For _ _ _ _ _) _) _ _ _)); (fail_if_success (with_reducible show wpAny _ _ (pyIter _) _ _ _)); (fail_if_success (with_reducible show wpAny _ _ (execs (List.cons _ _) _) _ _ _))); first | (k_here; (with_reducible show wpAny _ _ (call (Value.ref 251) _ _) _ _ _); k_dflt (refine' Cut.uz (by k_asm) (by k_asm) (by k_asm) (by k_asm) sub_self (by k_asm) (by walk_at "R") (by ktr_room) (by ktr_units) (deref _ _ _ _ _ _ _ (by walk_at "M") (by k_mem) (by walk_at "M")) ?_; k_whole; intro x9z h9z tk9z p9z F9z N9z; (try dsimp only at N9z); walk_at "Z")) | (k_here; (with_reducible show wpAny _ _ (call (Value.ref 265) _ _) _ _ _); k_dflt (refine' bind_use (by k_asm) (by k_asm) (by k_asm) (by k_asm) (by k_asm) (by walk_at "R") (by k_updF) (by walk_at "M") (by k_mem) (by walk_at "N") (by walk_at "E") (by first | assumption | ((try simp only [List.length_append, List.length_cons, List.length_nil, List.length_set]); first | exact lenB (by assumption) rfl | exact lenA (by assumption) rfl | omega)) (by walk_at "E") (by ktr_room) (by ktr_units) ?_; k_whole; intro h9z tk9z F9z N9z; (try dsimp only at N9z); walk_at "Z")) | (k_here; (with_reducible show wpAny _ _ (call (Value.ref 230) _ _) _ _ _); k_dflt (refine' newvar_use (by k_asm) (by k_asm) (by k_asm) (by k_asm) (by k_asm) (by walk_at "R") (by k_updF) (by walk_at "M") (by walk_at "L") (by ktr_room) (by ktr_units) ?_; k_whole; intro x9z h9z tk9z p9z F9z N9z; (try dsimp only at N9z); (try k_lt p9z); walk_at "Z")) | (k_here; (with_reducible show wpAny _ _ (call (Value.ref 251) _ _) _ _ _); k_dflt (refine' Cut.uz (by k_asm) (by k_asm) (by k_asm) (by k_asm) sub_self (by k_asm) (by walk_at "R") (by ktr_room) (by ktr_units) (derefS (by walk_at "M") (by k_mem) (by walk_at "M") (by omega)) ?_; k_whole; intro x9z h9z tk9z p9z F9z N9z; (have pz9z := p9z); (first | (obtain ⟨pa9z, ⟨pb9z, pc9z, pd9z, pe9z⟩, pf9z⟩ := p9z; subst pa9z) | (first | (refine and4 p9z ?_; (try clear p9z); intro pa9z pb9z pc9z pd9z) | obtain ⟨pa9z, pb9z, pc9z, pd9z⟩ := p9z)); (try dsimp only at N9z); walk_at "Z")) | (k_here; (with_reducible show wpAny _ _ (call (Value.ref 699) _ _) _ _ _); k_dflt (refine' Cut.uz (by k_asm) (by k_asm) (by k_asm) (by k_asm) (by refine' Del.sub2 (by k_upd) (by k_upd)) (by k_asm) (by walk_at "R") (by ktr_room) (by ktr_units) (lcell _ _ _ _ _ _ _ _ _ _ _ _ _ _ _ _ (by walk_at "M") (by walk_at "A") (by walk_at "A") (by walk_at "N") (by walk_at "M") (by walk_at "N") (by walk_at "E") (by walk_at "L")) ?_; k_whole; intro x9z h9z tk9z p9z F9z N9z; ((first | (refine andNest p9z ?_; (try clear p9z); intro pa9z pb9z pc9z pd9z pe9z pf9z pg9z ph9z pi9z) | obtain ⟨⟨pa9z, pb9z, pc9z⟩, ⟨pd9z, pe9z, pf9z⟩, pg9z, ph9z, pi9z⟩ := p9z)); (replace pa9z := ltN pa9z); (replace pb9z := ltN pb9z); (replace pd9z := ltN pd9z); (replace pe9z := ltN pe9z); (try k_lt pc9z); (try k_lt pf9z); (try dsimp only at N9z); (try dsimp only); (try k_sweep); (try k_fold))) | (k_here; (with_reducible show wpAny _ _ (call (Value.ref 674) _ _) _ _ _); k_dflt (refine' Cut.uz (by k_asm) (by k_asm) (by k_asm) (by k_asm) sub_self (by k_asm) (by walk_at "R") (by ktr_room) (by ktr_units) (areas _ _ _ _) ?_; k_whole; intro x9z h9z tk9z p9z F9z N9z; ((first | (refine and7 p9z ?_; (try clear p9z); intro pz9z pa9z pb9z pc9z pd9z pe9z pf9z) | obtain ⟨pz9z, pa9z, pb9z, pc9z, pd9z, pe9z, pf9z⟩ := p9z)); (try k_lt pa9z); (replace pb9z := ltN pb9z); (replace pc9z := ltN pc9z); (replace pd9z := ltN pd9z); (replace pe9z := ltN pe9z); (replace pf9z := ltN pf9z); (try dsimp only at N9z); (try dsimp only); (try k_sweep); (try k_fold))) | (k_here; (with_reducible show wpAny _ _ (call (Value.ref 154) _ _) _ _ _); k_dflt (refine' Cut.uz (by k_asm) (by k_asm) (by k_asm) (by k_asm) sub_self (by k_asm) (by walk_at "R") (by ktr_room) (by ktr_units) (symbols _ _) ?_; k_whole; intro x9z h9z tk9z p9z F9z N9z; ((first | (refine and9 p9z ?_; (try clear p9z); intro pa9z pb9z pc9z pd9z pe9z pf9z pg9z ph9z pi9z) | obtain ⟨pa9z, pb9z, pc9z, pd9z, pe9z, pf9z, pg9z, ph9z, pi9z⟩ := p9z)); (try k_lt pa9z); (replace pb9z := ltN pb9z); (replace pc9z := ltN pc9z); (replace pd9z := ltN pd9z); (try dsimp only at N9z); (try dsimp only); (try k_sweep); (try k_fold))) | (k_here; (with_reducible show wpAny _ _ (call (Value.ref 692) _ _) _ _ _); k_dflt (refine' whole_use (by k_asm) (by k_asm) (by k_asm) (by k_asm) (by k_asm) (by walk_at "R") (by k_updF) (by walk_at "M") (by walk_at "N") (by walk_at "E") (by ktr_room) (by ktr_units) ?_; k_whole; intro x9z h9z tk9z p9z F9z N9z; ((first | (refine and2 p9z ?_; (try clear p9z); intro pa9z pc9z) | obtain ⟨pa9z, pc9z⟩ := p9z)); (try dsimp only at N9z); walk_at "Z")) | (k_here; (with_reducible show wpAny _ _ (call (Value.ref 685) _ _) _ _ _); k_dflt (refine' draw_use (by k_asm) (by k_asm) (by k_asm) (by k_asm) (by k_asm) (by walk_at "R") (by k_updF) (by walk_at "M") (by walk_at "N") (by walk_at "E") (by walk_at "E") (by walk_at "O") (by ktr_room) (by ktr_units) ?_; k_whole; intro x9z h9z tk9z p9z F9z N9z; ((first | (refine and3 p9z ?_; (try clear p9z); intro pa9z pb9z pc9z) | obtain ⟨pa9z, pb9z, pc9z⟩ := p9z)); (try dsimp only at N9z); walk_at "Z")) | (k_unfold; (try dsimp only); (try clear qkC)) | (k_end; wrow_close) | ((with_reducible show wpAny _ _ (execs (List.cons _ _) _) _ _ _); first | k_gentoks | (refine execs_consF ?_; intro qkC)) | walk1 | (dsimp only; walk1) | (leave1; try dsimp only) | fail "no step")
  all_goals (have F9z := True.intro; have N9z := True.intro; have h9z := True.intro; have p9z := True.intro; have pa9z := True.intro; have pb9z := True.intro; have pc9z := True.intro; have pd9z := True.intro; have pe9z := True.intro; have pf9z := True.intro; have pg9z := True.intro; have ph9z := True.intro; have pi9z := True.intro; have pz9z := True.intro; have tk9z := True.intro; have x9z := True.intro)
  refine LCg.CompSrc.ledger (news := lawL z x hs xs to st ce si n VS) rfl (by assumption) (by assumption) (.tail _ (.tail _ (.tail _ (.tail _ (.tail _ (.head _)))))) (show ce.toArray.size ≤ sizeLine by rw [List.size_toArray]; exact Nat.le_trans (show ce.length ≤ 10 by omega) (by decide)) ?_
  intro g
  refine restU_ind (fun i ys nx => nx = lawL z x hs xs to st ce si n VS ∧ PairsAre VS ys ((List.range i).map T)) ⟨rfl, .nil⟩ ?_ ?_
  · rintro ys nx ⟨rfl, hP⟩ D h tk F N off
    simp only [LCg.Off1] at off
    (first | (refine and8 off ?_; (try clear off); intro f1 f2 f3 f4 f5 f6 f7 f8) | obtain ⟨f1, f2, f3, f4, f5, f6, f7, f8⟩ := off)
    have LS1 := LS.put (p := (D, LCg.lst ys)) ⟨Ne.symm f1, Ne.symm f2, Ne.symm f3, Ne.symm f4, Ne.symm f5, Ne.symm f6, Ne.symm f7⟩
    have N1 : News h₀ L h (lawL z x hs xs to st ce si n ((D, LCg.lst ys) :: VS)) := fun q hq => N q (pB1 q hq)
    have hD : (D, LCg.lst ys) ∈ (D, LCg.lst ys) :: VS := .head _
    have sub1 : ∀ q ∈ VS, q ∈ (D, LCg.lst ys) :: VS := sub_tail sub_self
    rw [List.size_toArray, lCE] at hP
    have hP1 := hP.mono sub1
    clear N hP cm cc m1 m2 m3 m4 hMach hPool a1 a2 a3 a4 a5 a6 a7 f1 f2 f3 f4 f5 f6 f7 f8
    revert LS1 N1 hD sub1 hP1
    generalize (D, LCg.lst ys) :: VS = VS1
    intro LS1 N1 hD sub1 hP1
    dsimp only
    (try (refine foldQ ?_; intro qkT2))
    repeat' (((fail_if_success (with_reducible show PyProof.Rows.LCg.CompSrc _ _ _ _ _ _ _ _ _ _ _ _ _ _)); (fail_if_success (with_reducible show PyProof.Rows.LCg.CompEnd _ _ _ _ _ _ _ _ _ _ _ _ _ _)); (fail_if_success (with_reducible show wpAny _ _ (exec (Stmt.For _ _ _ _ _) _) _ _ _)); (fail_if_success (with_reducible show wpAny _ _ (pyIter _) _ _ _)); (fail_if_success (with_reducible show wpAny _ _ (execs (List.cons _ _) _) _ _ _))); first | (k_here; (with_reducible show wpAny _ _ (call (Value.ref 251) _ _) _ _ _); k_dflt (refine' Cut.uz (by k_asm) (by k_asm) (by k_asm) (by k_asm) sub_self (by k_asm) (by walk_at "R") (by ktr_room) (by ktr_units) (deref _ _ _ _ _ _ _ (by walk_at "M") (by k_mem) (by walk_at "M")) ?_; k_whole; intro x9z h9z tk9z p9z F9z N9z; (try dsimp only at N9z); walk_at "Z")) | (k_here; (with_reducible show wpAny _ _ (call (Value.ref 265) _ _) _ _ _); k_dflt (refine' bind_use (by k_asm) (by k_asm) (by k_asm) (by k_asm) (by k_asm) (by walk_at "R") (by k_updF) (by walk_at "M") (by k_mem) (by walk_at "N") (by walk_at "E") (by first | assumption | ((try simp only [List.length_append, List.length_cons, List.length_nil, List.length_set]); first | exact lenB (by assumption) rfl | exact lenA (by assumption) rfl | omega)) (by walk_at "E") (by ktr_room) (by ktr_units) ?_; k_whole; intro h9z tk9z F9z N9z; (try dsimp only at N9z); walk_at "Z")) | (k_here; (with_reducible show wpAny _ _ (call (Value.ref 230) _ _) _ _ _); k_dflt (refine' newvar_use (by k_asm) (by k_asm) (by k_asm) (by k_asm) (by k_asm) (by walk_at "R") (by k_updF) (by walk_at "M") (by walk_at "L") (by ktr_room) (by ktr_units) ?_; k_whole; intro x9z h9z tk9z p9z F9z N9z; (try dsimp only at N9z); (try k_lt p9z); walk_at "Z")) | (k_here; (with_reducible show wpAny _ _ (call (Value.ref 251) _ _) _ _ _); k_dflt (refine' Cut.uz (by k_asm) (by k_asm) (by k_asm) (by k_asm) sub_self (by k_asm) (by walk_at "R") (by ktr_room) (by ktr_units) (derefS (by walk_at "M") (by k_mem) (by walk_at "M") (by omega)) ?_; k_whole; intro x9z h9z tk9z p9z F9z N9z; (have pz9z := p9z); (first | (obtain ⟨pa9z, ⟨pb9z, pc9z, pd9z, pe9z⟩, pf9z⟩ := p9z; subst pa9z) | (first | (refine and4 p9z ?_; (try clear p9z); intro pa9z pb9z pc9z pd9z) | obtain ⟨pa9z, pb9z, pc9z, pd9z⟩ := p9z)); (try dsimp only at N9z); walk_at "Z")) | (k_here; (with_reducible show wpAny _ _ (call (Value.ref 699) _ _) _ _ _); k_dflt (refine' Cut.uz (by k_asm) (by k_asm) (by k_asm) (by k_asm) (by refine' Del.sub2 (by k_upd) (by k_upd)) (by k_asm) (by walk_at "R") (by ktr_room) (by ktr_units) (lcell _ _ _ _ _ _ _ _ _ _ _ _ _ _ _ _ (by walk_at "M") (by walk_at "A") (by walk_at "A") (by walk_at "N") (by walk_at "M") (by walk_at "N") (by walk_at "E") (by walk_at "L")) ?_; k_whole; intro x9z h9z tk9z p9z F9z N9z; ((first | (refine andNest p9z ?_; (try clear p9z); intro pa9z pb9z pc9z pd9z pe9z pf9z pg9z ph9z pi9z) | obtain ⟨⟨pa9z, pb9z, pc9z⟩, ⟨pd9z, pe9z, pf9z⟩, pg9z, ph9z, pi9z⟩ := p9z)); (replace pa9z := ltN pa9z); (replace pb9z := ltN pb9z); (replace pd9z := ltN pd9z); (replace pe9z := ltN pe9z); (try k_lt pc9z); (try k_lt pf9z); (try dsimp only at N9z); (try dsimp only); (try k_sweep); (try k_fold))) | (k_here; (with_reducible show wpAny _ _ (call (Value.ref 674) _ _) _ _ _); k_dflt (refine' Cut.uz (by k_asm) (by k_asm) (by k_asm) (by k_asm) sub_self (by k_asm) (by walk_at "R") (by ktr_room) (by ktr_units) (areas _ _ _ _) ?_; k_whole; intro x9z h9z tk9z p9z F9z N9z; ((first | (refine and7 p9z ?_; (try clear p9z); intro pz9z pa9z pb9z pc9z pd9z pe9z pf9z) | obtain ⟨pz9z, pa9z, pb9z, pc9z, pd9z, pe9z, pf9z⟩ := p9z)); (try k_lt pa9z); (replace pb9z := ltN pb9z); (replace pc9z := ltN pc9z); (replace pd9z := ltN pd9z); (replace pe9z := ltN pe9z); (replace pf9z := ltN pf9z); (try dsimp only at N9z); (try dsimp only); (try k_sweep); (try k_fold))) | (k_here; (with_reducible show wpAny _ _ (call (Value.ref 154) _ _) _ _ _); k_dflt (refine' Cut.uz (by k_asm) (by k_asm) (by k_asm) (by k_asm) sub_self (by k_asm) (by walk_at "R") (by ktr_room) (by ktr_units) (symbols _ _) ?_; k_whole; intro x9z h9z tk9z p9z F9z N9z; ((first | (refine and9 p9z ?_; (try clear p9z); intro pa9z pb9z pc9z pd9z pe9z pf9z pg9z ph9z pi9z) | obtain ⟨pa9z, pb9z, pc9z, pd9z, pe9z, pf9z, pg9z, ph9z, pi9z⟩ := p9z)); (try k_lt pa9z); (replace pb9z := ltN pb9z); (replace pc9z := ltN pc9z); (replace pd9z := ltN pd9z); (try dsimp only at N9z); (try dsimp only); (try k_sweep); (try k_fold))) | (k_here; (with_reducible show wpAny _ _ (call (Value.ref 692) _ _) _ _ _); k_dflt (refine' whole_use (by k_asm) (by k_asm) (by k_asm) (by k_asm) (by k_asm) (by walk_at "R") (by k_updF) (by walk_at "M") (by walk_at "N") (by walk_at "E") (by ktr_room) (by ktr_units) ?_; k_whole; intro x9z h9z tk9z p9z F9z N9z; ((first | (refine and2 p9z ?_; (try clear p9z); intro pa9z pc9z) | obtain ⟨pa9z, pc9z⟩ := p9z)); (try dsimp only at N9z); walk_at "Z")) | (k_here; (with_reducible show wpAny _ _ (call (Value.ref 685) _ _) _ _ _); k_dflt (refine' draw_use (by k_asm) (by k_asm) (by k_asm) (by k_asm) (by k_asm) (by walk_at "R") (by k_updF) (by walk_at "M") (by walk_at "N") (by walk_at "E") (by walk_at "E") (by walk_at "O") (by ktr_room) (by ktr_units) ?_; k_whole; intro x9z h9z tk9z p9z F9z N9z; ((first | (refine and3 p9z ?_; (try clear p9z); intro pa9z pb9z pc9z) | obtain ⟨pa9z, pb9z, pc9z⟩ := p9z)); (try dsimp only at N9z); walk_at "Z")) | (k_unfold; (try dsimp only); (try clear qkC)) | (k_end; wrow_close) | ((with_reducible show wpAny _ _ (execs (List.cons _ _) _) _ _ _); first | k_gentoks | (refine execs_consF ?_; intro qkC)) | walk1 | (dsimp only; walk1) | (leave1; try dsimp only) | fail "no step")
    all_goals (have F9z := True.intro; have N9z := True.intro; have h9z := True.intro; have p9z := True.intro; have pa9z := True.intro; have pb9z := True.intro; have pc9z := True.intro; have pd9z := True.intro; have pe9z := True.intro; have pf9z := True.intro; have pg9z := True.intro; have ph9z := True.intro; have pi9z := True.intro; have pz9z := True.intro; have tk9z := True.intro; have x9z := True.intro)
    refine LCg.CompSrc.ledger (news := lawL z x hs xs to st ce si n VS1) rfl (by assumption) (by assumption) (.tail _ (.tail _ (.tail _ (.head _)))) (show to.toArray.size ≤ sizeLine by rw [List.size_toArray]; exact Nat.le_trans (show to.length ≤ 10 by omega) (by decide)) ?_
    intro g2
    refine restU_ind (fun i ys nx => ∃ VS', nx = lawL z x hs xs to st ce si n VS' ∧ LawS w z cC cM VS' ∧ (∀ p ∈ VS1, p ∈ VS') ∧ PairsAre VS' ys ((List.range i).map T)) ⟨VS1, rfl, LS1, sub_self, .nil⟩ ?_ ?_
    · rintro ys2 nx ⟨VS2, rfl, LS2, sub2, hP2⟩ D2 h2 tk2 F2 N2 off
      have hD2 := sub2 _ hD
      rw [List.size_toArray, lTO] at hP2
      simp only [LCg.Off1] at off
      (first | (refine and8 off ?_; (try clear off); intro f1 f2 f3 f4 f5 f6 f7 f8) | obtain ⟨f1, f2, f3, f4, f5, f6, f7, f8⟩ := off)
      have LS3 := LS2.put (p := (D2, LCg.lst ys2)) ⟨Ne.symm f1, Ne.symm f2, Ne.symm f3, Ne.symm f4, Ne.symm f5, Ne.symm f6, Ne.symm f7⟩
      have N3 : News h₀ L h2 (lawL z x hs xs to st ce si n ((D2, LCg.lst ys2) :: VS2)) := fun q hq => N2 q (pB1 q hq)
      dsimp only
      (k_here; refine pairs_ne (k := ys.length) (l := ys2.length) N2 (.tail _ (.tail _ (.tail _ (.tail _ (.tail _ (.tail _ (.tail _ (.tail _ hD2)))))))) (.head _) (hP1.mono fun p hp => .tail _ (.tail _ (.tail _ (.tail _ (.tail _ (.tail _ (.tail _ (.tail _ (sub2 p hp))))))))) (hP2.mono fun p hp => .tail _ (.tail _ (.tail _ (.tail _ (.tail _ (.tail _ (.tail _ (.tail _ hp)))))))) (by ktr_units) ?_)
      (try (refine foldQ ?_; intro qkT3))
      repeat' (((fail_if_success (with_reducible show PyProof.Rows.LCg.CompSrc _ _ _ _ _ _ _ _ _ _ _ _ _ _)); (fail_if_success (with_reducible show PyProof.Rows.LCg.CompEnd _ _ _ _ _ _ _ _ _ _ _ _ _ _)); (fail_if_success (with_reducible show wpAny _ _ (exec (Stmt.For _ _ _ _ _) _) _ _ _)); (fail_if_success (with_reducible show wpAny _ _ (pyIter _) _ _ _)); (fail_if_success (with_reducible show wpAny _ _ (execs (List.cons _ _) _) _ _ _))); first | (k_here; (with_reducible show wpAny _ _ (call (Value.ref 251) _ _) _ _ _); k_dflt (refine' Cut.uz (by k_asm) (by k_asm) (by k_asm) (by k_asm) sub_self (by k_asm) (by walk_at "R") (by ktr_room) (by ktr_units) (deref _ _ _ _ _ _ _ (by walk_at "M") (by k_mem) (by walk_at "M")) ?_; k_whole; intro x9z h9z tk9z p9z F9z N9z; (try dsimp only at N9z); walk_at "Z")) | (k_here; (with_reducible show wpAny _ _ (call (Value.ref 265) _ _) _ _ _); k_dflt (refine' bind_use (by k_asm) (by k_asm) (by k_asm) (by k_asm) (by k_asm) (by walk_at "R") (by k_updF) (by walk_at "M") (by k_mem) (by walk_at "N") (by walk_at "E") (by first | assumption | ((try simp only [List.length_append, List.length_cons, List.length_nil, List.length_set]); first | exact lenB (by assumption) rfl | exact lenA (by assumption) rfl | omega)) (by walk_at "E") (by ktr_room) (by ktr_units) ?_; k_whole; intro h9z tk9z F9z N9z; (try dsimp only at N9z); walk_at "Z")) | (k_here; (with_reducible show wpAny _ _ (call (Value.ref 230) _ _) _ _ _); k_dflt (refine' newvar_use (by k_asm) (by k_asm) (by k_asm) (by k_asm) (by k_asm) (by walk_at "R") (by k_updF) (by walk_at "M") (by walk_at "L") (by ktr_room) (by ktr_units) ?_; k_whole; intro x9z h9z tk9z p9z F9z N9z; (try dsimp only at N9z); (try k_lt p9z); walk_at "Z")) | (k_here; (with_reducible show wpAny _ _ (call (Value.ref 251) _ _) _ _ _); k_dflt (refine' Cut.uz (by k_asm) (by k_asm) (by k_asm) (by k_asm) sub_self (by k_asm) (by walk_at "R") (by ktr_room) (by ktr_units) (derefS (by walk_at "M") (by k_mem) (by walk_at "M") (by omega)) ?_; k_whole; intro x9z h9z tk9z p9z F9z N9z; (have pz9z := p9z); (first | (obtain ⟨pa9z, ⟨pb9z, pc9z, pd9z, pe9z⟩, pf9z⟩ := p9z; subst pa9z) | (first | (refine and4 p9z ?_; (try clear p9z); intro pa9z pb9z pc9z pd9z) | obtain ⟨pa9z, pb9z, pc9z, pd9z⟩ := p9z)); (try dsimp only at N9z); walk_at "Z")) | (k_here; (with_reducible show wpAny _ _ (call (Value.ref 699) _ _) _ _ _); k_dflt (refine' Cut.uz (by k_asm) (by k_asm) (by k_asm) (by k_asm) (by refine' Del.sub2 (by k_upd) (by k_upd)) (by k_asm) (by walk_at "R") (by ktr_room) (by ktr_units) (lcell _ _ _ _ _ _ _ _ _ _ _ _ _ _ _ _ (by walk_at "M") (by walk_at "A") (by walk_at "A") (by walk_at "N") (by walk_at "M") (by walk_at "N") (by walk_at "E") (by walk_at "L")) ?_; k_whole; intro x9z h9z tk9z p9z F9z N9z; ((first | (refine andNest p9z ?_; (try clear p9z); intro pa9z pb9z pc9z pd9z pe9z pf9z pg9z ph9z pi9z) | obtain ⟨⟨pa9z, pb9z, pc9z⟩, ⟨pd9z, pe9z, pf9z⟩, pg9z, ph9z, pi9z⟩ := p9z)); (replace pa9z := ltN pa9z); (replace pb9z := ltN pb9z); (replace pd9z := ltN pd9z); (replace pe9z := ltN pe9z); (try k_lt pc9z); (try k_lt pf9z); (try dsimp only at N9z); (try dsimp only); (try k_sweep); (try k_fold))) | (k_here; (with_reducible show wpAny _ _ (call (Value.ref 674) _ _) _ _ _); k_dflt (refine' Cut.uz (by k_asm) (by k_asm) (by k_asm) (by k_asm) sub_self (by k_asm) (by walk_at "R") (by ktr_room) (by ktr_units) (areas _ _ _ _) ?_; k_whole; intro x9z h9z tk9z p9z F9z N9z; ((first | (refine and7 p9z ?_; (try clear p9z); intro pz9z pa9z pb9z pc9z pd9z pe9z pf9z) | obtain ⟨pz9z, pa9z, pb9z, pc9z, pd9z, pe9z, pf9z⟩ := p9z)); (try k_lt pa9z); (replace pb9z := ltN pb9z); (replace pc9z := ltN pc9z); (replace pd9z := ltN pd9z); (replace pe9z := ltN pe9z); (replace pf9z := ltN pf9z); (try dsimp only at N9z); (try dsimp only); (try k_sweep); (try k_fold))) | (k_here; (with_reducible show wpAny _ _ (call (Value.ref 154) _ _) _ _ _); k_dflt (refine' Cut.uz (by k_asm) (by k_asm) (by k_asm) (by k_asm) sub_self (by k_asm) (by walk_at "R") (by ktr_room) (by ktr_units) (symbols _ _) ?_; k_whole; intro x9z h9z tk9z p9z F9z N9z; ((first | (refine and9 p9z ?_; (try clear p9z); intro pa9z pb9z pc9z pd9z pe9z pf9z pg9z ph9z pi9z) | obtain ⟨pa9z, pb9z, pc9z, pd9z, pe9z, pf9z, pg9z, ph9z, pi9z⟩ := p9z)); (try k_lt pa9z); (replace pb9z := ltN pb9z); (replace pc9z := ltN pc9z); (replace pd9z := ltN pd9z); (try dsimp only at N9z); (try dsimp only); (try k_sweep); (try k_fold))) | (k_here; (with_reducible show wpAny _ _ (call (Value.ref 692) _ _) _ _ _); k_dflt (refine' whole_use (by k_asm) (by k_asm) (by k_asm) (by k_asm) (by k_asm) (by walk_at "R") (by k_updF) (by walk_at "M") (by walk_at "N") (by walk_at "E") (by ktr_room) (by ktr_units) ?_; k_whole; intro x9z h9z tk9z p9z F9z N9z; ((first | (refine and2 p9z ?_; (try clear p9z); intro pa9z pc9z) | obtain ⟨pa9z, pc9z⟩ := p9z)); (try dsimp only at N9z); walk_at "Z")) | (k_here; (with_reducible show wpAny _ _ (call (Value.ref 685) _ _) _ _ _); k_dflt (refine' draw_use (by k_asm) (by k_asm) (by k_asm) (by k_asm) (by k_asm) (by walk_at "R") (by k_updF) (by walk_at "M") (by walk_at "N") (by walk_at "E") (by walk_at "E") (by walk_at "O") (by ktr_room) (by ktr_units) ?_; k_whole; intro x9z h9z tk9z p9z F9z N9z; ((first | (refine and3 p9z ?_; (try clear p9z); intro pa9z pb9z pc9z) | obtain ⟨pa9z, pb9z, pc9z⟩ := p9z)); (try dsimp only at N9z); walk_at "Z")) | (k_unfold; (try dsimp only); (try clear qkC)) | (k_end; wrow_close) | ((with_reducible show wpAny _ _ (execs (List.cons _ _) _) _ _ _); first | k_gentoks | (refine execs_consF ?_; intro qkC)) | walk1 | (dsimp only; walk1) | (leave1; try dsimp only) | fail "no step")
      all_goals (have F9z := True.intro; have N9z := True.intro; have h9z := True.intro; have p9z := True.intro; have pa9z := True.intro; have pb9z := True.intro; have pc9z := True.intro; have pd9z := True.intro; have pe9z := True.intro; have pf9z := True.intro; have pg9z := True.intro; have ph9z := True.intro; have pi9z := True.intro; have pz9z := True.intro; have tk9z := True.intro; have x9z := True.intro)
      exact cont _ _ _ LS3 (fun p hp => .tail _ (sub2 p (sub1 p hp))) F2 N3
    · rintro i ys2 nx hi ⟨VS2, rfl, LS2, sub2, hP2⟩ v I oI C oC' D2 m₂ h2 tk2 E' hv hC hx' F9 N9 off ne
      rw [List.size_toArray, lTO] at hi
      obtain ⟨tv, etv⟩ := R.to i (by omega)
      obtain rfl : Value.int (T i) tv = v := by rw [List.getElem?_toArray] at hv; exact Option.some.inj (etv.symm.trans hv)
      dsimp only
      (try (refine foldQ ?_; intro qkT4))
      repeat' (((fail_if_success (with_reducible show PyProof.Rows.LCg.CompSrc _ _ _ _ _ _ _ _ _ _ _ _ _ _)); (fail_if_success (with_reducible show PyProof.Rows.LCg.CompEnd _ _ _ _ _ _ _ _ _ _ _ _ _ _)); (fail_if_success (with_reducible show wpAny _ _ (exec (Stmt.For _ _ _ _ _) _) _ _ _)); (fail_if_success (with_reducible show wpAny _ _ (pyIter _) _ _ _)); (fail_if_success (with_reducible show wpAny _ _ (execs (List.cons _ _) _) _ _ _))); first | (k_here; (with_reducible show wpAny _ _ (call (Value.ref 251) _ _) _ _ _); k_dflt (refine' Cut.uz (by k_asm) (by k_asm) (by k_asm) (by k_asm) sub_self (by k_asm) (by walk_at "R") (by ktr_room) (by ktr_units) (deref _ _ _ _ _ _ _ (by walk_at "M") (by k_mem) (by walk_at "M")) ?_; k_whole; intro x9z h9z tk9z p9z F9z N9z; (try dsimp only at N9z); walk_at "Z")) | (k_here; (with_reducible show wpAny _ _ (call (Value.ref 265) _ _) _ _ _); k_dflt (refine' bind_use (by k_asm) (by k_asm) (by k_asm) (by k_asm) (by k_asm) (by walk_at "R") (by k_updF) (by walk_at "M") (by k_mem) (by walk_at "N") (by walk_at "E") (by first | assumption | ((try simp only [List.length_append, List.length_cons, List.length_nil, List.length_set]); first | exact lenB (by assumption) rfl | exact lenA (by assumption) rfl | omega)) (by walk_at "E") (by ktr_room) (by ktr_units) ?_; k_whole; intro h9z tk9z F9z N9z; (try dsimp only at N9z); walk_at "Z")) | (k_here; (with_reducible show wpAny _ _ (call (Value.ref 230) _ _) _ _ _); k_dflt (refine' newvar_use (by k_asm) (by k_asm) (by k_asm) (by k_asm) (by k_asm) (by walk_at "R") (by k_updF) (by walk_at "M") (by walk_at "L") (by ktr_room) (by ktr_units) ?_; k_whole; intro x9z h9z tk9z p9z F9z N9z; (try dsimp only at N9z); (try k_lt p9z); walk_at "Z")) | (k_here; (with_reducible show wpAny _ _ (call (Value.ref 251) _ _) _ _ _); k_dflt (refine' Cut.uz (by k_asm) (by k_asm) (by k_asm) (by k_asm) sub_self (by k_asm) (by walk_at "R") (by ktr_room) (by ktr_units) (derefS (by walk_at "M") (by k_mem) (by walk_at "M") (by omega)) ?_; k_whole; intro x9z h9z tk9z p9z F9z N9z; (have pz9z := p9z); (first | (obtain ⟨pa9z, ⟨pb9z, pc9z, pd9z, pe9z⟩, pf9z⟩ := p9z; subst pa9z) | (first | (refine and4 p9z ?_; (try clear p9z); intro pa9z pb9z pc9z pd9z) | obtain ⟨pa9z, pb9z, pc9z, pd9z⟩ := p9z)); (try dsimp only at N9z); walk_at "Z")) | (k_here; (with_reducible show wpAny _ _ (call (Value.ref 699) _ _) _ _ _); k_dflt (refine' Cut.uz (by k_asm) (by k_asm) (by k_asm) (by k_asm) (by refine' Del.sub2 (by k_upd) (by k_upd)) (by k_asm) (by walk_at "R") (by ktr_room) (by ktr_units) (lcell _ _ _ _ _ _ _ _ _ _ _ _ _ _ _ _ (by walk_at "M") (by walk_at "A") (by walk_at "A") (by walk_at "N") (by walk_at "M") (by walk_at "N") (by walk_at "E") (by walk_at "L")) ?_; k_whole; intro x9z h9z tk9z p9z F9z N9z; ((first | (refine andNest p9z ?_; (try clear p9z); intro pa9z pb9z pc9z pd9z pe9z pf9z pg9z ph9z pi9z) | obtain ⟨⟨pa9z, pb9z, pc9z⟩, ⟨pd9z, pe9z, pf9z⟩, pg9z, ph9z, pi9z⟩ := p9z)); (replace pa9z := ltN pa9z); (replace pb9z := ltN pb9z); (replace pd9z := ltN pd9z); (replace pe9z := ltN pe9z); (try k_lt pc9z); (try k_lt pf9z); (try dsimp only at N9z); (try dsimp only); (try k_sweep); (try k_fold))) | (k_here; (with_reducible show wpAny _ _ (call (Value.ref 674) _ _) _ _ _); k_dflt (refine' Cut.uz (by k_asm) (by k_asm) (by k_asm) (by k_asm) sub_self (by k_asm) (by walk_at "R") (by ktr_room) (by ktr_units) (areas _ _ _ _) ?_; k_whole; intro x9z h9z tk9z p9z F9z N9z; ((first | (refine and7 p9z ?_; (try clear p9z); intro pz9z pa9z pb9z pc9z pd9z pe9z pf9z) | obtain ⟨pz9z, pa9z, pb9z, pc9z, pd9z, pe9z, pf9z⟩ := p9z)); (try k_lt pa9z); (replace pb9z := ltN pb9z); (replace pc9z := ltN pc9z); (replace pd9z := ltN pd9z); (replace pe9z := ltN pe9z); (replace pf9z := ltN pf9z); (try dsimp only at N9z); (try dsimp only); (try k_sweep); (try k_fold))) | (k_here; (with_reducible show wpAny _ _ (call (Value.ref 154) _ _) _ _ _); k_dflt (refine' Cut.uz (by k_asm) (by k_asm) (by k_asm) (by k_asm) sub_self (by k_asm) (by walk_at "R") (by ktr_room) (by ktr_units) (symbols _ _) ?_; k_whole; intro x9z h9z tk9z p9z F9z N9z; ((first | (refine and9 p9z ?_; (try clear p9z); intro pa9z pb9z pc9z pd9z pe9z pf9z pg9z ph9z pi9z) | obtain ⟨pa9z, pb9z, pc9z, pd9z, pe9z, pf9z, pg9z, ph9z, pi9z⟩ := p9z)); (try k_lt pa9z); (replace pb9z := ltN pb9z); (replace pc9z := ltN pc9z); (replace pd9z := ltN pd9z); (try dsimp only at N9z); (try dsimp only); (try k_sweep); (try k_fold))) | (k_here; (with_reducible show wpAny _ _ (call (Value.ref 692) _ _) _ _ _); k_dflt (refine' whole_use (by k_asm) (by k_asm) (by k_asm) (by k_asm) (by k_asm) (by walk_at "R") (by k_updF) (by walk_at "M") (by walk_at "N") (by walk_at "E") (by ktr_room) (by ktr_units) ?_; k_whole; intro x9z h9z tk9z p9z F9z N9z; ((first | (refine and2 p9z ?_; (try clear p9z); intro pa9z pc9z) | obtain ⟨pa9z, pc9z⟩ := p9z)); (try dsimp only at N9z); walk_at "Z")) | (k_here; (with_reducible show wpAny _ _ (call (Value.ref 685) _ _) _ _ _); k_dflt (refine' draw_use (by k_asm) (by k_asm) (by k_asm) (by k_asm) (by k_asm) (by walk_at "R") (by k_updF) (by walk_at "M") (by walk_at "N") (by walk_at "E") (by walk_at "E") (by walk_at "O") (by ktr_room) (by ktr_units) ?_; k_whole; intro x9z h9z tk9z p9z F9z N9z; ((first | (refine and3 p9z ?_; (try clear p9z); intro pa9z pb9z pc9z) | obtain ⟨pa9z, pb9z, pc9z⟩ := p9z)); (try dsimp only at N9z); walk_at "Z")) | (k_unfold; (try dsimp only); (try clear qkC)) | (k_end; wrow_close) | ((with_reducible show wpAny _ _ (execs (List.cons _ _) _) _ _ _); first | k_gentoks | (refine execs_consF ?_; intro qkC)) | walk1 | (dsimp only; walk1) | (leave1; try dsimp only) | fail "no step")
      all_goals (have F9z := True.intro; have N9z := True.intro; have h9z := True.intro; have p9z := True.intro; have pa9z := True.intro; have pb9z := True.intro; have pc9z := True.intro; have pd9z := True.intro; have pe9z := True.intro; have pf9z := True.intro; have pg9z := True.intro; have ph9z := True.intro; have pi9z := True.intro; have pz9z := True.intro; have tk9z := True.intro; have x9z := True.intro)
      rename_i D' h' F' N' l1
      exact ⟨_, _, lawL z x hs xs to st ce si n ((D', { cls := Value.type "tuple", data := Data.seq #[Value.int 5 442, Value.int (T i) tv] }) :: VS2), rfl, F', fun q hq => N' q (pE1 q hq),
        LCg.Off3.of fun p hp => (List.mem_cons.mp (pB1 p hp)).elim (fun e => e ▸ ⟨Nat.ne_of_gt l1.1, Nat.ne_of_gt l1.2.1, Nat.ne_of_gt l1.2.2.1⟩) (off.mem p), .inr ⟨_, .tail _ (.tail _ (.tail _ (.head _))), rfl, _, rfl⟩, _, rfl,
        LS2.add ⟨l1.2.2.2.1, l1.2.2.2.2.1, l1.2.2.2.2.2.1, l1.2.2.2.2.2.2.1, l1.2.2.2.2.2.2.2.1, l1.2.2.2.2.2.2.2.2.1, l1.2.2.2.2.2.2.2.2.2.1⟩, fun p hp => .tail _ (sub2 p hp), by rw [List.range_succ, List.map_append]; exact (hP2.mono (sub_tail sub_self)).snoc (.head _)⟩
  · rintro i ys nx hi ⟨rfl, hP⟩ v I oI C oC' D m₂ h tk E' hv hC hx' F9 N9 off ne
    rw [List.size_toArray, lCE] at hi
    obtain ⟨q, eq, hv0, _⟩ := R.ce i (by omega)
    obtain rfl : Value.ref q = v := by rw [List.getElem?_toArray] at hv; exact Option.some.inj (eq.symm.trans hv)
    dsimp only
    obtain ⟨r, ta, tb, kk, hDer, hmem⟩ := (hb i hi).der hv0 (by omega)
    (try (refine foldQ ?_; intro qkT5))
    repeat' (((fail_if_success (with_reducible show PyProof.Rows.LCg.CompSrc _ _ _ _ _ _ _ _ _ _ _ _ _ _)); (fail_if_success (with_reducible show PyProof.Rows.LCg.CompEnd _ _ _ _ _ _ _ _ _ _ _ _ _ _)); (fail_if_success (with_reducible show wpAny _ _ (exec (Stmt.For _ _ _ _ _) _) _ _ _)); (fail_if_success (with_reducible show wpAny _ _ (pyIter _) _ _ _)); (fail_if_success (with_reducible show wpAny _ _ (execs (List.cons _ _) _) _ _ _))); first | (k_here; (with_reducible show wpAny _ _ (call (Value.ref 251) _ _) _ _ _); k_dflt (refine' Cut.uz (by k_asm) (by k_asm) (by k_asm) (by k_asm) sub_self (by k_asm) (by walk_at "R") (by ktr_room) (by ktr_units) (deref _ _ _ _ _ _ _ (by walk_at "M") (by k_mem) (by walk_at "M")) ?_; k_whole; intro x9z h9z tk9z p9z F9z N9z; (try dsimp only at N9z); walk_at "Z")) | (k_here; (with_reducible show wpAny _ _ (call (Value.ref 265) _ _) _ _ _); k_dflt (refine' bind_use (by k_asm) (by k_asm) (by k_asm) (by k_asm) (by k_asm) (by walk_at "R") (by k_updF) (by walk_at "M") (by k_mem) (by walk_at "N") (by walk_at "E") (by first | assumption | ((try simp only [List.length_append, List.length_cons, List.length_nil, List.length_set]); first | exact lenB (by assumption) rfl | exact lenA (by assumption) rfl | omega)) (by walk_at "E") (by ktr_room) (by ktr_units) ?_; k_whole; intro h9z tk9z F9z N9z; (try dsimp only at N9z); walk_at "Z")) | (k_here; (with_reducible show wpAny _ _ (call (Value.ref 230) _ _) _ _ _); k_dflt (refine' newvar_use (by k_asm) (by k_asm) (by k_asm) (by k_asm) (by k_asm) (by walk_at "R") (by k_updF) (by walk_at "M") (by walk_at "L") (by ktr_room) (by ktr_units) ?_; k_whole; intro x9z h9z tk9z p9z F9z N9z; (try dsimp only at N9z); (try k_lt p9z); walk_at "Z")) | (k_here; (with_reducible show wpAny _ _ (call (Value.ref 251) _ _) _ _ _); k_dflt (refine' Cut.uz (by k_asm) (by k_asm) (by k_asm) (by k_asm) sub_self (by k_asm) (by walk_at "R") (by ktr_room) (by ktr_units) (derefS (by walk_at "M") (by k_mem) (by walk_at "M") (by omega)) ?_; k_whole; intro x9z h9z tk9z p9z F9z N9z; (have pz9z := p9z); (first | (obtain ⟨pa9z, ⟨pb9z, pc9z, pd9z, pe9z⟩, pf9z⟩ := p9z; subst pa9z) | (first | (refine and4 p9z ?_; (try clear p9z); intro pa9z pb9z pc9z pd9z) | obtain ⟨pa9z, pb9z, pc9z, pd9z⟩ := p9z)); (try dsimp only at N9z); walk_at "Z")) | (k_here; (with_reducible show wpAny _ _ (call (Value.ref 699) _ _) _ _ _); k_dflt (refine' Cut.uz (by k_asm) (by k_asm) (by k_asm) (by k_asm) (by refine' Del.sub2 (by k_upd) (by k_upd)) (by k_asm) (by walk_at "R") (by ktr_room) (by ktr_units) (lcell _ _ _ _ _ _ _ _ _ _ _ _ _ _ _ _ (by walk_at "M") (by walk_at "A") (by walk_at "A") (by walk_at "N") (by walk_at "M") (by walk_at "N") (by walk_at "E") (by walk_at "L")) ?_; k_whole; intro x9z h9z tk9z p9z F9z N9z; ((first | (refine andNest p9z ?_; (try clear p9z); intro pa9z pb9z pc9z pd9z pe9z pf9z pg9z ph9z pi9z) | obtain ⟨⟨pa9z, pb9z, pc9z⟩, ⟨pd9z, pe9z, pf9z⟩, pg9z, ph9z, pi9z⟩ := p9z)); (replace pa9z := ltN pa9z); (replace pb9z := ltN pb9z); (replace pd9z := ltN pd9z); (replace pe9z := ltN pe9z); (try k_lt pc9z); (try k_lt pf9z); (try dsimp only at N9z); (try dsimp only); (try k_sweep); (try k_fold))) | (k_here; (with_reducible show wpAny _ _ (call (Value.ref 674) _ _) _ _ _); k_dflt (refine' Cut.uz (by k_asm) (by k_asm) (by k_asm) (by k_asm) sub_self (by k_asm) (by walk_at "R") (by ktr_room) (by ktr_units) (areas _ _ _ _) ?_; k_whole; intro x9z h9z tk9z p9z F9z N9z; ((first | (refine and7 p9z ?_; (try clear p9z); intro pz9z pa9z pb9z pc9z pd9z pe9z pf9z) | obtain ⟨pz9z, pa9z, pb9z, pc9z, pd9z, pe9z, pf9z⟩ := p9z)); (try k_lt pa9z); (replace pb9z := ltN pb9z); (replace pc9z := ltN pc9z); (replace pd9z := ltN pd9z); (replace pe9z := ltN pe9z); (replace pf9z := ltN pf9z); (try dsimp only at N9z); (try dsimp only); (try k_sweep); (try k_fold))) | (k_here; (with_reducible show wpAny _ _ (call (Value.ref 154) _ _) _ _ _); k_dflt (refine' Cut.uz (by k_asm) (by k_asm) (by k_asm) (by k_asm) sub_self (by k_asm) (by walk_at "R") (by ktr_room) (by ktr_units) (symbols _ _) ?_; k_whole; intro x9z h9z tk9z p9z F9z N9z; ((first | (refine and9 p9z ?_; (try clear p9z); intro pa9z pb9z pc9z pd9z pe9z pf9z pg9z ph9z pi9z) | obtain ⟨pa9z, pb9z, pc9z, pd9z, pe9z, pf9z, pg9z, ph9z, pi9z⟩ := p9z)); (try k_lt pa9z); (replace pb9z := ltN pb9z); (replace pc9z := ltN pc9z); (replace pd9z := ltN pd9z); (try dsimp only at N9z); (try dsimp only); (try k_sweep); (try k_fold))) | (k_here; (with_reducible show wpAny _ _ (call (Value.ref 692) _ _) _ _ _); k_dflt (refine' whole_use (by k_asm) (by k_asm) (by k_asm) (by k_asm) (by k_asm) (by walk_at "R") (by k_updF) (by walk_at "M") (by walk_at "N") (by walk_at "E") (by ktr_room) (by ktr_units) ?_; k_whole; intro x9z h9z tk9z p9z F9z N9z; ((first | (refine and2 p9z ?_; (try clear p9z); intro pa9z pc9z) | obtain ⟨pa9z, pc9z⟩ := p9z)); (try dsimp only at N9z); walk_at "Z")) | (k_here; (with_reducible show wpAny _ _ (call (Value.ref 685) _ _) _ _ _); k_dflt (refine' draw_use (by k_asm) (by k_asm) (by k_asm) (by k_asm) (by k_asm) (by walk_at "R") (by k_updF) (by walk_at "M") (by walk_at "N") (by walk_at "E") (by walk_at "E") (by walk_at "O") (by ktr_room) (by ktr_units) ?_; k_whole; intro x9z h9z tk9z p9z F9z N9z; ((first | (refine and3 p9z ?_; (try clear p9z); intro pa9z pb9z pc9z) | obtain ⟨pa9z, pb9z, pc9z⟩ := p9z)); (try dsimp only at N9z); walk_at "Z")) | (k_unfold; (try dsimp only); (try clear qkC)) | (k_end; wrow_close) | ((with_reducible show wpAny _ _ (execs (List.cons _ _) _) _ _ _); first | k_gentoks | (refine execs_consF ?_; intro qkC)) | walk1 | (dsimp only; walk1) | (leave1; try dsimp only) | fail "no step")
    all_goals (have F9z := True.intro; have N9z := True.intro; have h9z := True.intro; have p9z := True.intro; have pa9z := True.intro; have pb9z := True.intro; have pc9z := True.intro; have pd9z := True.intro; have pe9z := True.intro; have pf9z := True.intro; have pg9z := True.intro; have ph9z := True.intro; have pi9z := True.intro; have pz9z := True.intro; have tk9z := True.intro; have x9z := True.intro)
    exact ⟨_, _, lawL z x hs xs to st ce si n VS, rfl, (by assumption), (by assumption), off, .inr ⟨_, .tail _ (.tail _ (.tail _ (.tail _ (.tail _ (.head _))))), rfl, _, rfl⟩, rfl, by rw [List.range_succ, List.map_append]; exact hP.snoc hmem⟩

theorem partE2 (w : World) (z : LD) (x : DrawD) (hs xs to st ce si : List Value) (n : LN) (VS : List (Addr × Obj)) (T S : Nat → Int) (SC cC cM : Addr) (k : Nat) (u KN pl tr fr to' : Option Value) (mean : ExcName → Option Value) (mg mb : Str → Option Value) (dp un : Nat) (gd : Option (List Code)) (a : Addr) (ccd : Value) (A₀ : Around) (base h₀ : Heap) (L : Addr) (s : Shared) (Q : Flow → Shared → Prop) (E : Value → Shared → Prop)
    (B : Below A₀ base [] h₀) (F : Fr h₀ L s.heap (mD z SC u KN pl tr fr to')) (XX : (Mine.K w.params).In h₀) (N : News h₀ L s.heap (lawL z x hs xs to st ce si n VS)) (TT : Top VW LO mean mg mb h₀) (hd : dp + 200 < recursionLimit) (hu : un + 8000 < cLine)
    (LS : LawS w z cC cM VS) (hk : k ≤ 6) (R : Row VS hs to st ce si k T S) (hb : ∀ i, i < k → Bnd VS hs (2 * i + 1) (S i))
    (cont : ∀ (VS' : List (Addr × Obj)) (h' : Heap) (tk' : Nat), LawS w z cC cM VS' → (∀ p ∈ VS, p ∈ VS') → Fr h₀ L h' (mD z SC u KN pl tr fr to') → News h₀ L h' (lawL z x hs xs to st ce si n VS') →
      wpAny (model PySem.Challenge.rw_sa0162_01.row.prog w) (lawTop dp un gd L a ccd cC cM) (execs (c55b.drop 14) (lawEnv L a ccd cC cM)) Q E { s with heap := h', toks := tk' }) :
    wpAny (model PySem.Challenge.rw_sa0162_01.row.prog w) (lawTop dp un gd L a ccd cC cM) (execs (c55b.drop 13) (lawEnv L a ccd cC cM)) Q E s := by
  revert XX; k_fill; intro XX
  have o1 := ltN LS.o1; have o2 := ltN LS.o2; have o3 := ltN LS.o3; have o4 := ltN LS.o4; have o5 := ltN LS.o5; have o6 := ltN LS.o6
  have a1 := LS.a1; have a2 := LS.a2; have a3 := LS.a3; have a4 := LS.a4; have a5 := LS.a5; have a6 := LS.a6; have a7 := LS.a7
  have hPool := LS.pool; have hSP := LS.nSP; have hMach := LS.mach
  have m1 := hMach.x; have m2 := hMach.xd; have m3 := hMach.m; have m4 := hMach.md
  obtain ⟨oM, cm, cmd⟩ := LS.cm
  obtain ⟨oC, cc, ccd'⟩ := LS.cc
  have lH := R.lH; have lTO := R.lTO; have lST := R.lST; have lCE := R.lCE; have lSI := R.lSI
  have nXP := neN LS.nSP

  iterate 2 ((((fail_if_success (with_reducible show PyProof.Rows.LCg.CompSrc _ _ _ _ _ _ _ _ _ _ _ _ _ _)); (fail_if_success (with_reducible show PyProof.Rows.LCg.CompEnd _ _ _ _ _ _ _ _ _ _ _ _ _ _)); (fail_if_success (with_reducible show wpAny _ _ (exec (Stmt.For _ _ _ _ _) _) _ _ _)); (fail_if_success (with_reducible show wpAny _ _ (pyIter _) _ _ _))); first | (k_here; (with_reducible show wpAny _ _ (call (Value.ref 251) _ _) _ _ _); k_dflt (refine' Cut.uz (by k_asm) (by k_asm) (by k_asm) (by k_asm) sub_self (by k_asm) (by walk_at "R") (by ktr_room) (by ktr_units) (deref _ _ _ _ _ _ _ (by walk_at "M") (by k_mem) (by walk_at "M")) ?_; k_whole; intro x9z h9z tk9z p9z F9z N9z; (try dsimp only at N9z); walk_at "Z")) | (k_here; (with_reducible show wpAny _ _ (call (Value.ref 265) _ _) _ _ _); k_dflt (refine' bind_use (by k_asm) (by k_asm) (by k_asm) (by k_asm) (by k_asm) (by walk_at "R") (by k_updF) (by walk_at "M") (by k_mem) (by walk_at "N") (by walk_at "E") (by first | assumption | ((try simp only [List.length_append, List.length_cons, List.length_nil, List.length_set]); first | exact lenB (by assumption) rfl | exact lenA (by assumption) rfl | omega)) (by walk_at "E") (by ktr_room) (by ktr_units) ?_; k_whole; intro h9z tk9z F9z N9z; (try dsimp only at N9z); walk_at "Z")) | (k_here; (with_reducible show wpAny _ _ (call (Value.ref 230) _ _) _ _ _); k_dflt (refine' newvar_use (by k_asm) (by k_asm) (by k_asm) (by k_asm) (by k_asm) (by walk_at "R") (by k_updF) (by walk_at "M") (by walk_at "L") (by ktr_room) (by ktr_units) ?_; k_whole; intro x9z h9z tk9z p9z F9z N9z; (try dsimp only at N9z); (try k_lt p9z); walk_at "Z")) | (k_here; (with_reducible show wpAny _ _ (call (Value.ref 251) _ _) _ _ _); k_dflt (refine' Cut.uz (by k_asm) (by k_asm) (by k_asm) (by k_asm) sub_self (by k_asm) (by walk_at "R") (by ktr_room) (by ktr_units) (derefS (by walk_at "M") (by k_mem) (by walk_at "M") (by omega)) ?_; k_whole; intro x9z h9z tk9z p9z F9z N9z; (have pz9z := p9z); (first | (obtain ⟨pa9z, ⟨pb9z, pc9z, pd9z, pe9z⟩, pf9z⟩ := p9z; subst pa9z) | (first | (refine and4 p9z ?_; (try clear p9z); intro pa9z pb9z pc9z pd9z) | obtain ⟨pa9z, pb9z, pc9z, pd9z⟩ := p9z)); (try dsimp only at N9z); walk_at "Z")) | (k_here; (with_reducible show wpAny _ _ (call (Value.ref 699) _ _) _ _ _); k_dflt (refine' Cut.uz (by k_asm) (by k_asm) (by k_asm) (by k_asm) (by refine' Del.sub2 (by k_upd) (by k_upd)) (by k_asm) (by walk_at "R") (by ktr_room) (by ktr_units) (lcell _ _ _ _ _ _ _ _ _ _ _ _ _ _ _ _ (by walk_at "M") (by walk_at "A") (by walk_at "A") (by walk_at "N") (by walk_at "M") (by walk_at "N") (by walk_at "E") (by walk_at "L")) ?_; k_whole; intro x9z h9z tk9z p9z F9z N9z; ((first | (refine andNest p9z ?_; (try clear p9z); intro pa9z pb9z pc9z pd9z pe9z pf9z pg9z ph9z pi9z) | obtain ⟨⟨pa9z, pb9z, pc9z⟩, ⟨pd9z, pe9z, pf9z⟩, pg9z, ph9z, pi9z⟩ := p9z)); (replace pa9z := ltN pa9z); (replace pb9z := ltN pb9z); (replace pd9z := ltN pd9z); (replace pe9z := ltN pe9z); (try k_lt pc9z); (try k_lt pf9z); (try dsimp only at N9z); (try dsimp only); (try k_sweep); (try k_fold))) | (k_here; (with_reducible show wpAny _ _ (call (Value.ref 674) _ _) _ _ _); k_dflt (refine' Cut.uz (by k_asm) (by k_asm) (by k_asm) (by k_asm) sub_self (by k_asm) (by walk_at "R") (by ktr_room) (by ktr_units) (areas _ _ _ _) ?_; k_whole; intro x9z h9z tk9z p9z F9z N9z; ((first | (refine and7 p9z ?_; (try clear p9z); intro pz9z pa9z pb9z pc9z pd9z pe9z pf9z) | obtain ⟨pz9z, pa9z, pb9z, pc9z, pd9z, pe9z, pf9z⟩ := p9z)); (try k_lt pa9z); (replace pb9z := ltN pb9z); (replace pc9z := ltN pc9z); (replace pd9z := ltN pd9z); (replace pe9z := ltN pe9z); (replace pf9z := ltN pf9z); (try dsimp only at N9z); (try dsimp only); (try k_sweep); (try k_fold))) | (k_here; (with_reducible show wpAny _ _ (call (Value.ref 154) _ _) _ _ _); k_dflt (refine' Cut.uz (by k_asm) (by k_asm) (by k_asm) (by k_asm) sub_self (by k_asm) (by walk_at "R") (by ktr_room) (by ktr_units) (symbols _ _) ?_; k_whole; intro x9z h9z tk9z p9z F9z N9z; ((first | (refine and9 p9z ?_; (try clear p9z); intro pa9z pb9z pc9z pd9z pe9z pf9z pg9z ph9z pi9z) | obtain ⟨pa9z, pb9z, pc9z, pd9z, pe9z, pf9z, pg9z, ph9z, pi9z⟩ := p9z)); (try k_lt pa9z); (replace pb9z := ltN pb9z); (replace pc9z := ltN pc9z); (replace pd9z := ltN pd9z); (try dsimp only at N9z); (try dsimp only); (try k_sweep); (try k_fold))) | (k_here; (with_reducible show wpAny _ _ (call (Value.ref 692) _ _) _ _ _); k_dflt (refine' whole_use (by k_asm) (by k_asm) (by k_asm) (by k_asm) (by k_asm) (by walk_at "R") (by k_updF) (by walk_at "M") (by walk_at "N") (by walk_at "E") (by ktr_room) (by ktr_units) ?_; k_whole; intro x9z h9z tk9z p9z F9z N9z; ((first | (refine and2 p9z ?_; (try clear p9z); intro pa9z pc9z) | obtain ⟨pa9z, pc9z⟩ := p9z)); (try dsimp only at N9z); walk_at "Z")) | (k_here; (with_reducible show wpAny _ _ (call (Value.ref 685) _ _) _ _ _); k_dflt (refine' draw_use (by k_asm) (by k_asm) (by k_asm) (by k_asm) (by k_asm) (by walk_at "R") (by k_updF) (by walk_at "M") (by walk_at "N") (by walk_at "E") (by walk_at "E") (by walk_at "O") (by ktr_room) (by ktr_units) ?_; k_whole; intro x9z h9z tk9z p9z F9z N9z; ((first | (refine and3 p9z ?_; (try clear p9z); intro pa9z pb9z pc9z) | obtain ⟨pa9z, pb9z, pc9z⟩ := p9z)); (try dsimp only at N9z); walk_at "Z")) | (k_unfold; (try dsimp only); (try clear qkC)) | (k_end; wrow_close) | ((with_reducible show wpAny _ _ (execs (List.cons _ _) _) _ _ _); first | k_gentoks | (refine execs_consF ?_; intro qkC)) | walk1 | (dsimp only; walk1) | (leave1; try dsimp only) | fail "no step"))
  all_goals (have F9z := True.intro; have N9z := True.intro; have h9z := True.intro; have p9z := True.intro; have pa9z := True.intro; have pb9z := True.intro; have pc9z := True.intro; have pd9z := True.intro; have pe9z := True.intro; have pf9z := True.intro; have pg9z := True.intro; have ph9z := True.intro; have pi9z := True.intro; have pz9z := True.intro; have tk9z := True.intro; have x9z := True.intro)
  (try (refine foldAE ?_; intro envT AT))
  repeat' (((fail_if_success (with_reducible show PyProof.Rows.LCg.CompSrc _ _ _ _ _ _ _ _ _ _ _ _ _ _)); (fail_if_success (with_reducible show PyProof.Rows.LCg.CompEnd _ _ _ _ _ _ _ _ _ _ _ _ _ _)); (fail_if_success (with_reducible show wpAny _ _ (exec (Stmt.For _ _ _ _ _) _) _ _ _)); (fail_if_success (with_reducible show wpAny _ _ (pyIter _) _ _ _)); (fail_if_success (with_reducible show wpAny _ _ (execs (List.cons _ _) _) _ _ _))); first | (k_here; (with_reducible show wpAny _ _ (call (Value.ref 251) _ _) _ _ _); k_dflt (refine' Cut.uz (by k_asm) (by k_asm) (by k_asm) (by k_asm) sub_self (by k_asm) (by walk_at "R") (by ktr_room) (by ktr_units) (deref _ _ _ _ _ _ _ (by walk_at "M") (by k_mem) (by walk_at "M")) ?_; k_whole; intro x9z h9z tk9z p9z F9z N9z; (try dsimp only at N9z); walk_at "Z")) | (k_here; (with_reducible show wpAny _ _ (call (Value.ref 265) _ _) _ _ _); k_dflt (refine' bind_use (by k_asm) (by k_asm) (by k_asm) (by k_asm) (by k_asm) (by walk_at "R") (by k_updF) (by walk_at "M") (by k_mem) (by walk_at "N") (by walk_at "E") (by first | assumption | ((try simp only [List.length_append, List.length_cons, List.length_nil, List.length_set]); first | exact lenB (by assumption) rfl | exact lenA (by assumption) rfl | omega)) (by walk_at "E") (by ktr_room) (by ktr_units) ?_; k_whole; intro h9z tk9z F9z N9z; (try dsimp only at N9z); walk_at "Z")) | (k_here; (with_reducible show wpAny _ _ (call (Value.ref 230) _ _) _ _ _); k_dflt (refine' newvar_use (by k_asm) (by k_asm) (by k_asm) (by k_asm) (by k_asm) (by walk_at "R") (by k_updF) (by walk_at "M") (by walk_at "L") (by ktr_room) (by ktr_units) ?_; k_whole; intro x9z h9z tk9z p9z F9z N9z; (try dsimp only at N9z); (try k_lt p9z); walk_at "Z")) | (k_here; (with_reducible show wpAny _ _ (call (Value.ref 251) _ _) _ _ _); k_dflt (refine' Cut.uz (by k_asm) (by k_asm) (by k_asm) (by k_asm) sub_self (by k_asm) (by walk_at "R") (by ktr_room) (by ktr_units) (derefS (by walk_at "M") (by k_mem) (by walk_at "M") (by omega)) ?_; k_whole; intro x9z h9z tk9z p9z F9z N9z; (have pz9z := p9z); (first | (obtain ⟨pa9z, ⟨pb9z, pc9z, pd9z, pe9z⟩, pf9z⟩ := p9z; subst pa9z) | (first | (refine and4 p9z ?_; (try clear p9z); intro pa9z pb9z pc9z pd9z) | obtain ⟨pa9z, pb9z, pc9z, pd9z⟩ := p9z)); (try dsimp only at N9z); walk_at "Z")) | (k_here; (with_reducible show wpAny _ _ (call (Value.ref 699) _ _) _ _ _); k_dflt (refine' Cut.uz (by k_asm) (by k_asm) (by k_asm) (by k_asm) (by refine' Del.sub2 (by k_upd) (by k_upd)) (by k_asm) (by walk_at "R") (by ktr_room) (by ktr_units) (lcell _ _ _ _ _ _ _ _ _ _ _ _ _ _ _ _ (by walk_at "M") (by walk_at "A") (by walk_at "A") (by walk_at "N") (by walk_at "M") (by walk_at "N") (by walk_at "E") (by walk_at "L")) ?_; k_whole; intro x9z h9z tk9z p9z F9z N9z; ((first | (refine andNest p9z ?_; (try clear p9z); intro pa9z pb9z pc9z pd9z pe9z pf9z pg9z ph9z pi9z) | obtain ⟨⟨pa9z, pb9z, pc9z⟩, ⟨pd9z, pe9z, pf9z⟩, pg9z, ph9z, pi9z⟩ := p9z)); (replace pa9z := ltN pa9z); (replace pb9z := ltN pb9z); (replace pd9z := ltN pd9z); (replace pe9z := ltN pe9z); (try k_lt pc9z); (try k_lt pf9z); (try dsimp only at N9z); (try dsimp only); (try k_sweep); (try k_fold))) | (k_here; (with_reducible show wpAny _ _ (call (Value.ref 674) _ _) _ _ _); k_dflt (refine' Cut.uz (by k_asm) (by k_asm) (by k_asm) (by k_asm) sub_self (by k_asm) (by walk_at "R") (by ktr_room) (by ktr_units) (areas _ _ _ _) ?_; k_whole; intro x9z h9z tk9z p9z F9z N9z; ((first | (refine and7 p9z ?_; (try clear p9z); intro pz9z pa9z pb9z pc9z pd9z pe9z pf9z) | obtain ⟨pz9z, pa9z, pb9z, pc9z, pd9z, pe9z, pf9z⟩ := p9z)); (try k_lt pa9z); (replace pb9z := ltN pb9z); (replace pc9z := ltN pc9z); (replace pd9z := ltN pd9z); (replace pe9z := ltN pe9z); (replace pf9z := ltN pf9z); (try dsimp only at N9z); (try dsimp only); (try k_sweep); (try k_fold))) | (k_here; (with_reducible show wpAny _ _ (call (Value.ref 154) _ _) _ _ _); k_dflt (refine' Cut.uz (by k_asm) (by k_asm) (by k_asm) (by k_asm) sub_self (by k_asm) (by walk_at "R") (by ktr_room) (by ktr_units) (symbols _ _) ?_; k_whole; intro x9z h9z tk9z p9z F9z N9z; ((first | (refine and9 p9z ?_; (try clear p9z); intro pa9z pb9z pc9z pd9z pe9z pf9z pg9z ph9z pi9z) | obtain ⟨pa9z, pb9z, pc9z, pd9z, pe9z, pf9z, pg9z, ph9z, pi9z⟩ := p9z)); (try k_lt pa9z); (replace pb9z := ltN pb9z); (replace pc9z := ltN pc9z); (replace pd9z := ltN pd9z); (try dsimp only at N9z); (try dsimp only); (try k_sweep); (try k_fold))) | (k_here; (with_reducible show wpAny _ _ (call (Value.ref 692) _ _) _ _ _); k_dflt (refine' whole_use (by k_asm) (by k_asm) (by k_asm) (by k_asm) (by k_asm) (by walk_at "R") (by k_updF) (by walk_at "M") (by walk_at "N") (by walk_at "E") (by ktr_room) (by ktr_units) ?_; k_whole; intro x9z h9z tk9z p9z F9z N9z; ((first | (refine and2 p9z ?_; (try clear p9z); intro pa9z pc9z) | obtain ⟨pa9z, pc9z⟩ := p9z)); (try dsimp only at N9z); walk_at "Z")) | (k_here; (with_reducible show wpAny _ _ (call (Value.ref 685) _ _) _ _ _); k_dflt (refine' draw_use (by k_asm) (by k_asm) (by k_asm) (by k_asm) (by k_asm) (by walk_at "R") (by k_updF) (by walk_at "M") (by walk_at "N") (by walk_at "E") (by walk_at "E") (by walk_at "O") (by ktr_room) (by ktr_units) ?_; k_whole; intro x9z h9z tk9z p9z F9z N9z; ((first | (refine and3 p9z ?_; (try clear p9z); intro pa9z pb9z pc9z) | obtain ⟨pa9z, pb9z, pc9z⟩ := p9z)); (try dsimp only at N9z); walk_at "Z")) | (k_unfold; (try dsimp only); (try clear qkC)) | (k_end; wrow_close) | ((with_reducible show wpAny _ _ (execs (List.cons _ _) _) _ _ _); first | k_gentoks | (refine execs_consF ?_; intro qkC)) | walk1 | (dsimp only; walk1) | (leave1; try dsimp only) | fail "no step")
  all_goals (have F9z := True.intro; have N9z := True.intro; have h9z := True.intro; have p9z := True.intro; have pa9z := True.intro; have pb9z := True.intro; have pc9z := True.intro; have pd9z := True.intro; have pe9z := True.intro; have pf9z := True.intro; have pg9z := True.intro; have ph9z := True.intro; have pi9z := True.intro; have pz9z := True.intro; have tk9z := True.intro; have x9z := True.intro)
  refine LCg.CompSrc.ledger (news := lawL z x hs xs to st ce si n VS) rfl (by assumption) (by assumption) (.tail _ (.tail _ (.tail _ (.tail _ (.tail _ (.tail _ (.head _))))))) (show si.toArray.size ≤ sizeLine by rw [List.size_toArray]; exact Nat.le_trans (show si.length ≤ 10 by omega) (by decide)) ?_
  intro g
  refine restU_ind (fun i ys nx => nx = lawL z x hs xs to st ce si n VS ∧ PairsAre VS ys ((List.range i).map S)) ⟨rfl, .nil⟩ ?_ ?_
  · rintro ys nx ⟨rfl, hP⟩ D h tk F N off
    simp only [LCg.Off1] at off
    (first | (refine and8 off ?_; (try clear off); intro f1 f2 f3 f4 f5 f6 f7 f8) | obtain ⟨f1, f2, f3, f4, f5, f6, f7, f8⟩ := off)
    have LS1 := LS.put (p := (D, LCg.lst ys)) ⟨Ne.symm f1, Ne.symm f2, Ne.symm f3, Ne.symm f4, Ne.symm f5, Ne.symm f6, Ne.symm f7⟩
    have N1 : News h₀ L h (lawL z x hs xs to st ce si n ((D, LCg.lst ys) :: VS)) := fun q hq => N q (pB1 q hq)
    have hD : (D, LCg.lst ys) ∈ (D, LCg.lst ys) :: VS := .head _
    have sub1 : ∀ q ∈ VS, q ∈ (D, LCg.lst ys) :: VS := sub_tail sub_self
    rw [List.size_toArray, lSI] at hP
    have hP1 := hP.mono sub1
    clear N hP cm cc m1 m2 m3 m4 hMach hPool a1 a2 a3 a4 a5 a6 a7 f1 f2 f3 f4 f5 f6 f7 f8
    revert LS1 N1 hD sub1 hP1
    generalize (D, LCg.lst ys) :: VS = VS1
    intro LS1 N1 hD sub1 hP1
    dsimp only
    (try (refine foldQ ?_; intro qkT7))
    repeat' (((fail_if_success (with_reducible show PyProof.Rows.LCg.CompSrc _ _ _ _ _ _ _ _ _ _ _ _ _ _)); (fail_if_success (with_reducible show PyProof.Rows.LCg.CompEnd _ _ _ _ _ _ _ _ _ _ _ _ _ _)); (fail_if_success (with_reducible show wpAny _ _ (exec (Stmt.For _ _ _ _ _) _) _ _ _)); (fail_if_success (with_reducible show wpAny _ _ (pyIter _) _ _ _)); (fail_if_success (with_reducible show wpAny _ _ (execs (List.cons _ _) _) _ _ _))); first | (k_here; (with_reducible show wpAny _ _ (call (Value.ref 251) _ _) _ _ _); k_dflt (refine' Cut.uz (by k_asm) (by k_asm) (by k_asm) (by k_asm) sub_self (by k_asm) (by walk_at "R") (by ktr_room) (by ktr_units) (deref _ _ _ _ _ _ _ (by walk_at "M") (by k_mem) (by walk_at "M")) ?_; k_whole; intro x9z h9z tk9z p9z F9z N9z; (try dsimp only at N9z); walk_at "Z")) | (k_here; (with_reducible show wpAny _ _ (call (Value.ref 265) _ _) _ _ _); k_dflt (refine' bind_use (by k_asm) (by k_asm) (by k_asm) (by k_asm) (by k_asm) (by walk_at "R") (by k_updF) (by walk_at "M") (by k_mem) (by walk_at "N") (by walk_at "E") (by first | assumption | ((try simp only [List.length_append, List.length_cons, List.length_nil, List.length_set]); first | exact lenB (by assumption) rfl | exact lenA (by assumption) rfl | omega)) (by walk_at "E") (by ktr_room) (by ktr_units) ?_; k_whole; intro h9z tk9z F9z N9z; (try dsimp only at N9z); walk_at "Z")) | (k_here; (with_reducible show wpAny _ _ (call (Value.ref 230) _ _) _ _ _); k_dflt (refine' newvar_use (by k_asm) (by k_asm) (by k_asm) (by k_asm) (by k_asm) (by walk_at "R") (by k_updF) (by walk_at "M") (by walk_at "L") (by ktr_room) (by ktr_units) ?_; k_whole; intro x9z h9z tk9z p9z F9z N9z; (try dsimp only at N9z); (try k_lt p9z); walk_at "Z")) | (k_here; (with_reducible show wpAny _ _ (call (Value.ref 251) _ _) _ _ _); k_dflt (refine' Cut.uz (by k_asm) (by k_asm) (by k_asm) (by k_asm) sub_self (by k_asm) (by walk_at "R") (by ktr_room) (by ktr_units) (derefS (by walk_at "M") (by k_mem) (by walk_at "M") (by omega)) ?_; k_whole; intro x9z h9z tk9z p9z F9z N9z; (have pz9z := p9z); (first | (obtain ⟨pa9z, ⟨pb9z, pc9z, pd9z, pe9z⟩, pf9z⟩ := p9z; subst pa9z) | (first | (refine and4 p9z ?_; (try clear p9z); intro pa9z pb9z pc9z pd9z) | obtain ⟨pa9z, pb9z, pc9z, pd9z⟩ := p9z)); (try dsimp only at N9z); walk_at "Z")) | (k_here; (with_reducible show wpAny _ _ (call (Value.ref 699) _ _) _ _ _); k_dflt (refine' Cut.uz (by k_asm) (by k_asm) (by k_asm) (by k_asm) (by refine' Del.sub2 (by k_upd) (by k_upd)) (by k_asm) (by walk_at "R") (by ktr_room) (by ktr_units) (lcell _ _ _ _ _ _ _ _ _ _ _ _ _ _ _ _ (by walk_at "M") (by walk_at "A") (by walk_at "A") (by walk_at "N") (by walk_at "M") (by walk_at "N") (by walk_at "E") (by walk_at "L")) ?_; k_whole; intro x9z h9z tk9z p9z F9z N9z; ((first | (refine andNest p9z ?_; (try clear p9z); intro pa9z pb9z pc9z pd9z pe9z pf9z pg9z ph9z pi9z) | obtain ⟨⟨pa9z, pb9z, pc9z⟩, ⟨pd9z, pe9z, pf9z⟩, pg9z, ph9z, pi9z⟩ := p9z)); (replace pa9z := ltN pa9z); (replace pb9z := ltN pb9z); (replace pd9z := ltN pd9z); (replace pe9z := ltN pe9z); (try k_lt pc9z); (try k_lt pf9z); (try dsimp only at N9z); (try dsimp only); (try k_sweep); (try k_fold))) | (k_here; (with_reducible show wpAny _ _ (call (Value.ref 674) _ _) _ _ _); k_dflt (refine' Cut.uz (by k_asm) (by k_asm) (by k_asm) (by k_asm) sub_self (by k_asm) (by walk_at "R") (by ktr_room) (by ktr_units) (areas _ _ _ _) ?_; k_whole; intro x9z h9z tk9z p9z F9z N9z; ((first | (refine and7 p9z ?_; (try clear p9z); intro pz9z pa9z pb9z pc9z pd9z pe9z pf9z) | obtain ⟨pz9z, pa9z, pb9z, pc9z, pd9z, pe9z, pf9z⟩ := p9z)); (try k_lt pa9z); (replace pb9z := ltN pb9z); (replace pc9z := ltN pc9z); (replace pd9z := ltN pd9z); (replace pe9z := ltN pe9z); (replace pf9z := ltN pf9z); (try dsimp only at N9z); (try dsimp only); (try k_sweep); (try k_fold))) | (k_here; (with_reducible show wpAny _ _ (call (Value.ref 154) _ _) _ _ _); k_dflt (refine' Cut.uz (by k_asm) (by k_asm) (by k_asm) (by k_asm) sub_self (by k_asm) (by walk_at "R") (by ktr_room) (by ktr_units) (symbols _ _) ?_; k_whole; intro x9z h9z tk9z p9z F9z N9z; ((first | (refine and9 p9z ?_; (try clear p9z); intro pa9z pb9z pc9z pd9z pe9z pf9z pg9z ph9z pi9z) | obtain ⟨pa9z, pb9z, pc9z, pd9z, pe9z, pf9z, pg9z, ph9z, pi9z⟩ := p9z)); (try k_lt pa9z); (replace pb9z := ltN pb9z); (replace pc9z := ltN pc9z); (replace pd9z := ltN pd9z); (try dsimp only at N9z); (try dsimp only); (try k_sweep); (try k_fold))) | (k_here; (with_reducible show wpAny _ _ (call (Value.ref 692) _ _) _ _ _); k_dflt (refine' whole_use (by k_asm) (by k_asm) (by k_asm) (by k_asm) (by k_asm) (by walk_at "R") (by k_updF) (by walk_at "M") (by walk_at "N") (by walk_at "E") (by ktr_room) (by ktr_units) ?_; k_whole; intro x9z h9z tk9z p9z F9z N9z; ((first | (refine and2 p9z ?_; (try clear p9z); intro pa9z pc9z) | obtain ⟨pa9z, pc9z⟩ := p9z)); (try dsimp only at N9z); walk_at "Z")) | (k_here; (with_reducible show wpAny _ _ (call (Value.ref 685) _ _) _ _ _); k_dflt (refine' draw_use (by k_asm) (by k_asm) (by k_asm) (by k_asm) (by k_asm) (by walk_at "R") (by k_updF) (by walk_at "M") (by walk_at "N") (by walk_at "E") (by walk_at "E") (by walk_at "O") (by ktr_room) (by ktr_units) ?_; k_whole; intro x9z h9z tk9z p9z F9z N9z; ((first | (refine and3 p9z ?_; (try clear p9z); intro pa9z pb9z pc9z) | obtain ⟨pa9z, pb9z, pc9z⟩ := p9z)); (try dsimp only at N9z); walk_at "Z")) | (k_unfold; (try dsimp only); (try clear qkC)) | (k_end; wrow_close) | ((with_reducible show wpAny _ _ (execs (List.cons _ _) _) _ _ _); first | k_gentoks | (refine execs_consF ?_; intro qkC)) | walk1 | (dsimp only; walk1) | (leave1; try dsimp only) | fail "no step")
    all_goals (have F9z := True.intro; have N9z := True.intro; have h9z := True.intro; have p9z := True.intro; have pa9z := True.intro; have pb9z := True.intro; have pc9z := True.intro; have pd9z := True.intro; have pe9z := True.intro; have pf9z := True.intro; have pg9z := True.intro; have ph9z := True.intro; have pi9z := True.intro; have pz9z := True.intro; have tk9z := True.intro; have x9z := True.intro)
    refine LCg.CompSrc.ledger (news := lawL z x hs xs to st ce si n VS1) rfl (by assumption) (by assumption) (.tail _ (.tail _ (.tail _ (.tail _ (.head _))))) (show st.toArray.size ≤ sizeLine by rw [List.size_toArray]; exact Nat.le_trans (show st.length ≤ 10 by omega) (by decide)) ?_
    intro g2
    refine restU_ind (fun i ys nx => ∃ VS', nx = lawL z x hs xs to st ce si n VS' ∧ LawS w z cC cM VS' ∧ (∀ p ∈ VS1, p ∈ VS') ∧ PairsAre VS' ys ((List.range i).map S)) ⟨VS1, rfl, LS1, sub_self, .nil⟩ ?_ ?_
    · rintro ys2 nx ⟨VS2, rfl, LS2, sub2, hP2⟩ D2 h2 tk2 F2 N2 off
      have hD2 := sub2 _ hD
      rw [List.size_toArray, lST] at hP2
      simp only [LCg.Off1] at off
      (first | (refine and8 off ?_; (try clear off); intro f1 f2 f3 f4 f5 f6 f7 f8) | obtain ⟨f1, f2, f3, f4, f5, f6, f7, f8⟩ := off)
      have LS3 := LS2.put (p := (D2, LCg.lst ys2)) ⟨Ne.symm f1, Ne.symm f2, Ne.symm f3, Ne.symm f4, Ne.symm f5, Ne.symm f6, Ne.symm f7⟩
      have N3 : News h₀ L h2 (lawL z x hs xs to st ce si n ((D2, LCg.lst ys2) :: VS2)) := fun q hq => N2 q (pB1 q hq)
      dsimp only
      (k_here; refine pairs_ne (k := ys.length) (l := ys2.length) N2 (.tail _ (.tail _ (.tail _ (.tail _ (.tail _ (.tail _ (.tail _ (.tail _ hD2)))))))) (.head _) (hP1.mono fun p hp => .tail _ (.tail _ (.tail _ (.tail _ (.tail _ (.tail _ (.tail _ (.tail _ (sub2 p hp))))))))) (hP2.mono fun p hp => .tail _ (.tail _ (.tail _ (.tail _ (.tail _ (.tail _ (.tail _ (.tail _ hp)))))))) (by ktr_units) ?_)
      (try (refine foldQ ?_; intro qkT8))
      repeat' (((fail_if_success (with_reducible show PyProof.Rows.LCg.CompSrc _ _ _ _ _ _ _ _ _ _ _ _ _ _)); (fail_if_success (with_reducible show PyProof.Rows.LCg.CompEnd _ _ _ _ _ _ _ _ _ _ _ _ _ _)); (fail_if_success (with_reducible show wpAny _ _ (exec (Stmt.For _ _ _ _ _) _) _ _ _)); (fail_if_success (with_reducible show wpAny _ _ (pyIter _) _ _ _)); (fail_if_success (with_reducible show wpAny _ _ (execs (List.cons _ _) _) _ _ _))); first | (k_here; (with_reducible show wpAny _ _ (call (Value.ref 251) _ _) _ _ _); k_dflt (refine' Cut.uz (by k_asm) (by k_asm) (by k_asm) (by k_asm) sub_self (by k_asm) (by walk_at "R") (by ktr_room) (by ktr_units) (deref _ _ _ _ _ _ _ (by walk_at "M") (by k_mem) (by walk_at "M")) ?_; k_whole; intro x9z h9z tk9z p9z F9z N9z; (try dsimp only at N9z); walk_at "Z")) | (k_here; (with_reducible show wpAny _ _ (call (Value.ref 265) _ _) _ _ _); k_dflt (refine' bind_use (by k_asm) (by k_asm) (by k_asm) (by k_asm) (by k_asm) (by walk_at "R") (by k_updF) (by walk_at "M") (by k_mem) (by walk_at "N") (by walk_at "E") (by first | assumption | ((try simp only [List.length_append, List.length_cons, List.length_nil, List.length_set]); first | exact lenB (by assumption) rfl | exact lenA (by assumption) rfl | omega)) (by walk_at "E") (by ktr_room) (by ktr_units) ?_; k_whole; intro h9z tk9z F9z N9z; (try dsimp only at N9z); walk_at "Z")) | (k_here; (with_reducible show wpAny _ _ (call (Value.ref 230) _ _) _ _ _); k_dflt (refine' newvar_use (by k_asm) (by k_asm) (by k_asm) (by k_asm) (by k_asm) (by walk_at "R") (by k_updF) (by walk_at "M") (by walk_at "L") (by ktr_room) (by ktr_units) ?_; k_whole; intro x9z h9z tk9z p9z F9z N9z; (try dsimp only at N9z); (try k_lt p9z); walk_at "Z")) | (k_here; (with_reducible show wpAny _ _ (call (Value.ref 251) _ _) _ _ _); k_dflt (refine' Cut.uz (by k_asm) (by k_asm) (by k_asm) (by k_asm) sub_self (by k_asm) (by walk_at "R") (by ktr_room) (by ktr_units) (derefS (by walk_at "M") (by k_mem) (by walk_at "M") (by omega)) ?_; k_whole; intro x9z h9z tk9z p9z F9z N9z; (have pz9z := p9z); (first | (obtain ⟨pa9z, ⟨pb9z, pc9z, pd9z, pe9z⟩, pf9z⟩ := p9z; subst pa9z) | (first | (refine and4 p9z ?_; (try clear p9z); intro pa9z pb9z pc9z pd9z) | obtain ⟨pa9z, pb9z, pc9z, pd9z⟩ := p9z)); (try dsimp only at N9z); walk_at "Z")) | (k_here; (with_reducible show wpAny _ _ (call (Value.ref 699) _ _) _ _ _); k_dflt (refine' Cut.uz (by k_asm) (by k_asm) (by k_asm) (by k_asm) (by refine' Del.sub2 (by k_upd) (by k_upd)) (by k_asm) (by walk_at "R") (by ktr_room) (by ktr_units) (lcell _ _ _ _ _ _ _ _ _ _ _ _ _ _ _ _ (by walk_at "M") (by walk_at "A") (by walk_at "A") (by walk_at "N") (by walk_at "M") (by walk_at "N") (by walk_at "E") (by walk_at "L")) ?_; k_whole; intro x9z h9z tk9z p9z F9z N9z; ((first | (refine andNest p9z ?_; (try clear p9z); intro pa9z pb9z pc9z pd9z pe9z pf9z pg9z ph9z pi9z) | obtain ⟨⟨pa9z, pb9z, pc9z⟩, ⟨pd9z, pe9z, pf9z⟩, pg9z, ph9z, pi9z⟩ := p9z)); (replace pa9z := ltN pa9z); (replace pb9z := ltN pb9z); (replace pd9z := ltN pd9z); (replace pe9z := ltN pe9z); (try k_lt pc9z); (try k_lt pf9z); (try dsimp only at N9z); (try dsimp only); (try k_sweep); (try k_fold))) | (k_here; (with_reducible show wpAny _ _ (call (Value.ref 674) _ _) _ _ _); k_dflt (refine' Cut.uz (by k_asm) (by k_asm) (by k_asm) (by k_asm) sub_self (by k_asm) (by walk_at "R") (by ktr_room) (by ktr_units) (areas _ _ _ _) ?_; k_whole; intro x9z h9z tk9z p9z F9z N9z; ((first | (refine and7 p9z ?_; (try clear p9z); intro pz9z pa9z pb9z pc9z pd9z pe9z pf9z) | obtain ⟨pz9z, pa9z, pb9z, pc9z, pd9z, pe9z, pf9z⟩ := p9z)); (try k_lt pa9z); (replace pb9z := ltN pb9z); (replace pc9z := ltN pc9z); (replace pd9z := ltN pd9z); (replace pe9z := ltN pe9z); (replace pf9z := ltN pf9z); (try dsimp only at N9z); (try dsimp only); (try k_sweep); (try k_fold))) | (k_here; (with_reducible show wpAny _ _ (call (Value.ref 154) _ _) _ _ _); k_dflt (refine' Cut.uz (by k_asm) (by k_asm) (by k_asm) (by k_asm) sub_self (by k_asm) (by walk_at "R") (by ktr_room) (by ktr_units) (symbols _ _) ?_; k_whole; intro x9z h9z tk9z p9z F9z N9z; ((first | (refine and9 p9z ?_; (try clear p9z); intro pa9z pb9z pc9z pd9z pe9z pf9z pg9z ph9z pi9z) | obtain ⟨pa9z, pb9z, pc9z, pd9z, pe9z, pf9z, pg9z, ph9z, pi9z⟩ := p9z)); (try k_lt pa9z); (replace pb9z := ltN pb9z); (replace pc9z := ltN pc9z); (replace pd9z := ltN pd9z); (try dsimp only at N9z); (try dsimp only); (try k_sweep); (try k_fold))) | (k_here; (with_reducible show wpAny _ _ (call (Value.ref 692) _ _) _ _ _); k_dflt (refine' whole_use (by k_asm) (by k_asm) (by k_asm) (by k_asm) (by k_asm) (by walk_at "R") (by k_updF) (by walk_at "M") (by walk_at "N") (by walk_at "E") (by ktr_room) (by ktr_units) ?_; k_whole; intro x9z h9z tk9z p9z F9z N9z; ((first | (refine and2 p9z ?_; (try clear p9z); intro pa9z pc9z) | obtain ⟨pa9z, pc9z⟩ := p9z)); (try dsimp only at N9z); walk_at "Z")) | (k_here; (with_reducible show wpAny _ _ (call (Value.ref 685) _ _) _ _ _); k_dflt (refine' draw_use (by k_asm) (by k_asm) (by k_asm) (by k_asm) (by k_asm) (by walk_at "R") (by k_updF) (by walk_at "M") (by walk_at "N") (by walk_at "E") (by walk_at "E") (by walk_at "O") (by ktr_room) (by ktr_units) ?_; k_whole; intro x9z h9z tk9z p9z F9z N9z; ((first | (refine and3 p9z ?_; (try clear p9z); intro pa9z pb9z pc9z) | obtain ⟨pa9z, pb9z, pc9z⟩ := p9z)); (try dsimp only at N9z); walk_at "Z")) | (k_unfold; (try dsimp only); (try clear qkC)) | (k_end; wrow_close) | ((with_reducible show wpAny _ _ (execs (List.cons _ _) _) _ _ _); first | k_gentoks | (refine execs_consF ?_; intro qkC)) | walk1 | (dsimp only; walk1) | (leave1; try dsimp only) | fail "no step")
      all_goals (have F9z := True.intro; have N9z := True.intro; have h9z := True.intro; have p9z := True.intro; have pa9z := True.intro; have pb9z := True.intro; have pc9z := True.intro; have pd9z := True.intro; have pe9z := True.intro; have pf9z := True.intro; have pg9z := True.intro; have ph9z := True.intro; have pi9z := True.intro; have pz9z := True.intro; have tk9z := True.intro; have x9z := True.intro)
      exact cont _ _ _ LS3 (fun p hp => .tail _ (sub2 p (sub1 p hp))) F2 N3
    · rintro i ys2 nx hi ⟨VS2, rfl, LS2, sub2, hP2⟩ v I oI C oC' D2 m₂ h2 tk2 E' hv hC hx' F9 N9 off ne
      rw [List.size_toArray, lST] at hi
      obtain ⟨tv, etv⟩ := R.st i (by omega)
      obtain rfl : Value.int (S i) tv = v := by rw [List.getElem?_toArray] at hv; exact Option.some.inj (etv.symm.trans hv)
      dsimp only
      (try (refine foldQ ?_; intro qkT9))
      repeat' (((fail_if_success (with_reducible show PyProof.Rows.LCg.CompSrc _ _ _ _ _ _ _ _ _ _ _ _ _ _)); (fail_if_success (with_reducible show PyProof.Rows.LCg.CompEnd _ _ _ _ _ _ _ _ _ _ _ _ _ _)); (fail_if_success (with_reducible show wpAny _ _ (exec (Stmt.For _ _ _ _ _) _) _ _ _)); (fail_if_success (with_reducible show wpAny _ _ (pyIter _) _ _ _)); (fail_if_success (with_reducible show wpAny _ _ (execs (List.cons _ _) _) _ _ _))); first | (k_here; (with_reducible show wpAny _ _ (call (Value.ref 251) _ _) _ _ _); k_dflt (refine' Cut.uz (by k_asm) (by k_asm) (by k_asm) (by k_asm) sub_self (by k_asm) (by walk_at "R") (by ktr_room) (by ktr_units) (deref _ _ _ _ _ _ _ (by walk_at "M") (by k_mem) (by walk_at "M")) ?_; k_whole; intro x9z h9z tk9z p9z F9z N9z; (try dsimp only at N9z); walk_at "Z")) | (k_here; (with_reducible show wpAny _ _ (call (Value.ref 265) _ _) _ _ _); k_dflt (refine' bind_use (by k_asm) (by k_asm) (by k_asm) (by k_asm) (by k_asm) (by walk_at "R") (by k_updF) (by walk_at "M") (by k_mem) (by walk_at "N") (by walk_at "E") (by first | assumption | ((try simp only [List.length_append, List.length_cons, List.length_nil, List.length_set]); first | exact lenB (by assumption) rfl | exact lenA (by assumption) rfl | omega)) (by walk_at "E") (by ktr_room) (by ktr_units) ?_; k_whole; intro h9z tk9z F9z N9z; (try dsimp only at N9z); walk_at "Z")) | (k_here; (with_reducible show wpAny _ _ (call (Value.ref 230) _ _) _ _ _); k_dflt (refine' newvar_use (by k_asm) (by k_asm) (by k_asm) (by k_asm) (by k_asm) (by walk_at "R") (by k_updF) (by walk_at "M") (by walk_at "L") (by ktr_room) (by ktr_units) ?_; k_whole; intro x9z h9z tk9z p9z F9z N9z; (try dsimp only at N9z); (try k_lt p9z); walk_at "Z")) | (k_here; (with_reducible show wpAny _ _ (call (Value.ref 251) _ _) _ _ _); k_dflt (refine' Cut.uz (by k_asm) (by k_asm) (by k_asm) (by k_asm) sub_self (by k_asm) (by walk_at "R") (by ktr_room) (by ktr_units) (derefS (by walk_at "M") (by k_mem) (by walk_at "M") (by omega)) ?_; k_whole; intro x9z h9z tk9z p9z F9z N9z; (have pz9z := p9z); (first | (obtain ⟨pa9z, ⟨pb9z, pc9z, pd9z, pe9z⟩, pf9z⟩ := p9z; subst pa9z) | (first | (refine and4 p9z ?_; (try clear p9z); intro pa9z pb9z pc9z pd9z) | obtain ⟨pa9z, pb9z, pc9z, pd9z⟩ := p9z)); (try dsimp only at N9z); walk_at "Z")) | (k_here; (with_reducible show wpAny _ _ (call (Value.ref 699) _ _) _ _ _); k_dflt (refine' Cut.uz (by k_asm) (by k_asm) (by k_asm) (by k_asm) (by refine' Del.sub2 (by k_upd) (by k_upd)) (by k_asm) (by walk_at "R") (by ktr_room) (by ktr_units) (lcell _ _ _ _ _ _ _ _ _ _ _ _ _ _ _ _ (by walk_at "M") (by walk_at "A") (by walk_at "A") (by walk_at "N") (by walk_at "M") (by walk_at "N") (by walk_at "E") (by walk_at "L")) ?_; k_whole; intro x9z h9z tk9z p9z F9z N9z; ((first | (refine andNest p9z ?_; (try clear p9z); intro pa9z pb9z pc9z pd9z pe9z pf9z pg9z ph9z pi9z) | obtain ⟨⟨pa9z, pb9z, pc9z⟩, ⟨pd9z, pe9z, pf9z⟩, pg9z, ph9z, pi9z⟩ := p9z)); (replace pa9z := ltN pa9z); (replace pb9z := ltN pb9z); (replace pd9z := ltN pd9z); (replace pe9z := ltN pe9z); (try k_lt pc9z); (try k_lt pf9z); (try dsimp only at N9z); (try dsimp only); (try k_sweep); (try k_fold))) | (k_here; (with_reducible show wpAny _ _ (call (Value.ref 674) _ _) _ _ _); k_dflt (refine' Cut.uz (by k_asm) (by k_asm) (by k_asm) (by k_asm) sub_self (by k_asm) (by walk_at "R") (by ktr_room) (by ktr_units) (areas _ _ _ _) ?_; k_whole; intro x9z h9z tk9z p9z F9z N9z; ((first | (refine and7 p9z ?_; (try clear p9z); intro pz9z pa9z pb9z pc9z pd9z pe9z pf9z) | obtain ⟨pz9z, pa9z, pb9z, pc9z, pd9z, pe9z, pf9z⟩ := p9z)); (try k_lt pa9z); (replace pb9z := ltN pb9z); (replace pc9z := ltN pc9z); (replace pd9z := ltN pd9z); (replace pe9z := ltN pe9z); (replace pf9z := ltN pf9z); (try dsimp only at N9z); (try dsimp only); (try k_sweep); (try k_fold))) | (k_here; (with_reducible show wpAny _ _ (call (Value.ref 154) _ _) _ _ _); k_dflt (refine' Cut.uz (by k_asm) (by k_asm) (by k_asm) (by k_asm) sub_self (by k_asm) (by walk_at "R") (by ktr_room) (by ktr_units) (symbols _ _) ?_; k_whole; intro x9z h9z tk9z p9z F9z N9z; ((first | (refine and9 p9z ?_; (try clear p9z); intro pa9z pb9z pc9z pd9z pe9z pf9z pg9z ph9z pi9z) | obtain ⟨pa9z, pb9z, pc9z, pd9z, pe9z, pf9z, pg9z, ph9z, pi9z⟩ := p9z)); (try k_lt pa9z); (replace pb9z := ltN pb9z); (replace pc9z := ltN pc9z); (replace pd9z := ltN pd9z); (try dsimp only at N9z); (try dsimp only); (try k_sweep); (try k_fold))) | (k_here; (with_reducible show wpAny _ _ (call (Value.ref 692) _ _) _ _ _); k_dflt (refine' whole_use (by k_asm) (by k_asm) (by k_asm) (by k_asm) (by k_asm) (by walk_at "R") (by k_updF) (by walk_at "M") (by walk_at "N") (by walk_at "E") (by ktr_room) (by ktr_units) ?_; k_whole; intro x9z h9z tk9z p9z F9z N9z; ((first | (refine and2 p9z ?_; (try clear p9z); intro pa9z pc9z) | obtain ⟨pa9z, pc9z⟩ := p9z)); (try dsimp only at N9z); walk_at "Z")) | (k_here; (with_reducible show wpAny _ _ (call (Value.ref 685) _ _) _ _ _); k_dflt (refine' draw_use (by k_asm) (by k_asm) (by k_asm) (by k_asm) (by k_asm) (by walk_at "R") (by k_updF) (by walk_at "M") (by walk_at "N") (by walk_at "E") (by walk_at "E") (by walk_at "O") (by ktr_room) (by ktr_units) ?_; k_whole; intro x9z h9z tk9z p9z F9z N9z; ((first | (refine and3 p9z ?_; (try clear p9z); intro pa9z pb9z pc9z) | obtain ⟨pa9z, pb9z, pc9z⟩ := p9z)); (try dsimp only at N9z); walk_at "Z")) | (k_unfold; (try dsimp only); (try clear qkC)) | (k_end; wrow_close) | ((with_reducible show wpAny _ _ (execs (List.cons _ _) _) _ _ _); first | k_gentoks | (refine execs_consF ?_; intro qkC)) | walk1 | (dsimp only; walk1) | (leave1; try dsimp only) | fail "no step")
      all_goals (have F9z := True.intro; have N9z := True.intro; have h9z := True.intro; have p9z := True.intro; have pa9z := True.intro; have pb9z := True.intro; have pc9z := True.intro; have pd9z := True.intro; have pe9z := True.intro; have pf9z := True.intro; have pg9z := True.intro; have ph9z := True.intro; have pi9z := True.intro; have pz9z := True.intro; have tk9z := True.intro; have x9z := True.intro)
      rename_i D' h' F' N' l1
      exact ⟨_, _, lawL z x hs xs to st ce si n ((D', { cls := Value.type "tuple", data := Data.seq #[Value.int 5 442, Value.int (S i) tv] }) :: VS2), rfl, F', fun q hq => N' q (pE1 q hq),
        LCg.Off3.of fun p hp => (List.mem_cons.mp (pB1 p hp)).elim (fun e => e ▸ ⟨Nat.ne_of_gt l1.1, Nat.ne_of_gt l1.2.1, Nat.ne_of_gt l1.2.2.1⟩) (off.mem p), .inr ⟨_, .tail _ (.tail _ (.tail _ (.tail _ (.head _)))), rfl, _, rfl⟩, _, rfl,
        LS2.add ⟨l1.2.2.2.1, l1.2.2.2.2.1, l1.2.2.2.2.2.1, l1.2.2.2.2.2.2.1, l1.2.2.2.2.2.2.2.1, l1.2.2.2.2.2.2.2.2.1, l1.2.2.2.2.2.2.2.2.2.1⟩, fun p hp => .tail _ (sub2 p hp), by rw [List.range_succ, List.map_append]; exact (hP2.mono (sub_tail sub_self)).snoc (.head _)⟩
  · rintro i ys nx hi ⟨rfl, hP⟩ v I oI C oC' D m₂ h tk E' hv hC hx' F9 N9 off ne
    rw [List.size_toArray, lSI] at hi
    obtain ⟨q, eq, hv0, _⟩ := R.si i (by omega)
    obtain rfl : Value.ref q = v := by rw [List.getElem?_toArray] at hv; exact Option.some.inj (eq.symm.trans hv)
    dsimp only
    obtain ⟨r, ta, tb, kk, hDer, hmem⟩ := (hb i hi).der hv0 (by omega)
    (try (refine foldQ ?_; intro qkT10))
    repeat' (((fail_if_success (with_reducible show PyProof.Rows.LCg.CompSrc _ _ _ _ _ _ _ _ _ _ _ _ _ _)); (fail_if_success (with_reducible show PyProof.Rows.LCg.CompEnd _ _ _ _ _ _ _ _ _ _ _ _ _ _)); (fail_if_success (with_reducible show wpAny _ _ (exec (Stmt.For _ _ _ _ _) _) _ _ _)); (fail_if_success (with_reducible show wpAny _ _ (pyIter _) _ _ _)); (fail_if_success (with_reducible show wpAny _ _ (execs (List.cons _ _) _) _ _ _))); first | (k_here; (with_reducible show wpAny _ _ (call (Value.ref 251) _ _) _ _ _); k_dflt (refine' Cut.uz (by k_asm) (by k_asm) (by k_asm) (by k_asm) sub_self (by k_asm) (by walk_at "R") (by ktr_room) (by ktr_units) (deref _ _ _ _ _ _ _ (by walk_at "M") (by k_mem) (by walk_at "M")) ?_; k_whole; intro x9z h9z tk9z p9z F9z N9z; (try dsimp only at N9z); walk_at "Z")) | (k_here; (with_reducible show wpAny _ _ (call (Value.ref 265) _ _) _ _ _); k_dflt (refine' bind_use (by k_asm) (by k_asm) (by k_asm) (by k_asm) (by k_asm) (by walk_at "R") (by k_updF) (by walk_at "M") (by k_mem) (by walk_at "N") (by walk_at "E") (by first | assumption | ((try simp only [List.length_append, List.length_cons, List.length_nil, List.length_set]); first | exact lenB (by assumption) rfl | exact lenA (by assumption) rfl | omega)) (by walk_at "E") (by ktr_room) (by ktr_units) ?_; k_whole; intro h9z tk9z F9z N9z; (try dsimp only at N9z); walk_at "Z")) | (k_here; (with_reducible show wpAny _ _ (call (Value.ref 230) _ _) _ _ _); k_dflt (refine' newvar_use (by k_asm) (by k_asm) (by k_asm) (by k_asm) (by k_asm) (by walk_at "R") (by k_updF) (by walk_at "M") (by walk_at "L") (by ktr_room) (by ktr_units) ?_; k_whole; intro x9z h9z tk9z p9z F9z N9z; (try dsimp only at N9z); (try k_lt p9z); walk_at "Z")) | (k_here; (with_reducible show wpAny _ _ (call (Value.ref 251) _ _) _ _ _); k_dflt (refine' Cut.uz (by k_asm) (by k_asm) (by k_asm) (by k_asm) sub_self (by k_asm) (by walk_at "R") (by ktr_room) (by ktr_units) (derefS (by walk_at "M") (by k_mem) (by walk_at "M") (by omega)) ?_; k_whole; intro x9z h9z tk9z p9z F9z N9z; (have pz9z := p9z); (first | (obtain ⟨pa9z, ⟨pb9z, pc9z, pd9z, pe9z⟩, pf9z⟩ := p9z; subst pa9z) | (first | (refine and4 p9z ?_; (try clear p9z); intro pa9z pb9z pc9z pd9z) | obtain ⟨pa9z, pb9z, pc9z, pd9z⟩ := p9z)); (try dsimp only at N9z); walk_at "Z")) | (k_here; (with_reducible show wpAny _ _ (call (Value.ref 699) _ _) _ _ _); k_dflt (refine' Cut.uz (by k_asm) (by k_asm) (by k_asm) (by k_asm) (by refine' Del.sub2 (by k_upd) (by k_upd)) (by k_asm) (by walk_at "R") (by ktr_room) (by ktr_units) (lcell _ _ _ _ _ _ _ _ _ _ _ _ _ _ _ _ (by walk_at "M") (by walk_at "A") (by walk_at "A") (by walk_at "N") (by walk_at "M") (by walk_at "N") (by walk_at "E") (by walk_at "L")) ?_; k_whole; intro x9z h9z tk9z p9z F9z N9z; ((first | (refine andNest p9z ?_; (try clear p9z); intro pa9z pb9z pc9z pd9z pe9z pf9z pg9z ph9z pi9z) | obtain ⟨⟨pa9z, pb9z, pc9z⟩, ⟨pd9z, pe9z, pf9z⟩, pg9z, ph9z, pi9z⟩ := p9z)); (replace pa9z := ltN pa9z); (replace pb9z := ltN pb9z); (replace pd9z := ltN pd9z); (replace pe9z := ltN pe9z); (try k_lt pc9z); (try k_lt pf9z); (try dsimp only at N9z); (try dsimp only); (try k_sweep); (try k_fold))) | (k_here; (with_reducible show wpAny _ _ (call (Value.ref 674) _ _) _ _ _); k_dflt (refine' Cut.uz (by k_asm) (by k_asm) (by k_asm) (by k_asm) sub_self (by k_asm) (by walk_at "R") (by ktr_room) (by ktr_units) (areas _ _ _ _) ?_; k_whole; intro x9z h9z tk9z p9z F9z N9z; ((first | (refine and7 p9z ?_; (try clear p9z); intro pz9z pa9z pb9z pc9z pd9z pe9z pf9z) | obtain ⟨pz9z, pa9z, pb9z, pc9z, pd9z, pe9z, pf9z⟩ := p9z)); (try k_lt pa9z); (replace pb9z := ltN pb9z); (replace pc9z := ltN pc9z); (replace pd9z := ltN pd9z); (replace pe9z := ltN pe9z); (replace pf9z := ltN pf9z); (try dsimp only at N9z); (try dsimp only); (try k_sweep); (try k_fold))) | (k_here; (with_reducible show wpAny _ _ (call (Value.ref 154) _ _) _ _ _); k_dflt (refine' Cut.uz (by k_asm) (by k_asm) (by k_asm) (by k_asm) sub_self (by k_asm) (by walk_at "R") (by ktr_room) (by ktr_units) (symbols _ _) ?_; k_whole; intro x9z h9z tk9z p9z F9z N9z; ((first | (refine and9 p9z ?_; (try clear p9z); intro pa9z pb9z pc9z pd9z pe9z pf9z pg9z ph9z pi9z) | obtain ⟨pa9z, pb9z, pc9z, pd9z, pe9z, pf9z, pg9z, ph9z, pi9z⟩ := p9z)); (try k_lt pa9z); (replace pb9z := ltN pb9z); (replace pc9z := ltN pc9z); (replace pd9z := ltN pd9z); (try dsimp only at N9z); (try dsimp only); (try k_sweep); (try k_fold))) | (k_here; (with_reducible show wpAny _ _ (call (Value.ref 692) _ _) _ _ _); k_dflt (refine' whole_use (by k_asm) (by k_asm) (by k_asm) (by k_asm) (by k_asm) (by walk_at "R") (by k_updF) (by walk_at "M") (by walk_at "N") (by walk_at "E") (by ktr_room) (by ktr_units) ?_; k_whole; intro x9z h9z tk9z p9z F9z N9z; ((first | (refine and2 p9z ?_; (try clear p9z); intro pa9z pc9z) | obtain ⟨pa9z, pc9z⟩ := p9z)); (try dsimp only at N9z); walk_at "Z")) | (k_here; (with_reducible show wpAny _ _ (call (Value.ref 685) _ _) _ _ _); k_dflt (refine' draw_use (by k_asm) (by k_asm) (by k_asm) (by k_asm) (by k_asm) (by walk_at "R") (by k_updF) (by walk_at "M") (by walk_at "N") (by walk_at "E") (by walk_at "E") (by walk_at "O") (by ktr_room) (by ktr_units) ?_; k_whole; intro x9z h9z tk9z p9z F9z N9z; ((first | (refine and3 p9z ?_; (try clear p9z); intro pa9z pb9z pc9z) | obtain ⟨pa9z, pb9z, pc9z⟩ := p9z)); (try dsimp only at N9z); walk_at "Z")) | (k_unfold; (try dsimp only); (try clear qkC)) | (k_end; wrow_close) | ((with_reducible show wpAny _ _ (execs (List.cons _ _) _) _ _ _); first | k_gentoks | (refine execs_consF ?_; intro qkC)) | walk1 | (dsimp only; walk1) | (leave1; try dsimp only) | fail "no step")
    all_goals (have F9z := True.intro; have N9z := True.intro; have h9z := True.intro; have p9z := True.intro; have pa9z := True.intro; have pb9z := True.intro; have pc9z := True.intro; have pd9z := True.intro; have pe9z := True.intro; have pf9z := True.intro; have pg9z := True.intro; have ph9z := True.intro; have pi9z := True.intro; have pz9z := True.intro; have tk9z := True.intro; have x9z := True.intro)
    exact ⟨_, _, lawL z x hs xs to st ce si n VS, rfl, (by assumption), (by assumption), off, .inr ⟨_, .tail _ (.tail _ (.tail _ (.tail _ (.tail _ (.tail _ (.head _)))))), rfl, _, rfl⟩, rfl, by rw [List.range_succ, List.map_append]; exact hP.snoc hmem⟩
/-! L16 -/
noncomputable abbrev fbody1 : List Stmt := match c55b.drop 14 with | .For _ _ b _ _ :: _ => b | _ => []
noncomputable abbrev fbody2 : List Stmt := match fbody1 with | .For _ _ b _ _ :: _ => b | _ => []
noncomputable abbrev mF (z : LD) (SC : Addr) (u KN pl tr fr to' sp : Option Value) : Str → Option Value := fun y => if y = Str.ofString "spot" then sp else mD z SC u KN pl tr fr to' y
theorem sumF {w : World} {z : LD} {x : DrawD} {hs xs to st ce si : List Value} {n : LN} {VS : List (Addr × Obj)} {cC cM : Addr} (LS : LawS w z cC cM VS) (hl : hs.length ≤ 1000) (hx : 1 ≤ xs.length ∧ xs.length ≤ 10) {q1 q2 q3 : Addr} {a b c : Int} {s1 s2 s3 u1 u2 u3 : Tok} {k1 k2 k3 : Nat}
    (m1 : (q1, tup #[.int 5 s1, .int a u1] k1) ∈ VS) (m2 : (q2, tup #[.int 5 s2, .int b u2] k2) ∈ VS) (m3 : (q3, tup #[.int 5 s3, .int c u3] k3) ∈ VS) (hv : c ≠ a + b) (hb : (a + b).natAbs ≤ 8 * BB) :
    Cut w 706 [.ref z.A.M, .ref q1, .ref q2, .ref q3] 80 3500 (lawL z x hs xs to st ce si n VS) (fun y : LsD => 1 ≤ y.xs.length ∧ y.xs.length ≤ 10) (fun y => .str (Str.ofString "fails") y.t) (fun y => lawL z x hs y.xs to st ce si ⟨n.n2, y.n, n.n4, n.n5, n.n6, n.n7⟩ VS) := by
  have M : Mach w.params z.A (lawR z x to st ce si n VS) := LS.mach.mono fun q hq => inR hq
  have up : ∀ {q o}, (q, o) ∈ VS → (q, o) ∈ (z.A.H, listOf hs.toArray n.n2) :: lawR z x to st ce si n VS := fun h => .tail _ (inR h)
  have XH : ∀ q ∈ (z.A.H, listOf hs.toArray n.n2) :: lawR z x to st ce si n VS, q.1 ≠ z.A.XL := fun q hq => by
    rcases List.mem_cons.mp hq with rfl | hq
    · exact LS.ords.2.2.2.2.2.2
    · exact LS.rX q hq
  refine ((lsum_other w z.A q1 q2 q3 q1 q2 q3 a b c hv s1 s2 s3 u1 u2 u3 k1 k2 k3 n.n2 n.n3 hs xs ((z.A.H, listOf hs.toArray n.n2) :: lawR z x to st ce si n VS) (M.mono (sub_tail sub_self)) XH (.head _) hl (by omega) hx.1 (.int (up m1)) (.int (up m2)) (.int (up m3)) (up m1) (up m2) (up m3) (bits8 hb)).sub lr2).conseq fun y hy => ?_
  exact ⟨y, (by (try dsimp only); omega), rfl, lr4⟩
theorem mF_t {z SC u KN pl tr fr to' sp a} : (fun y => if y = Str.ofString "triple" then a else mF z SC u KN pl tr fr to' sp y) = mF z SC u KN pl a fr to' sp := by
  funext y
  by_cases c1 : y = Str.ofString "spot"
  · subst c1; rfl
  · by_cases c2 : y = Str.ofString "told"
    · subst c2; rfl
    · by_cases c3 : y = Str.ofString "free"
      · subst c3; rfl
      · simp only [mF, mD, if_neg c1, if_neg c2, if_neg c3]
        by_cases c4 : y = Str.ofString "triple"
        · simp only [if_pos c4]
        · simp only [if_neg c4]
theorem pF1 {A B C D E P H XL TO ST CE SI : Addr × Obj} {VS : List (Addr × Obj)} : ∀ q ∈ P :: H :: XL :: TO :: ST :: CE :: SI :: A :: B :: C :: D :: E :: VS, q ∈ A :: B :: C :: D :: E :: P :: H :: XL :: TO :: ST :: CE :: SI :: VS := by
  repeat (first | exact sub_self | refine List.forall_mem_cons.mpr ⟨by repeat (first | exact List.Mem.head _ | refine List.Mem.tail _ ?_), ?_⟩ | refine sub_tail ?_)
theorem pF2 {A B C D E P H XL TO ST CE SI : Addr × Obj} {VS : List (Addr × Obj)} : ∀ q ∈ P :: H :: XL :: TO :: ST :: CE :: SI :: VS, q ∈ P :: H :: XL :: TO :: ST :: CE :: SI :: A :: B :: C :: D :: E :: VS := by
  repeat (first | exact sub_self | refine List.forall_mem_cons.mpr ⟨by repeat (first | exact List.Mem.head _ | refine List.Mem.tail _ ?_), ?_⟩ | refine sub_tail ?_)
theorem turnF2 (w : World) (z : LD) (x : DrawD) (hs xs to st ce si : List Value) (n : LN) (VS : List (Addr × Obj)) (SC cC cM : Addr) (u KN pl fr to' sp : Option Value) (TL q1 q2 q3 : Addr) (nt : Nat) (A1 A2 A3 : Int) (s1 s2 s3 u1 u2 u3 : Tok) (k1 k2 k3 : Nat) (mean : ExcName → Option Value) (mg mb : Str → Option Value) (dp un : Nat) (gd : Option (List Code)) (a : Addr) (ccd : Value) (A₀ : Around) (base h₀ : Heap) (L : Addr) (s : Shared) (Q : Flow → Shared → Prop) (E : Value → Shared → Prop)
    (B : Below A₀ base [] h₀) (F : Fr h₀ L s.heap (mF z SC u KN pl (some (.ref TL)) fr to' sp)) (XX : (Mine.K w.params).In h₀) (N : News h₀ L s.heap (lawL z x hs xs to st ce si n VS)) (TT : Top VW LO mean mg mb h₀) (hd : dp + 200 < recursionLimit) (hu : un + 8000 < cLine)
    (LS : LawS w z cC cM VS) (hl : hs.length ≤ 1000) (hx : 1 ≤ xs.length ∧ xs.length ≤ 10) (hTL : (TL, listOf (List.toArray [.ref q1, .ref q2, .ref q3]) nt) ∈ VS) (w1 : (q1, tup #[.int 5 s1, .int A1 u1] k1) ∈ VS) (w2 : (q2, tup #[.int 5 s2, .int A2 u2] k2) ∈ VS) (w3 : (q3, tup #[.int 5 s3, .int A3 u3] k3) ∈ VS) (hv : A3 ≠ A1 + A2) (hb : (A1 + A2).natAbs ≤ 8 * BB)
    (cont : ∀ (xs : List Value) (n : LN) (h' : Heap) (tk' : Nat), (1 ≤ xs.length ∧ xs.length ≤ 10) → Fr h₀ L h' (mF z SC u KN pl (some (.ref TL)) fr to' sp) → News h₀ L h' (lawL z x hs xs to st ce si n VS) → Q .next { s with heap := h', toks := tk' }) :
    wpAny (model PySem.Challenge.rw_sa0162_01.row.prog w) (lawTop dp un gd L a ccd cC cM) (execs (fbody2.drop 2) (lawEnv L a ccd cC cM)) Q E s := by
  revert XX; k_fill; intro XX
  have o1 := ltN LS.o1; have o2 := ltN LS.o2; have o3 := ltN LS.o3; have o4 := ltN LS.o4; have o5 := ltN LS.o5; have o6 := ltN LS.o6
  have a1 := LS.a1; have a2 := LS.a2; have a3 := LS.a3; have a4 := LS.a4; have a5 := LS.a5; have a6 := LS.a6; have a7 := LS.a7
  have hPool := LS.pool; have hSP := LS.nSP; have hMach := LS.mach
  have m1 := hMach.x; have m2 := hMach.xd; have m3 := hMach.m; have m4 := hMach.md
  obtain ⟨oM, cm, cmd⟩ := LS.cm
  obtain ⟨oC, cc, ccd'⟩ := LS.cc
  have y0 : [Value.ref q1, Value.ref q2, Value.ref q3][(0 : Int).toNat]? = some (Value.ref q1) := rfl
  have y1 : [Value.ref q1, Value.ref q2, Value.ref q3][(1 : Int).toNat]? = some (Value.ref q2) := rfl
  have y2 : [Value.ref q1, Value.ref q2, Value.ref q3][(2 : Int).toNat]? = some (Value.ref q3) := rfl
  (try (refine foldAE ?_; intro envT AT))
  repeat' (((fail_if_success (with_reducible show wpAny _ _ (exec (Stmt.For _ _ _ _ _) _) _ _ _)); (fail_if_success (with_reducible show wpAny _ _ (pyIter _) _ _ _))); first | (k_here; (with_reducible show wpAny _ _ (call (Value.ref 706) _ _) _ _ _); k_dflt (refine' Cut.uz (by k_asm) (by k_asm) (by k_asm) (by k_asm) sub_self (by k_asm) (by walk_at "R") (by ktr_room) (by ktr_units) (sumF (by assumption) (by assumption) (by assumption) (by assumption) (by assumption) (by assumption) (by assumption) (by assumption)) ?_; k_whole; intro x9z h9z tk9z p9z F9z N9z; (try dsimp only at N9z); walk_at "Z")) | (k_here; (with_reducible show wpAny _ _ (call (Value.ref 265) _ _) _ _ _); k_dflt (refine' bind_use (by k_asm) (by k_asm) (by k_asm) (by k_asm) (by k_asm) (by walk_at "R") (by k_updF) (by walk_at "M") (by k_mem) (by walk_at "N") (by walk_at "E") (by first | assumption | ((try simp only [List.length_append, List.length_cons, List.length_nil, List.length_set]); first | exact lenB (by assumption) rfl | exact lenA (by assumption) rfl | omega)) (by walk_at "E") (by ktr_room) (by ktr_units) ?_; k_whole; intro h9z tk9z F9z N9z; (try dsimp only at N9z); walk_at "Z")) | (k_here; (with_reducible show wpAny _ _ (call (Value.ref 230) _ _) _ _ _); k_dflt (refine' newvar_use (by k_asm) (by k_asm) (by k_asm) (by k_asm) (by k_asm) (by walk_at "R") (by k_updF) (by walk_at "M") (by walk_at "L") (by ktr_room) (by ktr_units) ?_; k_whole; intro x9z h9z tk9z p9z F9z N9z; (try dsimp only at N9z); (try k_lt p9z); walk_at "Z")) | (k_here; (with_reducible show wpAny _ _ (call (Value.ref 251) _ _) _ _ _); k_dflt (refine' Cut.uz (by k_asm) (by k_asm) (by k_asm) (by k_asm) sub_self (by k_asm) (by walk_at "R") (by ktr_room) (by ktr_units) (derefS (by walk_at "M") (by k_mem) (by walk_at "M") (by omega)) ?_; k_whole; intro x9z h9z tk9z p9z F9z N9z; (have pz9z := p9z); (first | (obtain ⟨pa9z, ⟨pb9z, pc9z, pd9z, pe9z⟩, pf9z⟩ := p9z; subst pa9z) | (first | (refine and4 p9z ?_; (try clear p9z); intro pa9z pb9z pc9z pd9z) | obtain ⟨pa9z, pb9z, pc9z, pd9z⟩ := p9z)); (try dsimp only at N9z); walk_at "Z")) | (k_here; (with_reducible show wpAny _ _ (call (Value.ref 699) _ _) _ _ _); k_dflt (refine' Cut.uz (by k_asm) (by k_asm) (by k_asm) (by k_asm) (by refine' Del.sub2 (by k_upd) (by k_upd)) (by k_asm) (by walk_at "R") (by ktr_room) (by ktr_units) (lcell _ _ _ _ _ _ _ _ _ _ _ _ _ _ _ _ (by walk_at "M") (by walk_at "A") (by walk_at "A") (by walk_at "N") (by walk_at "M") (by walk_at "N") (by walk_at "E") (by walk_at "L")) ?_; k_whole; intro x9z h9z tk9z p9z F9z N9z; ((first | (refine andNest p9z ?_; (try clear p9z); intro pa9z pb9z pc9z pd9z pe9z pf9z pg9z ph9z pi9z) | obtain ⟨⟨pa9z, pb9z, pc9z⟩, ⟨pd9z, pe9z, pf9z⟩, pg9z, ph9z, pi9z⟩ := p9z)); (replace pa9z := ltN pa9z); (replace pb9z := ltN pb9z); (replace pd9z := ltN pd9z); (replace pe9z := ltN pe9z); (try k_lt pc9z); (try k_lt pf9z); (try dsimp only at N9z); (try dsimp only); (try k_sweep); (try k_fold))) | (k_here; (with_reducible show wpAny _ _ (call (Value.ref 674) _ _) _ _ _); k_dflt (refine' Cut.uz (by k_asm) (by k_asm) (by k_asm) (by k_asm) sub_self (by k_asm) (by walk_at "R") (by ktr_room) (by ktr_units) (areas _ _ _ _) ?_; k_whole; intro x9z h9z tk9z p9z F9z N9z; ((first | (refine and7 p9z ?_; (try clear p9z); intro pz9z pa9z pb9z pc9z pd9z pe9z pf9z) | obtain ⟨pz9z, pa9z, pb9z, pc9z, pd9z, pe9z, pf9z⟩ := p9z)); (try k_lt pa9z); (replace pb9z := ltN pb9z); (replace pc9z := ltN pc9z); (replace pd9z := ltN pd9z); (replace pe9z := ltN pe9z); (replace pf9z := ltN pf9z); (try dsimp only at N9z); (try dsimp only); (try k_sweep); (try k_fold))) | (k_here; (with_reducible show wpAny _ _ (call (Value.ref 154) _ _) _ _ _); k_dflt (refine' Cut.uz (by k_asm) (by k_asm) (by k_asm) (by k_asm) sub_self (by k_asm) (by walk_at "R") (by ktr_room) (by ktr_units) (symbols _ _) ?_; k_whole; intro x9z h9z tk9z p9z F9z N9z; ((first | (refine and9 p9z ?_; (try clear p9z); intro pa9z pb9z pc9z pd9z pe9z pf9z pg9z ph9z pi9z) | obtain ⟨pa9z, pb9z, pc9z, pd9z, pe9z, pf9z, pg9z, ph9z, pi9z⟩ := p9z)); (try k_lt pa9z); (replace pb9z := ltN pb9z); (replace pc9z := ltN pc9z); (replace pd9z := ltN pd9z); (try dsimp only at N9z); (try dsimp only); (try k_sweep); (try k_fold))) | (k_here; (with_reducible show wpAny _ _ (call (Value.ref 692) _ _) _ _ _); k_dflt (refine' whole_use (by k_asm) (by k_asm) (by k_asm) (by k_asm) (by k_asm) (by walk_at "R") (by k_updF) (by walk_at "M") (by walk_at "N") (by walk_at "E") (by ktr_room) (by ktr_units) ?_; k_whole; intro x9z h9z tk9z p9z F9z N9z; ((first | (refine and2 p9z ?_; (try clear p9z); intro pa9z pc9z) | obtain ⟨pa9z, pc9z⟩ := p9z)); (try dsimp only at N9z); walk_at "Z")) | (k_here; (with_reducible show wpAny _ _ (call (Value.ref 685) _ _) _ _ _); k_dflt (refine' draw_use (by k_asm) (by k_asm) (by k_asm) (by k_asm) (by k_asm) (by walk_at "R") (by k_updF) (by walk_at "M") (by walk_at "N") (by walk_at "E") (by walk_at "E") (by walk_at "O") (by ktr_room) (by ktr_units) ?_; k_whole; intro x9z h9z tk9z p9z F9z N9z; ((first | (refine and3 p9z ?_; (try clear p9z); intro pa9z pb9z pc9z) | obtain ⟨pa9z, pb9z, pc9z⟩ := p9z)); (try dsimp only at N9z); walk_at "Z")) | (k_unfold; (try dsimp only); (try clear qkC)) | (k_end; wrow_close) | ((with_reducible show wpAny _ _ (execs (List.cons _ _) _) _ _ _); first | k_gentoks | (refine execs_consF ?_; intro qkC)) | walk1 | (dsimp only; walk1) | (leave1; try dsimp only) | fail "no step")
  all_goals (have F9z := True.intro; have N9z := True.intro; have h9z := True.intro; have p9z := True.intro; have pa9z := True.intro; have pb9z := True.intro; have pc9z := True.intro; have pd9z := True.intro; have pe9z := True.intro; have pf9z := True.intro; have pg9z := True.intro; have ph9z := True.intro; have pi9z := True.intro; have pz9z := True.intro; have tk9z := True.intro; have x9z := True.intro)
  exact cont _ _ _ _ (by assumption) (by assumption) (by assumption)
local macro_rules | `(tactic| walk_at "subscriptTail") => `(tactic| (k_here; (with_reducible show wpAny _ _ (subscriptTail _ _ (Value.ref _) (Value.int _ _)) _ _ _); (rename News _ _ _ ((_, W.listOf _ _) :: _) => hT9); (with_unfolding_all refine' item_led (vs := _ :: _ :: _ :: []) hT9 ?k1 ?k2 ?k3 ?k4 ?_ ?k6; (case k1 => exact .head _); (case k4 => exact rfl); (case k2 => decide); (case k3 => decide); (case k6 => walk_at "W"); k_whole)))
local macro_rules | `(tactic| walk_at "subscriptTail") => `(tactic| (k_here; (with_reducible show wpAny _ _ (subscriptTail _ _ (Value.ref _) (Value.int 1 _)) _ _ _); k_dflt (refine' tup1_led (by k_asm) (by k_mem) ?_ (by walk_at "W"); k_whole)))
theorem turnF (w : World) (z : LD) (x : DrawD) (hs xs to st ce si : List Value) (n : LN) (VS : List (Addr × Obj)) (T S : Nat → Int) (SC cC cM : Addr) (k : Nat) (u KN tr fr to' : Option Value) (p : Nat) (tp : Tok) (sp : Int) (tsp : Tok) (mean : ExcName → Option Value) (mg mb : Str → Option Value) (dp un : Nat) (gd : Option (List Code)) (a : Addr) (ccd : Value) (A₀ : Around) (base h₀ : Heap) (L : Addr) (s : Shared) (Q : Flow → Shared → Prop) (E : Value → Shared → Prop)
    (B : Below A₀ base [] h₀) (F : Fr h₀ L s.heap (mF z SC u KN (some (.int (p : Int) tp)) tr fr to' (some (.int sp tsp)))) (XX : (Mine.K w.params).In h₀) (N : News h₀ L s.heap (lawL z x hs xs to st ce si n VS)) (TT : Top VW LO mean mg mb h₀) (hd : dp + 200 < recursionLimit) (hu : un + 8000 < cLine)
    (LS : LawS w z cC cM VS) (hx : 1 ≤ xs.length ∧ xs.length ≤ 10) (hk : k ≤ 6) (R : Row VS hs to st ce si k T S) (hp : p < k) (hsp : sp = 0 ∨ sp = 1 ∨ sp = 2)
    (cont : ∀ (tr : Option Value) (xs : List Value) (n : LN) (h' : Heap) (tk' : Nat), (1 ≤ xs.length ∧ xs.length ≤ 10) → Fr h₀ L h' (mF z SC u KN (some (.int (p : Int) tp)) tr fr to' (some (.int sp tsp))) → News h₀ L h' (lawL z x hs xs to st ce si n VS) → Q .next { s with heap := h', toks := tk' }) :
    wpAny (model PySem.Challenge.rw_sa0162_01.row.prog w) (lawTop dp un gd L a ccd cC cM) (execs fbody2 (lawEnv L a ccd cC cM)) Q E s := by
  revert XX; k_fill; intro XX
  have o1 := ltN LS.o1; have o2 := ltN LS.o2; have o3 := ltN LS.o3; have o4 := ltN LS.o4; have o5 := ltN LS.o5; have o6 := ltN LS.o6
  have a1 := LS.a1; have a2 := LS.a2; have a3 := LS.a3; have a4 := LS.a4; have a5 := LS.a5; have a6 := LS.a6; have a7 := LS.a7
  have hPool := LS.pool; have hSP := LS.nSP; have hMach := LS.mach
  have m1 := hMach.x; have m2 := hMach.xd; have m3 := hMach.m; have m4 := hMach.md
  obtain ⟨oM, cm, cmd⟩ := LS.cm
  obtain ⟨oC, cc, ccd'⟩ := LS.cc
  have lH := R.lH; have lTO := R.lTO; have lST := R.lST; have lCE := R.lCE; have lSI := R.lSI
  have z1 := R.le1 hk; have z2 := R.le2 hk; have z3 := R.le3 hk; have z4 := R.le4 hk; have z5 := R.le5 hk; have ePH := LS.nPH; have ePX := LS.nPX; have ePT := LS.nPT; have ePS := LS.nPS; have ePC := LS.nPC; have ePI := LS.nPI; have eHX := LS.nHX; have eHT := LS.nHT; have eHS := LS.nHS; have eHC := LS.nHC; have eHI := LS.nHI; have eXT := LS.nXT; have eXS := LS.nXS; have eXC := LS.nXC; have eXI := LS.nXI; have eTS := LS.nTS; have eTC := LS.nTC; have eTI := LS.nTI; have eSC := LS.nSC; have eSI := LS.nSI; have eCI := LS.nCI
  obtain ⟨t1, e1⟩ := R.to p (by omega)
  obtain ⟨t2, e2⟩ := R.st p hp
  obtain ⟨t3, e3⟩ := R.to (p + 1) (by omega)
  replace e1 := at_nat e1; replace e2 := at_nat e2
  replace e3 : to[((p : Int) + 1).toNat]? = some (.int (T (p + 1)) t3) := by rw [show ((p : Int) + 1).toNat = p + 1 by omega]; exact e3
  have eS := R.sum p hp
  have bT := R.bT p (by omega); have bS := R.bS p hp
  have bTa : (T p).natAbs ≤ 6 * BB := Nat.le_trans bT (Nat.mul_le_mul_right _ (Nat.le_trans (Nat.succ_le_of_lt hp) hk))
  rcases hsp with rfl | rfl | rfl
  · (try (refine foldAE ?_; intro envT AT))
    repeat' (((fail_if_success (with_reducible show wpAny _ _ (exec (Stmt.For _ _ _ _ _) _) _ _ _)); (fail_if_success (with_reducible show wpAny _ _ (pyIter _) _ _ _)); (fail_if_success (with_reducible show wpAny _ _ (execs (Stmt.If _ _ _ _ :: _) _) _ _ _))); first | (k_here; (with_reducible show wpAny _ _ (call (Value.ref 706) _ _) _ _ _); k_dflt (refine' Cut.uz (by k_asm) (by k_asm) (by k_asm) (by k_asm) sub_self (by k_asm) (by walk_at "R") (by ktr_room) (by ktr_units) (sumF (by assumption) (by assumption) (by assumption) (by assumption) (by assumption) (by assumption) (by assumption) (by assumption)) ?_; k_whole; intro x9z h9z tk9z p9z F9z N9z; (try dsimp only at N9z); walk_at "Z")) | (k_here; (with_reducible show wpAny _ _ (call (Value.ref 265) _ _) _ _ _); k_dflt (refine' bind_use (by k_asm) (by k_asm) (by k_asm) (by k_asm) (by k_asm) (by walk_at "R") (by k_updF) (by walk_at "M") (by k_mem) (by walk_at "N") (by walk_at "E") (by first | assumption | ((try simp only [List.length_append, List.length_cons, List.length_nil, List.length_set]); first | exact lenB (by assumption) rfl | exact lenA (by assumption) rfl | omega)) (by walk_at "E") (by ktr_room) (by ktr_units) ?_; k_whole; intro h9z tk9z F9z N9z; (try dsimp only at N9z); walk_at "Z")) | (k_here; (with_reducible show wpAny _ _ (call (Value.ref 230) _ _) _ _ _); k_dflt (refine' newvar_use (by k_asm) (by k_asm) (by k_asm) (by k_asm) (by k_asm) (by walk_at "R") (by k_updF) (by walk_at "M") (by walk_at "L") (by ktr_room) (by ktr_units) ?_; k_whole; intro x9z h9z tk9z p9z F9z N9z; (try dsimp only at N9z); (try k_lt p9z); walk_at "Z")) | (k_here; (with_reducible show wpAny _ _ (call (Value.ref 251) _ _) _ _ _); k_dflt (refine' Cut.uz (by k_asm) (by k_asm) (by k_asm) (by k_asm) sub_self (by k_asm) (by walk_at "R") (by ktr_room) (by ktr_units) (derefS (by walk_at "M") (by k_mem) (by walk_at "M") (by omega)) ?_; k_whole; intro x9z h9z tk9z p9z F9z N9z; (have pz9z := p9z); (first | (obtain ⟨pa9z, ⟨pb9z, pc9z, pd9z, pe9z⟩, pf9z⟩ := p9z; subst pa9z) | (first | (refine and4 p9z ?_; (try clear p9z); intro pa9z pb9z pc9z pd9z) | obtain ⟨pa9z, pb9z, pc9z, pd9z⟩ := p9z)); (try dsimp only at N9z); walk_at "Z")) | (k_here; (with_reducible show wpAny _ _ (call (Value.ref 699) _ _) _ _ _); k_dflt (refine' Cut.uz (by k_asm) (by k_asm) (by k_asm) (by k_asm) (by refine' Del.sub2 (by k_upd) (by k_upd)) (by k_asm) (by walk_at "R") (by ktr_room) (by ktr_units) (lcell _ _ _ _ _ _ _ _ _ _ _ _ _ _ _ _ (by walk_at "M") (by walk_at "A") (by walk_at "A") (by walk_at "N") (by walk_at "M") (by walk_at "N") (by walk_at "E") (by walk_at "L")) ?_; k_whole; intro x9z h9z tk9z p9z F9z N9z; ((first | (refine andNest p9z ?_; (try clear p9z); intro pa9z pb9z pc9z pd9z pe9z pf9z pg9z ph9z pi9z) | obtain ⟨⟨pa9z, pb9z, pc9z⟩, ⟨pd9z, pe9z, pf9z⟩, pg9z, ph9z, pi9z⟩ := p9z)); (replace pa9z := ltN pa9z); (replace pb9z := ltN pb9z); (replace pd9z := ltN pd9z); (replace pe9z := ltN pe9z); (try k_lt pc9z); (try k_lt pf9z); (try dsimp only at N9z); (try dsimp only); (try k_sweep); (try k_fold))) | (k_here; (with_reducible show wpAny _ _ (call (Value.ref 674) _ _) _ _ _); k_dflt (refine' Cut.uz (by k_asm) (by k_asm) (by k_asm) (by k_asm) sub_self (by k_asm) (by walk_at "R") (by ktr_room) (by ktr_units) (areas _ _ _ _) ?_; k_whole; intro x9z h9z tk9z p9z F9z N9z; ((first | (refine and7 p9z ?_; (try clear p9z); intro pz9z pa9z pb9z pc9z pd9z pe9z pf9z) | obtain ⟨pz9z, pa9z, pb9z, pc9z, pd9z, pe9z, pf9z⟩ := p9z)); (try k_lt pa9z); (replace pb9z := ltN pb9z); (replace pc9z := ltN pc9z); (replace pd9z := ltN pd9z); (replace pe9z := ltN pe9z); (replace pf9z := ltN pf9z); (try dsimp only at N9z); (try dsimp only); (try k_sweep); (try k_fold))) | (k_here; (with_reducible show wpAny _ _ (call (Value.ref 154) _ _) _ _ _); k_dflt (refine' Cut.uz (by k_asm) (by k_asm) (by k_asm) (by k_asm) sub_self (by k_asm) (by walk_at "R") (by ktr_room) (by ktr_units) (symbols _ _) ?_; k_whole; intro x9z h9z tk9z p9z F9z N9z; ((first | (refine and9 p9z ?_; (try clear p9z); intro pa9z pb9z pc9z pd9z pe9z pf9z pg9z ph9z pi9z) | obtain ⟨pa9z, pb9z, pc9z, pd9z, pe9z, pf9z, pg9z, ph9z, pi9z⟩ := p9z)); (try k_lt pa9z); (replace pb9z := ltN pb9z); (replace pc9z := ltN pc9z); (replace pd9z := ltN pd9z); (try dsimp only at N9z); (try dsimp only); (try k_sweep); (try k_fold))) | (k_here; (with_reducible show wpAny _ _ (call (Value.ref 692) _ _) _ _ _); k_dflt (refine' whole_use (by k_asm) (by k_asm) (by k_asm) (by k_asm) (by k_asm) (by walk_at "R") (by k_updF) (by walk_at "M") (by walk_at "N") (by walk_at "E") (by ktr_room) (by ktr_units) ?_; k_whole; intro x9z h9z tk9z p9z F9z N9z; ((first | (refine and2 p9z ?_; (try clear p9z); intro pa9z pc9z) | obtain ⟨pa9z, pc9z⟩ := p9z)); (try dsimp only at N9z); walk_at "Z")) | (k_here; (with_reducible show wpAny _ _ (call (Value.ref 685) _ _) _ _ _); k_dflt (refine' draw_use (by k_asm) (by k_asm) (by k_asm) (by k_asm) (by k_asm) (by walk_at "R") (by k_updF) (by walk_at "M") (by walk_at "N") (by walk_at "E") (by walk_at "E") (by walk_at "O") (by ktr_room) (by ktr_units) ?_; k_whole; intro x9z h9z tk9z p9z F9z N9z; ((first | (refine and3 p9z ?_; (try clear p9z); intro pa9z pb9z pc9z) | obtain ⟨pa9z, pb9z, pc9z⟩ := p9z)); (try dsimp only at N9z); walk_at "Z")) | (k_unfold; (try dsimp only); (try clear qkC)) | (k_end; wrow_close) | ((with_reducible show wpAny _ _ (execs (List.cons _ _) _) _ _ _); first | k_gentoks | (refine execs_consF ?_; intro qkC)) | walk1 | (dsimp only; walk1) | (leave1; try dsimp only) | fail "no step")
    all_goals (have F9z := True.intro; have N9z := True.intro; have h9z := True.intro; have p9z := True.intro; have pa9z := True.intro; have pb9z := True.intro; have pc9z := True.intro; have pd9z := True.intro; have pe9z := True.intro; have pf9z := True.intro; have pg9z := True.intro; have ph9z := True.intro; have pi9z := True.intro; have pz9z := True.intro; have tk9z := True.intro; have x9z := True.intro)
    rename_i D1 h1 l1 D2 h2 l2 D3 h3 l3 TL h4 l4 h5 D4 h6 l5 h7 F9 N9
    have LSa := ((((LS.add (p := (D1, { cls := Value.type "tuple", data := Data.seq #[Value.int 5 442, Value.int (T p) t1] })) ⟨l1.1, l1.2.1, l1.2.2.1, l1.2.2.2.1, l1.2.2.2.2.1, l1.2.2.2.2.2.1, l1.2.2.2.2.2.2.1⟩).add (p := (D2, { cls := Value.type "tuple", data := Data.seq #[Value.int 5 442, Value.int (S p) t2] })) ⟨l2.2.1, l2.2.2.1, l2.2.2.2.1, l2.2.2.2.2.1, l2.2.2.2.2.2.1, l2.2.2.2.2.2.2.1, l2.2.2.2.2.2.2.2.1⟩).add (p := (D3, { cls := Value.type "tuple", data := Data.seq #[Value.int 5 442, Value.int (T (p + 1)) t3] })) ⟨l3.2.2.1, l3.2.2.2.1, l3.2.2.2.2.1, l3.2.2.2.2.2.1, l3.2.2.2.2.2.2.1, l3.2.2.2.2.2.2.2.1, l3.2.2.2.2.2.2.2.2.1⟩).add (p := (TL, W.listOf (List.toArray [.ref D4, .ref D2, .ref D3]) 0)) ⟨l4.2.2.2.1, l4.2.2.2.2.1, l4.2.2.2.2.2.1, l4.2.2.2.2.2.2.1, l4.2.2.2.2.2.2.2.1, l4.2.2.2.2.2.2.2.2.1, l4.2.2.2.2.2.2.2.2.2.1⟩).add (p := (D4, { cls := Value.type "tuple", data := Data.seq #[Value.int 5 442, Value.int (T p + 1) (tk + 1 + 1)] })) ⟨l5.2.2.2.2.1, l5.2.2.2.2.2.1, l5.2.2.2.2.2.2.1, l5.2.2.2.2.2.2.2.1, l5.2.2.2.2.2.2.2.2.1, l5.2.2.2.2.2.2.2.2.2.1, l5.2.2.2.2.2.2.2.2.2.2.1⟩
    refine turnF2 w z x hs xs to st ce si n _ SC cC cM u KN (some (.int (p : Int) tp)) fr to' (some (.int 0 tsp)) TL D4 D2 D3 0 (T p + 1) (S p) (T (p + 1)) _ _ _ _ _ _ _ _ _ mean mg mb dp un gd a ccd A₀ base h₀ L _ Q E B (mF_t (tr := tr) ▸ F9) XX (fun q hq => N9 q (pF1 q hq)) TT hd hu LSa (by omega) hx (.tail _ (.head _)) (.head _) (.tail _ (.tail _ (.tail _ (.head _)))) (.tail _ (.tail _ (.head _))) (by omega) (nab (nab bTa nab1 (Nat.le_refl _)) bS (by decide)) fun xs' n' h' tk' g1 g2 g3 => ?_
    exact cont _ xs' n' h' tk' g1 g2 fun q hq => g3 q (pF2 q hq)
  · (try (refine foldQ ?_; intro qkT3))
    repeat' (((fail_if_success (with_reducible show wpAny _ _ (exec (Stmt.For _ _ _ _ _) _) _ _ _)); (fail_if_success (with_reducible show wpAny _ _ (pyIter _) _ _ _)); (fail_if_success (with_reducible show wpAny _ _ (execs (Stmt.If _ _ _ _ :: _) _) _ _ _))); first | (k_here; (with_reducible show wpAny _ _ (call (Value.ref 706) _ _) _ _ _); k_dflt (refine' Cut.uz (by k_asm) (by k_asm) (by k_asm) (by k_asm) sub_self (by k_asm) (by walk_at "R") (by ktr_room) (by ktr_units) (sumF (by assumption) (by assumption) (by assumption) (by assumption) (by assumption) (by assumption) (by assumption) (by assumption)) ?_; k_whole; intro x9z h9z tk9z p9z F9z N9z; (try dsimp only at N9z); walk_at "Z")) | (k_here; (with_reducible show wpAny _ _ (call (Value.ref 265) _ _) _ _ _); k_dflt (refine' bind_use (by k_asm) (by k_asm) (by k_asm) (by k_asm) (by k_asm) (by walk_at "R") (by k_updF) (by walk_at "M") (by k_mem) (by walk_at "N") (by walk_at "E") (by first | assumption | ((try simp only [List.length_append, List.length_cons, List.length_nil, List.length_set]); first | exact lenB (by assumption) rfl | exact lenA (by assumption) rfl | omega)) (by walk_at "E") (by ktr_room) (by ktr_units) ?_; k_whole; intro h9z tk9z F9z N9z; (try dsimp only at N9z); walk_at "Z")) | (k_here; (with_reducible show wpAny _ _ (call (Value.ref 230) _ _) _ _ _); k_dflt (refine' newvar_use (by k_asm) (by k_asm) (by k_asm) (by k_asm) (by k_asm) (by walk_at "R") (by k_updF) (by walk_at "M") (by walk_at "L") (by ktr_room) (by ktr_units) ?_; k_whole; intro x9z h9z tk9z p9z F9z N9z; (try dsimp only at N9z); (try k_lt p9z); walk_at "Z")) | (k_here; (with_reducible show wpAny _ _ (call (Value.ref 251) _ _) _ _ _); k_dflt (refine' Cut.uz (by k_asm) (by k_asm) (by k_asm) (by k_asm) sub_self (by k_asm) (by walk_at "R") (by ktr_room) (by ktr_units) (derefS (by walk_at "M") (by k_mem) (by walk_at "M") (by omega)) ?_; k_whole; intro x9z h9z tk9z p9z F9z N9z; (have pz9z := p9z); (first | (obtain ⟨pa9z, ⟨pb9z, pc9z, pd9z, pe9z⟩, pf9z⟩ := p9z; subst pa9z) | (first | (refine and4 p9z ?_; (try clear p9z); intro pa9z pb9z pc9z pd9z) | obtain ⟨pa9z, pb9z, pc9z, pd9z⟩ := p9z)); (try dsimp only at N9z); walk_at "Z")) | (k_here; (with_reducible show wpAny _ _ (call (Value.ref 699) _ _) _ _ _); k_dflt (refine' Cut.uz (by k_asm) (by k_asm) (by k_asm) (by k_asm) (by refine' Del.sub2 (by k_upd) (by k_upd)) (by k_asm) (by walk_at "R") (by ktr_room) (by ktr_units) (lcell _ _ _ _ _ _ _ _ _ _ _ _ _ _ _ _ (by walk_at "M") (by walk_at "A") (by walk_at "A") (by walk_at "N") (by walk_at "M") (by walk_at "N") (by walk_at "E") (by walk_at "L")) ?_; k_whole; intro x9z h9z tk9z p9z F9z N9z; ((first | (refine andNest p9z ?_; (try clear p9z); intro pa9z pb9z pc9z pd9z pe9z pf9z pg9z ph9z pi9z) | obtain ⟨⟨pa9z, pb9z, pc9z⟩, ⟨pd9z, pe9z, pf9z⟩, pg9z, ph9z, pi9z⟩ := p9z)); (replace pa9z := ltN pa9z); (replace pb9z := ltN pb9z); (replace pd9z := ltN pd9z); (replace pe9z := ltN pe9z); (try k_lt pc9z); (try k_lt pf9z); (try dsimp only at N9z); (try dsimp only); (try k_sweep); (try k_fold))) | (k_here; (with_reducible show wpAny _ _ (call (Value.ref 674) _ _) _ _ _); k_dflt (refine' Cut.uz (by k_asm) (by k_asm) (by k_asm) (by k_asm) sub_self (by k_asm) (by walk_at "R") (by ktr_room) (by ktr_units) (areas _ _ _ _) ?_; k_whole; intro x9z h9z tk9z p9z F9z N9z; ((first | (refine and7 p9z ?_; (try clear p9z); intro pz9z pa9z pb9z pc9z pd9z pe9z pf9z) | obtain ⟨pz9z, pa9z, pb9z, pc9z, pd9z, pe9z, pf9z⟩ := p9z)); (try k_lt pa9z); (replace pb9z := ltN pb9z); (replace pc9z := ltN pc9z); (replace pd9z := ltN pd9z); (replace pe9z := ltN pe9z); (replace pf9z := ltN pf9z); (try dsimp only at N9z); (try dsimp only); (try k_sweep); (try k_fold))) | (k_here; (with_reducible show wpAny _ _ (call (Value.ref 154) _ _) _ _ _); k_dflt (refine' Cut.uz (by k_asm) (by k_asm) (by k_asm) (by k_asm) sub_self (by k_asm) (by walk_at "R") (by ktr_room) (by ktr_units) (symbols _ _) ?_; k_whole; intro x9z h9z tk9z p9z F9z N9z; ((first | (refine and9 p9z ?_; (try clear p9z); intro pa9z pb9z pc9z pd9z pe9z pf9z pg9z ph9z pi9z) | obtain ⟨pa9z, pb9z, pc9z, pd9z, pe9z, pf9z, pg9z, ph9z, pi9z⟩ := p9z)); (try k_lt pa9z); (replace pb9z := ltN pb9z); (replace pc9z := ltN pc9z); (replace pd9z := ltN pd9z); (try dsimp only at N9z); (try dsimp only); (try k_sweep); (try k_fold))) | (k_here; (with_reducible show wpAny _ _ (call (Value.ref 692) _ _) _ _ _); k_dflt (refine' whole_use (by k_asm) (by k_asm) (by k_asm) (by k_asm) (by k_asm) (by walk_at "R") (by k_updF) (by walk_at "M") (by walk_at "N") (by walk_at "E") (by ktr_room) (by ktr_units) ?_; k_whole; intro x9z h9z tk9z p9z F9z N9z; ((first | (refine and2 p9z ?_; (try clear p9z); intro pa9z pc9z) | obtain ⟨pa9z, pc9z⟩ := p9z)); (try dsimp only at N9z); walk_at "Z")) | (k_here; (with_reducible show wpAny _ _ (call (Value.ref 685) _ _) _ _ _); k_dflt (refine' draw_use (by k_asm) (by k_asm) (by k_asm) (by k_asm) (by k_asm) (by walk_at "R") (by k_updF) (by walk_at "M") (by walk_at "N") (by walk_at "E") (by walk_at "E") (by walk_at "O") (by ktr_room) (by ktr_units) ?_; k_whole; intro x9z h9z tk9z p9z F9z N9z; ((first | (refine and3 p9z ?_; (try clear p9z); intro pa9z pb9z pc9z) | obtain ⟨pa9z, pb9z, pc9z⟩ := p9z)); (try dsimp only at N9z); walk_at "Z")) | (k_unfold; (try dsimp only); (try clear qkC)) | (k_end; wrow_close) | ((with_reducible show wpAny _ _ (execs (List.cons _ _) _) _ _ _); first | k_gentoks | (refine execs_consF ?_; intro qkC)) | walk1 | (dsimp only; walk1) | (leave1; try dsimp only) | fail "no step")
    all_goals (have F9z := True.intro; have N9z := True.intro; have h9z := True.intro; have p9z := True.intro; have pa9z := True.intro; have pb9z := True.intro; have pc9z := True.intro; have pd9z := True.intro; have pe9z := True.intro; have pf9z := True.intro; have pg9z := True.intro; have ph9z := True.intro; have pi9z := True.intro; have pz9z := True.intro; have tk9z := True.intro; have x9z := True.intro)
    rename_i D1 h1 l1 D2 h2 l2 D3 h3 l3 TL h4 l4 h5 D4 h6 l5 h7 F9 N9
    have LSa := ((((LS.add (p := (D1, { cls := Value.type "tuple", data := Data.seq #[Value.int 5 442, Value.int (T p) t1] })) ⟨l1.1, l1.2.1, l1.2.2.1, l1.2.2.2.1, l1.2.2.2.2.1, l1.2.2.2.2.2.1, l1.2.2.2.2.2.2.1⟩).add (p := (D2, { cls := Value.type "tuple", data := Data.seq #[Value.int 5 442, Value.int (S p) t2] })) ⟨l2.2.1, l2.2.2.1, l2.2.2.2.1, l2.2.2.2.2.1, l2.2.2.2.2.2.1, l2.2.2.2.2.2.2.1, l2.2.2.2.2.2.2.2.1⟩).add (p := (D3, { cls := Value.type "tuple", data := Data.seq #[Value.int 5 442, Value.int (T (p + 1)) t3] })) ⟨l3.2.2.1, l3.2.2.2.1, l3.2.2.2.2.1, l3.2.2.2.2.2.1, l3.2.2.2.2.2.2.1, l3.2.2.2.2.2.2.2.1, l3.2.2.2.2.2.2.2.2.1⟩).add (p := (TL, W.listOf (List.toArray [.ref D1, .ref D4, .ref D3]) 0)) ⟨l4.2.2.2.1, l4.2.2.2.2.1, l4.2.2.2.2.2.1, l4.2.2.2.2.2.2.1, l4.2.2.2.2.2.2.2.1, l4.2.2.2.2.2.2.2.2.1, l4.2.2.2.2.2.2.2.2.2.1⟩).add (p := (D4, { cls := Value.type "tuple", data := Data.seq #[Value.int 5 442, Value.int (S p + 1) (tk + 1 + 1)] })) ⟨l5.2.2.2.2.1, l5.2.2.2.2.2.1, l5.2.2.2.2.2.2.1, l5.2.2.2.2.2.2.2.1, l5.2.2.2.2.2.2.2.2.1, l5.2.2.2.2.2.2.2.2.2.1, l5.2.2.2.2.2.2.2.2.2.2.1⟩
    refine turnF2 w z x hs xs to st ce si n _ SC cC cM u KN (some (.int (p : Int) tp)) fr to' (some (.int 1 tsp)) TL D1 D4 D3 0 (T p) (S p + 1) (T (p + 1)) _ _ _ _ _ _ _ _ _ mean mg mb dp un gd a ccd A₀ base h₀ L _ Q E B (mF_t (tr := tr) ▸ F9) XX (fun q hq => N9 q (pF1 q hq)) TT hd hu LSa (by omega) hx (.tail _ (.head _)) (.tail _ (.tail _ (.tail _ (.tail _ (.head _))))) (.head _) (.tail _ (.tail _ (.head _))) (by omega) (nab bTa (nab bS nab1 (Nat.le_refl _)) (by decide)) fun xs' n' h' tk' g1 g2 g3 => ?_
    exact cont _ xs' n' h' tk' g1 g2 fun q hq => g3 q (pF2 q hq)
  · (try (refine foldQ ?_; intro qkT4))
    repeat' (((fail_if_success (with_reducible show wpAny _ _ (exec (Stmt.For _ _ _ _ _) _) _ _ _)); (fail_if_success (with_reducible show wpAny _ _ (pyIter _) _ _ _)); (fail_if_success (with_reducible show wpAny _ _ (execs (Stmt.If _ _ _ _ :: _) _) _ _ _))); first | (k_here; (with_reducible show wpAny _ _ (call (Value.ref 706) _ _) _ _ _); k_dflt (refine' Cut.uz (by k_asm) (by k_asm) (by k_asm) (by k_asm) sub_self (by k_asm) (by walk_at "R") (by ktr_room) (by ktr_units) (sumF (by assumption) (by assumption) (by assumption) (by assumption) (by assumption) (by assumption) (by assumption) (by assumption)) ?_; k_whole; intro x9z h9z tk9z p9z F9z N9z; (try dsimp only at N9z); walk_at "Z")) | (k_here; (with_reducible show wpAny _ _ (call (Value.ref 265) _ _) _ _ _); k_dflt (refine' bind_use (by k_asm) (by k_asm) (by k_asm) (by k_asm) (by k_asm) (by walk_at "R") (by k_updF) (by walk_at "M") (by k_mem) (by walk_at "N") (by walk_at "E") (by first | assumption | ((try simp only [List.length_append, List.length_cons, List.length_nil, List.length_set]); first | exact lenB (by assumption) rfl | exact lenA (by assumption) rfl | omega)) (by walk_at "E") (by ktr_room) (by ktr_units) ?_; k_whole; intro h9z tk9z F9z N9z; (try dsimp only at N9z); walk_at "Z")) | (k_here; (with_reducible show wpAny _ _ (call (Value.ref 230) _ _) _ _ _); k_dflt (refine' newvar_use (by k_asm) (by k_asm) (by k_asm) (by k_asm) (by k_asm) (by walk_at "R") (by k_updF) (by walk_at "M") (by walk_at "L") (by ktr_room) (by ktr_units) ?_; k_whole; intro x9z h9z tk9z p9z F9z N9z; (try dsimp only at N9z); (try k_lt p9z); walk_at "Z")) | (k_here; (with_reducible show wpAny _ _ (call (Value.ref 251) _ _) _ _ _); k_dflt (refine' Cut.uz (by k_asm) (by k_asm) (by k_asm) (by k_asm) sub_self (by k_asm) (by walk_at "R") (by ktr_room) (by ktr_units) (derefS (by walk_at "M") (by k_mem) (by walk_at "M") (by omega)) ?_; k_whole; intro x9z h9z tk9z p9z F9z N9z; (have pz9z := p9z); (first | (obtain ⟨pa9z, ⟨pb9z, pc9z, pd9z, pe9z⟩, pf9z⟩ := p9z; subst pa9z) | (first | (refine and4 p9z ?_; (try clear p9z); intro pa9z pb9z pc9z pd9z) | obtain ⟨pa9z, pb9z, pc9z, pd9z⟩ := p9z)); (try dsimp only at N9z); walk_at "Z")) | (k_here; (with_reducible show wpAny _ _ (call (Value.ref 699) _ _) _ _ _); k_dflt (refine' Cut.uz (by k_asm) (by k_asm) (by k_asm) (by k_asm) (by refine' Del.sub2 (by k_upd) (by k_upd)) (by k_asm) (by walk_at "R") (by ktr_room) (by ktr_units) (lcell _ _ _ _ _ _ _ _ _ _ _ _ _ _ _ _ (by walk_at "M") (by walk_at "A") (by walk_at "A") (by walk_at "N") (by walk_at "M") (by walk_at "N") (by walk_at "E") (by walk_at "L")) ?_; k_whole; intro x9z h9z tk9z p9z F9z N9z; ((first | (refine andNest p9z ?_; (try clear p9z); intro pa9z pb9z pc9z pd9z pe9z pf9z pg9z ph9z pi9z) | obtain ⟨⟨pa9z, pb9z, pc9z⟩, ⟨pd9z, pe9z, pf9z⟩, pg9z, ph9z, pi9z⟩ := p9z)); (replace pa9z := ltN pa9z); (replace pb9z := ltN pb9z); (replace pd9z := ltN pd9z); (replace pe9z := ltN pe9z); (try k_lt pc9z); (try k_lt pf9z); (try dsimp only at N9z); (try dsimp only); (try k_sweep); (try k_fold))) | (k_here; (with_reducible show wpAny _ _ (call (Value.ref 674) _ _) _ _ _); k_dflt (refine' Cut.uz (by k_asm) (by k_asm) (by k_asm) (by k_asm) sub_self (by k_asm) (by walk_at "R") (by ktr_room) (by ktr_units) (areas _ _ _ _) ?_; k_whole; intro x9z h9z tk9z p9z F9z N9z; ((first | (refine and7 p9z ?_; (try clear p9z); intro pz9z pa9z pb9z pc9z pd9z pe9z pf9z) | obtain ⟨pz9z, pa9z, pb9z, pc9z, pd9z, pe9z, pf9z⟩ := p9z)); (try k_lt pa9z); (replace pb9z := ltN pb9z); (replace pc9z := ltN pc9z); (replace pd9z := ltN pd9z); (replace pe9z := ltN pe9z); (replace pf9z := ltN pf9z); (try dsimp only at N9z); (try dsimp only); (try k_sweep); (try k_fold))) | (k_here; (with_reducible show wpAny _ _ (call (Value.ref 154) _ _) _ _ _); k_dflt (refine' Cut.uz (by k_asm) (by k_asm) (by k_asm) (by k_asm) sub_self (by k_asm) (by walk_at "R") (by ktr_room) (by ktr_units) (symbols _ _) ?_; k_whole; intro x9z h9z tk9z p9z F9z N9z; ((first | (refine and9 p9z ?_; (try clear p9z); intro pa9z pb9z pc9z pd9z pe9z pf9z pg9z ph9z pi9z) | obtain ⟨pa9z, pb9z, pc9z, pd9z, pe9z, pf9z, pg9z, ph9z, pi9z⟩ := p9z)); (try k_lt pa9z); (replace pb9z := ltN pb9z); (replace pc9z := ltN pc9z); (replace pd9z := ltN pd9z); (try dsimp only at N9z); (try dsimp only); (try k_sweep); (try k_fold))) | (k_here; (with_reducible show wpAny _ _ (call (Value.ref 692) _ _) _ _ _); k_dflt (refine' whole_use (by k_asm) (by k_asm) (by k_asm) (by k_asm) (by k_asm) (by walk_at "R") (by k_updF) (by walk_at "M") (by walk_at "N") (by walk_at "E") (by ktr_room) (by ktr_units) ?_; k_whole; intro x9z h9z tk9z p9z F9z N9z; ((first | (refine and2 p9z ?_; (try clear p9z); intro pa9z pc9z) | obtain ⟨pa9z, pc9z⟩ := p9z)); (try dsimp only at N9z); walk_at "Z")) | (k_here; (with_reducible show wpAny _ _ (call (Value.ref 685) _ _) _ _ _); k_dflt (refine' draw_use (by k_asm) (by k_asm) (by k_asm) (by k_asm) (by k_asm) (by walk_at "R") (by k_updF) (by walk_at "M") (by walk_at "N") (by walk_at "E") (by walk_at "E") (by walk_at "O") (by ktr_room) (by ktr_units) ?_; k_whole; intro x9z h9z tk9z p9z F9z N9z; ((first | (refine and3 p9z ?_; (try clear p9z); intro pa9z pb9z pc9z) | obtain ⟨pa9z, pb9z, pc9z⟩ := p9z)); (try dsimp only at N9z); walk_at "Z")) | (k_unfold; (try dsimp only); (try clear qkC)) | (k_end; wrow_close) | ((with_reducible show wpAny _ _ (execs (List.cons _ _) _) _ _ _); first | k_gentoks | (refine execs_consF ?_; intro qkC)) | walk1 | (dsimp only; walk1) | (leave1; try dsimp only) | fail "no step")
    all_goals (have F9z := True.intro; have N9z := True.intro; have h9z := True.intro; have p9z := True.intro; have pa9z := True.intro; have pb9z := True.intro; have pc9z := True.intro; have pd9z := True.intro; have pe9z := True.intro; have pf9z := True.intro; have pg9z := True.intro; have ph9z := True.intro; have pi9z := True.intro; have pz9z := True.intro; have tk9z := True.intro; have x9z := True.intro)
    rename_i D1 h1 l1 D2 h2 l2 D3 h3 l3 TL h4 l4 h5 D4 h6 l5 h7 F9 N9
    have LSa := ((((LS.add (p := (D1, { cls := Value.type "tuple", data := Data.seq #[Value.int 5 442, Value.int (T p) t1] })) ⟨l1.1, l1.2.1, l1.2.2.1, l1.2.2.2.1, l1.2.2.2.2.1, l1.2.2.2.2.2.1, l1.2.2.2.2.2.2.1⟩).add (p := (D2, { cls := Value.type "tuple", data := Data.seq #[Value.int 5 442, Value.int (S p) t2] })) ⟨l2.2.1, l2.2.2.1, l2.2.2.2.1, l2.2.2.2.2.1, l2.2.2.2.2.2.1, l2.2.2.2.2.2.2.1, l2.2.2.2.2.2.2.2.1⟩).add (p := (D3, { cls := Value.type "tuple", data := Data.seq #[Value.int 5 442, Value.int (T (p + 1)) t3] })) ⟨l3.2.2.1, l3.2.2.2.1, l3.2.2.2.2.1, l3.2.2.2.2.2.1, l3.2.2.2.2.2.2.1, l3.2.2.2.2.2.2.2.1, l3.2.2.2.2.2.2.2.2.1⟩).add (p := (TL, W.listOf (List.toArray [.ref D1, .ref D2, .ref D4]) 0)) ⟨l4.2.2.2.1, l4.2.2.2.2.1, l4.2.2.2.2.2.1, l4.2.2.2.2.2.2.1, l4.2.2.2.2.2.2.2.1, l4.2.2.2.2.2.2.2.2.1, l4.2.2.2.2.2.2.2.2.2.1⟩).add (p := (D4, { cls := Value.type "tuple", data := Data.seq #[Value.int 5 442, Value.int (T (p + 1) + 1) (tk + 1 + 1)] })) ⟨l5.2.2.2.2.1, l5.2.2.2.2.2.1, l5.2.2.2.2.2.2.1, l5.2.2.2.2.2.2.2.1, l5.2.2.2.2.2.2.2.2.1, l5.2.2.2.2.2.2.2.2.2.1, l5.2.2.2.2.2.2.2.2.2.2.1⟩
    refine turnF2 w z x hs xs to st ce si n _ SC cC cM u KN (some (.int (p : Int) tp)) fr to' (some (.int 2 tsp)) TL D1 D2 D4 0 (T p) (S p) (T (p + 1) + 1) _ _ _ _ _ _ _ _ _ mean mg mb dp un gd a ccd A₀ base h₀ L _ Q E B (mF_t (tr := tr) ▸ F9) XX (fun q hq => N9 q (pF1 q hq)) TT hd hu LSa (by omega) hx (.tail _ (.head _)) (.tail _ (.tail _ (.tail _ (.tail _ (.head _))))) (.tail _ (.tail _ (.tail _ (.head _)))) (.head _) (by omega) (nab bTa bS (by decide)) fun xs' n' h' tk' g1 g2 g3 => ?_
    exact cont _ xs' n' h' tk' g1 g2 fun q hq => g3 q (pF2 q hq)
/-! L17 -/
theorem pG1 {D hi lo P H XL TO ST CE SI : Addr × Obj} {VS : List (Addr × Obj)} : ∀ q ∈ P :: H :: XL :: TO :: ST :: CE :: SI :: D :: hi :: lo :: VS, q ∈ D :: hi :: lo :: P :: H :: XL :: TO :: ST :: CE :: SI :: VS := by
  repeat (first | exact sub_self | refine List.forall_mem_cons.mpr ⟨by repeat (first | exact List.Mem.head _ | refine List.Mem.tail _ ?_), ?_⟩ | refine sub_tail ?_)
theorem pG2 {D nv P H XL TO ST CE SI : Addr × Obj} {VS : List (Addr × Obj)} : ∀ q ∈ P :: H :: XL :: TO :: ST :: CE :: SI :: D :: nv :: VS, q ∈ D :: nv :: P :: H :: XL :: TO :: ST :: CE :: SI :: VS := by
  repeat (first | exact sub_self | refine List.forall_mem_cons.mpr ⟨by repeat (first | exact List.Mem.head _ | refine List.Mem.tail _ ?_), ?_⟩ | refine sub_tail ?_)
theorem pair_ne_same {prog : Program} {w : World} {A : Around} {E : Value → Shared → Prop} {s : Shared} {h₀ : Heap} {L : Addr} {news : List (Addr × Obj)} {q q' : Addr} {a b : Int} {ta tb tc td : Tok} {n n' : Nat} {Q : Value → Shared → Prop} (N : News h₀ L s.heap news) (h1 : (q, tup #[.int a ta, .int b tb] n) ∈ news) (h2 : (q', tup #[.int a tc, .int b td] n') ∈ news) (hu : A.units + 64 < cLine) (h : Q (.bool false) s) :
    wpAny (model prog w) A (compareOp .NotEq (.ref q) (.ref q')) Q E s := pair_ne N h1 h2 hu (by simpa using h)
local macro_rules | `(tactic| walk_at "compareOp NotEq ref ref") => `(tactic| (k_here; k_dflt (refine' pair_ne_same (by k_asm) (by repeat (first | assumption | refine List.Mem.tail _ ?_)) (by repeat (first | exact .head _ | refine List.Mem.tail _ ?_)) (by ktr_units) ?_; k_whole)))
theorem partG (w : World) (z : LD) (x : DrawD) (hs xs to st ce si : List Value) (n : LN) (VS : List (Addr × Obj)) (T S : Nat → Int) (SC cC cM : Addr) (k : Nat) (u KN pl tr fr to' sp : Option Value) (mean : ExcName → Option Value) (mg mb : Str → Option Value) (dp un : Nat) (gd : Option (List Code)) (a : Addr) (ccd : Value) (A₀ : Around) (base h₀ : Heap) (L : Addr) (s : Shared) (Q : Flow → Shared → Prop) (E : Value → Shared → Prop)
    (B : Below A₀ base [] h₀) (F : Fr h₀ L s.heap (mF z SC u KN pl tr fr to' sp)) (XX : (Mine.K w.params).In h₀) (N : News h₀ L s.heap (lawL z x hs xs to st ce si n VS)) (TT : Top VW LO mean mg mb h₀) (hd : dp + 200 < recursionLimit) (hu : un + 8000 < cLine)
    (LS : LawS w z cC cM VS) (hx : 1 ≤ xs.length ∧ xs.length ≤ 10) (hxp : -1 ≤ x.p) (hk : k ≤ 6) (R : Row VS hs to st ce si k T S)
    (cont : ∀ (m : Str → Option Value) (h' : Heap) (tk' : Nat), Fr h₀ L h' m → Q (.ret (.bool true)) { s with heap := h', toks := tk' }) :
    wpAny (model PySem.Challenge.rw_sa0162_01.row.prog w) (lawTop dp un gd L a ccd cC cM) (execs (c55b.drop 15) (lawEnv L a ccd cC cM)) Q E s := by
  revert XX; k_fill; intro XX
  have o1 := ltN LS.o1; have o2 := ltN LS.o2; have o3 := ltN LS.o3; have o4 := ltN LS.o4; have o5 := ltN LS.o5; have o6 := ltN LS.o6
  have a1 := LS.a1; have a2 := LS.a2; have a3 := LS.a3; have a4 := LS.a4; have a5 := LS.a5; have a6 := LS.a6; have a7 := LS.a7
  have hPool := LS.pool; have hSP := LS.nSP; have hMach := LS.mach
  have m1 := hMach.x; have m2 := hMach.xd; have m3 := hMach.m; have m4 := hMach.md
  obtain ⟨oM, cm, cmd⟩ := LS.cm
  obtain ⟨oC, cc, ccd'⟩ := LS.cc
  have lH := R.lH; have lTO := R.lTO; have lST := R.lST; have lCE := R.lCE; have lSI := R.lSI
  have z1 := R.le1 hk; have z2 := R.le2 hk; have z3 := R.le3 hk; have z4 := R.le4 hk; have z5 := R.le5 hk; have ePH := LS.nPH; have ePX := LS.nPX; have ePT := LS.nPT; have ePS := LS.nPS; have ePC := LS.nPC; have ePI := LS.nPI; have eHX := LS.nHX; have eHT := LS.nHT; have eHS := LS.nHS; have eHC := LS.nHC; have eHI := LS.nHI; have eXT := LS.nXT; have eXS := LS.nXS; have eXC := LS.nXC; have eXI := LS.nXI; have eTS := LS.nTS; have eTC := LS.nTC; have eTI := LS.nTI; have eSC := LS.nSC; have eSI := LS.nSI; have eCI := LS.nCI
  (try (refine foldAE ?_; intro envT AT))
  repeat' (((fail_if_success (with_reducible show wpAny _ _ (call (Value.ref 713) _ _) _ _ _))); first | (k_here; (with_reducible show wpAny _ _ (call (Value.ref 251) _ _) _ _ _); k_dflt (refine' Cut.uz (by k_asm) (by k_asm) (by k_asm) (by k_asm) sub_self (by k_asm) (by walk_at "R") (by ktr_room) (by ktr_units) (deref _ _ _ _ _ _ _ (by walk_at "M") (by k_mem) (by walk_at "M")) ?_; k_whole; intro x9z h9z tk9z p9z F9z N9z; (try dsimp only at N9z); walk_at "Z")) | (k_here; (with_reducible show wpAny _ _ (call (Value.ref 265) _ _) _ _ _); k_dflt (refine' bind_use (by k_asm) (by k_asm) (by k_asm) (by k_asm) (by k_asm) (by walk_at "R") (by k_updF) (by walk_at "M") (by k_mem) (by walk_at "N") (by walk_at "E") (by first | assumption | ((try simp only [List.length_append, List.length_cons, List.length_nil, List.length_set]); first | exact lenB (by assumption) rfl | exact lenA (by assumption) rfl | omega)) (by walk_at "E") (by ktr_room) (by ktr_units) ?_; k_whole; intro h9z tk9z F9z N9z; (try dsimp only at N9z); walk_at "Z")) | (k_here; (with_reducible show wpAny _ _ (call (Value.ref 230) _ _) _ _ _); k_dflt (refine' newvar_use (by k_asm) (by k_asm) (by k_asm) (by k_asm) (by k_asm) (by walk_at "R") (by k_updF) (by walk_at "M") (by walk_at "L") (by ktr_room) (by ktr_units) ?_; k_whole; intro x9z h9z tk9z p9z F9z N9z; (try dsimp only at N9z); (try k_lt p9z); walk_at "Z")) | (k_here; (with_reducible show wpAny _ _ (call (Value.ref 251) _ _) _ _ _); k_dflt (refine' Cut.uz (by k_asm) (by k_asm) (by k_asm) (by k_asm) sub_self (by k_asm) (by walk_at "R") (by ktr_room) (by ktr_units) (derefS (by walk_at "M") (by k_mem) (by walk_at "M") (by omega)) ?_; k_whole; intro x9z h9z tk9z p9z F9z N9z; (have pz9z := p9z); (first | (obtain ⟨pa9z, ⟨pb9z, pc9z, pd9z, pe9z⟩, pf9z⟩ := p9z; subst pa9z) | (first | (refine and4 p9z ?_; (try clear p9z); intro pa9z pb9z pc9z pd9z) | obtain ⟨pa9z, pb9z, pc9z, pd9z⟩ := p9z)); (try dsimp only at N9z); walk_at "Z")) | (k_here; (with_reducible show wpAny _ _ (call (Value.ref 699) _ _) _ _ _); k_dflt (refine' Cut.uz (by k_asm) (by k_asm) (by k_asm) (by k_asm) (by refine' Del.sub2 (by k_upd) (by k_upd)) (by k_asm) (by walk_at "R") (by ktr_room) (by ktr_units) (lcell _ _ _ _ _ _ _ _ _ _ _ _ _ _ _ _ (by walk_at "M") (by walk_at "A") (by walk_at "A") (by walk_at "N") (by walk_at "M") (by walk_at "N") (by walk_at "E") (by walk_at "L")) ?_; k_whole; intro x9z h9z tk9z p9z F9z N9z; ((first | (refine andNest p9z ?_; (try clear p9z); intro pa9z pb9z pc9z pd9z pe9z pf9z pg9z ph9z pi9z) | obtain ⟨⟨pa9z, pb9z, pc9z⟩, ⟨pd9z, pe9z, pf9z⟩, pg9z, ph9z, pi9z⟩ := p9z)); (replace pa9z := ltN pa9z); (replace pb9z := ltN pb9z); (replace pd9z := ltN pd9z); (replace pe9z := ltN pe9z); (try k_lt pc9z); (try k_lt pf9z); (try dsimp only at N9z); (try dsimp only); (try k_sweep); (try k_fold))) | (k_here; (with_reducible show wpAny _ _ (call (Value.ref 674) _ _) _ _ _); k_dflt (refine' Cut.uz (by k_asm) (by k_asm) (by k_asm) (by k_asm) sub_self (by k_asm) (by walk_at "R") (by ktr_room) (by ktr_units) (areas _ _ _ _) ?_; k_whole; intro x9z h9z tk9z p9z F9z N9z; ((first | (refine and7 p9z ?_; (try clear p9z); intro pz9z pa9z pb9z pc9z pd9z pe9z pf9z) | obtain ⟨pz9z, pa9z, pb9z, pc9z, pd9z, pe9z, pf9z⟩ := p9z)); (try k_lt pa9z); (replace pb9z := ltN pb9z); (replace pc9z := ltN pc9z); (replace pd9z := ltN pd9z); (replace pe9z := ltN pe9z); (replace pf9z := ltN pf9z); (try dsimp only at N9z); (try dsimp only); (try k_sweep); (try k_fold))) | (k_here; (with_reducible show wpAny _ _ (call (Value.ref 154) _ _) _ _ _); k_dflt (refine' Cut.uz (by k_asm) (by k_asm) (by k_asm) (by k_asm) sub_self (by k_asm) (by walk_at "R") (by ktr_room) (by ktr_units) (symbols _ _) ?_; k_whole; intro x9z h9z tk9z p9z F9z N9z; ((first | (refine and9 p9z ?_; (try clear p9z); intro pa9z pb9z pc9z pd9z pe9z pf9z pg9z ph9z pi9z) | obtain ⟨pa9z, pb9z, pc9z, pd9z, pe9z, pf9z, pg9z, ph9z, pi9z⟩ := p9z)); (try k_lt pa9z); (replace pb9z := ltN pb9z); (replace pc9z := ltN pc9z); (replace pd9z := ltN pd9z); (try dsimp only at N9z); (try dsimp only); (try k_sweep); (try k_fold))) | (k_here; (with_reducible show wpAny _ _ (call (Value.ref 692) _ _) _ _ _); k_dflt (refine' whole_use (by k_asm) (by k_asm) (by k_asm) (by k_asm) (by k_asm) (by walk_at "R") (by k_updF) (by walk_at "M") (by walk_at "N") (by walk_at "E") (by ktr_room) (by ktr_units) ?_; k_whole; intro x9z h9z tk9z p9z F9z N9z; ((first | (refine and2 p9z ?_; (try clear p9z); intro pa9z pc9z) | obtain ⟨pa9z, pc9z⟩ := p9z)); (try dsimp only at N9z); walk_at "Z")) | (k_here; (with_reducible show wpAny _ _ (call (Value.ref 685) _ _) _ _ _); k_dflt (refine' draw_use (by k_asm) (by k_asm) (by k_asm) (by k_asm) (by k_asm) (by walk_at "R") (by k_updF) (by walk_at "M") (by walk_at "N") (by walk_at "E") (by walk_at "E") (by walk_at "O") (by ktr_room) (by ktr_units) ?_; k_whole; intro x9z h9z tk9z p9z F9z N9z; ((first | (refine and3 p9z ?_; (try clear p9z); intro pa9z pb9z pc9z) | obtain ⟨pa9z, pb9z, pc9z⟩ := p9z)); (try dsimp only at N9z); walk_at "Z")) | (k_unfold; (try dsimp only); (try clear qkC)) | (k_end; wrow_close) | ((with_reducible show wpAny _ _ (execs (List.cons _ _) _) _ _ _); first | k_gentoks | (refine execs_consF ?_; intro qkC)) | walk1 | (dsimp only; walk1) | (leave1; try dsimp only) | fail "no step")
  all_goals (have F9z := True.intro; have N9z := True.intro; have h9z := True.intro; have p9z := True.intro; have pa9z := True.intro; have pb9z := True.intro; have pc9z := True.intro; have pd9z := True.intro; have pe9z := True.intro; have pf9z := True.intro; have pg9z := True.intro; have ph9z := True.intro; have pi9z := True.intro; have pz9z := True.intro; have tk9z := True.intro; have x9z := True.intro)
  repeat clear qk
  repeat clear ek
  rename_i x0 b0 b1 wa wb wc b2 b3 lo b4 b5 pl' b6 b7 hi b8 b9 ph b10 D h1 F9 N9 l9
  have hj : hs.length ≤ 13 := by omega
  have wb' : x0.d < 1000000000000000000000000000000 := by rw [← e30]; exact wb
  have LS1 := ((LS.add (p := (lo.q, tup #[Value.int 0 lo.t1, Value.int (↑hs.length) lo.t2] lo.n)) ⟨pl'.1, pl'.2.1, pl'.2.2.1, pl'.2.2.2.1, pl'.2.2.2.2.1, pl'.2.2.2.2.2.1, pl'.2.2.2.2.2.2.1⟩).add (p := (hi.q, tup #[Value.int 0 hi.t1, Value.int (↑(hs ++ [Value.ref lo.q]).length) hi.t2] hi.n)) ⟨ph.2.1, ph.2.2.1, ph.2.2.2.1, ph.2.2.2.2.1, ph.2.2.2.2.2.1, ph.2.2.2.2.2.2.1, ph.2.2.2.2.2.2.2.1⟩).add (p := (D, tup #[Value.int 5 442, Value.int x0.d x0.t] 0)) ⟨l9.2.2.1, l9.2.2.2.1, l9.2.2.2.2.1, l9.2.2.2.2.2.1, l9.2.2.2.2.2.2.1, l9.2.2.2.2.2.2.2.1, l9.2.2.2.2.2.2.2.2.1⟩
  have N1 : News h₀ L h1 (lawL z x0 (hs ++ [Value.ref lo.q] ++ [Value.ref hi.q]) xs to st ce si ⟨hi.n2, n.n3, n.n4, n.n5, n.n6, n.n7⟩ ((D, tup #[Value.int 5 442, Value.int x0.d x0.t] 0) :: (hi.q, tup #[Value.int 0 hi.t1, Value.int (↑(hs ++ [Value.ref lo.q]).length) hi.t2] hi.n) :: (lo.q, tup #[Value.int 0 lo.t1, Value.int (↑hs.length) lo.t2] lo.n) :: VS)) := fun q hq => N9 q (pG1 q hq)
  have cLo : Cell0 ((D, tup #[Value.int 5 442, Value.int x0.d x0.t] 0) :: (hi.q, tup #[Value.int 0 hi.t1, Value.int (↑(hs ++ [Value.ref lo.q]).length) hi.t2] hi.n) :: (lo.q, tup #[Value.int 0 lo.t1, Value.int (↑hs.length) lo.t2] lo.n) :: VS) hs.length lo.q := ⟨_, _, _, .tail _ (.tail _ (.head _))⟩
  have cHi : Cell0 ((D, tup #[Value.int 5 442, Value.int x0.d x0.t] 0) :: (hi.q, tup #[Value.int 0 hi.t1, Value.int (↑(hs ++ [Value.ref lo.q]).length) hi.t2] hi.n) :: (lo.q, tup #[Value.int 0 lo.t1, Value.int (↑hs.length) lo.t2] lo.n) :: VS) (hs ++ [Value.ref lo.q]).length hi.q := ⟨_, _, _, .tail _ (.head _)⟩
  have mD : (D, tup #[Value.int 5 442, Value.int x0.d x0.t] 0) ∈ (D, tup #[Value.int 5 442, Value.int x0.d x0.t] 0) :: (hi.q, tup #[Value.int 0 hi.t1, Value.int (↑(hs ++ [Value.ref lo.q]).length) hi.t2] hi.n) :: (lo.q, tup #[Value.int 0 lo.t1, Value.int (↑hs.length) lo.t2] lo.n) :: VS := .head _
  have gLo : (hs ++ [Value.ref lo.q] ++ [Value.ref hi.q])[hs.length]? = some (.ref lo.q) := by rw [at_append (by simp), at_last rfl]
  have gHi : (hs ++ [Value.ref lo.q] ++ [Value.ref hi.q])[(hs ++ [Value.ref lo.q]).length]? = some (.ref hi.q) := at_last rfl
  have hl1 : (hs ++ [Value.ref lo.q] ++ [Value.ref hi.q]).length ≤ 20 := by simp; omega
  have hne : hs.length ≠ (hs ++ [Value.ref lo.q]).length := by simp
  revert LS1 N1 cLo cHi mD gLo gHi hl1 hne
  generalize (hs ++ [Value.ref lo.q] ++ [Value.ref hi.q]) = hs1
  generalize ((D, tup #[Value.int 5 442, Value.int x0.d x0.t] 0) :: (hi.q, tup #[Value.int 0 hi.t1, Value.int (↑(hs ++ [Value.ref lo.q]).length) hi.t2] hi.n) :: (lo.q, tup #[Value.int 0 lo.t1, Value.int (↑hs.length) lo.t2] lo.n) :: VS) = VS1
  generalize (⟨hi.n2, n.n3, n.n4, n.n5, n.n6, n.n7⟩ : LN) = n1
  generalize (hs ++ [Value.ref lo.q]).length = jH
  generalize hs.length = jL
  intro LS1 N1 cLo cHi mD gLo gHi hl1 hne
  clear N9 l9 pl' ph LS a1 a2 a3 a4 a5 a6 a7 hPool hMach m1 m2 m3 m4 cm cc
  have hb8 : (x0.d + 1).natAbs ≤ 8 * BB := by simp only [BB]; omega
  k_dflt (refine' Cut.use (nextUp LS1 (by omega) hx mD wa hb8 cHi gHi) ?q1 ?q2 ?q3 ?q4 ?q5 ?q6 ?q7 ?q8 ?q9 ?_; (case q1 => k_asm); (case q2 => k_asm); (case q3 => k_asm); (case q4 => exact N1); (case q5 => repeat (first | exact sub_self | refine sub_tail ?_)); (case q6 => k_asm); (case q7 => first | exact rfl | assumption); (case q8 => ktr_room); (case q9 => ktr_units); k_whole)
  intro d1 h2 tk2 p2 F2 N2
  (first | (refine and7 p2 ?_; (try clear p2); intro hx1 LS2 sub2 len2 bH pres2 oth2) | obtain ⟨hx1, LS2, sub2, len2, bH, pres2, oth2⟩ := p2)
  replace cLo := cLo.mono sub2; replace cHi := cHi.mono sub2
  replace gLo := (oth2 _ hne).trans gLo
  have hl2 : d1.hs.length ≤ 20 := by omega
  clear N1 F9 mD gHi pres2 oth2 sub2 len2 LS1
  dsimp only
  (try k_fold)
  have a1 := LS2.a1; have a2 := LS2.a2; have a3 := LS2.a3; have a4 := LS2.a4; have a5 := LS2.a5; have a6 := LS2.a6; have a7 := LS2.a7
  have hPool := LS2.pool; have hMach := LS2.mach
  have m1 := hMach.x; have m2 := hMach.xd; have m3 := hMach.m; have m4 := hMach.md
  obtain ⟨oM, cm, cmd⟩ := LS2.cm
  obtain ⟨oC, cc, ccd'⟩ := LS2.cc
  (try (refine foldQ ?_; intro qkT2))
  repeat' (((fail_if_success (with_reducible show wpAny _ _ (call (Value.ref 713) _ _) _ _ _))); first | (k_here; (with_reducible show wpAny _ _ (call (Value.ref 251) _ _) _ _ _); k_dflt (refine' Cut.uz (by k_asm) (by k_asm) (by k_asm) (by k_asm) sub_self (by k_asm) (by walk_at "R") (by ktr_room) (by ktr_units) (deref _ _ _ _ _ _ _ (by walk_at "M") (by k_mem) (by walk_at "M")) ?_; k_whole; intro x9z h9z tk9z p9z F9z N9z; (try dsimp only at N9z); walk_at "Z")) | (k_here; (with_reducible show wpAny _ _ (call (Value.ref 265) _ _) _ _ _); k_dflt (refine' bind_use (by k_asm) (by k_asm) (by k_asm) (by k_asm) (by k_asm) (by walk_at "R") (by k_updF) (by walk_at "M") (by k_mem) (by walk_at "N") (by walk_at "E") (by first | assumption | ((try simp only [List.length_append, List.length_cons, List.length_nil, List.length_set]); first | exact lenB (by assumption) rfl | exact lenA (by assumption) rfl | omega)) (by walk_at "E") (by ktr_room) (by ktr_units) ?_; k_whole; intro h9z tk9z F9z N9z; (try dsimp only at N9z); walk_at "Z")) | (k_here; (with_reducible show wpAny _ _ (call (Value.ref 230) _ _) _ _ _); k_dflt (refine' newvar_use (by k_asm) (by k_asm) (by k_asm) (by k_asm) (by k_asm) (by walk_at "R") (by k_updF) (by walk_at "M") (by walk_at "L") (by ktr_room) (by ktr_units) ?_; k_whole; intro x9z h9z tk9z p9z F9z N9z; (try dsimp only at N9z); (try k_lt p9z); walk_at "Z")) | (k_here; (with_reducible show wpAny _ _ (call (Value.ref 251) _ _) _ _ _); k_dflt (refine' Cut.uz (by k_asm) (by k_asm) (by k_asm) (by k_asm) sub_self (by k_asm) (by walk_at "R") (by ktr_room) (by ktr_units) (derefS (by walk_at "M") (by k_mem) (by walk_at "M") (by omega)) ?_; k_whole; intro x9z h9z tk9z p9z F9z N9z; (have pz9z := p9z); (first | (obtain ⟨pa9z, ⟨pb9z, pc9z, pd9z, pe9z⟩, pf9z⟩ := p9z; subst pa9z) | (first | (refine and4 p9z ?_; (try clear p9z); intro pa9z pb9z pc9z pd9z) | obtain ⟨pa9z, pb9z, pc9z, pd9z⟩ := p9z)); (try dsimp only at N9z); walk_at "Z")) | (k_here; (with_reducible show wpAny _ _ (call (Value.ref 699) _ _) _ _ _); k_dflt (refine' Cut.uz (by k_asm) (by k_asm) (by k_asm) (by k_asm) (by refine' Del.sub2 (by k_upd) (by k_upd)) (by k_asm) (by walk_at "R") (by ktr_room) (by ktr_units) (lcell _ _ _ _ _ _ _ _ _ _ _ _ _ _ _ _ (by walk_at "M") (by walk_at "A") (by walk_at "A") (by walk_at "N") (by walk_at "M") (by walk_at "N") (by walk_at "E") (by walk_at "L")) ?_; k_whole; intro x9z h9z tk9z p9z F9z N9z; ((first | (refine andNest p9z ?_; (try clear p9z); intro pa9z pb9z pc9z pd9z pe9z pf9z pg9z ph9z pi9z) | obtain ⟨⟨pa9z, pb9z, pc9z⟩, ⟨pd9z, pe9z, pf9z⟩, pg9z, ph9z, pi9z⟩ := p9z)); (replace pa9z := ltN pa9z); (replace pb9z := ltN pb9z); (replace pd9z := ltN pd9z); (replace pe9z := ltN pe9z); (try k_lt pc9z); (try k_lt pf9z); (try dsimp only at N9z); (try dsimp only); (try k_sweep); (try k_fold))) | (k_here; (with_reducible show wpAny _ _ (call (Value.ref 674) _ _) _ _ _); k_dflt (refine' Cut.uz (by k_asm) (by k_asm) (by k_asm) (by k_asm) sub_self (by k_asm) (by walk_at "R") (by ktr_room) (by ktr_units) (areas _ _ _ _) ?_; k_whole; intro x9z h9z tk9z p9z F9z N9z; ((first | (refine and7 p9z ?_; (try clear p9z); intro pz9z pa9z pb9z pc9z pd9z pe9z pf9z) | obtain ⟨pz9z, pa9z, pb9z, pc9z, pd9z, pe9z, pf9z⟩ := p9z)); (try k_lt pa9z); (replace pb9z := ltN pb9z); (replace pc9z := ltN pc9z); (replace pd9z := ltN pd9z); (replace pe9z := ltN pe9z); (replace pf9z := ltN pf9z); (try dsimp only at N9z); (try dsimp only); (try k_sweep); (try k_fold))) | (k_here; (with_reducible show wpAny _ _ (call (Value.ref 154) _ _) _ _ _); k_dflt (refine' Cut.uz (by k_asm) (by k_asm) (by k_asm) (by k_asm) sub_self (by k_asm) (by walk_at "R") (by ktr_room) (by ktr_units) (symbols _ _) ?_; k_whole; intro x9z h9z tk9z p9z F9z N9z; ((first | (refine and9 p9z ?_; (try clear p9z); intro pa9z pb9z pc9z pd9z pe9z pf9z pg9z ph9z pi9z) | obtain ⟨pa9z, pb9z, pc9z, pd9z, pe9z, pf9z, pg9z, ph9z, pi9z⟩ := p9z)); (try k_lt pa9z); (replace pb9z := ltN pb9z); (replace pc9z := ltN pc9z); (replace pd9z := ltN pd9z); (try dsimp only at N9z); (try dsimp only); (try k_sweep); (try k_fold))) | (k_here; (with_reducible show wpAny _ _ (call (Value.ref 692) _ _) _ _ _); k_dflt (refine' whole_use (by k_asm) (by k_asm) (by k_asm) (by k_asm) (by k_asm) (by walk_at "R") (by k_updF) (by walk_at "M") (by walk_at "N") (by walk_at "E") (by ktr_room) (by ktr_units) ?_; k_whole; intro x9z h9z tk9z p9z F9z N9z; ((first | (refine and2 p9z ?_; (try clear p9z); intro pa9z pc9z) | obtain ⟨pa9z, pc9z⟩ := p9z)); (try dsimp only at N9z); walk_at "Z")) | (k_here; (with_reducible show wpAny _ _ (call (Value.ref 685) _ _) _ _ _); k_dflt (refine' draw_use (by k_asm) (by k_asm) (by k_asm) (by k_asm) (by k_asm) (by walk_at "R") (by k_updF) (by walk_at "M") (by walk_at "N") (by walk_at "E") (by walk_at "E") (by walk_at "O") (by ktr_room) (by ktr_units) ?_; k_whole; intro x9z h9z tk9z p9z F9z N9z; ((first | (refine and3 p9z ?_; (try clear p9z); intro pa9z pb9z pc9z) | obtain ⟨pa9z, pb9z, pc9z⟩ := p9z)); (try dsimp only at N9z); walk_at "Z")) | (k_unfold; (try dsimp only); (try clear qkC)) | (k_end; wrow_close) | ((with_reducible show wpAny _ _ (execs (List.cons _ _) _) _ _ _); first | k_gentoks | (refine execs_consF ?_; intro qkC)) | walk1 | (dsimp only; walk1) | (leave1; try dsimp only) | fail "no step")
  all_goals (have F9z := True.intro; have N9z := True.intro; have h9z := True.intro; have p9z := True.intro; have pa9z := True.intro; have pb9z := True.intro; have pc9z := True.intro; have pd9z := True.intro; have pe9z := True.intro; have pf9z := True.intro; have pg9z := True.intro; have ph9z := True.intro; have pi9z := True.intro; have pz9z := True.intro; have tk9z := True.intro; have x9z := True.intro)
  k_dflt (refine' Cut.use (nextDown LS2 (by omega) hx1 wa cLo gLo cHi bH) ?q1 ?q2 ?q3 ?q4 ?q5 ?q6 ?q7 ?q8 ?q9 ?_; (case q1 => k_asm); (case q2 => k_asm); (case q3 => k_asm); (case q4 => k_asm); (case q5 => repeat (first | exact sub_self | refine sub_tail ?_)); (case q6 => k_asm); (case q7 => first | exact rfl | assumption); (case q8 => ktr_room); (case q9 => ktr_units); k_whole)
  intro d2 h3 tk3 p3 F3 N3
  (first | (refine and7 p3 ?_; (try clear p3); intro hx2 LS3 sub3 len3 bL pres3 oth3) | obtain ⟨hx2, LS3, sub3, len3, bL, pres3, oth3⟩ := p3)
  replace cLo := cLo.mono sub3; replace cHi := cHi.mono sub3
  replace bH := pres3 _ _ (Ne.symm hne) bH
  have hl3 : d2.hs.length ≤ 20 := by omega
  clear N2 F2 gLo pres3 oth3 sub3 len3 LS2 hx1 a1 a2 a3 a4 a5 a6 a7 hPool hMach m1 m2 m3 m4 cm cc
  dsimp only
  (try k_fold)
  have a1 := LS3.a1; have a2 := LS3.a2; have a3 := LS3.a3; have a4 := LS3.a4; have a5 := LS3.a5; have a6 := LS3.a6; have a7 := LS3.a7
  have hPool := LS3.pool; have hMach := LS3.mach
  have m1 := hMach.x; have m2 := hMach.xd; have m3 := hMach.m; have m4 := hMach.md
  obtain ⟨oM, cm, cmd⟩ := LS3.cm
  obtain ⟨oC, cc, ccd'⟩ := LS3.cc
  obtain ⟨rL, tL, tL', kL, dL, mL⟩ := bL.der cLo (Nat.le_of_lt (Nat.lt_of_lt_of_le bL.lt (by omega)))
  obtain ⟨rH, tH, tH', kH, dH, mH⟩ := bH.der cHi (Nat.le_of_lt (Nat.lt_of_lt_of_le bH.lt (by omega)))
  (try (refine foldQ ?_; intro qkT3))
  repeat' (((fail_if_success (with_reducible show wpAny _ _ (call (Value.ref 713) _ _) _ _ _))); first | (k_here; (with_reducible show wpAny _ _ (call (Value.ref 251) _ _) _ _ _); k_dflt (refine' Cut.uz (by k_asm) (by k_asm) (by k_asm) (by k_asm) sub_self (by k_asm) (by walk_at "R") (by ktr_room) (by ktr_units) (deref _ _ _ _ _ _ _ (by walk_at "M") (by k_mem) (by walk_at "M")) ?_; k_whole; intro x9z h9z tk9z p9z F9z N9z; (try dsimp only at N9z); walk_at "Z")) | (k_here; (with_reducible show wpAny _ _ (call (Value.ref 265) _ _) _ _ _); k_dflt (refine' bind_use (by k_asm) (by k_asm) (by k_asm) (by k_asm) (by k_asm) (by walk_at "R") (by k_updF) (by walk_at "M") (by k_mem) (by walk_at "N") (by walk_at "E") (by first | assumption | ((try simp only [List.length_append, List.length_cons, List.length_nil, List.length_set]); first | exact lenB (by assumption) rfl | exact lenA (by assumption) rfl | omega)) (by walk_at "E") (by ktr_room) (by ktr_units) ?_; k_whole; intro h9z tk9z F9z N9z; (try dsimp only at N9z); walk_at "Z")) | (k_here; (with_reducible show wpAny _ _ (call (Value.ref 230) _ _) _ _ _); k_dflt (refine' newvar_use (by k_asm) (by k_asm) (by k_asm) (by k_asm) (by k_asm) (by walk_at "R") (by k_updF) (by walk_at "M") (by walk_at "L") (by ktr_room) (by ktr_units) ?_; k_whole; intro x9z h9z tk9z p9z F9z N9z; (try dsimp only at N9z); (try k_lt p9z); walk_at "Z")) | (k_here; (with_reducible show wpAny _ _ (call (Value.ref 251) _ _) _ _ _); k_dflt (refine' Cut.uz (by k_asm) (by k_asm) (by k_asm) (by k_asm) sub_self (by k_asm) (by walk_at "R") (by ktr_room) (by ktr_units) (derefS (by walk_at "M") (by k_mem) (by walk_at "M") (by omega)) ?_; k_whole; intro x9z h9z tk9z p9z F9z N9z; (have pz9z := p9z); (first | (obtain ⟨pa9z, ⟨pb9z, pc9z, pd9z, pe9z⟩, pf9z⟩ := p9z; subst pa9z) | (first | (refine and4 p9z ?_; (try clear p9z); intro pa9z pb9z pc9z pd9z) | obtain ⟨pa9z, pb9z, pc9z, pd9z⟩ := p9z)); (try dsimp only at N9z); walk_at "Z")) | (k_here; (with_reducible show wpAny _ _ (call (Value.ref 699) _ _) _ _ _); k_dflt (refine' Cut.uz (by k_asm) (by k_asm) (by k_asm) (by k_asm) (by refine' Del.sub2 (by k_upd) (by k_upd)) (by k_asm) (by walk_at "R") (by ktr_room) (by ktr_units) (lcell _ _ _ _ _ _ _ _ _ _ _ _ _ _ _ _ (by walk_at "M") (by walk_at "A") (by walk_at "A") (by walk_at "N") (by walk_at "M") (by walk_at "N") (by walk_at "E") (by walk_at "L")) ?_; k_whole; intro x9z h9z tk9z p9z F9z N9z; ((first | (refine andNest p9z ?_; (try clear p9z); intro pa9z pb9z pc9z pd9z pe9z pf9z pg9z ph9z pi9z) | obtain ⟨⟨pa9z, pb9z, pc9z⟩, ⟨pd9z, pe9z, pf9z⟩, pg9z, ph9z, pi9z⟩ := p9z)); (replace pa9z := ltN pa9z); (replace pb9z := ltN pb9z); (replace pd9z := ltN pd9z); (replace pe9z := ltN pe9z); (try k_lt pc9z); (try k_lt pf9z); (try dsimp only at N9z); (try dsimp only); (try k_sweep); (try k_fold))) | (k_here; (with_reducible show wpAny _ _ (call (Value.ref 674) _ _) _ _ _); k_dflt (refine' Cut.uz (by k_asm) (by k_asm) (by k_asm) (by k_asm) sub_self (by k_asm) (by walk_at "R") (by ktr_room) (by ktr_units) (areas _ _ _ _) ?_; k_whole; intro x9z h9z tk9z p9z F9z N9z; ((first | (refine and7 p9z ?_; (try clear p9z); intro pz9z pa9z pb9z pc9z pd9z pe9z pf9z) | obtain ⟨pz9z, pa9z, pb9z, pc9z, pd9z, pe9z, pf9z⟩ := p9z)); (try k_lt pa9z); (replace pb9z := ltN pb9z); (replace pc9z := ltN pc9z); (replace pd9z := ltN pd9z); (replace pe9z := ltN pe9z); (replace pf9z := ltN pf9z); (try dsimp only at N9z); (try dsimp only); (try k_sweep); (try k_fold))) | (k_here; (with_reducible show wpAny _ _ (call (Value.ref 154) _ _) _ _ _); k_dflt (refine' Cut.uz (by k_asm) (by k_asm) (by k_asm) (by k_asm) sub_self (by k_asm) (by walk_at "R") (by ktr_room) (by ktr_units) (symbols _ _) ?_; k_whole; intro x9z h9z tk9z p9z F9z N9z; ((first | (refine and9 p9z ?_; (try clear p9z); intro pa9z pb9z pc9z pd9z pe9z pf9z pg9z ph9z pi9z) | obtain ⟨pa9z, pb9z, pc9z, pd9z, pe9z, pf9z, pg9z, ph9z, pi9z⟩ := p9z)); (try k_lt pa9z); (replace pb9z := ltN pb9z); (replace pc9z := ltN pc9z); (replace pd9z := ltN pd9z); (try dsimp only at N9z); (try dsimp only); (try k_sweep); (try k_fold))) | (k_here; (with_reducible show wpAny _ _ (call (Value.ref 692) _ _) _ _ _); k_dflt (refine' whole_use (by k_asm) (by k_asm) (by k_asm) (by k_asm) (by k_asm) (by walk_at "R") (by k_updF) (by walk_at "M") (by walk_at "N") (by walk_at "E") (by ktr_room) (by ktr_units) ?_; k_whole; intro x9z h9z tk9z p9z F9z N9z; ((first | (refine and2 p9z ?_; (try clear p9z); intro pa9z pc9z) | obtain ⟨pa9z, pc9z⟩ := p9z)); (try dsimp only at N9z); walk_at "Z")) | (k_here; (with_reducible show wpAny _ _ (call (Value.ref 685) _ _) _ _ _); k_dflt (refine' draw_use (by k_asm) (by k_asm) (by k_asm) (by k_asm) (by k_asm) (by walk_at "R") (by k_updF) (by walk_at "M") (by walk_at "N") (by walk_at "E") (by walk_at "E") (by walk_at "O") (by ktr_room) (by ktr_units) ?_; k_whole; intro x9z h9z tk9z p9z F9z N9z; ((first | (refine and3 p9z ?_; (try clear p9z); intro pa9z pb9z pc9z) | obtain ⟨pa9z, pb9z, pc9z⟩ := p9z)); (try dsimp only at N9z); walk_at "Z")) | (k_unfold; (try dsimp only); (try clear qkC)) | (k_end; wrow_close) | ((with_reducible show wpAny _ _ (execs (List.cons _ _) _) _ _ _); first | k_gentoks | (refine execs_consF ?_; intro qkC)) | walk1 | (dsimp only; walk1) | (leave1; try dsimp only) | fail "no step")
  all_goals (have F9z := True.intro; have N9z := True.intro; have h9z := True.intro; have p9z := True.intro; have pa9z := True.intro; have pb9z := True.intro; have pc9z := True.intro; have pd9z := True.intro; have pe9z := True.intro; have pf9z := True.intro; have pg9z := True.intro; have ph9z := True.intro; have pi9z := True.intro; have pz9z := True.intro; have tk9z := True.intro; have x9z := True.intro)
  repeat clear qk
  repeat clear ek
  k_dflt (refine' Cut.use (nextSame (n := d2.n) LS3 (by omega) hx2 wa hb8 cLo bL cHi bH) ?q1 ?q2 ?q3 ?q4 ?q5 ?q6 ?q7 ?q8 ?q9 ?_; (case q1 => k_asm); (case q2 => k_asm); (case q3 => k_asm); (case q4 => k_asm); (case q5 => repeat (first | exact sub_self | refine sub_tail ?_)); (case q6 => k_asm); (case q7 => first | exact rfl | assumption); (case q8 => ktr_room); (case q9 => ktr_units); k_whole)
  intro d3 h4 tk4 hx3 F4 N4
  (try clear N3)
  (try clear F3)
  clear hx2 cHi bH dH mH
  dsimp only
  (try k_fold)
  (try (refine foldQ ?_; intro qkT4))
  repeat' (((fail_if_success (with_reducible show wpAny _ _ (call (Value.ref 713) _ _) _ _ _))); first | (k_here; (with_reducible show wpAny _ _ (call (Value.ref 251) _ _) _ _ _); k_dflt (refine' Cut.uz (by k_asm) (by k_asm) (by k_asm) (by k_asm) sub_self (by k_asm) (by walk_at "R") (by ktr_room) (by ktr_units) (deref _ _ _ _ _ _ _ (by walk_at "M") (by k_mem) (by walk_at "M")) ?_; k_whole; intro x9z h9z tk9z p9z F9z N9z; (try dsimp only at N9z); walk_at "Z")) | (k_here; (with_reducible show wpAny _ _ (call (Value.ref 265) _ _) _ _ _); k_dflt (refine' bind_use (by k_asm) (by k_asm) (by k_asm) (by k_asm) (by k_asm) (by walk_at "R") (by k_updF) (by walk_at "M") (by k_mem) (by walk_at "N") (by walk_at "E") (by first | assumption | ((try simp only [List.length_append, List.length_cons, List.length_nil, List.length_set]); first | exact lenB (by assumption) rfl | exact lenA (by assumption) rfl | omega)) (by walk_at "E") (by ktr_room) (by ktr_units) ?_; k_whole; intro h9z tk9z F9z N9z; (try dsimp only at N9z); walk_at "Z")) | (k_here; (with_reducible show wpAny _ _ (call (Value.ref 230) _ _) _ _ _); k_dflt (refine' newvar_use (by k_asm) (by k_asm) (by k_asm) (by k_asm) (by k_asm) (by walk_at "R") (by k_updF) (by walk_at "M") (by walk_at "L") (by ktr_room) (by ktr_units) ?_; k_whole; intro x9z h9z tk9z p9z F9z N9z; (try dsimp only at N9z); (try k_lt p9z); walk_at "Z")) | (k_here; (with_reducible show wpAny _ _ (call (Value.ref 251) _ _) _ _ _); k_dflt (refine' Cut.uz (by k_asm) (by k_asm) (by k_asm) (by k_asm) sub_self (by k_asm) (by walk_at "R") (by ktr_room) (by ktr_units) (derefS (by walk_at "M") (by k_mem) (by walk_at "M") (by omega)) ?_; k_whole; intro x9z h9z tk9z p9z F9z N9z; (have pz9z := p9z); (first | (obtain ⟨pa9z, ⟨pb9z, pc9z, pd9z, pe9z⟩, pf9z⟩ := p9z; subst pa9z) | (first | (refine and4 p9z ?_; (try clear p9z); intro pa9z pb9z pc9z pd9z) | obtain ⟨pa9z, pb9z, pc9z, pd9z⟩ := p9z)); (try dsimp only at N9z); walk_at "Z")) | (k_here; (with_reducible show wpAny _ _ (call (Value.ref 699) _ _) _ _ _); k_dflt (refine' Cut.uz (by k_asm) (by k_asm) (by k_asm) (by k_asm) (by refine' Del.sub2 (by k_upd) (by k_upd)) (by k_asm) (by walk_at "R") (by ktr_room) (by ktr_units) (lcell _ _ _ _ _ _ _ _ _ _ _ _ _ _ _ _ (by walk_at "M") (by walk_at "A") (by walk_at "A") (by walk_at "N") (by walk_at "M") (by walk_at "N") (by walk_at "E") (by walk_at "L")) ?_; k_whole; intro x9z h9z tk9z p9z F9z N9z; ((first | (refine andNest p9z ?_; (try clear p9z); intro pa9z pb9z pc9z pd9z pe9z pf9z pg9z ph9z pi9z) | obtain ⟨⟨pa9z, pb9z, pc9z⟩, ⟨pd9z, pe9z, pf9z⟩, pg9z, ph9z, pi9z⟩ := p9z)); (replace pa9z := ltN pa9z); (replace pb9z := ltN pb9z); (replace pd9z := ltN pd9z); (replace pe9z := ltN pe9z); (try k_lt pc9z); (try k_lt pf9z); (try dsimp only at N9z); (try dsimp only); (try k_sweep); (try k_fold))) | (k_here; (with_reducible show wpAny _ _ (call (Value.ref 674) _ _) _ _ _); k_dflt (refine' Cut.uz (by k_asm) (by k_asm) (by k_asm) (by k_asm) sub_self (by k_asm) (by walk_at "R") (by ktr_room) (by ktr_units) (areas _ _ _ _) ?_; k_whole; intro x9z h9z tk9z p9z F9z N9z; ((first | (refine and7 p9z ?_; (try clear p9z); intro pz9z pa9z pb9z pc9z pd9z pe9z pf9z) | obtain ⟨pz9z, pa9z, pb9z, pc9z, pd9z, pe9z, pf9z⟩ := p9z)); (try k_lt pa9z); (replace pb9z := ltN pb9z); (replace pc9z := ltN pc9z); (replace pd9z := ltN pd9z); (replace pe9z := ltN pe9z); (replace pf9z := ltN pf9z); (try dsimp only at N9z); (try dsimp only); (try k_sweep); (try k_fold))) | (k_here; (with_reducible show wpAny _ _ (call (Value.ref 154) _ _) _ _ _); k_dflt (refine' Cut.uz (by k_asm) (by k_asm) (by k_asm) (by k_asm) sub_self (by k_asm) (by walk_at "R") (by ktr_room) (by ktr_units) (symbols _ _) ?_; k_whole; intro x9z h9z tk9z p9z F9z N9z; ((first | (refine and9 p9z ?_; (try clear p9z); intro pa9z pb9z pc9z pd9z pe9z pf9z pg9z ph9z pi9z) | obtain ⟨pa9z, pb9z, pc9z, pd9z, pe9z, pf9z, pg9z, ph9z, pi9z⟩ := p9z)); (try k_lt pa9z); (replace pb9z := ltN pb9z); (replace pc9z := ltN pc9z); (replace pd9z := ltN pd9z); (try dsimp only at N9z); (try dsimp only); (try k_sweep); (try k_fold))) | (k_here; (with_reducible show wpAny _ _ (call (Value.ref 692) _ _) _ _ _); k_dflt (refine' whole_use (by k_asm) (by k_asm) (by k_asm) (by k_asm) (by k_asm) (by walk_at "R") (by k_updF) (by walk_at "M") (by walk_at "N") (by walk_at "E") (by ktr_room) (by ktr_units) ?_; k_whole; intro x9z h9z tk9z p9z F9z N9z; ((first | (refine and2 p9z ?_; (try clear p9z); intro pa9z pc9z) | obtain ⟨pa9z, pc9z⟩ := p9z)); (try dsimp only at N9z); walk_at "Z")) | (k_here; (with_reducible show wpAny _ _ (call (Value.ref 685) _ _) _ _ _); k_dflt (refine' draw_use (by k_asm) (by k_asm) (by k_asm) (by k_asm) (by k_asm) (by walk_at "R") (by k_updF) (by walk_at "M") (by walk_at "N") (by walk_at "E") (by walk_at "E") (by walk_at "O") (by ktr_room) (by ktr_units) ?_; k_whole; intro x9z h9z tk9z p9z F9z N9z; ((first | (refine and3 p9z ?_; (try clear p9z); intro pa9z pb9z pc9z) | obtain ⟨pa9z, pb9z, pc9z⟩ := p9z)); (try dsimp only at N9z); walk_at "Z")) | (k_unfold; (try dsimp only); (try clear qkC)) | (k_end; wrow_close) | ((with_reducible show wpAny _ _ (execs (List.cons _ _) _) _ _ _); first | k_gentoks | (refine execs_consF ?_; intro qkC)) | walk1 | (dsimp only; walk1) | (leave1; try dsimp only) | fail "no step")
  all_goals (have F9z := True.intro; have N9z := True.intro; have h9z := True.intro; have p9z := True.intro; have pa9z := True.intro; have pb9z := True.intro; have pc9z := True.intro; have pd9z := True.intro; have pe9z := True.intro; have pf9z := True.intro; have pg9z := True.intro; have ph9z := True.intro; have pi9z := True.intro; have pz9z := True.intro; have tk9z := True.intro; have x9z := True.intro)
  k_dflt (refine' Cut.use (nextOther (xs := d3.xs) (n := ⟨d2.n.n2, d3.n, d2.n.n4, d2.n.n5, d2.n.n6, d2.n.n7⟩) LS3 (by omega) hx3 wa hb8 cLo bL) ?q1 ?q2 ?q3 ?q4 ?q5 ?q6 ?q7 ?q8 ?q9 ?_; (case q1 => k_asm); (case q2 => k_asm); (case q3 => k_asm); (case q4 => k_asm); (case q5 => repeat (first | exact sub_self | refine sub_tail ?_)); (case q6 => k_asm); (case q7 => first | exact rfl | assumption); (case q8 => ktr_room); (case q9 => ktr_units); k_whole)
  intro d4 h5 tk5 hx4 F5 N5
  (try clear N4)
  (try clear F4)
  clear hx3
  dsimp only
  (try k_fold)
  (try (refine foldQ ?_; intro qkT5))
  repeat' (((fail_if_success (with_reducible show wpAny _ _ (call (Value.ref 713) _ _) _ _ _))); first | (k_here; (with_reducible show wpAny _ _ (call (Value.ref 251) _ _) _ _ _); k_dflt (refine' Cut.uz (by k_asm) (by k_asm) (by k_asm) (by k_asm) sub_self (by k_asm) (by walk_at "R") (by ktr_room) (by ktr_units) (deref _ _ _ _ _ _ _ (by walk_at "M") (by k_mem) (by walk_at "M")) ?_; k_whole; intro x9z h9z tk9z p9z F9z N9z; (try dsimp only at N9z); walk_at "Z")) | (k_here; (with_reducible show wpAny _ _ (call (Value.ref 265) _ _) _ _ _); k_dflt (refine' bind_use (by k_asm) (by k_asm) (by k_asm) (by k_asm) (by k_asm) (by walk_at "R") (by k_updF) (by walk_at "M") (by k_mem) (by walk_at "N") (by walk_at "E") (by first | assumption | ((try simp only [List.length_append, List.length_cons, List.length_nil, List.length_set]); first | exact lenB (by assumption) rfl | exact lenA (by assumption) rfl | omega)) (by walk_at "E") (by ktr_room) (by ktr_units) ?_; k_whole; intro h9z tk9z F9z N9z; (try dsimp only at N9z); walk_at "Z")) | (k_here; (with_reducible show wpAny _ _ (call (Value.ref 230) _ _) _ _ _); k_dflt (refine' newvar_use (by k_asm) (by k_asm) (by k_asm) (by k_asm) (by k_asm) (by walk_at "R") (by k_updF) (by walk_at "M") (by walk_at "L") (by ktr_room) (by ktr_units) ?_; k_whole; intro x9z h9z tk9z p9z F9z N9z; (try dsimp only at N9z); (try k_lt p9z); walk_at "Z")) | (k_here; (with_reducible show wpAny _ _ (call (Value.ref 251) _ _) _ _ _); k_dflt (refine' Cut.uz (by k_asm) (by k_asm) (by k_asm) (by k_asm) sub_self (by k_asm) (by walk_at "R") (by ktr_room) (by ktr_units) (derefS (by walk_at "M") (by k_mem) (by walk_at "M") (by omega)) ?_; k_whole; intro x9z h9z tk9z p9z F9z N9z; (have pz9z := p9z); (first | (obtain ⟨pa9z, ⟨pb9z, pc9z, pd9z, pe9z⟩, pf9z⟩ := p9z; subst pa9z) | (first | (refine and4 p9z ?_; (try clear p9z); intro pa9z pb9z pc9z pd9z) | obtain ⟨pa9z, pb9z, pc9z, pd9z⟩ := p9z)); (try dsimp only at N9z); walk_at "Z")) | (k_here; (with_reducible show wpAny _ _ (call (Value.ref 699) _ _) _ _ _); k_dflt (refine' Cut.uz (by k_asm) (by k_asm) (by k_asm) (by k_asm) (by refine' Del.sub2 (by k_upd) (by k_upd)) (by k_asm) (by walk_at "R") (by ktr_room) (by ktr_units) (lcell _ _ _ _ _ _ _ _ _ _ _ _ _ _ _ _ (by walk_at "M") (by walk_at "A") (by walk_at "A") (by walk_at "N") (by walk_at "M") (by walk_at "N") (by walk_at "E") (by walk_at "L")) ?_; k_whole; intro x9z h9z tk9z p9z F9z N9z; ((first | (refine andNest p9z ?_; (try clear p9z); intro pa9z pb9z pc9z pd9z pe9z pf9z pg9z ph9z pi9z) | obtain ⟨⟨pa9z, pb9z, pc9z⟩, ⟨pd9z, pe9z, pf9z⟩, pg9z, ph9z, pi9z⟩ := p9z)); (replace pa9z := ltN pa9z); (replace pb9z := ltN pb9z); (replace pd9z := ltN pd9z); (replace pe9z := ltN pe9z); (try k_lt pc9z); (try k_lt pf9z); (try dsimp only at N9z); (try dsimp only); (try k_sweep); (try k_fold))) | (k_here; (with_reducible show wpAny _ _ (call (Value.ref 674) _ _) _ _ _); k_dflt (refine' Cut.uz (by k_asm) (by k_asm) (by k_asm) (by k_asm) sub_self (by k_asm) (by walk_at "R") (by ktr_room) (by ktr_units) (areas _ _ _ _) ?_; k_whole; intro x9z h9z tk9z p9z F9z N9z; ((first | (refine and7 p9z ?_; (try clear p9z); intro pz9z pa9z pb9z pc9z pd9z pe9z pf9z) | obtain ⟨pz9z, pa9z, pb9z, pc9z, pd9z, pe9z, pf9z⟩ := p9z)); (try k_lt pa9z); (replace pb9z := ltN pb9z); (replace pc9z := ltN pc9z); (replace pd9z := ltN pd9z); (replace pe9z := ltN pe9z); (replace pf9z := ltN pf9z); (try dsimp only at N9z); (try dsimp only); (try k_sweep); (try k_fold))) | (k_here; (with_reducible show wpAny _ _ (call (Value.ref 154) _ _) _ _ _); k_dflt (refine' Cut.uz (by k_asm) (by k_asm) (by k_asm) (by k_asm) sub_self (by k_asm) (by walk_at "R") (by ktr_room) (by ktr_units) (symbols _ _) ?_; k_whole; intro x9z h9z tk9z p9z F9z N9z; ((first | (refine and9 p9z ?_; (try clear p9z); intro pa9z pb9z pc9z pd9z pe9z pf9z pg9z ph9z pi9z) | obtain ⟨pa9z, pb9z, pc9z, pd9z, pe9z, pf9z, pg9z, ph9z, pi9z⟩ := p9z)); (try k_lt pa9z); (replace pb9z := ltN pb9z); (replace pc9z := ltN pc9z); (replace pd9z := ltN pd9z); (try dsimp only at N9z); (try dsimp only); (try k_sweep); (try k_fold))) | (k_here; (with_reducible show wpAny _ _ (call (Value.ref 692) _ _) _ _ _); k_dflt (refine' whole_use (by k_asm) (by k_asm) (by k_asm) (by k_asm) (by k_asm) (by walk_at "R") (by k_updF) (by walk_at "M") (by walk_at "N") (by walk_at "E") (by ktr_room) (by ktr_units) ?_; k_whole; intro x9z h9z tk9z p9z F9z N9z; ((first | (refine and2 p9z ?_; (try clear p9z); intro pa9z pc9z) | obtain ⟨pa9z, pc9z⟩ := p9z)); (try dsimp only at N9z); walk_at "Z")) | (k_here; (with_reducible show wpAny _ _ (call (Value.ref 685) _ _) _ _ _); k_dflt (refine' draw_use (by k_asm) (by k_asm) (by k_asm) (by k_asm) (by k_asm) (by walk_at "R") (by k_updF) (by walk_at "M") (by walk_at "N") (by walk_at "E") (by walk_at "E") (by walk_at "O") (by ktr_room) (by ktr_units) ?_; k_whole; intro x9z h9z tk9z p9z F9z N9z; ((first | (refine and3 p9z ?_; (try clear p9z); intro pa9z pb9z pc9z) | obtain ⟨pa9z, pb9z, pc9z⟩ := p9z)); (try dsimp only at N9z); walk_at "Z")) | (k_unfold; (try dsimp only); (try clear qkC)) | (k_end; wrow_close) | ((with_reducible show wpAny _ _ (execs (List.cons _ _) _) _ _ _); first | k_gentoks | (refine execs_consF ?_; intro qkC)) | walk1 | (dsimp only; walk1) | (leave1; try dsimp only) | fail "no step")
  all_goals (have F9z := True.intro; have N9z := True.intro; have h9z := True.intro; have p9z := True.intro; have pa9z := True.intro; have pb9z := True.intro; have pc9z := True.intro; have pd9z := True.intro; have pe9z := True.intro; have pf9z := True.intro; have pg9z := True.intro; have ph9z := True.intro; have pi9z := True.intro; have pz9z := True.intro; have tk9z := True.intro; have x9z := True.intro)
  repeat clear qk
  repeat clear ek
  rename_i nv c0 tkv pn D5 h6 F6 N6 l6
  have LS5 := (LS3.add (p := (nv.q, tup #[Value.int 0 nv.t1, Value.int (↑d2.hs.length) nv.t2] nv.n)) ⟨pn.1, pn.2.1, pn.2.2.1, pn.2.2.2.1, pn.2.2.2.2.1, pn.2.2.2.2.2.1, pn.2.2.2.2.2.2.1⟩).add (p := (D5, tup #[Value.int 5 442, Value.int 0 tkv] 0)) ⟨l6.2.1, l6.2.2.1, l6.2.2.2.1, l6.2.2.2.2.1, l6.2.2.2.2.2.1, l6.2.2.2.2.2.2.1, l6.2.2.2.2.2.2.2.1⟩
  have N7 : News h₀ L h6 (lawL z x0 (d2.hs ++ [Value.ref nv.q]) d4.xs to st ce si ⟨nv.n2, d4.n, d2.n.n4, d2.n.n5, d2.n.n6, d2.n.n7⟩ ((D5, tup #[Value.int 5 442, Value.int 0 tkv] 0) :: (nv.q, tup #[Value.int 0 nv.t1, Value.int (↑d2.hs.length) nv.t2] nv.n) :: d2.VS)) := fun q hq => N6 q (pG2 q hq)
  k_dflt (refine' Cut.use (nextZero LS5 (i := d2.hs.length) (by simp; omega) hx4 ⟨_, _, _, .tail _ (.head _)⟩ (at_last rfl) (.head _)) ?q1 ?q2 ?q3 ?q4 ?q5 ?q6 ?q7 ?q8 ?q9 ?_; (case q1 => k_asm); (case q2 => k_asm); (case q3 => k_asm); (case q4 => exact N7); (case q5 => exact sub_self); (case q6 => k_asm); (case q7 => first | exact rfl | assumption); (case q8 => ktr_room); (case q9 => ktr_units); k_whole)
  intro d5 h7 tk7 hx5 F7 N8
  dsimp only
  (try k_fold)
  (try (refine foldQ ?_; intro qkT6))
  repeat' (first | (k_here; (with_reducible show wpAny _ _ (call (Value.ref 251) _ _) _ _ _); k_dflt (refine' Cut.uz (by k_asm) (by k_asm) (by k_asm) (by k_asm) sub_self (by k_asm) (by walk_at "R") (by ktr_room) (by ktr_units) (deref _ _ _ _ _ _ _ (by walk_at "M") (by k_mem) (by walk_at "M")) ?_; k_whole; intro x9z h9z tk9z p9z F9z N9z; (try dsimp only at N9z); walk_at "Z")) | (k_here; (with_reducible show wpAny _ _ (call (Value.ref 265) _ _) _ _ _); k_dflt (refine' bind_use (by k_asm) (by k_asm) (by k_asm) (by k_asm) (by k_asm) (by walk_at "R") (by k_updF) (by walk_at "M") (by k_mem) (by walk_at "N") (by walk_at "E") (by first | assumption | ((try simp only [List.length_append, List.length_cons, List.length_nil, List.length_set]); first | exact lenB (by assumption) rfl | exact lenA (by assumption) rfl | omega)) (by walk_at "E") (by ktr_room) (by ktr_units) ?_; k_whole; intro h9z tk9z F9z N9z; (try dsimp only at N9z); walk_at "Z")) | (k_here; (with_reducible show wpAny _ _ (call (Value.ref 230) _ _) _ _ _); k_dflt (refine' newvar_use (by k_asm) (by k_asm) (by k_asm) (by k_asm) (by k_asm) (by walk_at "R") (by k_updF) (by walk_at "M") (by walk_at "L") (by ktr_room) (by ktr_units) ?_; k_whole; intro x9z h9z tk9z p9z F9z N9z; (try dsimp only at N9z); (try k_lt p9z); walk_at "Z")) | (k_here; (with_reducible show wpAny _ _ (call (Value.ref 251) _ _) _ _ _); k_dflt (refine' Cut.uz (by k_asm) (by k_asm) (by k_asm) (by k_asm) sub_self (by k_asm) (by walk_at "R") (by ktr_room) (by ktr_units) (derefS (by walk_at "M") (by k_mem) (by walk_at "M") (by omega)) ?_; k_whole; intro x9z h9z tk9z p9z F9z N9z; (have pz9z := p9z); (first | (obtain ⟨pa9z, ⟨pb9z, pc9z, pd9z, pe9z⟩, pf9z⟩ := p9z; subst pa9z) | (first | (refine and4 p9z ?_; (try clear p9z); intro pa9z pb9z pc9z pd9z) | obtain ⟨pa9z, pb9z, pc9z, pd9z⟩ := p9z)); (try dsimp only at N9z); walk_at "Z")) | (k_here; (with_reducible show wpAny _ _ (call (Value.ref 699) _ _) _ _ _); k_dflt (refine' Cut.uz (by k_asm) (by k_asm) (by k_asm) (by k_asm) (by refine' Del.sub2 (by k_upd) (by k_upd)) (by k_asm) (by walk_at "R") (by ktr_room) (by ktr_units) (lcell _ _ _ _ _ _ _ _ _ _ _ _ _ _ _ _ (by walk_at "M") (by walk_at "A") (by walk_at "A") (by walk_at "N") (by walk_at "M") (by walk_at "N") (by walk_at "E") (by walk_at "L")) ?_; k_whole; intro x9z h9z tk9z p9z F9z N9z; ((first | (refine andNest p9z ?_; (try clear p9z); intro pa9z pb9z pc9z pd9z pe9z pf9z pg9z ph9z pi9z) | obtain ⟨⟨pa9z, pb9z, pc9z⟩, ⟨pd9z, pe9z, pf9z⟩, pg9z, ph9z, pi9z⟩ := p9z)); (replace pa9z := ltN pa9z); (replace pb9z := ltN pb9z); (replace pd9z := ltN pd9z); (replace pe9z := ltN pe9z); (try k_lt pc9z); (try k_lt pf9z); (try dsimp only at N9z); (try dsimp only); (try k_sweep); (try k_fold))) | (k_here; (with_reducible show wpAny _ _ (call (Value.ref 674) _ _) _ _ _); k_dflt (refine' Cut.uz (by k_asm) (by k_asm) (by k_asm) (by k_asm) sub_self (by k_asm) (by walk_at "R") (by ktr_room) (by ktr_units) (areas _ _ _ _) ?_; k_whole; intro x9z h9z tk9z p9z F9z N9z; ((first | (refine and7 p9z ?_; (try clear p9z); intro pz9z pa9z pb9z pc9z pd9z pe9z pf9z) | obtain ⟨pz9z, pa9z, pb9z, pc9z, pd9z, pe9z, pf9z⟩ := p9z)); (try k_lt pa9z); (replace pb9z := ltN pb9z); (replace pc9z := ltN pc9z); (replace pd9z := ltN pd9z); (replace pe9z := ltN pe9z); (replace pf9z := ltN pf9z); (try dsimp only at N9z); (try dsimp only); (try k_sweep); (try k_fold))) | (k_here; (with_reducible show wpAny _ _ (call (Value.ref 154) _ _) _ _ _); k_dflt (refine' Cut.uz (by k_asm) (by k_asm) (by k_asm) (by k_asm) sub_self (by k_asm) (by walk_at "R") (by ktr_room) (by ktr_units) (symbols _ _) ?_; k_whole; intro x9z h9z tk9z p9z F9z N9z; ((first | (refine and9 p9z ?_; (try clear p9z); intro pa9z pb9z pc9z pd9z pe9z pf9z pg9z ph9z pi9z) | obtain ⟨pa9z, pb9z, pc9z, pd9z, pe9z, pf9z, pg9z, ph9z, pi9z⟩ := p9z)); (try k_lt pa9z); (replace pb9z := ltN pb9z); (replace pc9z := ltN pc9z); (replace pd9z := ltN pd9z); (try dsimp only at N9z); (try dsimp only); (try k_sweep); (try k_fold))) | (k_here; (with_reducible show wpAny _ _ (call (Value.ref 692) _ _) _ _ _); k_dflt (refine' whole_use (by k_asm) (by k_asm) (by k_asm) (by k_asm) (by k_asm) (by walk_at "R") (by k_updF) (by walk_at "M") (by walk_at "N") (by walk_at "E") (by ktr_room) (by ktr_units) ?_; k_whole; intro x9z h9z tk9z p9z F9z N9z; ((first | (refine and2 p9z ?_; (try clear p9z); intro pa9z pc9z) | obtain ⟨pa9z, pc9z⟩ := p9z)); (try dsimp only at N9z); walk_at "Z")) | (k_here; (with_reducible show wpAny _ _ (call (Value.ref 685) _ _) _ _ _); k_dflt (refine' draw_use (by k_asm) (by k_asm) (by k_asm) (by k_asm) (by k_asm) (by walk_at "R") (by k_updF) (by walk_at "M") (by walk_at "N") (by walk_at "E") (by walk_at "E") (by walk_at "O") (by ktr_room) (by ktr_units) ?_; k_whole; intro x9z h9z tk9z p9z F9z N9z; ((first | (refine and3 p9z ?_; (try clear p9z); intro pa9z pb9z pc9z) | obtain ⟨pa9z, pb9z, pc9z⟩ := p9z)); (try dsimp only at N9z); walk_at "Z")) | (k_unfold; (try dsimp only); (try clear qkC)) | (k_end; wrow_close) | ((with_reducible show wpAny _ _ (execs (List.cons _ _) _) _ _ _); first | k_gentoks | (refine execs_consF ?_; intro qkC)) | walk1 | (dsimp only; walk1) | (leave1; try dsimp only) | fail "no step")
  all_goals (have F9z := True.intro; have N9z := True.intro; have h9z := True.intro; have p9z := True.intro; have pa9z := True.intro; have pb9z := True.intro; have pc9z := True.intro; have pd9z := True.intro; have pe9z := True.intro; have pf9z := True.intro; have pg9z := True.intro; have ph9z := True.intro; have pi9z := True.intro; have pz9z := True.intro; have tk9z := True.intro; have x9z := True.intro)
  exact cont _ _ _ (by assumption)
/-! L18 -/
theorem mF_sp {z SC u KN pl tr fr to' sp a} : (fun y => if y = Str.ofString "spot" then a else mF z SC u KN pl tr fr to' sp y) = mF z SC u KN pl tr fr to' a := by
  funext y
  by_cases c1 : y = Str.ofString "spot"
  · subst c1; rfl
  · simp only [mF, if_neg c1]
theorem mF_pl {z SC u KN pl tr fr to' sp a} : (fun y => if y = Str.ofString "place" then a else mF z SC u KN pl tr fr to' sp y) = mF z SC u KN a tr fr to' sp := by
  funext y
  by_cases c1 : y = Str.ofString "spot"
  · subst c1; rfl
  · by_cases c2 : y = Str.ofString "told"
    · subst c2; rfl
    · by_cases c3 : y = Str.ofString "free"
      · subst c3; rfl
      · by_cases c4 : y = Str.ofString "triple"
        · subst c4; rfl
        · simp only [mF, mD, if_neg c1, if_neg c2, if_neg c3, if_neg c4]
          by_cases c5 : y = Str.ofString "place"
          · simp only [if_pos c5]
          · simp only [if_neg c5]
theorem mF_no {z SC u KN pl tr fr to'} : mD z SC u KN pl tr fr to' = mF z SC u KN pl tr fr to' none := by
  funext y
  by_cases c1 : y = Str.ofString "spot"
  · subst c1; rfl
  · simp only [mF, if_neg c1]
theorem loopF (w : World) (z : LD) (x : DrawD) (hs xs to st ce si : List Value) (n : LN) (VS : List (Addr × Obj)) (T S : Nat → Int) (SC cC cM : Addr) (k : Nat) (u KN tr fr to' sp : Option Value) (p : Nat) (tp : Tok) (mean : ExcName → Option Value) (mg mb : Str → Option Value) (dp un : Nat) (gd : Option (List Code)) (a : Addr) (ccd : Value) (A₀ : Around) (base h₀ : Heap) (L : Addr) (s : Shared) (Q : Flow → Shared → Prop) (E : Value → Shared → Prop)
    (B : Below A₀ base [] h₀) (F : Fr h₀ L s.heap (mF z SC u KN (some (.int (p : Int) tp)) tr fr to' sp)) (XX : (Mine.K w.params).In h₀) (N : News h₀ L s.heap (lawL z x hs xs to st ce si n VS)) (TT : Top VW LO mean mg mb h₀) (hd : dp + 200 < recursionLimit) (hu : un + 8000 < cLine)
    (hE : PassesOwn (model PySem.Challenge.rw_sa0162_01.row.prog w) (lawTop dp un gd L a ccd cC cM) (lawEnv L a ccd cC cM) E)
    (LS : LawS w z cC cM VS) (hx : 1 ≤ xs.length ∧ xs.length ≤ 10) (hk : k ≤ 6) (R : Row VS hs to st ce si k T S) (hp : p < k)
    (cont : ∀ (tr sp : Option Value) (xs : List Value) (n : LN) (h' : Heap) (tk' : Nat), (1 ≤ xs.length ∧ xs.length ≤ 10) → Fr h₀ L h' (mF z SC u KN (some (.int (p : Int) tp)) tr fr to' sp) → News h₀ L h' (lawL z x hs xs to st ce si n VS) → Q .next { s with heap := h', toks := tk' }) :
    wpAny (model PySem.Challenge.rw_sa0162_01.row.prog w) (lawTop dp un gd L a ccd cC cM) (execs (fbody1) (lawEnv L a ccd cC cM)) Q E s := by
  revert XX; k_fill; intro XX
  have o1 := ltN LS.o1; have o2 := ltN LS.o2; have o3 := ltN LS.o3; have o4 := ltN LS.o4; have o5 := ltN LS.o5; have o6 := ltN LS.o6
  have a1 := LS.a1; have a2 := LS.a2; have a3 := LS.a3; have a4 := LS.a4; have a5 := LS.a5; have a6 := LS.a6; have a7 := LS.a7
  have hPool := LS.pool; have hSP := LS.nSP; have hMach := LS.mach
  have m1 := hMach.x; have m2 := hMach.xd; have m3 := hMach.m; have m4 := hMach.md
  obtain ⟨oM, cm, cmd⟩ := LS.cm
  obtain ⟨oC, cc, ccd'⟩ := LS.cc
  have lH := R.lH; have lTO := R.lTO; have lST := R.lST; have lCE := R.lCE; have lSI := R.lSI
  (try (refine foldAE ?_; intro envT AT))
  repeat' (((fail_if_success (with_reducible show wpAny _ _ (exec (Stmt.For _ _ _ _ _) _) _ _ _)); (fail_if_success (with_reducible show wpAny _ _ (pyIter _) _ _ _))); first | (k_here; (with_reducible show wpAny _ _ (call (Value.ref 265) _ _) _ _ _); k_dflt (refine' bind_use (by k_asm) (by k_asm) (by k_asm) (by k_asm) (by k_asm) (by walk_at "R") (by k_updF) (by walk_at "M") (by k_mem) (by walk_at "N") (by walk_at "E") (by first | assumption | ((try simp only [List.length_append, List.length_cons, List.length_nil, List.length_set]); first | exact lenB (by assumption) rfl | exact lenA (by assumption) rfl | omega)) (by walk_at "E") (by ktr_room) (by ktr_units) ?_; k_whole; intro h9z tk9z F9z N9z; (try dsimp only at N9z); walk_at "Z")) | (k_here; (with_reducible show wpAny _ _ (call (Value.ref 230) _ _) _ _ _); k_dflt (refine' newvar_use (by k_asm) (by k_asm) (by k_asm) (by k_asm) (by k_asm) (by walk_at "R") (by k_updF) (by walk_at "M") (by walk_at "L") (by ktr_room) (by ktr_units) ?_; k_whole; intro x9z h9z tk9z p9z F9z N9z; (try dsimp only at N9z); (try k_lt p9z); walk_at "Z")) | (k_here; (with_reducible show wpAny _ _ (call (Value.ref 251) _ _) _ _ _); k_dflt (refine' Cut.uz (by k_asm) (by k_asm) (by k_asm) (by k_asm) sub_self (by k_asm) (by walk_at "R") (by ktr_room) (by ktr_units) (derefS (by walk_at "M") (by k_mem) (by walk_at "M") (by omega)) ?_; k_whole; intro x9z h9z tk9z p9z F9z N9z; (have pz9z := p9z); (first | (obtain ⟨pa9z, ⟨pb9z, pc9z, pd9z, pe9z⟩, pf9z⟩ := p9z; subst pa9z) | (first | (refine and4 p9z ?_; (try clear p9z); intro pa9z pb9z pc9z pd9z) | obtain ⟨pa9z, pb9z, pc9z, pd9z⟩ := p9z)); (try dsimp only at N9z); walk_at "Z")) | (k_here; (with_reducible show wpAny _ _ (call (Value.ref 699) _ _) _ _ _); k_dflt (refine' Cut.uz (by k_asm) (by k_asm) (by k_asm) (by k_asm) (by refine' Del.sub2 (by k_upd) (by k_upd)) (by k_asm) (by walk_at "R") (by ktr_room) (by ktr_units) (lcell _ _ _ _ _ _ _ _ _ _ _ _ _ _ _ _ (by walk_at "M") (by walk_at "A") (by walk_at "A") (by walk_at "N") (by walk_at "M") (by walk_at "N") (by walk_at "E") (by walk_at "L")) ?_; k_whole; intro x9z h9z tk9z p9z F9z N9z; ((first | (refine andNest p9z ?_; (try clear p9z); intro pa9z pb9z pc9z pd9z pe9z pf9z pg9z ph9z pi9z) | obtain ⟨⟨pa9z, pb9z, pc9z⟩, ⟨pd9z, pe9z, pf9z⟩, pg9z, ph9z, pi9z⟩ := p9z)); (replace pa9z := ltN pa9z); (replace pb9z := ltN pb9z); (replace pd9z := ltN pd9z); (replace pe9z := ltN pe9z); (try k_lt pc9z); (try k_lt pf9z); (try dsimp only at N9z); (try dsimp only); (try k_sweep); (try k_fold))) | (k_here; (with_reducible show wpAny _ _ (call (Value.ref 674) _ _) _ _ _); k_dflt (refine' Cut.uz (by k_asm) (by k_asm) (by k_asm) (by k_asm) sub_self (by k_asm) (by walk_at "R") (by ktr_room) (by ktr_units) (areas _ _ _ _) ?_; k_whole; intro x9z h9z tk9z p9z F9z N9z; ((first | (refine and7 p9z ?_; (try clear p9z); intro pz9z pa9z pb9z pc9z pd9z pe9z pf9z) | obtain ⟨pz9z, pa9z, pb9z, pc9z, pd9z, pe9z, pf9z⟩ := p9z)); (try k_lt pa9z); (replace pb9z := ltN pb9z); (replace pc9z := ltN pc9z); (replace pd9z := ltN pd9z); (replace pe9z := ltN pe9z); (replace pf9z := ltN pf9z); (try dsimp only at N9z); (try dsimp only); (try k_sweep); (try k_fold))) | (k_here; (with_reducible show wpAny _ _ (call (Value.ref 154) _ _) _ _ _); k_dflt (refine' Cut.uz (by k_asm) (by k_asm) (by k_asm) (by k_asm) sub_self (by k_asm) (by walk_at "R") (by ktr_room) (by ktr_units) (symbols _ _) ?_; k_whole; intro x9z h9z tk9z p9z F9z N9z; ((first | (refine and9 p9z ?_; (try clear p9z); intro pa9z pb9z pc9z pd9z pe9z pf9z pg9z ph9z pi9z) | obtain ⟨pa9z, pb9z, pc9z, pd9z, pe9z, pf9z, pg9z, ph9z, pi9z⟩ := p9z)); (try k_lt pa9z); (replace pb9z := ltN pb9z); (replace pc9z := ltN pc9z); (replace pd9z := ltN pd9z); (try dsimp only at N9z); (try dsimp only); (try k_sweep); (try k_fold))) | (k_here; (with_reducible show wpAny _ _ (call (Value.ref 692) _ _) _ _ _); k_dflt (refine' whole_use (by k_asm) (by k_asm) (by k_asm) (by k_asm) (by k_asm) (by walk_at "R") (by k_updF) (by walk_at "M") (by walk_at "N") (by walk_at "E") (by ktr_room) (by ktr_units) ?_; k_whole; intro x9z h9z tk9z p9z F9z N9z; ((first | (refine and2 p9z ?_; (try clear p9z); intro pa9z pc9z) | obtain ⟨pa9z, pc9z⟩ := p9z)); (try dsimp only at N9z); walk_at "Z")) | (k_here; (with_reducible show wpAny _ _ (call (Value.ref 685) _ _) _ _ _); k_dflt (refine' draw_use (by k_asm) (by k_asm) (by k_asm) (by k_asm) (by k_asm) (by walk_at "R") (by k_updF) (by walk_at "M") (by walk_at "N") (by walk_at "E") (by walk_at "E") (by walk_at "O") (by ktr_room) (by ktr_units) ?_; k_whole; intro x9z h9z tk9z p9z F9z N9z; ((first | (refine and3 p9z ?_; (try clear p9z); intro pa9z pb9z pc9z) | obtain ⟨pa9z, pb9z, pc9z⟩ := p9z)); (try dsimp only at N9z); walk_at "Z")) | (k_unfold; (try dsimp only); (try clear qkC)) | (k_end; wrow_close) | ((with_reducible show wpAny _ _ (execs (List.cons _ _) _) _ _ _); first | k_gentoks | (refine execs_consF ?_; intro qkC)) | walk1 | (dsimp only; walk1) | (leave1; try dsimp only) | fail "no step")
  all_goals (have F9z := True.intro; have N9z := True.intro; have h9z := True.intro; have p9z := True.intro; have pa9z := True.intro; have pb9z := True.intro; have pc9z := True.intro; have pd9z := True.intro; have pe9z := True.intro; have pf9z := True.intro; have pg9z := True.intro; have ph9z := True.intro; have pi9z := True.intro; have pz9z := True.intro; have tk9z := True.intro; have x9z := True.intro)
  (rename Fr _ _ _ _ => lF)
  (with_unfolding_all refine' For_invVF lF ?k1 ?k2 ?_ (hE := hE)); (case k1 => exact rfl); (case k2 => exact rfl)
  (try (refine foldQ ?_; intro qkT2))
  repeat' (((fail_if_success (with_reducible show wpAny _ _ (exec (Stmt.For _ _ _ _ _) _) _ _ _)); (fail_if_success (with_reducible show wpAny _ _ (pyIter _) _ _ _))); first | (k_here; (with_reducible show wpAny _ _ (call (Value.ref 265) _ _) _ _ _); k_dflt (refine' bind_use (by k_asm) (by k_asm) (by k_asm) (by k_asm) (by k_asm) (by walk_at "R") (by k_updF) (by walk_at "M") (by k_mem) (by walk_at "N") (by walk_at "E") (by first | assumption | ((try simp only [List.length_append, List.length_cons, List.length_nil, List.length_set]); first | exact lenB (by assumption) rfl | exact lenA (by assumption) rfl | omega)) (by walk_at "E") (by ktr_room) (by ktr_units) ?_; k_whole; intro h9z tk9z F9z N9z; (try dsimp only at N9z); walk_at "Z")) | (k_here; (with_reducible show wpAny _ _ (call (Value.ref 230) _ _) _ _ _); k_dflt (refine' newvar_use (by k_asm) (by k_asm) (by k_asm) (by k_asm) (by k_asm) (by walk_at "R") (by k_updF) (by walk_at "M") (by walk_at "L") (by ktr_room) (by ktr_units) ?_; k_whole; intro x9z h9z tk9z p9z F9z N9z; (try dsimp only at N9z); (try k_lt p9z); walk_at "Z")) | (k_here; (with_reducible show wpAny _ _ (call (Value.ref 251) _ _) _ _ _); k_dflt (refine' Cut.uz (by k_asm) (by k_asm) (by k_asm) (by k_asm) sub_self (by k_asm) (by walk_at "R") (by ktr_room) (by ktr_units) (derefS (by walk_at "M") (by k_mem) (by walk_at "M") (by omega)) ?_; k_whole; intro x9z h9z tk9z p9z F9z N9z; (have pz9z := p9z); (first | (obtain ⟨pa9z, ⟨pb9z, pc9z, pd9z, pe9z⟩, pf9z⟩ := p9z; subst pa9z) | (first | (refine and4 p9z ?_; (try clear p9z); intro pa9z pb9z pc9z pd9z) | obtain ⟨pa9z, pb9z, pc9z, pd9z⟩ := p9z)); (try dsimp only at N9z); walk_at "Z")) | (k_here; (with_reducible show wpAny _ _ (call (Value.ref 699) _ _) _ _ _); k_dflt (refine' Cut.uz (by k_asm) (by k_asm) (by k_asm) (by k_asm) (by refine' Del.sub2 (by k_upd) (by k_upd)) (by k_asm) (by walk_at "R") (by ktr_room) (by ktr_units) (lcell _ _ _ _ _ _ _ _ _ _ _ _ _ _ _ _ (by walk_at "M") (by walk_at "A") (by walk_at "A") (by walk_at "N") (by walk_at "M") (by walk_at "N") (by walk_at "E") (by walk_at "L")) ?_; k_whole; intro x9z h9z tk9z p9z F9z N9z; ((first | (refine andNest p9z ?_; (try clear p9z); intro pa9z pb9z pc9z pd9z pe9z pf9z pg9z ph9z pi9z) | obtain ⟨⟨pa9z, pb9z, pc9z⟩, ⟨pd9z, pe9z, pf9z⟩, pg9z, ph9z, pi9z⟩ := p9z)); (replace pa9z := ltN pa9z); (replace pb9z := ltN pb9z); (replace pd9z := ltN pd9z); (replace pe9z := ltN pe9z); (try k_lt pc9z); (try k_lt pf9z); (try dsimp only at N9z); (try dsimp only); (try k_sweep); (try k_fold))) | (k_here; (with_reducible show wpAny _ _ (call (Value.ref 674) _ _) _ _ _); k_dflt (refine' Cut.uz (by k_asm) (by k_asm) (by k_asm) (by k_asm) sub_self (by k_asm) (by walk_at "R") (by ktr_room) (by ktr_units) (areas _ _ _ _) ?_; k_whole; intro x9z h9z tk9z p9z F9z N9z; ((first | (refine and7 p9z ?_; (try clear p9z); intro pz9z pa9z pb9z pc9z pd9z pe9z pf9z) | obtain ⟨pz9z, pa9z, pb9z, pc9z, pd9z, pe9z, pf9z⟩ := p9z)); (try k_lt pa9z); (replace pb9z := ltN pb9z); (replace pc9z := ltN pc9z); (replace pd9z := ltN pd9z); (replace pe9z := ltN pe9z); (replace pf9z := ltN pf9z); (try dsimp only at N9z); (try dsimp only); (try k_sweep); (try k_fold))) | (k_here; (with_reducible show wpAny _ _ (call (Value.ref 154) _ _) _ _ _); k_dflt (refine' Cut.uz (by k_asm) (by k_asm) (by k_asm) (by k_asm) sub_self (by k_asm) (by walk_at "R") (by ktr_room) (by ktr_units) (symbols _ _) ?_; k_whole; intro x9z h9z tk9z p9z F9z N9z; ((first | (refine and9 p9z ?_; (try clear p9z); intro pa9z pb9z pc9z pd9z pe9z pf9z pg9z ph9z pi9z) | obtain ⟨pa9z, pb9z, pc9z, pd9z, pe9z, pf9z, pg9z, ph9z, pi9z⟩ := p9z)); (try k_lt pa9z); (replace pb9z := ltN pb9z); (replace pc9z := ltN pc9z); (replace pd9z := ltN pd9z); (try dsimp only at N9z); (try dsimp only); (try k_sweep); (try k_fold))) | (k_here; (with_reducible show wpAny _ _ (call (Value.ref 692) _ _) _ _ _); k_dflt (refine' whole_use (by k_asm) (by k_asm) (by k_asm) (by k_asm) (by k_asm) (by walk_at "R") (by k_updF) (by walk_at "M") (by walk_at "N") (by walk_at "E") (by ktr_room) (by ktr_units) ?_; k_whole; intro x9z h9z tk9z p9z F9z N9z; ((first | (refine and2 p9z ?_; (try clear p9z); intro pa9z pc9z) | obtain ⟨pa9z, pc9z⟩ := p9z)); (try dsimp only at N9z); walk_at "Z")) | (k_here; (with_reducible show wpAny _ _ (call (Value.ref 685) _ _) _ _ _); k_dflt (refine' draw_use (by k_asm) (by k_asm) (by k_asm) (by k_asm) (by k_asm) (by walk_at "R") (by k_updF) (by walk_at "M") (by walk_at "N") (by walk_at "E") (by walk_at "E") (by walk_at "O") (by ktr_room) (by ktr_units) ?_; k_whole; intro x9z h9z tk9z p9z F9z N9z; ((first | (refine and3 p9z ?_; (try clear p9z); intro pa9z pb9z pc9z) | obtain ⟨pa9z, pb9z, pc9z⟩ := p9z)); (try dsimp only at N9z); walk_at "Z")) | (k_unfold; (try dsimp only); (try clear qkC)) | (k_end; wrow_close) | ((with_reducible show wpAny _ _ (execs (List.cons _ _) _) _ _ _); first | k_gentoks | (refine execs_consF ?_; intro qkC)) | walk1 | (dsimp only; walk1) | (leave1; try dsimp only) | fail "no step")
  all_goals (have F9z := True.intro; have N9z := True.intro; have h9z := True.intro; have p9z := True.intro; have pa9z := True.intro; have pb9z := True.intro; have pc9z := True.intro; have pd9z := True.intro; have pe9z := True.intro; have pf9z := True.intro; have pg9z := True.intro; have ph9z := True.intro; have pi9z := True.intro; have pz9z := True.intro; have tk9z := True.intro; have x9z := True.intro)
  repeat clear qk
  repeat clear ek
  rename_i r9 h9 tk9 u1 u2 u3 F9 N9 l9
  have LSr : LawS w z cC cM ((r9, rng 0 3 u1 u2 u3) :: VS) := LS.add ⟨l9.1, l9.2.1, l9.2.2.1, l9.2.2.2.1, l9.2.2.2.2.1, l9.2.2.2.2.2.1, l9.2.2.2.2.2.2.1⟩
  refine iter_rng (fun i m nx => ∃ xs n tr sp, nx = lawL z x hs xs to st ce si n ((r9, rng 0 3 u1 u2 u3) :: VS) ∧ (1 ≤ xs.length ∧ xs.length ≤ 10) ∧ m = mF z SC u KN (some (.int (p : Int) tp)) tr fr to' sp) rfl F9 (news := lawL z x hs xs to st ce si n ((r9, rng 0 3 u1 u2 u3) :: VS)) (fun q hq => N9 q (pB1 q hq)) (a := 0) (b := 3) (t := u1) (u := u2) (v := u3) (k := 3) (r := r9) (law_in (.head _)) (by decide) (by decide) ⟨xs, n, tr, sp, rfl, hx, rfl⟩ ?_ ?_
  · clear N9 F9 cont
    rintro i tv m nx h tk I io hi ⟨xs, n, tr, sp, rfl, hx, rfl⟩ hI F1 N1
    have F2 : Fr h₀ L h (mF z SC u KN (some (.int (p : Int) tp)) tr fr to' (some (.int (i : Int) tv))) := by
      rw [← mF_sp (sp := sp)]
      rw [Int.zero_add] at F1
      exact F1
    refine turnF w z x hs xs to st ce si n ((I, io) :: (r9, rng 0 3 u1 u2 u3) :: VS) T S SC cC cM k u KN tr fr to' p tp (i : Int) tv mean mg mb dp un gd a ccd A₀ base h₀ L _ _ E B F2 XX (fun q hq => N1 q (law_pull q hq)) TT hd hu (LSr.putI hI) hx hk (R.mono (sub_tail (sub_tail sub_self))) hp (by omega) fun tr' xs' n' h' tk' g1 g2 g3 => ?_
    show TurnEnd _ _ _ _ _ _ _
    exact ⟨h', tk', _, lawL z x hs xs' to st ce si n' ((r9, rng 0 3 u1 u2 u3) :: VS), rfl, g2, fun q hq => g3 q (law_push q hq), law_ne hI fun q hq => hI q (law_in hq), xs', n', tr', _, rfl, g1, rfl⟩
  · rintro m nx h tk ⟨xs, n, tr, sp, rfl, hx, rfl⟩ F N
    dsimp only
    (try (refine foldQ ?_; intro qkT3))
    repeat' (((fail_if_success (with_reducible show wpAny _ _ (exec (Stmt.For _ _ _ _ _) _) _ _ _)); (fail_if_success (with_reducible show wpAny _ _ (pyIter _) _ _ _))); first | (k_here; (with_reducible show wpAny _ _ (call (Value.ref 265) _ _) _ _ _); k_dflt (refine' bind_use (by k_asm) (by k_asm) (by k_asm) (by k_asm) (by k_asm) (by walk_at "R") (by k_updF) (by walk_at "M") (by k_mem) (by walk_at "N") (by walk_at "E") (by first | assumption | ((try simp only [List.length_append, List.length_cons, List.length_nil, List.length_set]); first | exact lenB (by assumption) rfl | exact lenA (by assumption) rfl | omega)) (by walk_at "E") (by ktr_room) (by ktr_units) ?_; k_whole; intro h9z tk9z F9z N9z; (try dsimp only at N9z); walk_at "Z")) | (k_here; (with_reducible show wpAny _ _ (call (Value.ref 230) _ _) _ _ _); k_dflt (refine' newvar_use (by k_asm) (by k_asm) (by k_asm) (by k_asm) (by k_asm) (by walk_at "R") (by k_updF) (by walk_at "M") (by walk_at "L") (by ktr_room) (by ktr_units) ?_; k_whole; intro x9z h9z tk9z p9z F9z N9z; (try dsimp only at N9z); (try k_lt p9z); walk_at "Z")) | (k_here; (with_reducible show wpAny _ _ (call (Value.ref 251) _ _) _ _ _); k_dflt (refine' Cut.uz (by k_asm) (by k_asm) (by k_asm) (by k_asm) sub_self (by k_asm) (by walk_at "R") (by ktr_room) (by ktr_units) (derefS (by walk_at "M") (by k_mem) (by walk_at "M") (by omega)) ?_; k_whole; intro x9z h9z tk9z p9z F9z N9z; (have pz9z := p9z); (first | (obtain ⟨pa9z, ⟨pb9z, pc9z, pd9z, pe9z⟩, pf9z⟩ := p9z; subst pa9z) | (first | (refine and4 p9z ?_; (try clear p9z); intro pa9z pb9z pc9z pd9z) | obtain ⟨pa9z, pb9z, pc9z, pd9z⟩ := p9z)); (try dsimp only at N9z); walk_at "Z")) | (k_here; (with_reducible show wpAny _ _ (call (Value.ref 699) _ _) _ _ _); k_dflt (refine' Cut.uz (by k_asm) (by k_asm) (by k_asm) (by k_asm) (by refine' Del.sub2 (by k_upd) (by k_upd)) (by k_asm) (by walk_at "R") (by ktr_room) (by ktr_units) (lcell _ _ _ _ _ _ _ _ _ _ _ _ _ _ _ _ (by walk_at "M") (by walk_at "A") (by walk_at "A") (by walk_at "N") (by walk_at "M") (by walk_at "N") (by walk_at "E") (by walk_at "L")) ?_; k_whole; intro x9z h9z tk9z p9z F9z N9z; ((first | (refine andNest p9z ?_; (try clear p9z); intro pa9z pb9z pc9z pd9z pe9z pf9z pg9z ph9z pi9z) | obtain ⟨⟨pa9z, pb9z, pc9z⟩, ⟨pd9z, pe9z, pf9z⟩, pg9z, ph9z, pi9z⟩ := p9z)); (replace pa9z := ltN pa9z); (replace pb9z := ltN pb9z); (replace pd9z := ltN pd9z); (replace pe9z := ltN pe9z); (try k_lt pc9z); (try k_lt pf9z); (try dsimp only at N9z); (try dsimp only); (try k_sweep); (try k_fold))) | (k_here; (with_reducible show wpAny _ _ (call (Value.ref 674) _ _) _ _ _); k_dflt (refine' Cut.uz (by k_asm) (by k_asm) (by k_asm) (by k_asm) sub_self (by k_asm) (by walk_at "R") (by ktr_room) (by ktr_units) (areas _ _ _ _) ?_; k_whole; intro x9z h9z tk9z p9z F9z N9z; ((first | (refine and7 p9z ?_; (try clear p9z); intro pz9z pa9z pb9z pc9z pd9z pe9z pf9z) | obtain ⟨pz9z, pa9z, pb9z, pc9z, pd9z, pe9z, pf9z⟩ := p9z)); (try k_lt pa9z); (replace pb9z := ltN pb9z); (replace pc9z := ltN pc9z); (replace pd9z := ltN pd9z); (replace pe9z := ltN pe9z); (replace pf9z := ltN pf9z); (try dsimp only at N9z); (try dsimp only); (try k_sweep); (try k_fold))) | (k_here; (with_reducible show wpAny _ _ (call (Value.ref 154) _ _) _ _ _); k_dflt (refine' Cut.uz (by k_asm) (by k_asm) (by k_asm) (by k_asm) sub_self (by k_asm) (by walk_at "R") (by ktr_room) (by ktr_units) (symbols _ _) ?_; k_whole; intro x9z h9z tk9z p9z F9z N9z; ((first | (refine and9 p9z ?_; (try clear p9z); intro pa9z pb9z pc9z pd9z pe9z pf9z pg9z ph9z pi9z) | obtain ⟨pa9z, pb9z, pc9z, pd9z, pe9z, pf9z, pg9z, ph9z, pi9z⟩ := p9z)); (try k_lt pa9z); (replace pb9z := ltN pb9z); (replace pc9z := ltN pc9z); (replace pd9z := ltN pd9z); (try dsimp only at N9z); (try dsimp only); (try k_sweep); (try k_fold))) | (k_here; (with_reducible show wpAny _ _ (call (Value.ref 692) _ _) _ _ _); k_dflt (refine' whole_use (by k_asm) (by k_asm) (by k_asm) (by k_asm) (by k_asm) (by walk_at "R") (by k_updF) (by walk_at "M") (by walk_at "N") (by walk_at "E") (by ktr_room) (by ktr_units) ?_; k_whole; intro x9z h9z tk9z p9z F9z N9z; ((first | (refine and2 p9z ?_; (try clear p9z); intro pa9z pc9z) | obtain ⟨pa9z, pc9z⟩ := p9z)); (try dsimp only at N9z); walk_at "Z")) | (k_here; (with_reducible show wpAny _ _ (call (Value.ref 685) _ _) _ _ _); k_dflt (refine' draw_use (by k_asm) (by k_asm) (by k_asm) (by k_asm) (by k_asm) (by walk_at "R") (by k_updF) (by walk_at "M") (by walk_at "N") (by walk_at "E") (by walk_at "E") (by walk_at "O") (by ktr_room) (by ktr_units) ?_; k_whole; intro x9z h9z tk9z p9z F9z N9z; ((first | (refine and3 p9z ?_; (try clear p9z); intro pa9z pb9z pc9z) | obtain ⟨pa9z, pb9z, pc9z⟩ := p9z)); (try dsimp only at N9z); walk_at "Z")) | (k_unfold; (try dsimp only); (try clear qkC)) | (k_end; wrow_close) | ((with_reducible show wpAny _ _ (execs (List.cons _ _) _) _ _ _); first | k_gentoks | (refine execs_consF ?_; intro qkC)) | walk1 | (dsimp only; walk1) | (leave1; try dsimp only) | fail "no step")
    all_goals (have F9z := True.intro; have N9z := True.intro; have h9z := True.intro; have p9z := True.intro; have pa9z := True.intro; have pb9z := True.intro; have pc9z := True.intro; have pd9z := True.intro; have pe9z := True.intro; have pf9z := True.intro; have pg9z := True.intro; have ph9z := True.intro; have pi9z := True.intro; have pz9z := True.intro; have tk9z := True.intro; have x9z := True.intro)
    exact cont tr sp xs n h tk hx F fun q hq => N q (law_up (sub_tail sub_self) q hq)
theorem partF (w : World) (z : LD) (x : DrawD) (hs xs to st ce si : List Value) (n : LN) (VS : List (Addr × Obj)) (T S : Nat → Int) (SC cC cM : Addr) (k : Nat) (u KN pl tr fr to' : Option Value) (mean : ExcName → Option Value) (mg mb : Str → Option Value) (dp un : Nat) (gd : Option (List Code)) (a : Addr) (ccd : Value) (A₀ : Around) (base h₀ : Heap) (L : Addr) (s : Shared) (Q : Flow → Shared → Prop) (E : Value → Shared → Prop)
    (B : Below A₀ base [] h₀) (F : Fr h₀ L s.heap (mD z SC u KN pl tr fr to')) (XX : (Mine.K w.params).In h₀) (N : News h₀ L s.heap (lawL z x hs xs to st ce si n VS)) (TT : Top VW LO mean mg mb h₀) (hd : dp + 200 < recursionLimit) (hu : un + 8000 < cLine)
    (hE : PassesOwn (model PySem.Challenge.rw_sa0162_01.row.prog w) (lawTop dp un gd L a ccd cC cM) (lawEnv L a ccd cC cM) E)
    (LS : LawS w z cC cM VS) (hx : 1 ≤ xs.length ∧ xs.length ≤ 10) (hk : k ≤ 6) (R : Row VS hs to st ce si k T S)
    (cont : ∀ (pl tr sp : Option Value) (xs : List Value) (n : LN) (h' : Heap) (tk' : Nat), (1 ≤ xs.length ∧ xs.length ≤ 10) → Fr h₀ L h' (mF z SC u KN pl tr fr to' sp) → News h₀ L h' (lawL z x hs xs to st ce si n VS) →
      wpAny (model PySem.Challenge.rw_sa0162_01.row.prog w) (lawTop dp un gd L a ccd cC cM) (execs (c55b.drop 15) (lawEnv L a ccd cC cM)) Q E { s with heap := h', toks := tk' }) :
    wpAny (model PySem.Challenge.rw_sa0162_01.row.prog w) (lawTop dp un gd L a ccd cC cM) (execs (c55b.drop 14) (lawEnv L a ccd cC cM)) Q E s := by
  revert XX; k_fill; intro XX
  have o1 := ltN LS.o1; have o2 := ltN LS.o2; have o3 := ltN LS.o3; have o4 := ltN LS.o4; have o5 := ltN LS.o5; have o6 := ltN LS.o6
  have a1 := LS.a1; have a2 := LS.a2; have a3 := LS.a3; have a4 := LS.a4; have a5 := LS.a5; have a6 := LS.a6; have a7 := LS.a7
  have hPool := LS.pool; have hSP := LS.nSP; have hMach := LS.mach
  have m1 := hMach.x; have m2 := hMach.xd; have m3 := hMach.m; have m4 := hMach.md
  obtain ⟨oM, cm, cmd⟩ := LS.cm
  obtain ⟨oC, cc, ccd'⟩ := LS.cc
  have lH := R.lH; have lTO := R.lTO; have lST := R.lST; have lCE := R.lCE; have lSI := R.lSI
  (try (refine foldAE ?_; intro envT AT))
  repeat' (((fail_if_success (with_reducible show wpAny _ _ (exec (Stmt.For _ _ _ _ _) _) _ _ _)); (fail_if_success (with_reducible show wpAny _ _ (pyIter _) _ _ _))); first | (k_here; (with_reducible show wpAny _ _ (call (Value.ref 265) _ _) _ _ _); k_dflt (refine' bind_use (by k_asm) (by k_asm) (by k_asm) (by k_asm) (by k_asm) (by walk_at "R") (by k_updF) (by walk_at "M") (by k_mem) (by walk_at "N") (by walk_at "E") (by first | assumption | ((try simp only [List.length_append, List.length_cons, List.length_nil, List.length_set]); first | exact lenB (by assumption) rfl | exact lenA (by assumption) rfl | omega)) (by walk_at "E") (by ktr_room) (by ktr_units) ?_; k_whole; intro h9z tk9z F9z N9z; (try dsimp only at N9z); walk_at "Z")) | (k_here; (with_reducible show wpAny _ _ (call (Value.ref 230) _ _) _ _ _); k_dflt (refine' newvar_use (by k_asm) (by k_asm) (by k_asm) (by k_asm) (by k_asm) (by walk_at "R") (by k_updF) (by walk_at "M") (by walk_at "L") (by ktr_room) (by ktr_units) ?_; k_whole; intro x9z h9z tk9z p9z F9z N9z; (try dsimp only at N9z); (try k_lt p9z); walk_at "Z")) | (k_here; (with_reducible show wpAny _ _ (call (Value.ref 251) _ _) _ _ _); k_dflt (refine' Cut.uz (by k_asm) (by k_asm) (by k_asm) (by k_asm) sub_self (by k_asm) (by walk_at "R") (by ktr_room) (by ktr_units) (derefS (by walk_at "M") (by k_mem) (by walk_at "M") (by omega)) ?_; k_whole; intro x9z h9z tk9z p9z F9z N9z; (have pz9z := p9z); (first | (obtain ⟨pa9z, ⟨pb9z, pc9z, pd9z, pe9z⟩, pf9z⟩ := p9z; subst pa9z) | (first | (refine and4 p9z ?_; (try clear p9z); intro pa9z pb9z pc9z pd9z) | obtain ⟨pa9z, pb9z, pc9z, pd9z⟩ := p9z)); (try dsimp only at N9z); walk_at "Z")) | (k_here; (with_reducible show wpAny _ _ (call (Value.ref 699) _ _) _ _ _); k_dflt (refine' Cut.uz (by k_asm) (by k_asm) (by k_asm) (by k_asm) (by refine' Del.sub2 (by k_upd) (by k_upd)) (by k_asm) (by walk_at "R") (by ktr_room) (by ktr_units) (lcell _ _ _ _ _ _ _ _ _ _ _ _ _ _ _ _ (by walk_at "M") (by walk_at "A") (by walk_at "A") (by walk_at "N") (by walk_at "M") (by walk_at "N") (by walk_at "E") (by walk_at "L")) ?_; k_whole; intro x9z h9z tk9z p9z F9z N9z; ((first | (refine andNest p9z ?_; (try clear p9z); intro pa9z pb9z pc9z pd9z pe9z pf9z pg9z ph9z pi9z) | obtain ⟨⟨pa9z, pb9z, pc9z⟩, ⟨pd9z, pe9z, pf9z⟩, pg9z, ph9z, pi9z⟩ := p9z)); (replace pa9z := ltN pa9z); (replace pb9z := ltN pb9z); (replace pd9z := ltN pd9z); (replace pe9z := ltN pe9z); (try k_lt pc9z); (try k_lt pf9z); (try dsimp only at N9z); (try dsimp only); (try k_sweep); (try k_fold))) | (k_here; (with_reducible show wpAny _ _ (call (Value.ref 674) _ _) _ _ _); k_dflt (refine' Cut.uz (by k_asm) (by k_asm) (by k_asm) (by k_asm) sub_self (by k_asm) (by walk_at "R") (by ktr_room) (by ktr_units) (areas _ _ _ _) ?_; k_whole; intro x9z h9z tk9z p9z F9z N9z; ((first | (refine and7 p9z ?_; (try clear p9z); intro pz9z pa9z pb9z pc9z pd9z pe9z pf9z) | obtain ⟨pz9z, pa9z, pb9z, pc9z, pd9z, pe9z, pf9z⟩ := p9z)); (try k_lt pa9z); (replace pb9z := ltN pb9z); (replace pc9z := ltN pc9z); (replace pd9z := ltN pd9z); (replace pe9z := ltN pe9z); (replace pf9z := ltN pf9z); (try dsimp only at N9z); (try dsimp only); (try k_sweep); (try k_fold))) | (k_here; (with_reducible show wpAny _ _ (call (Value.ref 154) _ _) _ _ _); k_dflt (refine' Cut.uz (by k_asm) (by k_asm) (by k_asm) (by k_asm) sub_self (by k_asm) (by walk_at "R") (by ktr_room) (by ktr_units) (symbols _ _) ?_; k_whole; intro x9z h9z tk9z p9z F9z N9z; ((first | (refine and9 p9z ?_; (try clear p9z); intro pa9z pb9z pc9z pd9z pe9z pf9z pg9z ph9z pi9z) | obtain ⟨pa9z, pb9z, pc9z, pd9z, pe9z, pf9z, pg9z, ph9z, pi9z⟩ := p9z)); (try k_lt pa9z); (replace pb9z := ltN pb9z); (replace pc9z := ltN pc9z); (replace pd9z := ltN pd9z); (try dsimp only at N9z); (try dsimp only); (try k_sweep); (try k_fold))) | (k_here; (with_reducible show wpAny _ _ (call (Value.ref 692) _ _) _ _ _); k_dflt (refine' whole_use (by k_asm) (by k_asm) (by k_asm) (by k_asm) (by k_asm) (by walk_at "R") (by k_updF) (by walk_at "M") (by walk_at "N") (by walk_at "E") (by ktr_room) (by ktr_units) ?_; k_whole; intro x9z h9z tk9z p9z F9z N9z; ((first | (refine and2 p9z ?_; (try clear p9z); intro pa9z pc9z) | obtain ⟨pa9z, pc9z⟩ := p9z)); (try dsimp only at N9z); walk_at "Z")) | (k_here; (with_reducible show wpAny _ _ (call (Value.ref 685) _ _) _ _ _); k_dflt (refine' draw_use (by k_asm) (by k_asm) (by k_asm) (by k_asm) (by k_asm) (by walk_at "R") (by k_updF) (by walk_at "M") (by walk_at "N") (by walk_at "E") (by walk_at "E") (by walk_at "O") (by ktr_room) (by ktr_units) ?_; k_whole; intro x9z h9z tk9z p9z F9z N9z; ((first | (refine and3 p9z ?_; (try clear p9z); intro pa9z pb9z pc9z) | obtain ⟨pa9z, pb9z, pc9z⟩ := p9z)); (try dsimp only at N9z); walk_at "Z")) | (k_unfold; (try dsimp only); (try clear qkC)) | (k_end; wrow_close) | ((with_reducible show wpAny _ _ (execs (List.cons _ _) _) _ _ _); first | k_gentoks | (refine execs_consF ?_; intro qkC)) | walk1 | (dsimp only; walk1) | (leave1; try dsimp only) | fail "no step")
  all_goals (have F9z := True.intro; have N9z := True.intro; have h9z := True.intro; have p9z := True.intro; have pa9z := True.intro; have pb9z := True.intro; have pc9z := True.intro; have pd9z := True.intro; have pe9z := True.intro; have pf9z := True.intro; have pg9z := True.intro; have ph9z := True.intro; have pi9z := True.intro; have pz9z := True.intro; have tk9z := True.intro; have x9z := True.intro)
  (rename Fr _ _ _ _ => lF)
  (with_unfolding_all refine' For_invVF lF ?k1 ?k2 ?_ (hE := hE)); (case k1 => exact rfl); (case k2 => exact rfl)
  (try (refine foldQ ?_; intro qkT5))
  repeat' (((fail_if_success (with_reducible show wpAny _ _ (exec (Stmt.For _ _ _ _ _) _) _ _ _)); (fail_if_success (with_reducible show wpAny _ _ (pyIter _) _ _ _))); first | (k_here; (with_reducible show wpAny _ _ (call (Value.ref 265) _ _) _ _ _); k_dflt (refine' bind_use (by k_asm) (by k_asm) (by k_asm) (by k_asm) (by k_asm) (by walk_at "R") (by k_updF) (by walk_at "M") (by k_mem) (by walk_at "N") (by walk_at "E") (by first | assumption | ((try simp only [List.length_append, List.length_cons, List.length_nil, List.length_set]); first | exact lenB (by assumption) rfl | exact lenA (by assumption) rfl | omega)) (by walk_at "E") (by ktr_room) (by ktr_units) ?_; k_whole; intro h9z tk9z F9z N9z; (try dsimp only at N9z); walk_at "Z")) | (k_here; (with_reducible show wpAny _ _ (call (Value.ref 230) _ _) _ _ _); k_dflt (refine' newvar_use (by k_asm) (by k_asm) (by k_asm) (by k_asm) (by k_asm) (by walk_at "R") (by k_updF) (by walk_at "M") (by walk_at "L") (by ktr_room) (by ktr_units) ?_; k_whole; intro x9z h9z tk9z p9z F9z N9z; (try dsimp only at N9z); (try k_lt p9z); walk_at "Z")) | (k_here; (with_reducible show wpAny _ _ (call (Value.ref 251) _ _) _ _ _); k_dflt (refine' Cut.uz (by k_asm) (by k_asm) (by k_asm) (by k_asm) sub_self (by k_asm) (by walk_at "R") (by ktr_room) (by ktr_units) (derefS (by walk_at "M") (by k_mem) (by walk_at "M") (by omega)) ?_; k_whole; intro x9z h9z tk9z p9z F9z N9z; (have pz9z := p9z); (first | (obtain ⟨pa9z, ⟨pb9z, pc9z, pd9z, pe9z⟩, pf9z⟩ := p9z; subst pa9z) | (first | (refine and4 p9z ?_; (try clear p9z); intro pa9z pb9z pc9z pd9z) | obtain ⟨pa9z, pb9z, pc9z, pd9z⟩ := p9z)); (try dsimp only at N9z); walk_at "Z")) | (k_here; (with_reducible show wpAny _ _ (call (Value.ref 699) _ _) _ _ _); k_dflt (refine' Cut.uz (by k_asm) (by k_asm) (by k_asm) (by k_asm) (by refine' Del.sub2 (by k_upd) (by k_upd)) (by k_asm) (by walk_at "R") (by ktr_room) (by ktr_units) (lcell _ _ _ _ _ _ _ _ _ _ _ _ _ _ _ _ (by walk_at "M") (by walk_at "A") (by walk_at "A") (by walk_at "N") (by walk_at "M") (by walk_at "N") (by walk_at "E") (by walk_at "L")) ?_; k_whole; intro x9z h9z tk9z p9z F9z N9z; ((first | (refine andNest p9z ?_; (try clear p9z); intro pa9z pb9z pc9z pd9z pe9z pf9z pg9z ph9z pi9z) | obtain ⟨⟨pa9z, pb9z, pc9z⟩, ⟨pd9z, pe9z, pf9z⟩, pg9z, ph9z, pi9z⟩ := p9z)); (replace pa9z := ltN pa9z); (replace pb9z := ltN pb9z); (replace pd9z := ltN pd9z); (replace pe9z := ltN pe9z); (try k_lt pc9z); (try k_lt pf9z); (try dsimp only at N9z); (try dsimp only); (try k_sweep); (try k_fold))) | (k_here; (with_reducible show wpAny _ _ (call (Value.ref 674) _ _) _ _ _); k_dflt (refine' Cut.uz (by k_asm) (by k_asm) (by k_asm) (by k_asm) sub_self (by k_asm) (by walk_at "R") (by ktr_room) (by ktr_units) (areas _ _ _ _) ?_; k_whole; intro x9z h9z tk9z p9z F9z N9z; ((first | (refine and7 p9z ?_; (try clear p9z); intro pz9z pa9z pb9z pc9z pd9z pe9z pf9z) | obtain ⟨pz9z, pa9z, pb9z, pc9z, pd9z, pe9z, pf9z⟩ := p9z)); (try k_lt pa9z); (replace pb9z := ltN pb9z); (replace pc9z := ltN pc9z); (replace pd9z := ltN pd9z); (replace pe9z := ltN pe9z); (replace pf9z := ltN pf9z); (try dsimp only at N9z); (try dsimp only); (try k_sweep); (try k_fold))) | (k_here; (with_reducible show wpAny _ _ (call (Value.ref 154) _ _) _ _ _); k_dflt (refine' Cut.uz (by k_asm) (by k_asm) (by k_asm) (by k_asm) sub_self (by k_asm) (by walk_at "R") (by ktr_room) (by ktr_units) (symbols _ _) ?_; k_whole; intro x9z h9z tk9z p9z F9z N9z; ((first | (refine and9 p9z ?_; (try clear p9z); intro pa9z pb9z pc9z pd9z pe9z pf9z pg9z ph9z pi9z) | obtain ⟨pa9z, pb9z, pc9z, pd9z, pe9z, pf9z, pg9z, ph9z, pi9z⟩ := p9z)); (try k_lt pa9z); (replace pb9z := ltN pb9z); (replace pc9z := ltN pc9z); (replace pd9z := ltN pd9z); (try dsimp only at N9z); (try dsimp only); (try k_sweep); (try k_fold))) | (k_here; (with_reducible show wpAny _ _ (call (Value.ref 692) _ _) _ _ _); k_dflt (refine' whole_use (by k_asm) (by k_asm) (by k_asm) (by k_asm) (by k_asm) (by walk_at "R") (by k_updF) (by walk_at "M") (by walk_at "N") (by walk_at "E") (by ktr_room) (by ktr_units) ?_; k_whole; intro x9z h9z tk9z p9z F9z N9z; ((first | (refine and2 p9z ?_; (try clear p9z); intro pa9z pc9z) | obtain ⟨pa9z, pc9z⟩ := p9z)); (try dsimp only at N9z); walk_at "Z")) | (k_here; (with_reducible show wpAny _ _ (call (Value.ref 685) _ _) _ _ _); k_dflt (refine' draw_use (by k_asm) (by k_asm) (by k_asm) (by k_asm) (by k_asm) (by walk_at "R") (by k_updF) (by walk_at "M") (by walk_at "N") (by walk_at "E") (by walk_at "E") (by walk_at "O") (by ktr_room) (by ktr_units) ?_; k_whole; intro x9z h9z tk9z p9z F9z N9z; ((first | (refine and3 p9z ?_; (try clear p9z); intro pa9z pb9z pc9z) | obtain ⟨pa9z, pb9z, pc9z⟩ := p9z)); (try dsimp only at N9z); walk_at "Z")) | (k_unfold; (try dsimp only); (try clear qkC)) | (k_end; wrow_close) | ((with_reducible show wpAny _ _ (execs (List.cons _ _) _) _ _ _); first | k_gentoks | (refine execs_consF ?_; intro qkC)) | walk1 | (dsimp only; walk1) | (leave1; try dsimp only) | fail "no step")
  all_goals (have F9z := True.intro; have N9z := True.intro; have h9z := True.intro; have p9z := True.intro; have pa9z := True.intro; have pb9z := True.intro; have pc9z := True.intro; have pd9z := True.intro; have pe9z := True.intro; have pf9z := True.intro; have pg9z := True.intro; have ph9z := True.intro; have pi9z := True.intro; have pz9z := True.intro; have tk9z := True.intro; have x9z := True.intro)
  repeat clear qk
  repeat clear ek
  rename_i r9 h9 tk9 u1 u2 u3 F9 N9 l9
  have LSr : LawS w z cC cM ((r9, rng 0 (st.length : Int) u1 u2 u3) :: VS) := LS.add ⟨l9.1, l9.2.1, l9.2.2.1, l9.2.2.2.1, l9.2.2.2.2.1, l9.2.2.2.2.2.1, l9.2.2.2.2.2.2.1⟩
  have hsm : Builtin.Range.small 0 (st.length : Int) 1 = true := small_one (by omega) (by omega) (by omega) (by omega)
  refine iter_rng (fun i m nx => ∃ xs n pl tr sp, nx = lawL z x hs xs to st ce si n ((r9, rng 0 (st.length : Int) u1 u2 u3) :: VS) ∧ (1 ≤ xs.length ∧ xs.length ≤ 10) ∧ m = mF z SC u KN pl tr fr to' sp) rfl F9 (news := lawL z x hs xs to st ce si n ((r9, rng 0 (st.length : Int) u1 u2 u3) :: VS)) (fun q hq => N9 q (pB1 q hq)) (a := 0) (b := (st.length : Int)) (t := u1) (u := u2) (v := u3) (k := st.length) (r := r9) (law_in (.head _)) hsm (by rw [rangeSize_one]; split <;> omega) ⟨xs, n, pl, tr, none, rfl, hx, mF_no⟩ ?_ ?_
  · clear N9 F9 cont
    rintro i tv m nx h tk I io hi ⟨xs, n, pl, tr, sp, rfl, hx, rfl⟩ hI F1 N1
    have F2 : Fr h₀ L h (mF z SC u KN (some (.int (i : Int) tv)) tr fr to' sp) := by
      rw [← mF_pl (pl := pl)]
      rw [Int.zero_add] at F1
      exact F1
    refine loopF w z x hs xs to st ce si n ((I, io) :: (r9, rng 0 (st.length : Int) u1 u2 u3) :: VS) T S SC cC cM k u KN tr fr to' sp i tv mean mg mb dp un gd a ccd A₀ base h₀ L _ _ E B F2 XX (fun q hq => N1 q (law_pull q hq)) TT hd hu hE (LSr.putI hI) hx hk (R.mono (sub_tail (sub_tail sub_self))) (by omega) fun tr' sp' xs' n' h' tk' g1 g2 g3 => ?_
    show TurnEnd _ _ _ _ _ _ _
    exact ⟨h', tk', _, lawL z x hs xs' to st ce si n' ((r9, rng 0 (st.length : Int) u1 u2 u3) :: VS), rfl, g2, fun q hq => g3 q (law_push q hq), law_ne hI fun q hq => hI q (law_in hq), xs', n', _, tr', sp', rfl, g1, rfl⟩
  · rintro m nx h tk ⟨xs, n, pl, tr, sp, rfl, hx, rfl⟩ F N
    exact cont pl tr sp xs n h tk hx F fun q hq => N q (law_up (sub_tail sub_self) q hq)
/-! L20 -/
local macro_rules | `(tactic| k_qdec) => `(tactic| decide +kernel)
local macro_rules | `(tactic| walk_at "d37") => `(tactic| skip)
theorem cw0 : PySem.Challenge.rw_sa0162_01.Holds := by
  refine hd ?_
  delta HK
  k_go0
  all_goals try k_fold
  (rename Below _ _ _ _ => B)
  (rename Fr _ _ _ _ => F)
  (rename (K _).In _ => XX)
  (rename News _ _ _ _ => N)
  (rename Top _ _ _ _ _ _ => TT)
  (rename Heap.IsList _ _ _ => hL)
  (rename IntsAre _ _ => hI)
  have hd : 302 + 200 < recursionLimit := by decide +kernel
  have hu : 7 + 8000 < cLine := by decide +kernel
  refine partA _ _ _ _ _ _ _ _ _ _ _ 302 7 (some []) _ _ _ _ _ _ _ qk ek B F XX N TT hd hu hL hI (by omega) (by assumption) (by assumption) (Nat.lt_succ_self _) fun z x hs xs to st ce si n VS T S h' tk' LS hp R hx F N => ?_
  refine partB _ z x hs xs to st ce si n VS T S _ _ _ _ _ _ 302 7 (some []) _ _ _ _ _ _ _ qk ek B F XX N TT hd hu PassesOwn.leaving LS (by omega) hp R fun k u x hs xs to st ce si n VS T S h' tk' hk LS hx hp R F N => ?_
  refine partC1 _ z x hs xs to st ce si n VS T S _ _ _ k u _ _ _ 302 7 (some []) _ _ _ _ _ _ _ qk ek B F XX N TT hd hu LS hk R fun KN ys nk VS h' tk' LS sub hKN hK F N => ?_
  refine partC2 _ z x hs xs to st ce si n VS T S _ _ _ k u KN ys nk _ _ _ 302 7 (some []) _ _ _ _ _ _ _ qk ek B F XX N TT hd hu LS hk (R.mono sub) hKN (let ⟨ns, a, b, d⟩ := hK; ⟨ns, a, b, fun v hv => let ⟨p, e, f, g⟩ := d v hv; ⟨p, e, f, g.mono sub⟩⟩) fun KN k0 t0 ys nk hs n VS h' tk' h0 LS R hb hKN F N => ?_
  refine partD _ z x hs xs to st ce si n VS T S _ _ _ k u KN k0 t0 ys nk _ _ _ 302 7 (some []) _ _ _ _ _ _ _ qk ek B F XX N TT XX TT hd hu PassesOwn.leaving LS hx hk h0 R hb hKN fun pl tr fr to' hs xs n VS h' tk' LS hx R hT hS F N => ?_
  refine partE1 _ z x hs xs to st ce si n VS T S _ _ _ k u _ pl tr fr to' _ _ _ 302 7 (some []) _ _ _ _ _ _ _ qk ek B F XX N TT hd hu LS hk R (fun i hi => hT i (by omega)) fun VS1 h' tk' LS sub F N => ?_
  refine partE2 _ z x hs xs to st ce si n VS1 T S _ _ _ k u _ pl tr fr to' _ _ _ 302 7 (some []) _ _ _ _ _ _ _ qk ek B F XX N TT hd hu LS hk (R.mono sub) (fun i hi => (hS i hi).mono sub) fun VS2 h' tk' LS sub2 F N => ?_
  refine partF _ z x hs xs to st ce si n VS2 T S _ _ _ k u _ pl tr fr to' _ _ _ 302 7 (some []) _ _ _ _ _ _ _ qk ek B F XX N TT hd hu PassesOwn.leaving LS hx hk ((R.mono sub).mono sub2) fun pl tr sp xs n h' tk' hx F N => ?_
  refine partG _ z x hs xs to st ce si n VS2 T S _ _ _ k u _ pl tr fr to' sp _ _ _ 302 7 (some []) _ _ _ _ _ _ _ qk ek B F XX N TT hd hu LS hx hp hk ((R.mono sub).mono sub2) fun m h' tk' F => ?_
  wrow_close
end Mine
theorem PySem.Challenge.cw_sa0162_01_holds : PySem.Challenge.rw_sa0162_01.Holds :=
  Mine.cw0
