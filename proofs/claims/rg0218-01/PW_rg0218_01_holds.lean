import PyProof.Rows.All
import Wide.All
import OpenK.AllK
import Wide.FinOn
import PySem.Challenge.RW_rg0218_01
open PySem PySem.W PySem.Calls PyProof.Rows PySem.Spec
set_option Elab.async false
set_option maxRecDepth 100000
set_option maxHeartbeats 8000000
set_option linter.unusedVariables false
namespace Mine
section
def stA (i : Nat) : Stmt := (PySem.Challenge.pw_rg0218_01.main.body[i]?).getD (.Pass default)
def kidsOf : Stmt → List Stmt
  | .ClassDef _ _ _ b .. => b
  | _ => []
def stB (i j : Nat) : Stmt := ((kidsOf (stA i))[j]?).getD (.Pass default)
def parOf : Stmt → Arguments
  | .FunctionDef _ a .. => a
  | _ => default
def bodOf : Stmt → List Stmt
  | .FunctionDef _ _ b .. => b
  | _ => []
def scoOf : Stmt → Scope
  | .FunctionDef _ _ _ _ _ _ s .. => s
  | _ => default
noncomputable abbrev par37 : Arguments := by
  refine' (fun (l : Arguments) (_ : parOf (stB 2 0) = l) => l) _ ?h
  case h => (conv => lhs; whnf)
noncomputable abbrev bod37 : List Stmt := by
  refine' (fun (l : List Stmt) (_ : bodOf (stB 2 0) = l) => l) _ ?h
  case h => (conv => lhs; whnf)
noncomputable abbrev sco37 : Scope := by
  refine' (fun (l : Scope) (_ : scoOf (stB 2 0) = l) => l) _ ?h
  case h => (conv => lhs; whnf)
noncomputable abbrev par98 : Arguments := by
  refine' (fun (l : Arguments) (_ : parOf (stB 16 0) = l) => l) _ ?h
  case h => (conv => lhs; whnf)
noncomputable abbrev bod98 : List Stmt := by
  refine' (fun (l : List Stmt) (_ : bodOf (stB 16 0) = l) => l) _ ?h
  case h => (conv => lhs; whnf)
noncomputable abbrev sco98 : Scope := by
  refine' (fun (l : Scope) (_ : scoOf (stB 16 0) = l) => l) _ ?h
  case h => (conv => lhs; whnf)
noncomputable abbrev par231 : Arguments := by
  refine' (fun (l : Arguments) (_ : parOf (stB 16 19) = l) => l) _ ?h
  case h => (conv => lhs; whnf)
noncomputable abbrev bod231 : List Stmt := by
  refine' (fun (l : List Stmt) (_ : bodOf (stB 16 19) = l) => l) _ ?h
  case h => (conv => lhs; whnf)
noncomputable abbrev sco231 : Scope := by
  refine' (fun (l : Scope) (_ : scoOf (stB 16 19) = l) => l) _ ?h
  case h => (conv => lhs; whnf)
noncomputable abbrev par445 : Arguments := by
  refine' (fun (l : Arguments) (_ : parOf (stB 21 0) = l) => l) _ ?h
  case h => (conv => lhs; whnf)
noncomputable abbrev bod445 : List Stmt := by
  refine' (fun (l : List Stmt) (_ : bodOf (stB 21 0) = l) => l) _ ?h
  case h => (conv => lhs; whnf)
noncomputable abbrev sco445 : Scope := by
  refine' (fun (l : Scope) (_ : scoOf (stB 21 0) = l) => l) _ ?h
  case h => (conv => lhs; whnf)
noncomputable abbrev par452 : Arguments := by
  refine' (fun (l : Arguments) (_ : parOf (stB 21 1) = l) => l) _ ?h
  case h => (conv => lhs; whnf)
noncomputable abbrev bod452 : List Stmt := by
  refine' (fun (l : List Stmt) (_ : bodOf (stB 21 1) = l) => l) _ ?h
  case h => (conv => lhs; whnf)
noncomputable abbrev sco452 : Scope := by
  refine' (fun (l : Scope) (_ : scoOf (stB 21 1) = l) => l) _ ?h
  case h => (conv => lhs; whnf)
noncomputable abbrev par632 : Arguments := by
  refine' (fun (l : Arguments) (_ : parOf (stB 28 0) = l) => l) _ ?h
  case h => (conv => lhs; whnf)
noncomputable abbrev bod632 : List Stmt := by
  refine' (fun (l : List Stmt) (_ : bodOf (stB 28 0) = l) => l) _ ?h
  case h => (conv => lhs; whnf)
noncomputable abbrev sco632 : Scope := by
  refine' (fun (l : Scope) (_ : scoOf (stB 28 0) = l) => l) _ ?h
  case h => (conv => lhs; whnf)
noncomputable abbrev par707 : Arguments := by
  refine' (fun (l : Arguments) (_ : parOf (stB 29 0) = l) => l) _ ?h
  case h => (conv => lhs; whnf)
noncomputable abbrev bod707 : List Stmt := by
  refine' (fun (l : List Stmt) (_ : bodOf (stB 29 0) = l) => l) _ ?h
  case h => (conv => lhs; whnf)
noncomputable abbrev sco707 : Scope := by
  refine' (fun (l : Scope) (_ : scoOf (stB 29 0) = l) => l) _ ?h
  case h => (conv => lhs; whnf)
noncomputable abbrev par763 : Arguments := by
  refine' (fun (l : Arguments) (_ : parOf (stB 29 8) = l) => l) _ ?h
  case h => (conv => lhs; whnf)
noncomputable abbrev bod763 : List Stmt := by
  refine' (fun (l : List Stmt) (_ : bodOf (stB 29 8) = l) => l) _ ?h
  case h => (conv => lhs; whnf)
noncomputable abbrev sco763 : Scope := by
  refine' (fun (l : Scope) (_ : scoOf (stB 29 8) = l) => l) _ ?h
  case h => (conv => lhs; whnf)
noncomputable abbrev par590 : Arguments := by
  refine' (fun (l : Arguments) (_ : parOf (stA 23) = l) => l) _ ?h
  case h => (conv => lhs; whnf)
noncomputable abbrev bod590 : List Stmt := by
  refine' (fun (l : List Stmt) (_ : bodOf (stA 23) = l) => l) _ ?h
  case h => (conv => lhs; whnf)
noncomputable abbrev sco590 : Scope := by
  refine' (fun (l : Scope) (_ : scoOf (stA 23) = l) => l) _ ?h
  case h => (conv => lhs; whnf)
noncomputable abbrev par611 : Arguments := by
  refine' (fun (l : Arguments) (_ : parOf (stA 26) = l) => l) _ ?h
  case h => (conv => lhs; whnf)
noncomputable abbrev bod611 : List Stmt := by
  refine' (fun (l : List Stmt) (_ : bodOf (stA 26) = l) => l) _ ?h
  case h => (conv => lhs; whnf)
noncomputable abbrev sco611 : Scope := by
  refine' (fun (l : Scope) (_ : scoOf (stA 26) = l) => l) _ ?h
  case h => (conv => lhs; whnf)
noncomputable abbrev par886 : Arguments := by
  refine' (fun (l : Arguments) (_ : parOf (stA 33) = l) => l) _ ?h
  case h => (conv => lhs; whnf)
noncomputable abbrev bod886 : List Stmt := by
  refine' (fun (l : List Stmt) (_ : bodOf (stA 33) = l) => l) _ ?h
  case h => (conv => lhs; whnf)
noncomputable abbrev sco886 : Scope := by
  refine' (fun (l : Scope) (_ : scoOf (stA 33) = l) => l) _ ?h
  case h => (conv => lhs; whnf)
noncomputable abbrev par893 : Arguments := by
  refine' (fun (l : Arguments) (_ : parOf (stA 34) = l) => l) _ ?h
  case h => (conv => lhs; whnf)
noncomputable abbrev bod893 : List Stmt := by
  refine' (fun (l : List Stmt) (_ : bodOf (stA 34) = l) => l) _ ?h
  case h => (conv => lhs; whnf)
noncomputable abbrev sco893 : Scope := by
  refine' (fun (l : Scope) (_ : scoOf (stA 34) = l) => l) _ ?h
  case h => (conv => lhs; whnf)
noncomputable abbrev par900 : Arguments := by
  refine' (fun (l : Arguments) (_ : parOf (stA 35) = l) => l) _ ?h
  case h => (conv => lhs; whnf)
noncomputable abbrev bod900 : List Stmt := by
  refine' (fun (l : List Stmt) (_ : bodOf (stA 35) = l) => l) _ ?h
  case h => (conv => lhs; whnf)
noncomputable abbrev sco900 : Scope := by
  refine' (fun (l : Scope) (_ : scoOf (stA 35) = l) => l) _ ?h
  case h => (conv => lhs; whnf)
noncomputable abbrev par907 : Arguments := by
  refine' (fun (l : Arguments) (_ : parOf (stA 36) = l) => l) _ ?h
  case h => (conv => lhs; whnf)
noncomputable abbrev bod907 : List Stmt := by
  refine' (fun (l : List Stmt) (_ : bodOf (stA 36) = l) => l) _ ?h
  case h => (conv => lhs; whnf)
noncomputable abbrev sco907 : Scope := by
  refine' (fun (l : Scope) (_ : scoOf (stA 36) = l) => l) _ ?h
  case h => (conv => lhs; whnf)
noncomputable abbrev par914 : Arguments := by
  refine' (fun (l : Arguments) (_ : parOf (stA 37) = l) => l) _ ?h
  case h => (conv => lhs; whnf)
noncomputable abbrev bod914 : List Stmt := by
  refine' (fun (l : List Stmt) (_ : bodOf (stA 37) = l) => l) _ ?h
  case h => (conv => lhs; whnf)
noncomputable abbrev sco914 : Scope := by
  refine' (fun (l : Scope) (_ : scoOf (stA 37) = l) => l) _ ?h
  case h => (conv => lhs; whnf)
noncomputable abbrev par919 : Arguments := by
  refine' (fun (l : Arguments) (_ : parOf (stA 38) = l) => l) _ ?h
  case h => (conv => lhs; whnf)
noncomputable abbrev bod919 : List Stmt := by
  refine' (fun (l : List Stmt) (_ : bodOf (stA 38) = l) => l) _ ?h
  case h => (conv => lhs; whnf)
noncomputable abbrev sco919 : Scope := by
  refine' (fun (l : Scope) (_ : scoOf (stA 38) = l) => l) _ ?h
  case h => (conv => lhs; whnf)
noncomputable def HK : Params → Frag := fun P => (
(nat_lit 2, .mk .none none (.dict #[.mk (PyData.keyHash P (.ofString "type.__subclasses__.Exception.0")) (.str (.ofString "type.__subclasses__.Exception.0") 230) (.int 47 0), .mk (PyData.keyHash P (.ofString "type.__subclasses__.Exception.n")) (.str (.ofString "type.__subclasses__.Exception.n") 231) (.int 1 0)] 2) #[]) ::
(nat_lit 3, .mk (.type "dict") none (.dict (List.toArray (.mk (PyData.keyHash P (.ofString "__name__")) (.str (.ofString "__name__") 165) (.str (.ofString "law_rg0218_01") 1393) :: .mk (PyData.keyHash P (.ofString "__doc__")) (.str (.ofString "__doc__") 166) .none :: .mk (PyData.keyHash P (.ofString "__package__")) (.str (.ofString "__package__") 167) .none :: .mk (PyData.keyHash P (.ofString "__loader__")) (.str (.ofString "__loader__") 168) (.builtin "__main__.__loader__#opaque") :: .mk (PyData.keyHash P (.ofString "__spec__")) (.str (.ofString "__spec__") 169) .none :: .mk (PyData.keyHash P (.ofString "__annotations__")) (.str (.ofString "__annotations__") 170) (.ref 6) :: .mk (PyData.keyHash P (.ofString "__builtins__")) (.str (.ofString "__builtins__") 171) (.ref 4) :: .mk (PyData.keyHash P (.ofString "__file__")) (.str (.ofString "__file__") 173) (.str (.ofString "/claim/cut.py") 172) :: .mk (PyData.keyHash P (.ofString "__cached__")) (.str (.ofString "__cached__") 174) .none :: .mk (PyData.keyHash P (.ofString "_wall")) (.str (.ofString "_wall") 193) (.ref 21) :: .mk (PyData.keyHash P (.ofString "SmtError")) (.str (.ofString "SmtError") 233) (.ref 47) :: .mk (PyData.keyHash P (.ofString "SortFault")) (.str (.ofString "SortFault") 256) (.ref 67) :: .mk (PyData.keyHash P (.ofString "CORE_NAMES")) (.str (.ofString "CORE_NAMES") 267) (.ref 70) :: .mk (PyData.keyHash P (.ofString "NUMBER_NAMES")) (.str (.ofString "NUMBER_NAMES") 282) (.ref 71) :: .mk (PyData.keyHash P (.ofString "BITS_TWO")) (.str (.ofString "BITS_TWO") 288) (.ref 72) :: .mk (PyData.keyHash P (.ofString "BITS_MANY")) (.str (.ofString "BITS_MANY") 294) (.ref 73) :: .mk (PyData.keyHash P (.ofString "BITS_ASK")) (.str (.ofString "BITS_ASK") 299) (.ref 74) :: .mk (PyData.keyHash P (.ofString "BITS_SIGNED")) (.str (.ofString "BITS_SIGNED") 305) (.ref 75) :: .mk (PyData.keyHash P (.ofString "BITS_NAMES")) (.str (.ofString "BITS_NAMES") 316) (.ref 82) :: .mk (PyData.keyHash P (.ofString "OWN_NAMES")) (.str (.ofString "OWN_NAMES") 317) (.ref 84) :: .mk (PyData.keyHash P (.ofString "BOOL")) (.str (.ofString "BOOL") 321) (.int 0 320) :: .mk (PyData.keyHash P (.ofString "INT")) (.str (.ofString "INT") 323) (.int 1 322) :: .mk (PyData.keyHash P (.ofString "REAL")) (.str (.ofString "REAL") 325) (.int 2 324) :: .mk (PyData.keyHash P (.ofString "Bank")) (.str (.ofString "Bank") 610) (.ref 297) :: .mk (PyData.keyHash P (.ofString "BoolBank")) (.str (.ofString "BoolBank") 740) (.ref 400) :: .mk (PyData.keyHash P (.ofString "WORDS")) (.str (.ofString "WORDS") 751) (.ref 403) :: .mk (PyData.keyHash P (.ofString "FunEntry")) (.str (.ofString "FunEntry") 795) (.ref 427) :: .mk (PyData.keyHash P (.ofString "Symbols")) (.str (.ofString "Symbols") 964) (.ref 558) :: .mk (PyData.keyHash P (.ofString "Heading")) (.str (.ofString "Heading") 997) (.ref 579) :: .mk (PyData.keyHash P (.ofString "name_of")) (.str (.ofString "name_of") 1005) (.ref 590) :: .mk (PyData.keyHash P (.ofString "number_of")) (.str (.ofString "number_of") 1013) (.ref 597) :: .mk (PyData.keyHash P (.ofString "list_in")) (.str (.ofString "list_in") 1021) (.ref 604) :: .mk (PyData.keyHash P (.ofString "label_of")) (.str (.ofString "label_of") 1031) (.ref 611) :: .mk (PyData.keyHash P (.ofString "put_in")) (.str (.ofString "put_in") 1039) (.ref 618) :: .mk (PyData.keyHash P (.ofString "SortReader")) (.str (.ofString "SortReader") 1152) (.ref 689) :: .mk (PyData.keyHash P (.ofString "CoreElaborator")) (.str (.ofString "CoreElaborator") 1392) (.ref 853) :: .mk (PyData.keyHash P (.ofString "_law_items")) (.str (.ofString "_law_items") 1418) (.ref 871) :: .mk (PyData.keyHash P (.ofString "_law_heads")) (.str (.ofString "_law_heads") 1433) (.ref 879) :: .mk (PyData.keyHash P (.ofString "_law_tip")) (.str (.ofString "_law_tip") 1442) (.ref 886) :: .mk (PyData.keyHash P (.ofString "_law_last")) (.str (.ofString "_law_last") 1450) (.ref 893) :: .mk (PyData.keyHash P (.ofString "_law_item")) (.str (.ofString "_law_item") 1458) (.ref 900) :: .mk (PyData.keyHash P (.ofString "_law_noted")) (.str (.ofString "_law_noted") 1466) (.ref 907) :: .mk (PyData.keyHash P (.ofString "_law_is_right")) (.str (.ofString "_law_is_right") 1483) (.ref 914) :: .mk (PyData.keyHash P (.ofString "law")) (.str (.ofString "law") 1489) (.ref 919) :: [])) 44) #[]) ::
(nat_lit 25, .mk (.type "cell") none (.cell (some (.ref 47))) #[]) ::
(nat_lit 30, .mk (.type "tuple") none (.seq #[.ref 25] 0) #[]) ::
(nat_lit 36, .mk (.type "code") none (.fields (List.toArray (.str (.ofString "__init__") 208 :: .str (.ofString "SmtError.__init__") 209 :: .str (.ofString "/claim/cut.py") 210 :: .int 7 0 :: .int 2 0 :: .int 0 0 :: .int 0 0 :: .int 3 0 :: .ref 31 :: .bool true :: .int 181 0 :: .ref 32 :: .none :: .ref 33 :: .ref 34 :: .ref 35 :: .int 214 0 :: .int 7 0 :: .str (.ofString "/claim/cut.py") 215 :: []))) #[]) ::
(nat_lit 37, .mk (.type "function") none (.func (.mk (.ofString "__init__") (.ofString "SmtError.__init__") par37 (.stmts bod37) sco37 3 [(.ofString "__class__", 25)] .none .none .none (.str (.ofString "minismt.errors") 194) none (.ref 36) (.ref 30) 0)) #[]) ::
(nat_lit 46, .mk (.type "dict") none (.dict (List.toArray (.mk (PyData.keyHash P (.ofString "__module__")) (.str (.ofString "__module__") 203) (.str (.ofString "minismt.errors") 194) :: .mk (PyData.keyHash P (.ofString "__firstlineno__")) (.str (.ofString "__firstlineno__") 207) (.int 5 206) :: .mk (PyData.keyHash P (.ofString "__init__")) (.str (.ofString "__init__") 216) (.ref 37) :: .mk (PyData.keyHash P (.ofString "told")) (.str (.ofString "told") 223) (.ref 44) :: .mk (PyData.keyHash P (.ofString "__static_attributes__")) (.str (.ofString "__static_attributes__") 225) (.ref 45) :: .mk (PyData.keyHash P (.ofString "__weakref__")) (.str (.ofString "__weakref__") 228) (.ref 48) :: .mk (PyData.keyHash P (.ofString "__doc__")) (.str (.ofString "__doc__") 229) .none :: [])) 4) #[]) ::
(nat_lit 47, .mk (.type "type") none (.cls (.mk (.ofString "SmtError") [.type "Exception"] (.ref 47 :: .type "Exception" :: .type "BaseException" :: .type "object" :: []) 46 (.ofString "SmtError") true [] [.ref 67] false none false)) (List.toArray (some (.ref 22) :: none :: some (.str (.ofString "SmtError") 196) :: some (.str (.ofString "SmtError") 204) :: some (.builtin "Exception.__new__") :: some (.bool true) :: []))) ::
(nat_lit 48, .mk (.type "getset_descriptor") none (.fields (List.toArray (.str (.ofString "__weakref__") 227 :: .ref 47 :: .builtin "ExceptionGroup.__weakref__" :: .none :: []))) #[]) ::
(nat_lit 66, .mk (.type "dict") none (.dict (List.toArray (.mk (PyData.keyHash P (.ofString "__module__")) (.str (.ofString "__module__") 241) (.str (.ofString "minismt.errors") 194) :: .mk (PyData.keyHash P (.ofString "__firstlineno__")) (.str (.ofString "__firstlineno__") 245) (.int 13 244) :: .mk (PyData.keyHash P (.ofString "told")) (.str (.ofString "told") 252) (.ref 64) :: .mk (PyData.keyHash P (.ofString "__static_attributes__")) (.str (.ofString "__static_attributes__") 253) (.ref 65) :: .mk (PyData.keyHash P (.ofString "__doc__")) (.str (.ofString "__doc__") 254) .none :: [])) 2) #[]) ::
(nat_lit 67, .mk (.type "type") none (.cls (.mk (.ofString "SortFault") [.ref 47] (.ref 67 :: .ref 47 :: .type "Exception" :: .type "BaseException" :: .type "object" :: []) 66 (.ofString "SortFault") true [] [] false none false)) (List.toArray (some (.ref 51) :: none :: some (.str (.ofString "SortFault") 234) :: some (.str (.ofString "SortFault") 242) :: some (.builtin "Exception.__new__") :: some (.bool true) :: []))) ::
(nat_lit 97, .mk (.type "code") none (.fields (List.toArray (.str (.ofString "__init__") 338 :: .str (.ofString "Bank.__init__") 339 :: .str (.ofString "/claim/cut.py") 340 :: .int 31 0 :: .int 1 0 :: .int 0 0 :: .int 0 0 :: .int 3 0 :: .ref 92 :: .bool true :: .int 181 0 :: .ref 93 :: .none :: .ref 94 :: .ref 95 :: .ref 96 :: .int 342 0 :: .int 31 0 :: .str (.ofString "/claim/cut.py") 343 :: []))) #[]) ::
(nat_lit 98, .mk (.type "function") none (.func (.mk (.ofString "__init__") (.ofString "Bank.__init__") par98 (.stmts bod98) sco98 3 [] .none .none .none (.str (.ofString "minismt.terms") 318) none (.ref 97) .none 0)) #[]) ::
(nat_lit 230, .mk (.type "code") none (.fields (List.toArray (.str (.ofString "make") 492 :: .str (.ofString "Bank.make") 493 :: .str (.ofString "/claim/cut.py") 494 :: .int 100 0 :: .int 5 0 :: .int 0 0 :: .int 0 0 :: .int 3 0 :: .ref 225 :: .bool true :: .int 181 0 :: .ref 226 :: .none :: .ref 227 :: .ref 228 :: .ref 229 :: .int 502 0 :: .int 100 0 :: .str (.ofString "/claim/cut.py") 503 :: []))) #[]) ::
(nat_lit 231, .mk (.type "function") none (.func (.mk (.ofString "make") (.ofString "Bank.make") par231 (.stmts bod231) sco231 3 [] .none .none .none (.str (.ofString "minismt.terms") 318) none (.ref 230) .none 0)) #[]) ::
(nat_lit 296, .mk (.type "dict") none (.dict (List.toArray (.mk (PyData.keyHash P (.ofString "__module__")) (.str (.ofString "__module__") 333) (.str (.ofString "minismt.terms") 318) :: .mk (PyData.keyHash P (.ofString "__firstlineno__")) (.str (.ofString "__firstlineno__") 337) (.int 29 336) :: .mk (PyData.keyHash P (.ofString "__init__")) (.str (.ofString "__init__") 344) (.ref 98) :: .mk (PyData.keyHash P (.ofString "sort_name")) (.str (.ofString "sort_name") 352) (.ref 105) :: .mk (PyData.keyHash P (.ofString "declare_sort")) (.str (.ofString "declare_sort") 360) (.ref 112) :: .mk (PyData.keyHash P (.ofString "width_of")) (.str (.ofString "width_of") 368) (.ref 119) :: .mk (PyData.keyHash P (.ofString "is_number_sort")) (.str (.ofString "is_number_sort") 376) (.ref 126) :: .mk (PyData.keyHash P (.ofString "is_free_sort")) (.str (.ofString "is_free_sort") 384) (.ref 133) :: .mk (PyData.keyHash P (.ofString "declare_fun")) (.str (.ofString "declare_fun") 394) (.ref 140) :: .mk (PyData.keyHash P (.ofString "fresh_fun")) (.str (.ofString "fresh_fun") 404) (.ref 147) :: .mk (PyData.keyHash P (.ofString "fresh_const")) (.str (.ofString "fresh_const") 413) (.ref 154) :: .mk (PyData.keyHash P (.ofString "fun_name")) (.str (.ofString "fun_name") 421) (.ref 161) :: .mk (PyData.keyHash P (.ofString "fun_arg_sorts")) (.str (.ofString "fun_arg_sorts") 429) (.ref 168) :: .mk (PyData.keyHash P (.ofString "fun_result")) (.str (.ofString "fun_result") 437) (.ref 175) :: .mk (PyData.keyHash P (.ofString "fun_count")) (.str (.ofString "fun_count") 444) (.ref 182) :: .mk (PyData.keyHash P (.ofString "op")) (.str (.ofString "op") 452) (.ref 189) :: .mk (PyData.keyHash P (.ofString "args")) (.str (.ofString "args") 460) (.ref 196) :: .mk (PyData.keyHash P (.ofString "sort")) (.str (.ofString "sort") 468) (.ref 203) :: .mk (PyData.keyHash P (.ofString "data")) (.str (.ofString "data") 476) (.ref 210) :: .mk (PyData.keyHash P (.ofString "width")) (.str (.ofString "width") 484) (.ref 217) :: .mk (PyData.keyHash P (.ofString "size")) (.str (.ofString "size") 491) (.ref 224) :: .mk (PyData.keyHash P (.ofString "make")) (.str (.ofString "make") 504) (.ref 231) :: .mk (PyData.keyHash P (.ofString "find_made")) (.str (.ofString "find_made") 515) (.ref 238) :: .mk (PyData.keyHash P (.ofString "is_value")) (.str (.ofString "is_value") 523) (.ref 245) :: .mk (PyData.keyHash P (.ofString "want")) (.str (.ofString "want") 533) (.ref 252) :: .mk (PyData.keyHash P (.ofString "want_all")) (.str (.ofString "want_all") 544) (.ref 259) :: .mk (PyData.keyHash P (.ofString "true_term")) (.str (.ofString "true_term") 551) (.ref 266) :: .mk (PyData.keyHash P (.ofString "false_term")) (.str (.ofString "false_term") 558) (.ref 273) :: .mk (PyData.keyHash P (.ofString "bool_term")) (.str (.ofString "bool_term") 566) (.ref 280) :: .mk (PyData.keyHash P (.ofString "parts")) (.str (.ofString "parts") 574) (.ref 287) :: .mk (PyData.keyHash P (.ofString "parts_of_all")) (.str (.ofString "parts_of_all") 589) (.ref 294) :: .mk (PyData.keyHash P (.ofString "__static_attributes__")) (.str (.ofString "__static_attributes__") 603) (.ref 295) :: .mk (PyData.keyHash P (.ofString "__dict__")) (.str (.ofString "__dict__") 605) (.ref 298) :: .mk (PyData.keyHash P (.ofString "__weakref__")) (.str (.ofString "__weakref__") 607) (.ref 299) :: .mk (PyData.keyHash P (.ofString "__doc__")) (.str (.ofString "__doc__") 608) .none :: [])) 4) #[]) ::
(nat_lit 297, .mk (.type "type") none (.cls (.mk (.ofString "Bank") [.type "object"] [.ref 297, .type "object"] 296 (.ofString "Bank") true [] [.ref 400] false none false)) (List.toArray (none :: none :: some (.str (.ofString "Bank") 326) :: some (.str (.ofString "Bank") 334) :: some (.builtin "object.__new__") :: some (.bool true) :: []))) ::
(nat_lit 298, .mk (.type "getset_descriptor") none (.fields (List.toArray (.str (.ofString "__dict__") 604 :: .ref 297 :: .builtin "function.__dict__" :: .builtin "function.__dict__#set" :: []))) #[]) ::
(nat_lit 299, .mk (.type "getset_descriptor") none (.fields (List.toArray (.str (.ofString "__weakref__") 606 :: .ref 297 :: .builtin "ExceptionGroup.__weakref__" :: .none :: []))) #[]) ::
(nat_lit 399, .mk (.type "dict") none (.dict (List.toArray (.mk (PyData.keyHash P (.ofString "__module__")) (.str (.ofString "__module__") 618) (.str (.ofString "minismt.terms") 318) :: .mk (PyData.keyHash P (.ofString "__firstlineno__")) (.str (.ofString "__firstlineno__") 622) (.int 155 621) :: .mk (PyData.keyHash P (.ofString "not_of")) (.str (.ofString "not_of") 630) (.ref 315) :: .mk (PyData.keyHash P (.ofString "and_of")) (.str (.ofString "and_of") 638) (.ref 322) :: .mk (PyData.keyHash P (.ofString "or_of")) (.str (.ofString "or_of") 646) (.ref 329) :: .mk (PyData.keyHash P (.ofString "xor_of")) (.str (.ofString "xor_of") 655) (.ref 336) :: .mk (PyData.keyHash P (.ofString "implies_of")) (.str (.ofString "implies_of") 664) (.ref 343) :: .mk (PyData.keyHash P (.ofString "iff")) (.str (.ofString "iff") 673) (.ref 350) :: .mk (PyData.keyHash P (.ofString "eq")) (.str (.ofString "eq") 682) (.ref 357) :: .mk (PyData.keyHash P (.ofString "distinct")) (.str (.ofString "distinct") 690) (.ref 364) :: .mk (PyData.keyHash P (.ofString "ite")) (.str (.ofString "ite") 700) (.ref 371) :: .mk (PyData.keyHash P (.ofString "app")) (.str (.ofString "app") 712) (.ref 378) :: .mk (PyData.keyHash P (.ofString "folded")) (.str (.ofString "folded") 721) (.ref 385) :: .mk (PyData.keyHash P (.ofString "with_args")) (.str (.ofString "with_args") 730) (.ref 392) :: .mk (PyData.keyHash P (.ofString "replaced")) (.str (.ofString "replaced") 736) (.ref 397) :: .mk (PyData.keyHash P (.ofString "__static_attributes__")) (.str (.ofString "__static_attributes__") 737) (.ref 398) :: .mk (PyData.keyHash P (.ofString "__doc__")) (.str (.ofString "__doc__") 738) .none :: [])) 2) #[]) ::
(nat_lit 400, .mk (.type "type") none (.cls (.mk (.ofString "BoolBank") [.ref 297] [.ref 400, .ref 297, .type "object"] 399 (.ofString "BoolBank") true [] [] false none false)) (List.toArray (some (.ref 302) :: none :: some (.str (.ofString "BoolBank") 611) :: some (.str (.ofString "BoolBank") 619) :: some (.builtin "object.__new__") :: some (.bool true) :: []))) ::
(nat_lit 426, .mk (.type "dict") none (.dict (List.toArray (.mk (PyData.keyHash P (.ofString "__module__")) (.str (.ofString "__module__") 759) (.str (.ofString "minismt.sortcheck") 741) :: .mk (PyData.keyHash P (.ofString "__firstlineno__")) (.str (.ofString "__firstlineno__") 763) (.int 237 762) :: .mk (PyData.keyHash P (.ofString "__init__")) (.str (.ofString "__init__") 775) (.ref 417) :: .mk (PyData.keyHash P (.ofString "is_defined")) (.str (.ofString "is_defined") 782) (.ref 424) :: .mk (PyData.keyHash P (.ofString "__static_attributes__")) (.str (.ofString "__static_attributes__") 788) (.ref 425) :: .mk (PyData.keyHash P (.ofString "__dict__")) (.str (.ofString "__dict__") 790) (.ref 428) :: .mk (PyData.keyHash P (.ofString "__weakref__")) (.str (.ofString "__weakref__") 792) (.ref 429) :: .mk (PyData.keyHash P (.ofString "__doc__")) (.str (.ofString "__doc__") 793) .none :: [])) 4) #[]) ::
(nat_lit 427, .mk (.type "type") none (.cls (.mk (.ofString "FunEntry") [.type "object"] [.ref 427, .type "object"] 426 (.ofString "FunEntry") true [] [] false none false)) (List.toArray (none :: none :: some (.str (.ofString "FunEntry") 752) :: some (.str (.ofString "FunEntry") 760) :: some (.builtin "object.__new__") :: some (.bool true) :: []))) ::
(nat_lit 428, .mk (.type "getset_descriptor") none (.fields (List.toArray (.str (.ofString "__dict__") 789 :: .ref 427 :: .builtin "function.__dict__" :: .builtin "function.__dict__#set" :: []))) #[]) ::
(nat_lit 429, .mk (.type "getset_descriptor") none (.fields (List.toArray (.str (.ofString "__weakref__") 791 :: .ref 427 :: .builtin "ExceptionGroup.__weakref__" :: .none :: []))) #[]) ::
(nat_lit 444, .mk (.type "code") none (.fields (List.toArray (.str (.ofString "__init__") 808 :: .str (.ofString "Symbols.__init__") 809 :: .str (.ofString "/claim/cut.py") 810 :: .int 250 0 :: .int 2 0 :: .int 0 0 :: .int 0 0 :: .int 3 0 :: .ref 439 :: .bool true :: .int 181 0 :: .ref 440 :: .none :: .ref 441 :: .ref 442 :: .ref 443 :: .int 813 0 :: .int 250 0 :: .str (.ofString "/claim/cut.py") 814 :: []))) #[]) ::
(nat_lit 445, .mk (.type "function") none (.func (.mk (.ofString "__init__") (.ofString "Symbols.__init__") par445 (.stmts bod445) sco445 3 [] .none .none .none (.str (.ofString "minismt.sortcheck") 741) none (.ref 444) .none 0)) #[]) ::
(nat_lit 451, .mk (.type "code") none (.fields (List.toArray (.str (.ofString "clear") 816 :: .str (.ofString "Symbols.clear") 817 :: .str (.ofString "/claim/cut.py") 818 :: .int 254 0 :: .int 1 0 :: .int 0 0 :: .int 0 0 :: .int 3 0 :: .ref 446 :: .bool true :: .int 181 0 :: .ref 447 :: .none :: .ref 448 :: .ref 449 :: .ref 450 :: .int 820 0 :: .int 254 0 :: .str (.ofString "/claim/cut.py") 821 :: []))) #[]) ::
(nat_lit 452, .mk (.type "function") none (.func (.mk (.ofString "clear") (.ofString "Symbols.clear") par452 (.stmts bod452) sco452 3 [] .none .none .none (.str (.ofString "minismt.sortcheck") 741) none (.ref 451) .none 0)) #[]) ::
(nat_lit 557, .mk (.type "dict") none (.dict (List.toArray (.mk (PyData.keyHash P (.ofString "__module__")) (.str (.ofString "__module__") 803) (.str (.ofString "minismt.sortcheck") 741) :: .mk (PyData.keyHash P (.ofString "__firstlineno__")) (.str (.ofString "__firstlineno__") 807) (.int 248 806) :: .mk (PyData.keyHash P (.ofString "__init__")) (.str (.ofString "__init__") 815) (.ref 445) :: .mk (PyData.keyHash P (.ofString "clear")) (.str (.ofString "clear") 822) (.ref 452) :: .mk (PyData.keyHash P (.ofString "depth")) (.str (.ofString "depth") 829) (.ref 459) :: .mk (PyData.keyHash P (.ofString "push")) (.str (.ofString "push") 836) (.ref 466) :: .mk (PyData.keyHash P (.ofString "pop")) (.str (.ofString "pop") 843) (.ref 473) :: .mk (PyData.keyHash P (.ofString "mark")) (.str (.ofString "mark") 850) (.ref 480) :: .mk (PyData.keyHash P (.ofString "roll_back")) (.str (.ofString "roll_back") 861) (.ref 487) :: .mk (PyData.keyHash P (.ofString "bring_sort")) (.str (.ofString "bring_sort") 870) (.ref 494) :: .mk (PyData.keyHash P (.ofString "declare_sort")) (.str (.ofString "declare_sort") 878) (.ref 501) :: .mk (PyData.keyHash P (.ofString "define_sort")) (.str (.ofString "define_sort") 888) (.ref 508) :: .mk (PyData.keyHash P (.ofString "bring_function")) (.str (.ofString "bring_function") 897) (.ref 515) :: .mk (PyData.keyHash P (.ofString "declare_fun")) (.str (.ofString "declare_fun") 907) (.ref 522) :: .mk (PyData.keyHash P (.ofString "define_fun")) (.str (.ofString "define_fun") 913) (.ref 527) :: .mk (PyData.keyHash P (.ofString "visible")) (.str (.ofString "visible") 920) (.ref 534) :: .mk (PyData.keyHash P (.ofString "bind")) (.str (.ofString "bind") 932) (.ref 541) :: .mk (PyData.keyHash P (.ofString "unbind")) (.str (.ofString "unbind") 940) (.ref 548) :: .mk (PyData.keyHash P (.ofString "bound")) (.str (.ofString "bound") 949) (.ref 555) :: .mk (PyData.keyHash P (.ofString "__static_attributes__")) (.str (.ofString "__static_attributes__") 957) (.ref 556) :: .mk (PyData.keyHash P (.ofString "__dict__")) (.str (.ofString "__dict__") 959) (.ref 559) :: .mk (PyData.keyHash P (.ofString "__weakref__")) (.str (.ofString "__weakref__") 961) (.ref 560) :: .mk (PyData.keyHash P (.ofString "__doc__")) (.str (.ofString "__doc__") 962) .none :: [])) 4) #[]) ::
(nat_lit 558, .mk (.type "type") none (.cls (.mk (.ofString "Symbols") [.type "object"] [.ref 558, .type "object"] 557 (.ofString "Symbols") true [] [] false none false)) (List.toArray (none :: none :: some (.str (.ofString "Symbols") 796) :: some (.str (.ofString "Symbols") 804) :: some (.builtin "object.__new__") :: some (.bool true) :: []))) ::
(nat_lit 559, .mk (.type "getset_descriptor") none (.fields (List.toArray (.str (.ofString "__dict__") 958 :: .ref 558 :: .builtin "function.__dict__" :: .builtin "function.__dict__#set" :: []))) #[]) ::
(nat_lit 560, .mk (.type "getset_descriptor") none (.fields (List.toArray (.str (.ofString "__weakref__") 960 :: .ref 558 :: .builtin "ExceptionGroup.__weakref__" :: .none :: []))) #[]) ::
(nat_lit 578, .mk (.type "dict") none (.dict (List.toArray (.mk (PyData.keyHash P (.ofString "__module__")) (.str (.ofString "__module__") 972) (.str (.ofString "minismt.sortcheck") 741) :: .mk (PyData.keyHash P (.ofString "__firstlineno__")) (.str (.ofString "__firstlineno__") 976) (.int 322 975) :: .mk (PyData.keyHash P (.ofString "__init__")) (.str (.ofString "__init__") 986) (.ref 576) :: .mk (PyData.keyHash P (.ofString "__static_attributes__")) (.str (.ofString "__static_attributes__") 990) (.ref 577) :: .mk (PyData.keyHash P (.ofString "__dict__")) (.str (.ofString "__dict__") 992) (.ref 580) :: .mk (PyData.keyHash P (.ofString "__weakref__")) (.str (.ofString "__weakref__") 994) (.ref 581) :: .mk (PyData.keyHash P (.ofString "__doc__")) (.str (.ofString "__doc__") 995) .none :: [])) 4) #[]) ::
(nat_lit 579, .mk (.type "type") none (.cls (.mk (.ofString "Heading") [.type "object"] [.ref 579, .type "object"] 578 (.ofString "Heading") true [] [] false none false)) (List.toArray (none :: none :: some (.str (.ofString "Heading") 965) :: some (.str (.ofString "Heading") 973) :: some (.builtin "object.__new__") :: some (.bool true) :: []))) ::
(nat_lit 580, .mk (.type "getset_descriptor") none (.fields (List.toArray (.str (.ofString "__dict__") 991 :: .ref 579 :: .builtin "function.__dict__" :: .builtin "function.__dict__#set" :: []))) #[]) ::
(nat_lit 581, .mk (.type "getset_descriptor") none (.fields (List.toArray (.str (.ofString "__weakref__") 993 :: .ref 579 :: .builtin "ExceptionGroup.__weakref__" :: .none :: []))) #[]) ::
(nat_lit 589, .mk (.type "code") none (.fields (List.toArray (.str (.ofString "name_of") 998 :: .str (.ofString "name_of") 999 :: .str (.ofString "/claim/cut.py") 1000 :: .int 328 0 :: .int 2 0 :: .int 0 0 :: .int 0 0 :: .int 3 0 :: .ref 584 :: .bool true :: .int 181 0 :: .ref 585 :: .none :: .ref 586 :: .ref 587 :: .ref 588 :: .int 1003 0 :: .int 328 0 :: .str (.ofString "/claim/cut.py") 1004 :: []))) #[]) ::
(nat_lit 590, .mk (.type "function") none (.func (.mk (.ofString "name_of") (.ofString "name_of") par590 (.stmts bod590) sco590 3 [] .none .none .none (.str (.ofString "minismt.sortcheck") 741) none (.ref 589) .none 0)) #[]) ::
(nat_lit 610, .mk (.type "code") none (.fields (List.toArray (.str (.ofString "label_of") 1022 :: .str (.ofString "label_of") 1023 :: .str (.ofString "/claim/cut.py") 1024 :: .int 340 0 :: .int 1 0 :: .int 0 0 :: .int 0 0 :: .int 3 0 :: .ref 605 :: .bool true :: .int 181 0 :: .ref 606 :: .none :: .ref 607 :: .ref 608 :: .ref 609 :: .int 1029 0 :: .int 340 0 :: .str (.ofString "/claim/cut.py") 1030 :: []))) #[]) ::
(nat_lit 611, .mk (.type "function") none (.func (.mk (.ofString "label_of") (.ofString "label_of") par611 (.stmts bod611) sco611 3 [] .none .none .none (.str (.ofString "minismt.sortcheck") 741) none (.ref 610) .none 0)) #[]) ::
(nat_lit 631, .mk (.type "code") none (.fields (List.toArray (.str (.ofString "__init__") 1052 :: .str (.ofString "SortReader.__init__") 1053 :: .str (.ofString "/claim/cut.py") 1054 :: .int 353 0 :: .int 3 0 :: .int 0 0 :: .int 0 0 :: .int 3 0 :: .ref 626 :: .bool true :: .int 181 0 :: .ref 627 :: .none :: .ref 628 :: .ref 629 :: .ref 630 :: .int 1058 0 :: .int 353 0 :: .str (.ofString "/claim/cut.py") 1059 :: []))) #[]) ::
(nat_lit 632, .mk (.type "function") none (.func (.mk (.ofString "__init__") (.ofString "SortReader.__init__") par632 (.stmts bod632) sco632 3 [] .none .none .none (.str (.ofString "minismt.sortcheck") 741) none (.ref 631) .none 0)) #[]) ::
(nat_lit 688, .mk (.type "dict") none (.dict (List.toArray (.mk (PyData.keyHash P (.ofString "__module__")) (.str (.ofString "__module__") 1047) (.str (.ofString "minismt.sortcheck") 741) :: .mk (PyData.keyHash P (.ofString "__firstlineno__")) (.str (.ofString "__firstlineno__") 1051) (.int 351 1050) :: .mk (PyData.keyHash P (.ofString "__init__")) (.str (.ofString "__init__") 1060) (.ref 632) :: .mk (PyData.keyHash P (.ofString "sort_of_item")) (.str (.ofString "sort_of_item") 1068) (.ref 639) :: .mk (PyData.keyHash P (.ofString "sort_under")) (.str (.ofString "sort_under") 1077) (.ref 646) :: .mk (PyData.keyHash P (.ofString "walked")) (.str (.ofString "walked") 1083) (.ref 651) :: .mk (PyData.keyHash P (.ofString "read")) (.str (.ofString "read") 1097) (.ref 658) :: .mk (PyData.keyHash P (.ofString "read_name")) (.str (.ofString "read_name") 1108) (.ref 665) :: .mk (PyData.keyHash P (.ofString "entry_of")) (.str (.ofString "entry_of") 1116) (.ref 672) :: .mk (PyData.keyHash P (.ofString "opened")) (.str (.ofString "opened") 1132) (.ref 679) :: .mk (PyData.keyHash P (.ofString "sort_applied")) (.str (.ofString "sort_applied") 1142) (.ref 686) :: .mk (PyData.keyHash P (.ofString "__static_attributes__")) (.str (.ofString "__static_attributes__") 1145) (.ref 687) :: .mk (PyData.keyHash P (.ofString "__dict__")) (.str (.ofString "__dict__") 1147) (.ref 690) :: .mk (PyData.keyHash P (.ofString "__weakref__")) (.str (.ofString "__weakref__") 1149) (.ref 691) :: .mk (PyData.keyHash P (.ofString "__doc__")) (.str (.ofString "__doc__") 1150) .none :: [])) 4) #[]) ::
(nat_lit 689, .mk (.type "type") none (.cls (.mk (.ofString "SortReader") [.type "object"] [.ref 689, .type "object"] 688 (.ofString "SortReader") true [] [] false none false)) (List.toArray (none :: none :: some (.str (.ofString "SortReader") 1040) :: some (.str (.ofString "SortReader") 1048) :: some (.builtin "object.__new__") :: some (.bool true) :: []))) ::
(nat_lit 690, .mk (.type "getset_descriptor") none (.fields (List.toArray (.str (.ofString "__dict__") 1146 :: .ref 689 :: .builtin "function.__dict__" :: .builtin "function.__dict__#set" :: []))) #[]) ::
(nat_lit 691, .mk (.type "getset_descriptor") none (.fields (List.toArray (.str (.ofString "__weakref__") 1148 :: .ref 689 :: .builtin "ExceptionGroup.__weakref__" :: .none :: []))) #[]) ::
(nat_lit 706, .mk (.type "code") none (.fields (List.toArray (.str (.ofString "__init__") 1165 :: .str (.ofString "CoreElaborator.__init__") 1166 :: .str (.ofString "/claim/cut.py") 1167 :: .int 430 0 :: .int 3 0 :: .int 0 0 :: .int 0 0 :: .int 3 0 :: .ref 701 :: .bool true :: .int 181 0 :: .ref 702 :: .none :: .ref 703 :: .ref 704 :: .ref 705 :: .int 1171 0 :: .int 430 0 :: .str (.ofString "/claim/cut.py") 1172 :: []))) #[]) ::
(nat_lit 707, .mk (.type "function") none (.func (.mk (.ofString "__init__") (.ofString "CoreElaborator.__init__") par707 (.stmts bod707) sco707 3 [] .none .none .none (.str (.ofString "minismt.sortcheck") 741) none (.ref 706) .none 0)) #[]) ::
(nat_lit 762, .mk (.type "code") none (.fields (List.toArray (.str (.ofString "names_noted") 1253 :: .str (.ofString "CoreElaborator.names_noted") 1254 :: .str (.ofString "/claim/cut.py") 1255 :: .int 518 0 :: .int 2 0 :: .int 0 0 :: .int 0 0 :: .int 3 0 :: .ref 757 :: .bool true :: .int 181 0 :: .ref 758 :: .none :: .ref 759 :: .ref 760 :: .ref 761 :: .int 1261 0 :: .int 518 0 :: .str (.ofString "/claim/cut.py") 1262 :: []))) #[]) ::
(nat_lit 763, .mk (.type "function") none (.func (.mk (.ofString "names_noted") (.ofString "CoreElaborator.names_noted") par763 (.stmts bod763) sco763 3 [] .none .none .none (.str (.ofString "minismt.sortcheck") 741) none (.ref 762) .none 0)) #[]) ::
(nat_lit 852, .mk (.type "dict") none (.dict (List.toArray (.mk (PyData.keyHash P (.ofString "__module__")) (.str (.ofString "__module__") 1160) (.str (.ofString "minismt.sortcheck") 741) :: .mk (PyData.keyHash P (.ofString "__firstlineno__")) (.str (.ofString "__firstlineno__") 1164) (.int 428 1163) :: .mk (PyData.keyHash P (.ofString "__init__")) (.str (.ofString "__init__") 1173) (.ref 707) :: .mk (PyData.keyHash P (.ofString "sort_of_item")) (.str (.ofString "sort_of_item") 1181) (.ref 714) :: .mk (PyData.keyHash P (.ofString "term_of_item")) (.str (.ofString "term_of_item") 1189) (.ref 721) :: .mk (PyData.keyHash P (.ofString "walked")) (.str (.ofString "walked") 1203) (.ref 728) :: .mk (PyData.keyHash P (.ofString "read")) (.str (.ofString "read") 1216) (.ref 735) :: .mk (PyData.keyHash P (.ofString "wait_for")) (.str (.ofString "wait_for") 1226) (.ref 742) :: .mk (PyData.keyHash P (.ofString "read_word")) (.str (.ofString "read_word") 1238) (.ref 749) :: .mk (PyData.keyHash P (.ofString "read_let")) (.str (.ofString "read_let") 1252) (.ref 756) :: .mk (PyData.keyHash P (.ofString "names_noted")) (.str (.ofString "names_noted") 1263) (.ref 763) :: .mk (PyData.keyHash P (.ofString "name_all")) (.str (.ofString "name_all") 1273) (.ref 770) :: .mk (PyData.keyHash P (.ofString "heading_of")) (.str (.ofString "heading_of") 1279) (.ref 775) :: .mk (PyData.keyHash P (.ofString "word_term")) (.str (.ofString "word_term") 1287) (.ref 782) :: .mk (PyData.keyHash P (.ofString "symbol_term")) (.str (.ofString "symbol_term") 1297) (.ref 789) :: .mk (PyData.keyHash P (.ofString "applied")) (.str (.ofString "applied") 1307) (.ref 796) :: .mk (PyData.keyHash P (.ofString "applied_plainly")) (.str (.ofString "applied_plainly") 1317) (.ref 803) :: .mk (PyData.keyHash P (.ofString "called")) (.str (.ofString "called") 1333) (.ref 810) :: .mk (PyData.keyHash P (.ofString "core")) (.str (.ofString "core") 1339) (.ref 815) :: .mk (PyData.keyHash P (.ofString "literal_term")) (.str (.ofString "literal_term") 1347) (.ref 822) :: .mk (PyData.keyHash P (.ofString "indexed_term")) (.str (.ofString "indexed_term") 1355) (.ref 829) :: .mk (PyData.keyHash P (.ofString "alike")) (.str (.ofString "alike") 1363) (.ref 836) :: .mk (PyData.keyHash P (.ofString "as_wanted")) (.str (.ofString "as_wanted") 1372) (.ref 843) :: .mk (PyData.keyHash P (.ofString "more_applied")) (.str (.ofString "more_applied") 1381) (.ref 850) :: .mk (PyData.keyHash P (.ofString "__static_attributes__")) (.str (.ofString "__static_attributes__") 1385) (.ref 851) :: .mk (PyData.keyHash P (.ofString "__dict__")) (.str (.ofString "__dict__") 1387) (.ref 854) :: .mk (PyData.keyHash P (.ofString "__weakref__")) (.str (.ofString "__weakref__") 1389) (.ref 855) :: .mk (PyData.keyHash P (.ofString "__doc__")) (.str (.ofString "__doc__") 1390) .none :: [])) 4) #[]) ::
(nat_lit 853, .mk (.type "type") none (.cls (.mk (.ofString "CoreElaborator") [.type "object"] [.ref 853, .type "object"] 852 (.ofString "CoreElaborator") true [] [] false none false)) (List.toArray (none :: none :: some (.str (.ofString "CoreElaborator") 1153) :: some (.str (.ofString "CoreElaborator") 1161) :: some (.builtin "object.__new__") :: some (.bool true) :: []))) ::
(nat_lit 854, .mk (.type "getset_descriptor") none (.fields (List.toArray (.str (.ofString "__dict__") 1386 :: .ref 853 :: .builtin "function.__dict__" :: .builtin "function.__dict__#set" :: []))) #[]) ::
(nat_lit 855, .mk (.type "getset_descriptor") none (.fields (List.toArray (.str (.ofString "__weakref__") 1388 :: .ref 853 :: .builtin "ExceptionGroup.__weakref__" :: .none :: []))) #[]) ::
(nat_lit 858, .mk (.type "tuple") none (.seq #[.str (.ofString "key") 1395, .str (.ofString "named") 1396] 0) #[]) ::
(nat_lit 859, .mk (.type "tuple") none (.seq #[.str (.ofString "key") 1397, .str (.ofString "w") 1398] 0) #[]) ::
(nat_lit 860, .mk (.type "tuple") none (.seq #[.str (.ofString "sym") 1399, .str (.ofString "a") 1400] 0) #[]) ::
(nat_lit 861, .mk (.type "tuple") none (.seq #[.str (.ofString "sym") 1401, .str (.ofString "b") 1402] 0) #[]) ::
(nat_lit 862, .mk (.type "tuple") none (.seq #[.str (.ofString "sym") 1403, .str (.ofString "named") 1404] 0) #[]) ::
(nat_lit 863, .mk (.type "tuple") none (.seq #[.str (.ofString "num") 1405, .int 3 1406] 0) #[]) ::
(nat_lit 864, .mk (.type "tuple") none (.seq #[.str (.ofString "str") 1407, .str (.ofString "named") 1408] 0) #[]) ::
(nat_lit 865, .mk (.type "tuple") none (.seq #[.str (.ofString "sym") 1410, .str (.ofString "!") 1411] 0) #[]) ::
(nat_lit 866, .mk (.type "tuple") none (.seq #[.str (.ofString "sym") 1412, .str (.ofString "p") 1413] 0) #[]) ::
(nat_lit 867, .mk (.type "tuple") none (.seq #[.str (.ofString "key") 1414, .str (.ofString "named") 1415] 0) #[]) ::
(nat_lit 868, .mk (.type "tuple") none (.seq #[.str (.ofString "sym") 1416, .str (.ofString "inner") 1417] 0) #[]) ::
(nat_lit 869, .mk (.type "tuple") none (.seq (List.toArray (.ref 865 :: .ref 866 :: .ref 867 :: .ref 868 :: [])) 0) #[]) ::
(nat_lit 870, .mk (.type "tuple") none (.seq #[.str (.ofString "list") 1409, .ref 869] 0) #[]) ::
(nat_lit 871, .mk (.type "tuple") none (.seq (List.toArray (.ref 858 :: .ref 859 :: .ref 860 :: .ref 861 :: .ref 862 :: .ref 863 :: .ref 864 :: .ref 870 :: [])) 0) #[]) ::
(nat_lit 872, .mk (.type "tuple") none (.seq #[.str (.ofString "sym") 1419, .str (.ofString "!") 1420] 0) #[]) ::
(nat_lit 873, .mk (.type "tuple") none (.seq #[.str (.ofString "sym") 1421, .str (.ofString "!") 1422] 0) #[]) ::
(nat_lit 874, .mk (.type "tuple") none (.seq #[.str (.ofString "sym") 1423, .str (.ofString "!") 1424] 0) #[]) ::
(nat_lit 875, .mk (.type "tuple") none (.seq #[.str (.ofString "sym") 1425, .str (.ofString "!") 1426] 0) #[]) ::
(nat_lit 876, .mk (.type "tuple") none (.seq #[.str (.ofString "sym") 1427, .str (.ofString "as") 1428] 0) #[]) ::
(nat_lit 877, .mk (.type "tuple") none (.seq #[.str (.ofString "key") 1429, .str (.ofString "!") 1430] 0) #[]) ::
(nat_lit 878, .mk (.type "tuple") none (.seq #[.str (.ofString "str") 1431, .str (.ofString "!") 1432] 0) #[]) ::
(nat_lit 879, .mk (.type "tuple") none (.seq (List.toArray (.ref 872 :: .ref 873 :: .ref 874 :: .ref 875 :: .ref 876 :: .ref 877 :: .ref 878 :: [])) 0) #[]) ::
(nat_lit 880, .mk (.type "tuple") none (.seq #[] 0) #[]) ::
(nat_lit 882, .mk (.type "tuple") none (.seq #[.str (.ofString "bowl") 1437, .str (.ofString "many") 1438, .str (.ofString "at") 1439] 0) #[]) ::
(nat_lit 883, .mk (.type "tuple") none (.seq #[] 0) #[]) ::
(nat_lit 885, .mk (.type "code") none (.fields (List.toArray (.str (.ofString "_law_tip") 1434 :: .str (.ofString "_law_tip") 1435 :: .str (.ofString "/claim/cut.py") 1436 :: .int 644 0 :: .int 2 0 :: .int 0 0 :: .int 0 0 :: .int 3 0 :: .ref 880 :: .bool true :: .int 181 0 :: .ref 881 :: .none :: .ref 882 :: .ref 883 :: .ref 884 :: .int 1440 0 :: .int 644 0 :: .str (.ofString "/claim/cut.py") 1441 :: []))) #[]) ::
(nat_lit 886, .mk (.type "function") none (.func (.mk (.ofString "_law_tip") (.ofString "_law_tip") par886 (.stmts bod886) sco886 3 [] .none .none .none (.str (.ofString "law_rg0218_01") 1393) none (.ref 885) .none 0)) #[]) ::
(nat_lit 887, .mk (.type "tuple") none (.seq #[] 0) #[]) ::
(nat_lit 889, .mk (.type "tuple") none (.seq #[.str (.ofString "notes") 1446, .str (.ofString "k") 1447] 0) #[]) ::
(nat_lit 890, .mk (.type "tuple") none (.seq #[] 0) #[]) ::
(nat_lit 892, .mk (.type "code") none (.fields (List.toArray (.str (.ofString "_law_last") 1443 :: .str (.ofString "_law_last") 1444 :: .str (.ofString "/claim/cut.py") 1445 :: .int 648 0 :: .int 1 0 :: .int 0 0 :: .int 0 0 :: .int 3 0 :: .ref 887 :: .bool true :: .int 181 0 :: .ref 888 :: .none :: .ref 889 :: .ref 890 :: .ref 891 :: .int 1448 0 :: .int 648 0 :: .str (.ofString "/claim/cut.py") 1449 :: []))) #[]) ::
(nat_lit 893, .mk (.type "function") none (.func (.mk (.ofString "_law_last") (.ofString "_law_last") par893 (.stmts bod893) sco893 3 [] .none .none .none (.str (.ofString "law_rg0218_01") 1393) none (.ref 892) .none 0)) #[]) ::
(nat_lit 894, .mk (.type "tuple") none (.seq #[] 0) #[]) ::
(nat_lit 896, .mk (.type "tuple") none (.seq #[.str (.ofString "start") 1454, .str (.ofString "notes") 1455] 0) #[]) ::
(nat_lit 897, .mk (.type "tuple") none (.seq #[] 0) #[]) ::
(nat_lit 899, .mk (.type "code") none (.fields (List.toArray (.str (.ofString "_law_item") 1451 :: .str (.ofString "_law_item") 1452 :: .str (.ofString "/claim/cut.py") 1453 :: .int 653 0 :: .int 2 0 :: .int 0 0 :: .int 0 0 :: .int 3 0 :: .ref 894 :: .bool true :: .int 181 0 :: .ref 895 :: .none :: .ref 896 :: .ref 897 :: .ref 898 :: .int 1456 0 :: .int 653 0 :: .str (.ofString "/claim/cut.py") 1457 :: []))) #[]) ::
(nat_lit 900, .mk (.type "function") none (.func (.mk (.ofString "_law_item") (.ofString "_law_item") par900 (.stmts bod900) sco900 3 [] .none .none .none (.str (.ofString "law_rg0218_01") 1393) none (.ref 899) .none 0)) #[]) ::
(nat_lit 901, .mk (.type "tuple") none (.seq #[] 0) #[]) ::
(nat_lit 903, .mk (.type "tuple") none (.seq #[.str (.ofString "reader") 1462, .str (.ofString "parts") 1463] 0) #[]) ::
(nat_lit 904, .mk (.type "tuple") none (.seq #[] 0) #[]) ::
(nat_lit 906, .mk (.type "code") none (.fields (List.toArray (.str (.ofString "_law_noted") 1459 :: .str (.ofString "_law_noted") 1460 :: .str (.ofString "/claim/cut.py") 1461 :: .int 655 0 :: .int 2 0 :: .int 0 0 :: .int 0 0 :: .int 3 0 :: .ref 901 :: .bool true :: .int 181 0 :: .ref 902 :: .none :: .ref 903 :: .ref 904 :: .ref 905 :: .int 1464 0 :: .int 655 0 :: .str (.ofString "/claim/cut.py") 1465 :: []))) #[]) ::
(nat_lit 907, .mk (.type "function") none (.func (.mk (.ofString "_law_noted") (.ofString "_law_noted") par907 (.stmts bod907) sco907 3 [] .none .none .none (.str (.ofString "law_rg0218_01") 1393) none (.ref 906) .none 0)) #[]) ::
(nat_lit 908, .mk (.type "tuple") none (.seq #[] 0) #[]) ::
(nat_lit 910, .mk (.type "tuple") none (.seq (List.toArray (.str (.ofString "reader") 1470 :: .str (.ofString "start") 1471 :: .str (.ofString "notes") 1472 :: .str (.ofString "term") 1473 :: .str (.ofString "due") 1474 :: .str (.ofString "k") 1475 :: .str (.ofString "is_parted") 1476 :: .str (.ofString "early") 1477 :: .str (.ofString "late") 1478 :: .str (.ofString "names") 1479 :: .str (.ofString "label") 1480 :: [])) 0) #[]) ::
(nat_lit 911, .mk (.type "tuple") none (.seq #[] 0) #[]) ::
(nat_lit 913, .mk (.type "code") none (.fields (List.toArray (.str (.ofString "_law_is_right") 1467 :: .str (.ofString "_law_is_right") 1468 :: .str (.ofString "/claim/cut.py") 1469 :: .int 660 0 :: .int 4 0 :: .int 0 0 :: .int 0 0 :: .int 3 0 :: .ref 908 :: .bool true :: .int 181 0 :: .ref 909 :: .none :: .ref 910 :: .ref 911 :: .ref 912 :: .int 1481 0 :: .int 660 0 :: .str (.ofString "/claim/cut.py") 1482 :: []))) #[]) ::
(nat_lit 914, .mk (.type "function") none (.func (.mk (.ofString "_law_is_right") (.ofString "_law_is_right") par914 (.stmts bod914) sco914 3 [] .none .none .none (.str (.ofString "law_rg0218_01") 1393) none (.ref 913) .none 0)) #[]) ::
(nat_lit 915, .mk (.type "tuple") none (.seq #[] 0) #[]) ::
(nat_lit 918, .mk (.type "code") none (.fields (List.toArray (.str (.ofString "law") 1484 :: .str (.ofString "law") 1485 :: .str (.ofString "/claim/cut.py") 1486 :: .int 678 0 :: .int 1 0 :: .int 0 0 :: .int 0 0 :: .int 3 0 :: .ref 915 :: .bool true :: .int 181 0 :: .ref 916 :: .none :: .none :: .none :: .ref 917 :: .int 1487 0 :: .int 678 0 :: .str (.ofString "/claim/cut.py") 1488 :: []))) #[]) ::
(nat_lit 919, .mk (.type "function") none (.func (.mk (.ofString "law") (.ofString "law") par919 (.stmts bod919) sco919 3 [] .none .none .none (.str (.ofString "law_rg0218_01") 1393) none (.ref 918) .none 0)) #[]) :: [] : List (Nat × Obj))
end
local macro_rules | `(tactic| walk_at $s:str) => `(tactic| k_extra $(Lean.Syntax.mkStrLit ("my " ++ s.getString)):str)
local macro_rules | `(tactic| k_in) => `(tactic| ((try dsimp only); exact Frag.In.keeps (by with_reducible assumption) (Fr.keep (by with_reducible assumption))))
section
/-! the ledger's addresses, all different, as one fact -/
def NeA (q : Addr) : List Addr → Prop
  | [] => True
  | a :: r => a ≠ q ∧ NeA q r
def Apart : List Addr → Prop
  | [] => True
  | a :: r => NeA a r ∧ Apart r
theorem NeA.of {q : Addr} : ∀ {as : List Addr}, (∀ a ∈ as, a < q) → NeA q as
  | [], _ => True.intro
  | a :: _, h => ⟨Nat.ne_of_lt (h a (.head _)), NeA.of fun b hb => h b (.tail _ hb)⟩
theorem NeA.mem {q : Addr} : ∀ {as : List Addr}, NeA q as → ∀ a ∈ as, a ≠ q
  | _ :: _, ⟨h, _⟩, _, .head _ => h
  | _ :: _, ⟨_, r⟩, _, .tail _ m => r.mem _ m
theorem lt_of_news {news : List (Addr × Obj)} {as : List Addr} {q : Addr} (e : news.map (·.1) = as) (l : ∀ p ∈ news, p.1 < q) : ∀ a ∈ as, a < q := by
  subst e
  intro a ha
  obtain ⟨p, hp, rfl⟩ := List.mem_map.mp ha
  exact l p hp
theorem Apart.cons {news : List (Addr × Obj)} {as : List Addr} {q : Addr} (D : Apart as) (e : news.map (·.1) = as) (l : ∀ p ∈ news, p.1 < q) : Apart (q :: as) := ⟨NeA.of (lt_of_news e l), D⟩
theorem Apart.cons2 {news : List (Addr × Obj)} {as : List Addr} {d x : Addr} (D : Apart as) (e : news.map (·.1) = as) (l : ∀ p ∈ news, p.1 < d) (l2 : d < x) : Apart (x :: d :: as) :=
  ⟨⟨Nat.ne_of_lt l2, NeA.of fun a ha => Nat.lt_trans (lt_of_news e l a ha) l2⟩, NeA.of (lt_of_news e l), D⟩
theorem Apart.two {a b : Addr} (h : b ≠ a) : Apart [a, b] := ⟨⟨h, True.intro⟩, True.intro, True.intro⟩
theorem Apart.up {a : Addr} {as : List Addr} (h : NeA a as) (D : Apart as) : Apart (a :: as) := ⟨h, D⟩
theorem NeA.up {q a : Addr} {as : List Addr} (h : a ≠ q) (n : NeA q as) : NeA q (a :: as) := ⟨h, n⟩
inductive UpdE (d : Addr) (o o' : Obj) : List (Addr × Obj) → List (Addr × Obj) → Prop
  | head {r} : UpdE d o o' ((d, o) :: r) ((d, o') :: r)
  | tail {p r r'} : UpdE d o o' r r' → UpdE d o o' (p :: r) (p :: r')
inductive UpdG (d : Addr) (o : Obj) : List (Addr × Obj) → (Obj → List (Addr × Obj)) → Prop
  | head {r} : UpdG d o ((d, o) :: r) (fun o' => (d, o') :: r)
  | tail {p r g} : UpdG d o r g → UpdG d o (p :: r) (fun o' => p :: g o')
theorem UpdE.mem {d : Addr} {o o' : Obj} {l l' : List (Addr × Obj)} (u : UpdE d o o' l l') : d ∈ l.map (·.1) := by
  induction u with
  | head => exact List.mem_cons_self
  | tail _ ih => exact List.mem_cons_of_mem _ ih
theorem UpdG.mem {d : Addr} {o : Obj} {l : List (Addr × Obj)} {g : Obj → List (Addr × Obj)} (u : UpdG d o l g) : d ∈ l.map (·.1) := by
  induction u with
  | head => exact List.mem_cons_self
  | tail _ ih => exact List.mem_cons_of_mem _ ih
theorem UpdE.upd {d : Addr} {o o' : Obj} {l l' : List (Addr × Obj)} {as : List Addr} (u : UpdE d o o' l l') (D : Apart as) (e : l.map (·.1) = as) : Upd d o o' l l' := by
  subst e
  induction u with
  | head => exact .head fun p hp => D.1.mem _ (List.mem_map_of_mem hp)
  | tail u ih => exact .tail (Ne.symm (D.1.mem _ u.mem)) (ih D.2)
theorem UpdG.updF {d : Addr} {o : Obj} {l : List (Addr × Obj)} {g : Obj → List (Addr × Obj)} {as : List Addr} (u : UpdG d o l g) (D : Apart as) (e : l.map (·.1) = as) : UpdF d o l g := by
  subst e
  induction u with
  | head => exact .head fun p hp => D.1.mem _ (List.mem_map_of_mem hp)
  | tail u ih => exact .tail (Ne.symm (D.1.mem _ u.mem)) (ih D.2)
section
variable {prog : Program} {w : World} {A : Around} {E : Value → Shared → Prop} {s : Shared} {h₀ : Heap} {L C : Addr} {m : Str → Option Value} {news : List (Addr × Obj)} {K : Frag} {as : List Addr}
theorem newList_A {M : Model} {vs : List Value} {Q : Value → Shared → Prop} (D : Apart as) (e : news.map (·.1) = as) (F : Fr h₀ L s.heap m) (N : News h₀ L s.heap news)
    (h : ∀ l h', Fr h₀ L h' m → News h₀ L h' ((l, listOf vs.toArray 0) :: news) → Apart (l :: as) → Q (.ref l) { s with heap := h' }) (hsz : vs.length ≤ sizeLine) : wpAny M A (newList vs) Q E s :=
  newList_K F N (fun l h' F' N' l1 => h l h' F' N' (D.cons e l1)) hsz
theorem newTuple_A {M : Model} {vs : List Value} {Q : Value → Shared → Prop} (D : Apart as) (e : news.map (·.1) = as) (F : Fr h₀ L s.heap m) (N : News h₀ L s.heap news)
    (h : ∀ d h', Fr h₀ L h' m → News h₀ L h' ((d, ({ cls := .type "tuple", data := .seq vs.toArray } : Obj)) :: news) → Apart (d :: as) → Q (.ref d) { s with heap := h' }) (hz : vs.length ≤ sizeLine) : wpAny M A (newTuple vs) Q E s :=
  kup_newTuple F N (fun d h' F' N' l1 => h d h' F' N' (D.cons e l1)) hz
theorem newDict_A {env : Env} {pos : Pos} {Q : Value → Shared → Prop} (D : Apart as) (e : news.map (·.1) = as) (F : Fr h₀ L s.heap m) (N : News h₀ L s.heap news) (hbig : h₀.NoLimit)
    (k : ∀ d h' o, Fr h₀ L h' m → News h₀ L h' ((d, o) :: news) → Apart (d :: as) → (d == sysModules) = false → o.IsDictOf (PySem.strKind prog w) [] → Q (.ref d) { s with heap := h' }) : wpAny (model prog w) A (eval (.Dict [] [] pos) env) Q E s :=
  newDict_K F N hbig fun d h' o F' N' l1 lo hs _ _ _ => k d h' o F' N' (D.cons e l1) lo hs
theorem call_cls_A {pos : List Value} {kw : List (Str × Value)} {fI : Addr} {Q : Value → Shared → Prop} (D : Apart as) (e : news.map (·.1) = as) (F : Fr h₀ L s.heap m) (X₀ : K.In h₀) (N : News h₀ L s.heap news) (hm : makesIn K C = true) (hi : findIn K (.ref C) "__init__" = some (some (.ref fI))) (hf : isFn K (.ref fI) = true)
    (h : ∀ x dx h', Fr h₀ L h' m → News h₀ L h' ((x, instObj C dx) :: (dx, dictOf [] 0) :: news) → Apart (x :: dx :: as) →
      codeAny (model prog w) (A.under (.builtin "type.__call__" ⟨.ref C :: pos, kw⟩)) (.call (.ref fI) ⟨.ref x :: pos, kw⟩) (InitBack x fun r s' => match r with | .ok (.ret v) => Q v s' | .ok _ => False | .error e => E e s') { s with heap := h' }) :
    wpAny (model prog w) A (call (.ref C) pos kw) Q E s :=
  call_cls F X₀ N hm hi hf fun x dx h' F' N' l1 l2 => h x dx h' F' N' (D.cons2 e l1 l2)
end
inductive Two (a b : Addr) : List Addr → Prop
  | here {r} : b ∈ r → Two a b (a :: r)
  | there {c r} : Two a b r → Two a b (c :: r)
theorem Apart.ne {a b : Addr} {as : List Addr} (D : Apart as) (t : Two a b as) : @Ne Nat b a := by
  induction t with
  | here h => exact D.1.mem _ h
  | there _ ih => exact ih D.2
def ApartL : List (Addr × Obj) → Prop
  | [] => True
  | p :: r => (∀ q ∈ r, q.1 ≠ p.1) ∧ ApartL r
theorem neA_of {q : Addr} : ∀ {l : List (Addr × Obj)}, (∀ p ∈ l, p.1 ≠ q) → NeA q (l.map (·.1))
  | [], _ => True.intro
  | _ :: r, h => show _ ∧ NeA q (r.map (·.1)) from ⟨h _ (.head _), neA_of fun p hp => h p (.tail _ hp)⟩
theorem ApartL.ap : ∀ {l : List (Addr × Obj)}, ApartL l → Apart (l.map (·.1))
  | [], _ => True.intro
  | p :: r, ⟨h, x⟩ => show NeA p.1 (r.map (·.1)) ∧ Apart (r.map (·.1)) from ⟨neA_of h, x.ap⟩
theorem apart_of {h₀ h : Heap} {L : Addr} {news : List (Addr × Obj)} (_N : News h₀ L h news) (x : ApartL news) : Apart (news.map (·.1)) := x.ap
end
section
abbrev Keeps (h h' : Heap) : Prop := ∀ b o, h.get? b = some o → h'.get? b = some o

def LeaveC (h : Heap) (P : Value → Shared → Prop) (v : Value) (s' : Shared) : Prop := ∃ L' m', Fr h L' s'.heap m' ∧ (Keeps h s'.heap → P v s')
theorem leaveC_ {h : Heap} {L : Addr} {m : Str → Option Value} {P : Value → Shared → Prop} {v : Value} {s' : Shared} (F : Fr h L s'.heap m) (k : Keeps h s'.heap → P v s') : LeaveC h P v s' := ⟨L, m, F, k⟩

section
variable {prog : Program} {w : World} {A₀ A : Around} {s : Shared} {K : Frag} {h₀ base : Heap} {L : Addr} {m mg mb : Str → Option Value} {p : Program} {loose : List Str} {mean : ExcName → Option Value}

/-- a call of a def of the top: all that stands is the ground -/
theorem enter0 {env : Env} {outer : List Env} {R : Result → Shared → Prop} {name qual : Str} {params : Arguments} {body : List Stmt} {scope : Scope} {dV kV doc pm cdv ct oc : Value} {an od : Option Addr} {osl : Array (Option Value)} {f : Addr} {args : Args} {binds : List (Str × Value)}
    (B : Below A₀ base outer h₀) (F : Fr h₀ L s.heap m) (X₀ : K.In h₀) (T : Top p loose mean mg mb h₀) (hA : A.frames = some (env :: outer)) (hf : env.frame = some L) (hke : env.scope.kind = .function)
    (ho : K.lookup f = some ⟨oc, od, .func (fnOf name qual params body scope dV kV doc pm an cdv ct), osl⟩) (hcd : codeIn K cdv qual = true) (hroom : A.depth < recursionLimit)
    (hbind : BindsTo s (fnOf name qual params body scope dV kV doc pm an cdv ct) args binds) (hloc : ∀ y ∈ binds, scope.names.lookup y.1 = some .local)
    (h : ∀ L' h₁, Fr s.heap L' h₁ (fun y => binds.reverse.lookup y) → News s.heap L' h₁ [] → Below A base (env :: outer) s.heap → K.In s.heap → Top p loose mean mg mb s.heap →
      wpAny (model prog w) (A.deeper (envOf qual scope L' f cdv)) (execs body (envOf qual scope L' f cdv))
        (fun fl s' => LeaveC s.heap (fun v s' => R (.ok (.ret v)) s') (match fl with | .ret v => v | _ => .none) s')
        (fun e s' => wpAny (model prog w) (A.deeper (envOf qual scope L' f cdv)) (leaving (envOf qual scope L' f cdv) e) (fun _ s'' => R (.error e) s'') (fun e' s'' => R (.error e') s'') s')
        { s with heap := h₁, toks := s.toks + binds.length })
    (hco : scope.isCoroutine = false) (hgen : scope.isGenerator = false) (hk : scope.kind = .function)
    (hcell : ∀ x ∈ scope.names, x.2 ≠ .cell) : codeAny (model prog w) A (.call (.ref f) args) R s := by
  obtain ⟨FG, BG, st, lv⟩ := groundX (R := R) (news := []) B F News.nil hA hf hke
  have e : hideAll s.heap (([] : List (Addr × Obj)).map (·.1)) = s.heap := rfl
  rw [e] at FG BG st
  refine codeAny_call_def (fd := fnOf name qual params body scope dV kV doc pm an cdv ct) (body := body) (binds := binds) hroom ((X₀.keeps F.keep) _ _ ho) rfl (T.nolimit.keeps F.keep) (codeRec_of (X₀.keeps F.keep) hcd) rfl hbind hcell hloc (fun h₁ hns hk₁ => ?_) hco hgen hk
  exact wpAny_mono (h s.heap.objs.size h₁ ⟨hns, hk₁, Nat.le_refl _⟩ News.nil BG (X₀.keeps F.keep) (T.keeps F.keep)) (fun fl s' hl => let ⟨_, _, F', k⟩ := hl; k F'.keep) fun _ _ y => y

/-- what a call of f gives back, all that stood being kept -/
def CallOk (prog : Program) (w : World) (K : Frag) (p : Program) (loose : List Str) (mean : ExcName → Option Value) (mg mb : Str → Option Value) (f : Addr) (vs : List Value) (Pre : Heap → Prop) (Post : Heap → Heap → Value → Prop) : Prop :=
  ∀ (dp un : Nat) (gd : Option (List Code)) (cn : Str) (cs : Scope) (a : Addr) (ccd : Value) (cl : List (Str × Addr)) (outer : List Env) (A₀ : Around) (base h₀ : Heap) (L : Addr) (m : Str → Option Value) (s : Shared) (Q E : Value → Shared → Prop),
    Below A₀ base outer h₀ → Fr h₀ L s.heap m → K.In h₀ → Top p loose mean mg mb h₀ → cs.kind = .function → Pre s.heap → dp + 16 < recursionLimit → un + 128 < cLine →
    (∀ r h' tk', Keeps s.heap h' → Post s.heap h' r → Q r { s with heap := h', toks := tk' }) →
    wpAny (model prog w) (ktrTop dp un gd cn cs L a ccd cl outer) (call (.ref f) vs) Q E s

theorem CallOk.use {f : Addr} {vs : List Value} {Pre : Heap → Prop} {Post : Heap → Heap → Value → Prop} {dp un : Nat} {gd : Option (List Code)} {cn : Str} {cs : Scope} {a : Addr} {ccd : Value} {cl : List (Str × Addr)} {outer : List Env} {news : List (Addr × Obj)} {Q E : Value → Shared → Prop}
    (C : CallOk prog w K p loose mean mg mb f vs Pre Post) (B : Below A₀ base outer h₀) (F : Fr h₀ L s.heap m) (X : K.In h₀) (N : News h₀ L s.heap news) (T : Top p loose mean mg mb h₀) (hk : cs.kind = .function) (pre : Pre s.heap) (hd : dp + 16 < recursionLimit) (hu : un + 128 < cLine)
    (ret : ∀ r h' tk', Keeps s.heap h' → Fr h₀ L h' m → News h₀ L h' news → Post s.heap h' r → Q r { s with heap := h', toks := tk' }) :
    wpAny (model prog w) (ktrTop dp un gd cn cs L a ccd cl outer) (call (.ref f) vs) Q E s :=
  C dp un gd cn cs a ccd cl outer A₀ base h₀ L m s Q E B F X T hk pre hd hu fun r h' tk' k P => ret r h' tk' k
    (by obtain ⟨⟨oL, es, ep, hL, r'⟩, kp, ab⟩ := F; exact ⟨⟨oL, es, ep, k _ _ hL, r'⟩, fun b o e => k _ _ (kp b o e), ab⟩) (fun q hq => ⟨k _ _ (N q hq).1, (N q hq).2⟩) P
end

structure Stop (P : Prop) : Prop where
  out : P
/-! data -/
def Rd (h : Heap) (v : Value) (d : PyData) : Prop := ∃ as, Reads h v d as
def RdAll (h : Heap) (vs : List Value) (ds : List PyData) : Prop := ∃ as, ReadsAll h vs ds as
theorem Rd.keeps {h h' : Heap} {v : Value} {d : PyData} (x : Rd h v d) (k : Keeps h h') : Rd h' v d := let ⟨as, r⟩ := x; ⟨as, Reads.keeps k r⟩
theorem Rd.str {h : Heap} {v : Value} {x : Str} (r : Rd h v (.str x)) : ∃ t, v = .str x t := by
  obtain ⟨as, r⟩ := r
  cases r with
  | str _ t => exact ⟨t, rfl⟩
theorem RdAll.nil {h : Heap} : RdAll h [] [] := ⟨[], .nil⟩
theorem RdAll.cons {h : Heap} {v : Value} {d : PyData} {vs : List Value} {ds : List PyData} (a : Rd h v d) (b : RdAll h vs ds) : RdAll h (v :: vs) (d :: ds) := let ⟨_, r⟩ := a; let ⟨_, r'⟩ := b; ⟨_, .cons r r'⟩
theorem RdAll.inv {h : Heap} {vs : List Value} {d : PyData} {ds : List PyData} (r : RdAll h vs (d :: ds)) : ∃ v vs', vs = v :: vs' ∧ Rd h v d ∧ RdAll h vs' ds := by
  obtain ⟨as, r⟩ := r
  cases r with
  | cons a b => exact ⟨_, _, rfl, ⟨_, a⟩, ⟨_, b⟩⟩
theorem RdAll.inv0 {h : Heap} {vs : List Value} (r : RdAll h vs []) : vs = [] := by
  obtain ⟨as, r⟩ := r
  cases r; rfl
theorem Rd.tup {h : Heap} {a : Addr} {vs : Array Value} {ds : List PyData} (t : IsTup h a vs) (r : RdAll h vs.toList ds) : Rd h (.ref a) (.tuple ds) := by
  obtain ⟨o, ho, hc, n, hd⟩ := t
  obtain ⟨as, r⟩ := r
  exact ⟨_, .tuple ho hc hd r⟩
theorem Rd.tupInv {h : Heap} {v : Value} {ds : List PyData} (r : Rd h v (.tuple ds)) : ∃ a vs, v = .ref a ∧ IsTup h a vs ∧ RdAll h vs.toList ds := by
  obtain ⟨as, r⟩ := r
  cases r with
  | tuple ho hc hd r => exact ⟨_, _, rfl, ⟨_, ho, hc, _, hd⟩, ⟨_, r⟩⟩

/-! items -/
theorem ks : Str.ofString "key" ≠ Str.ofString "sym" := by decide +kernel
inductive It where
  | key (x : Str) | sym (x : Str) | other (tag : Str) (d : PyData)
def It.tag : It → Str
  | .key _ => "key" | .sym _ => "sym" | .other t _ => t
def It.sec : It → PyData
  | .key x => .str x | .sym x => .str x | .other _ d => d
def It.data (i : It) : PyData := .tuple [.str i.tag, i.sec]
def It.Own : It → Prop
  | .other t _ => t ≠ "key" ∧ t ≠ "sym"
  | _ => True
def It.Ok (i : It) : Prop := SeqAt.shaped i.data = true ∧ i.Own
def It.At (h : Heap) (v : Value) (it : It) : Prop := Rd h v it.data ∧ it.Ok
theorem It.At.keeps {h h' : Heap} {v : Value} {it : It} (x : it.At h v) (k : Keeps h h') : it.At h' v := ⟨x.1.keeps k, x.2⟩
theorem It.At.inv {h : Heap} {v : Value} {it : It} (x : it.At h v) : ∃ a t v2, v = .ref a ∧ IsTup h a #[.str it.tag t, v2] ∧ Rd h v2 it.sec := by
  obtain ⟨a, vs, rfl, ht, hr⟩ := x.1.tupInv
  obtain ⟨v1, vs1, e1, r1, hr⟩ := hr.inv
  obtain ⟨v2, vs2, e2, r2, hr⟩ := hr.inv
  have e3 := hr.inv0
  obtain ⟨t, rfl⟩ := r1.str
  subst e2 e3
  refine ⟨a, t, v2, rfl, ?_, r2⟩
  have : vs = #[.str it.tag t, v2] := by apply Array.toList_inj.mp; simpa using e1
  exact this ▸ ht
def It.is2 (it : It) (x y : Str) : Bool := PyData.eqv it.data (.tuple [.str x, .str y])
theorem It.is2_eq (it : It) (x y : Str) : it.is2 x y = (it.tag == x && PyData.eqv it.sec (.str y)) := by
  simp [It.is2, It.data, PyData.eqv, PyData.eqvAll]

structure Yes (it : It) (x y : Str) : Prop where
  out : it.is2 x y = true
structure No (it : It) (x y : Str) : Prop where
  out : it.is2 x y = false

inductive Its (h : Heap) : List Value → List It → Prop
  | nil : Its h [] []
  | cons {v : Value} {it : It} {vs : List Value} {is : List It} : it.At h v → Its h vs is → Its h (v :: vs) (it :: is)
theorem Its.keeps {h h' : Heap} {vs : List Value} {is : List It} (x : Its h vs is) (k : Keeps h h') : Its h' vs is := by
  induction x with
  | nil => exact .nil
  | cons a _ ih => exact .cons (a.keeps k) ih
theorem Its.length {h : Heap} {vs : List Value} {is : List It} (x : Its h vs is) : vs.length = is.length := by
  induction x with
  | nil => rfl
  | cons _ _ ih => simp [ih]
theorem Its.get {h : Heap} {vs : List Value} {is : List It} (x : Its h vs is) : ∀ {i : Nat}, i < is.length → ∃ v it, vs[i]? = some v ∧ is[i]? = some it ∧ it.At h v := by
  induction x with
  | nil => intro i hi; exact absurd hi (Nat.not_lt_zero _)
  | @cons v it vs is a _ ih =>
    intro i hi
    cases i with
    | zero => exact ⟨v, it, rfl, rfl, a⟩
    | succ i => simpa using ih (i := i) (by simpa using hi)
theorem Its.append {h : Heap} {vs ws : List Value} {is js : List It} (x : Its h vs is) (y : Its h ws js) : Its h (vs ++ ws) (is ++ js) := by
  induction x with
  | nil => exact y
  | cons a _ ih => exact .cons a ih
theorem Its.take {h : Heap} {vs : List Value} {is : List It} (x : Its h vs is) : ∀ n, Its h (vs.take n) (is.take n) := by
  induction x with
  | nil => intro n; simp; exact .nil
  | cons a _ ih =>
    intro n
    cases n with
    | zero => exact .nil
    | succ n => exact .cons a (ih n)
theorem Its.drop {h : Heap} {vs : List Value} {is : List It} (x : Its h vs is) : ∀ n, Its h (vs.drop n) (is.drop n) := by
  induction x with
  | nil => intro n; simp; exact .nil
  | cons a y ih =>
    intro n
    cases n with
    | zero => exact .cons a y
    | succ n => exact ih n
theorem Its.data {h : Heap} {vs : List Value} {is : List It} (x : Its h vs is) : RdAll h vs (is.map It.data) := by
  induction x with
  | nil => exact .nil
  | cons a _ ih => exact .cons a.1 ih

/-! the plain law -/
def pairOf (a b : Option It) : Option Str := match a, b with
  | some (.key k), some (.sym x) => if k = "named" then some x else none
  | _, _ => none
def pairAt (is : List It) (i : Nat) : Option Str := pairOf is[i]? is[i + 1]?
def labTo (is : List It) : Nat → Option Str
  | 0 => none
  | n + 1 => match pairAt is n with | some x => some x | none => labTo is n
def label (is : List It) : Option Str := labTo is (is.length - 1)
def OptV (v : Value) : Option Str → Prop
  | none => v = .none
  | some x => ∃ t, v = .str x t
theorem It.sym_of {it : It} (ok : it.Ok) (h : it.tag = "sym") : ∃ x, it = .sym x := by
  cases it with
  | key x => exact absurd h ks
  | sym x => exact ⟨x, rfl⟩
  | other t d => exact absurd h ok.2.2
theorem It.key_of {it : It} (ok : it.Ok) (h : it.tag = "key") : ∃ x, it = .key x := by
  cases it with
  | sym x => exact absurd h.symm ks
  | key x => exact ⟨x, rfl⟩
  | other t d => exact absurd h ok.2.1
theorem It.named_of {it : It} (ok : it.Ok) (h : Yes it "key" "named") : it = .key "named" := by
  have h := h.out
  rw [It.is2_eq] at h
  obtain ⟨h1, h2⟩ := Bool.and_eq_true_iff.mp h
  obtain ⟨x, rfl⟩ := It.key_of ok (by simpa using h1)
  simpa [It.sec, PyData.eqv] using h2
theorem pairOf_named (x : Str) : pairOf (some (.key "named")) (some (.sym x)) = some x := by simp [pairOf]
theorem pairOf_sym {a : Option It} {b : It} (hb : b.tag ≠ "sym") : pairOf a (some b) = none := by
  unfold pairOf
  split
  · rename_i e1 e2; cases e2; exact absurd rfl hb
  · rfl
theorem pairOf_key {a : It} {b : Option It} (ha : No a "key" "named") : pairOf (some a) b = none := by
  have ha := ha.out
  unfold pairOf
  split
  · rename_i k x e1
    have e2 := Option.some.inj e1
    subst e2
    rw [It.is2_eq] at ha
    split
    · rename_i e; subst e; simp [It.tag, It.sec, PyData.eqv] at ha
    · rfl
  · rfl
theorem labTo_some {is : List It} {n : Nat} {x : Str} (h : pairAt is n = some x) : labTo is (n + 1) = some x := by simp only [labTo, h]
theorem labTo_none {is : List It} {n : Nat} (h : pairAt is n = none) : labTo is (n + 1) = labTo is n := by simp only [labTo, h]

theorem pairAt_drop (is : List It) (k i : Nat) : pairAt (is.drop k) i = pairAt is (i + k) := by
  simp only [pairAt, List.getElem?_drop]
  have e1 : k + i = i + k := Nat.add_comm _ _
  have e2 : k + (i + 1) = i + k + 1 := by omega
  rw [e1, e2]
theorem shKN : SeqAt.shaped (.tuple [.str "key", .str "named"]) = true := by
  simp [SeqAt.shaped, PyData.canLay0, PyData.canLayAll0, PyData.depth, PyData.depthAll, PyData.strOk]
  decide +kernel
theorem shSB : SeqAt.shaped (.tuple [.str "sym", .str "!"]) = true := by
  simp [SeqAt.shaped, PyData.canLay0, PyData.canLayAll0, PyData.depth, PyData.depthAll, PyData.strOk]
  decide +kernel
theorem str_ne {x y : Str} (h : (x == y) = false) : x ≠ y := by intro e; subst e; simp at h
theorem str_eq {x y : Str} (h : (x == y) = true) : x = y := by simpa using h
def bang : List It → Bool
  | i :: _ => i.is2 "sym" "!"
  | [] => false
/-- what label_of gives for a list of these items -/
def labelOf (is : List It) : Option Str := if bang is then label (is.drop 2) else none
/-- what label_of looks at -/
def Seen (h : Heap) (r : Addr) (tag : Str) (is : List It) : Prop :=
  ∃ t v2, IsTup h r #[.str tag t, v2] ∧ (tag = "list" → ∃ T us, v2 = .ref T ∧ IsTup h T us.toArray ∧ Its h us is ∧ us.length ≤ 20)
/-! steps -/
section
variable {prog : Program} {w : World} {A : Around} {E : Value → Shared → Prop} {s : Shared} {h₀ : Heap} {L a b l : Addr} {m : Str → Option Value} {news : List (Addr × Obj)}
theorem sub_list {value slice : PySem.Expr} {us : List Value} {is : List It} {k : Int} {u : Tok} {Q : Value → Shared → Prop} (F : Fr h₀ L s.heap m) (hl : h₀.IsList l us.toArray) (hi : Its h₀ us is) (h0 : 0 ≤ k) (h1 : k < is.length) (hf : k < 2 ^ 63)
    (h : ∀ a it, is[k.toNat]? = some it → it.At h₀ (.ref a) → Q (.ref a) s)
    (hs : subscripted slice false (.ref l) (.int k u) = operate [.ref l, .int k u] (getItem (.ref l) (.int k u)) := by with_unfolding_all rfl) :
    wpAny (model prog w) A (subscriptTail value slice (.ref l) (.int k u)) Q E s := by
  have hl' : s.heap.IsList l us.toArray := hl.at fun o e => F.keep l o e
  obtain ⟨v, it, e1, e2, x⟩ := hi.get (i := k.toNat) (by omega)
  obtain ⟨a, t, v2, rfl, ht, hr⟩ := x.inv
  exact tail_any hl'.typeIs slot_list_getitem.lookup (wpAny_getItem_list hl' h0 hf (by simpa using e1) (h a it e2 x)) hs
theorem sub_tup {value slice : PySem.Expr} {us : List Value} {is : List It} {k : Int} {u : Tok} {Q : Value → Shared → Prop} (F : Fr h₀ L s.heap m) (hl : IsTup h₀ l us.toArray) (hi : Its h₀ us is) (h0 : 0 ≤ k) (h1 : k < is.length) (hf : k < 2 ^ 63)
    (h : ∀ a it, is[k.toNat]? = some it → it.At h₀ (.ref a) → Q (.ref a) s)
    (hs : subscripted slice false (.ref l) (.int k u) = operate [.ref l, .int k u] (getItem (.ref l) (.int k u)) := by with_unfolding_all rfl) :
    wpAny (model prog w) A (subscriptTail value slice (.ref l) (.int k u)) Q E s := by
  obtain ⟨v, it, e1, e2, x⟩ := hi.get (i := k.toNat) (by omega)
  obtain ⟨a, t, v2, rfl, ht, hr⟩ := x.inv
  have hj : seqIndex? k us.length = some k.toNat := by
    rw [hi.length]
    exact StrLaws.seqIndex_nonneg h0 h1
  exact item_tupleT (hl.keeps F.keep) (by omega) hf hj e1 (h a it e2 x) hs
theorem sub_0 {value slice : PySem.Expr} {it : It} {u : Tok} {Q : Value → Shared → Prop} (F : Fr h₀ L s.heap m) (x : it.At h₀ (.ref a))
    (h : ∀ t, Q (.str it.tag t) s)
    (hs : subscripted slice false (.ref a) (.int 0 u) = operate [.ref a, .int 0 u] (getItem (.ref a) (.int 0 u)) := by with_unfolding_all rfl) :
    wpAny (model prog w) A (subscriptTail value slice (.ref a) (.int 0 u)) Q E s := by
  obtain ⟨a', t, v2, e, ht, hr⟩ := x.inv
  cases e
  exact item_tupleT (l := [.str it.tag t, v2]) (ht.keeps F.keep) (by decide) (by decide) (by rfl) rfl (h t) hs
theorem sub_1 {value slice : PySem.Expr} {it : It} {u : Tok} {Q : Value → Shared → Prop} (F : Fr h₀ L s.heap m) (x : it.At h₀ (.ref a))
    (h : ∀ v, Rd h₀ v it.sec → Q v s)
    (hs : subscripted slice false (.ref a) (.int 1 u) = operate [.ref a, .int 1 u] (getItem (.ref a) (.int 1 u)) := by with_unfolding_all rfl) :
    wpAny (model prog w) A (subscriptTail value slice (.ref a) (.int 1 u)) Q E s := by
  obtain ⟨a', t, v2, e, ht, hr⟩ := x.inv
  cases e
  exact item_tupleT (l := [.str it.tag t, v2]) (ht.keeps F.keep) (by decide) (by decide) (by rfl) rfl (h v2 hr) hs
theorem sub_t0 {value slice : PySem.Expr} {v0 v1 : Value} {u : Tok} {Q : Value → Shared → Prop} (F : Fr h₀ L s.heap m) (ht : IsTup h₀ a #[v0, v1])
    (h : Q v0 s)
    (hs : subscripted slice false (.ref a) (.int 0 u) = operate [.ref a, .int 0 u] (getItem (.ref a) (.int 0 u)) := by with_unfolding_all rfl) :
    wpAny (model prog w) A (subscriptTail value slice (.ref a) (.int 0 u)) Q E s :=
  item_tupleT (l := [v0, v1]) (ht.keeps F.keep) (by decide) (by decide) (by rfl) rfl h hs
theorem sub_t1 {value slice : PySem.Expr} {v0 v1 : Value} {u : Tok} {Q : Value → Shared → Prop} (F : Fr h₀ L s.heap m) (ht : IsTup h₀ a #[v0, v1])
    (h : Q v1 s)
    (hs : subscripted slice false (.ref a) (.int 1 u) = operate [.ref a, .int 1 u] (getItem (.ref a) (.int 1 u)) := by with_unfolding_all rfl) :
    wpAny (model prog w) A (subscriptTail value slice (.ref a) (.int 1 u)) Q E s :=
  item_tupleT (l := [v0, v1]) (ht.keeps F.keep) (by decide) (by decide) (by rfl) rfl h hs
theorem ne_str2 {x y : Str} {t u : Tok} {Q : Value → Shared → Prop} (h1 : x ≠ y → Q (.bool true) s) (h2 : x = y → Q (.bool false) s) : wpAny (model prog w) A (compareOp .NotEq (.str x t) (.str y u)) Q E s := by
  refine PyProof.Rows.ne_str ?_
  by_cases e : x = y
  · subst e; rw [show (x != x) = false by simp]; exact h2 rfl
  · rw [show (x != y) = true by simp [e]]; exact h1 e
theorem eq_it {it : It} {x y : Str} {t1 t2 : Tok} {n : Nat} {d : Option Addr} {sl : Array (Option Value)} {Q : Value → Shared → Prop} (F : Fr h₀ L s.heap m) (z : it.At h₀ (.ref a)) (hb : s.heap.get? b = some ⟨.type "tuple", d, .seq #[.str x t1, .str y t2] n, sl⟩) (hxy : SeqAt.shaped (.tuple [.str x, .str y]) = true) (hu : A.units + 64 < cLine)
    (ht : Yes it x y → Q (.bool true) s) (hf : No it x y → Q (.bool false) s) : wpAny (model prog w) A (compareOp .Eq (.ref a) (.ref b)) Q E s := by
  obtain ⟨as, r⟩ := z.1.keeps F.keep
  refine eq_dataH r (Reads.tuple hb rfl rfl (ReadsAll.cons (Reads.str _ _) (ReadsAll.cons (Reads.str _ _) ReadsAll.nil))) z.2.1 hxy hu ?_
  show Q (.bool (it.is2 x y)) s
  cases e : it.is2 x y with
  | true => exact ht ⟨e⟩
  | false => exact hf ⟨e⟩
theorem ne_it {it : It} {x y : Str} {t1 t2 : Tok} {n : Nat} {d : Option Addr} {sl : Array (Option Value)} {Q : Value → Shared → Prop} (F : Fr h₀ L s.heap m) (z : it.At h₀ (.ref a)) (hb : s.heap.get? b = some ⟨.type "tuple", d, .seq #[.str x t1, .str y t2] n, sl⟩) (hxy : SeqAt.shaped (.tuple [.str x, .str y]) = true) (hu : A.units + 64 < cLine)
    (ht : Yes it x y → Q (.bool false) s) (hf : No it x y → Q (.bool true) s) : wpAny (model prog w) A (compareOp .NotEq (.ref a) (.ref b)) Q E s := by
  obtain ⟨as, r⟩ := z.1.keeps F.keep
  refine ne_dataH r (Reads.tuple hb rfl rfl (ReadsAll.cons (Reads.str _ _) (ReadsAll.cons (Reads.str _ _) ReadsAll.nil))) z.2.1 hxy hu ?_
  show Q (.bool (!it.is2 x y)) s
  cases e : it.is2 x y with
  | true => exact ht ⟨e⟩
  | false => exact hf ⟨e⟩
end
end
section
theorem fillLast : Mine.HK = Mine.HK ∧ PySem.Challenge.rw_rg0218_01 = PySem.Challenge.rw_rg0218_01 := by
  k_fill; exact ⟨rfl, rfl⟩


theorem last_ok {prog : Program} {w : World} {p : Program} {loose : List Str} {mean : ExcName → Option Value} {mg mb : Str → Option Value} (l : Addr) (us : List Value) (is : List It) :
    CallOk prog w (Mine.HK w.params) p loose mean mg mb 893 [.ref l] (fun h => h.IsList l us.toArray ∧ Its h us is ∧ us.length ≤ 9) (fun _ _ r => OptV r (label is)) := by
  k_with_none
  k_with "my execs cons" => (k_here; first | k_gentoks | ((with_reducible refine wpAny_execs_cons ?_); (try dsimp only); k_fold))
  k_with "my subscriptTail" => (k_here; (with_reducible show wpAny _ _ (subscriptTail _ _ (Value.ref _) (Value.int _ _)) _ _ _); refine Stop.out ?_)
  k_with "my LeaveC" => (refine leaveC_ (by assumption) ?_; intro kK9w; (try dsimp only))
  k_with "my call builtin:len" => (k_here; (with_reducible show wpAny _ _ (call (Value.builtin _) [Value.ref _]) _ _ _); (refine PyProof.Rows.len_list (Fr.lst (by assumption) (by assumption)) (by simp only [List.size_toArray]; omega) ?_))
  k_with "my InvEndN" => refine Stop.out ?_
  k_with "my ENDU" => ((try with_reducible refine Stop.mk ?_); (rename News _ _ _ _ => nE9w'); (try simp only [List.push_toArray] at nE9w'); (refine kst_end () (by assumption) nE9w' (by kst_in) (by intro p9w hp9w; kst_mem) (by rfl) True.intro (List.forall_mem_nil _) (by first | kst_same | (intro z9w h19w h29w h39w; simp [kstB, h19w]; done)) ?_))
  k_with "my UROOM" => first | omega | ((simp only [units_in1, units_deeper]); (try dsimp only [ktrTop]); omega)
  intro dp un gd cn cs a ccd cl outer A₀ base h₀ L m s Q E B F X T hk hP hdp hu ret
  obtain ⟨hl, hi, hn⟩ := hP
  refine wpAny_call ?_
  k_dflt (refine' enter0 ?k1 ?k2 ?k3 ?k5 ?kA ?kF ?kK ?k6 ?k7 ?k8 ?k9 ?kB ?_ ?c2 ?c3 ?c4 ?c5; (case kA => exact rfl); (case kF => exact rfl); (case kK => assumption); (case k1 => k_asm); (case k2 => k_asm); (case k3 => k_asm); (case k5 => k_asm); (case k6 => k_is); (case k7 => k_is); (case k8 => ktr_room); (case k9 => exact BindsTo.of_eq rfl); (case c5 => decide); (case kB => exact locs rfl); (case c2 => exact rfl); (case c3 => exact rfl); (case c4 => exact rfl); k_whole; intro L' h' F' N' B' X' T'; (try dsimp only); (try k_fold))
  clear F B X T
  k_steps
  all_goals (try with_reducible refine Stop.mk ?_)
  have hlen := hi.length
  rename Fr _ _ _ _ => lF'
  rename News _ _ _ _ => lN'
  rename IsRange _ _ _ _ _ _ _ _ => rgX
  with_unfolding_all refine' kst_rangeD (σ := Unit) (n := us.length - 1) (fun _ => []) (fun _ => []) (fun _ => True) [] (fun pre _ => label is = labTo is (is.length - 1 - pre.length)) () (by rfl) rgX (by first | exact small_down (by simp only [List.size_toArray]; omega) (by simp only [List.size_toArray]; omega) (by omega) (by omega)) ?kn lF' lN' True.intro (List.forall_mem_nil _) ?kp ?_ ?_
  case kn => rw [rangeSize_downNat]; simp only [List.size_toArray]; omega
  case kp => rfl
  · intro c pre k t u h tk own hk' hlt hoff _ hinv F₁ N₁
    simp only [List.size_toArray] at hk'
    (try k_fold)
    k_steps
    all_goals (try with_reducible refine Stop.mk ?_)
    refine sub_list (by assumption) hl hi (by omega) (by omega) (by omega) ?_
    intro a1 i1 e1 x1
    k_steps
    all_goals (try with_reducible refine Stop.mk ?_)
    refine sub_0 (by assumption) x1 ?_
    intro t1
    k_steps
    all_goals (try with_reducible refine Stop.mk ?_)
    · refine sub_list (by assumption) hl hi (by omega) (by omega) (by omega) ?_
      intro a2 i2 e2 x2
      k_steps
      all_goals (try with_reducible refine Stop.mk ?_)
      k_here
      k_dflt (refine' eq_it ?F x2 ?hb shKN ?hu ?_ ?_; (case F => k_asm); (case hb => exact News.get (by k_asm) (by k_mem)); (case hu => walk_at "UROOM"))
      · intro hb
        k_steps
        all_goals (try with_reducible refine Stop.mk ?_)
        refine sub_list (by assumption) hl hi (by omega) (by omega) (by omega) ?_
        intro a3 i3 e3 x3
        k_steps
        all_goals (try with_reducible refine Stop.mk ?_)
        refine sub_1 (by assumption) x3 ?_
        intro v3 r3
        k_steps
        all_goals (try with_reducible refine Stop.mk ?_)
        refine ret _ _ _ (by assumption) ?_
        show OptV v3 (label is)
        rename (i1.tag == _) = true => ht1
        rw [e1] at e3
        obtain rfl := Option.some.inj e3
        obtain ⟨x, rfl⟩ := It.sym_of x1.2 (str_eq ht1)
        obtain rfl := It.named_of x2.2 hb
        obtain ⟨t9, rfl⟩ := r3.str
        have e5 : is.length - 1 - pre.length = (is.length - 1 - (pre.length + 1)) + 1 := by omega
        have e6 : (k - 1).toNat = is.length - 1 - (pre.length + 1) := by omega
        have e7 : k.toNat = (is.length - 1 - (pre.length + 1)) + 1 := by omega
        rw [e6] at e2
        rw [e7] at e1
        rw [hinv, e5, labTo_some (x := x)]
        · exact ⟨_, rfl⟩
        · unfold pairAt
          rw [e1, e2]
          exact pairOf_named x
      · intro hb
        k_steps
        all_goals (try with_reducible refine Stop.mk ?_)
        walk_at "ENDU"
        have e3 : is.length - 1 - pre.length = (is.length - 1 - (pre.length + 1)) + 1 := by omega
        have e4 : (k - 1).toNat = (is.length - 1 - (pre.length + 1)) := by omega
        rw [List.length_append, hinv, e3]
        rw [e4] at e2
        refine labTo_none ?_
        unfold pairAt
        rw [e2]
        exact pairOf_key hb
    · walk_at "ENDU"
      rename (i1.tag == _) = false => ht1
      have e3 : is.length - 1 - pre.length = (is.length - 1 - (pre.length + 1)) + 1 := by omega
      have e4 : k.toNat = (is.length - 1 - (pre.length + 1)) + 1 := by omega
      rw [List.length_append, hinv, e3]
      rw [e4] at e1
      refine labTo_none ?_
      unfold pairAt
      rw [e1]
      exact pairOf_sym (str_ne ht1)
  · intro c u h tk _ hinv F₁ N₁
    (try k_fold)
    k_steps
    all_goals (try with_reducible refine Stop.mk ?_)
    refine ret _ _ _ (by assumption) ?_
    simp only [downKs_length, hlen, Nat.sub_self] at hinv
    rw [hinv]; rfl
end
section
theorem fillLab : Mine.HK = Mine.HK ∧ PySem.Challenge.rw_rg0218_01 = PySem.Challenge.rw_rg0218_01 := by
  k_fill; exact ⟨rfl, rfl⟩


theorem label_ok {prog : Program} {w : World} {p : Program} {loose : List Str} {mean : ExcName → Option Value} {mg mb : Str → Option Value} (r : Addr) (tag : Str) (is : List It) :
    CallOk prog w (Mine.HK w.params) p loose mean mg mb 611 [.ref r] (fun h => Seen h r tag is) (fun _ _ r => OptV r (if tag == "list" then labelOf is else none)) := by
  k_with_none
  k_with "my execs cons" => (k_here; first | k_gentoks | ((with_reducible refine wpAny_execs_cons ?_); (try dsimp only); k_fold))
  k_with "my subscriptTail" => (k_here; (first | (with_reducible show wpAny _ _ (subscriptTail _ _ (Value.ref T) (Value.int _ _)) _ _ _) | (with_reducible show wpAny _ _ (subscriptTail _ _ (Value.ref a1) (Value.int _ _)) _ _ _) | (with_reducible show wpAny _ _ (subscriptTail _ _ (Value.ref a2) (Value.int _ _)) _ _ _) | (with_reducible show wpAny _ _ (subscriptTail _ _ (Value.ref a3) (Value.int _ _)) _ _ _) | (with_reducible show wpAny _ _ (subscriptTail _ _ (Value.ref a4) (Value.int _ _)) _ _ _)); refine Stop.out ?_)
  k_with "my LeaveC" => (refine leaveC_ (by assumption) ?_; intro kK9w; (try dsimp only))
  k_with "my call builtin:len" => (k_here; (with_reducible show wpAny _ _ (call (Value.builtin _) [Value.ref _]) _ _ _); (refine PyProof.Rows.len_list (Fr.lst (by assumption) (by assumption)) (by simp only [List.size_toArray]; omega) ?_))
  k_with "my InvEndN" => refine Stop.out ?_
  k_with "my ENDU" => ((try with_reducible refine Stop.mk ?_); (rename News _ _ _ _ => nE9w'); (try simp only [List.push_toArray] at nE9w'); (refine kst_end () (by assumption) nE9w' (by kst_in) (by intro p9w hp9w; kst_mem) (by rfl) True.intro (List.forall_mem_nil _) (by first | kst_same | (intro z9w h19w h29w h39w; simp [kstB, h19w]; done)) ?_))
  k_with "my pyIter ref" => refine Stop.out ?_
  k_with "my UROOM" => first | omega | ((simp only [units_in1, units_deeper]); (try dsimp only [ktrTop]); omega)
  intro dp un gd cn cs a ccd cl outer A₀ base h₀ L m s Q E B F X T hk hP hdp hu ret
  obtain ⟨t0, v2, hr, hP⟩ := hP
  refine wpAny_call ?_
  k_dflt (refine' enter0 ?k1 ?k2 ?k3 ?k5 ?kA ?kF ?kK ?k6 ?k7 ?k8 ?k9 ?kB ?_ ?c2 ?c3 ?c4 ?c5; (case kA => exact rfl); (case kF => exact rfl); (case kK => assumption); (case k1 => k_asm); (case k2 => k_asm); (case k3 => k_asm); (case k5 => k_asm); (case k6 => k_is); (case k7 => k_is); (case k8 => ktr_room); (case k9 => exact BindsTo.of_eq rfl); (case c5 => decide); (case kB => exact locs rfl); (case c2 => exact rfl); (case c3 => exact rfl); (case c4 => exact rfl); k_whole; intro L' h' F' N' B' X' T'; (try dsimp only); (try k_fold))
  clear F B X T
  by_cases ht : tag = "list"
  · obtain ⟨T, us, rfl, hT, hi, hn⟩ := hP ht
    have hlen := hi.length
    subst ht
    clear hP
    k_steps
    all_goals (try with_reducible refine Stop.mk ?_)
    k_here
    k_dflt (refine' kun_lenT (k := (us.length : Int)) ?hl ?hk ?hz ?_; (case hl => exact hT.keeps (Fr.keep (by k_asm))); (case hk => simp); (case hz => omega))
    k_steps
    all_goals (try with_reducible refine Stop.mk ?_)
    · rename ((us.length : Int) = 0) => h0
      refine ret _ _ _ (by assumption) ?_
      have : is = [] := List.eq_nil_of_length_eq_zero (by omega)
      subst this
      rfl
    · rename ((us.length : Int) ≠ 0) => h0
      k_here
      refine sub_tup (by assumption) hT hi (by decide) (by omega) (by decide) ?_
      intro a1 i1 e1 x1
      k_steps
      all_goals (try with_reducible refine Stop.mk ?_)
      k_here
      k_dflt (refine' ne_it ?F x1 ?hb shSB ?hu ?_ ?_; (case F => k_asm); (case hb => exact News.get (by k_asm) (by k_mem)); (case hu => walk_at "UROOM"))
      · intro hb
        k_steps
        all_goals (try with_reducible refine Stop.mk ?_)
        k_here
        k_dflt (refine' kun_lenT (k := (us.length : Int)) ?hl ?hk ?hz ?_; (case hl => exact hT.keeps (Fr.keep (by k_asm))); (case hk => simp); (case hz => omega))
        k_steps
        all_goals (try with_reducible refine Stop.mk ?_)
        (try with_reducible refine Stop.mk ?_)
        rename Fr _ _ _ _ => lF'
        rename News _ _ _ _ => lN'
        rename IsRange _ _ _ _ _ _ _ _ => rgX
        with_unfolding_all refine' kst_range (σ := Value) (n := us.length - 3) (fun _ => []) (fun c => [(Str.ofString "found", c)]) (fun _ => True) [] (fun pre c => OptV c (labTo (is.drop 2) pre.length)) .none (by rfl) rgX ?hs ?kn lF' ?hN True.intro ?kk ?kp ?_ ?_
        case hs => exact small_one (by omega) (by omega) (by omega) (by omega)
        case kn => rw [rangeSize_nat]; omega
        case hN => exact kst_newsOf lN' (by intro p hp; cases hp)
        case kk => exact List.forall_mem_cons.mpr ⟨rfl, List.forall_mem_nil _⟩
        case kp => rfl
        · intro c pre k t u h tk own hk' hlt hoff _ hinv F₁ N₁
          (try k_fold)
          k_steps
          all_goals (try with_reducible refine Stop.mk ?_)
          have hk2 : k.toNat = pre.length + 2 := by omega
          have hk3 : (k + 1).toNat = pre.length + 2 + 1 := by omega
          k_here
          refine sub_tup (by assumption) hT hi (by omega) (by omega) (by omega) ?_
          intro a2 i2 e2 x2
          k_steps
          all_goals (try with_reducible refine Stop.mk ?_)
          k_here
          k_dflt (refine' eq_it ?F x2 ?hb shKN ?hu ?_ ?_; (case F => k_asm); (case hb => exact News.get (by k_asm) (by k_mem)); (case hu => walk_at "UROOM"))
          · intro hb2
            k_steps
            all_goals (try with_reducible refine Stop.mk ?_)
            k_here
            refine sub_tup (by assumption) hT hi (by omega) (by omega) (by omega) ?_
            intro a3 i3 e3 x3
            k_steps
            all_goals (try with_reducible refine Stop.mk ?_)
            k_here
            refine sub_0 (by assumption) x3 ?_
            intro t3
            k_steps
            all_goals (try with_reducible refine Stop.mk ?_)
            · rename (i3.tag == _) = true => ht3
              k_here
              refine sub_tup (by assumption) hT hi (by omega) (by omega) (by omega) ?_
              intro a4 i4 e4 x4
              k_steps
              all_goals (try with_reducible refine Stop.mk ?_)
              k_here
              refine sub_1 (by assumption) x4 ?_
              intro v4 r4
              k_steps
              all_goals (try with_reducible refine Stop.mk ?_)
              (try with_reducible refine Stop.mk ?_)
              rename News _ _ _ _ => nE'
              refine kst_end v4 (by assumption) nE' (by kst_in) (by intro p hp; kst_mem) (by rfl) True.intro (List.forall_mem_cons.mpr ⟨rfl, List.forall_mem_nil _⟩) (by intro z h1 h2 h3; have h4 : z ≠ Str.ofString "found" := h2 _ (List.Mem.head _); simp [kstB, h1, h4]) ?_
              rw [hk2] at e2
              rw [hk3] at e3 e4
              rw [e3] at e4
              obtain rfl := Option.some.inj e4
              obtain ⟨x, rfl⟩ := It.sym_of x3.2 (str_eq ht3)
              obtain rfl := It.named_of x2.2 hb2
              obtain ⟨t9, rfl⟩ := r4.str
              rw [List.length_append, List.length_singleton, labTo_some (x := x)]
              · exact ⟨_, rfl⟩
              · rw [pairAt_drop, pairAt, e2, e3]
                exact pairOf_named x
            · rename (i3.tag == _) = false => ht3
              (try with_reducible refine Stop.mk ?_)
              rename News _ _ _ _ => nE'
              refine kst_end c (by assumption) nE' (by kst_in) (by intro p hp; kst_mem) (by rfl) True.intro (List.forall_mem_cons.mpr ⟨rfl, List.forall_mem_nil _⟩) (by intro z h1 h2 h3; have h4 : z ≠ Str.ofString "found" := h2 _ (List.Mem.head _); simp [kstB, h1, h4]) ?_
              rw [hk3] at e3
              rw [List.length_append, List.length_singleton, labTo_none]
              · exact hinv
              · rw [pairAt_drop, pairAt, e3]
                exact pairOf_sym (str_ne ht3)
          · intro hb2
            k_steps
            all_goals (try with_reducible refine Stop.mk ?_)
            (try with_reducible refine Stop.mk ?_)
            rename News _ _ _ _ => nE'
            refine kst_end c (by assumption) nE' (by kst_in) (by intro p hp; kst_mem) (by rfl) True.intro (List.forall_mem_cons.mpr ⟨rfl, List.forall_mem_nil _⟩) (by intro z h1 h2 h3; have h4 : z ≠ Str.ofString "found" := h2 _ (List.Mem.head _); simp [kstB, h1, h4]) ?_
            rw [hk2] at e2
            rw [List.length_append, List.length_singleton, labTo_none]
            · exact hinv
            · rw [pairAt_drop, pairAt, e2]
              exact pairOf_key hb2
        · intro c u h tk _ hinv F₁ N₁
          (try k_fold)
          k_steps
          all_goals (try with_reducible refine Stop.mk ?_)
          refine ret _ _ _ (by assumption) ?_
          have hbang : bang is = true := by
            cases is with
            | nil => cases e1
            | cons i is => cases e1; exact hb.out
          show OptV c (if _ then labelOf is else none)
          rw [if_pos (by rfl), labelOf, if_pos hbang, label]
          have e9 : (rangeKs 2 (us.length - 3)).length = (is.drop 2).length - 1 := by rw [rangeKs_length, List.length_drop]; omega
          rw [← e9]
          exact hinv
      · intro hb
        k_steps
        all_goals (try with_reducible refine Stop.mk ?_)
        refine ret _ _ _ (by assumption) ?_
        have hbang : bang is = false := by
          cases is with
          | nil => rfl
          | cons i is => cases e1; exact hb.out
        show OptV .none (if _ then labelOf is else none)
        rw [if_pos (by rfl), labelOf, if_neg (by rw [hbang]; decide)]
        rfl
  · clear hP
    k_steps
    all_goals (try with_reducible refine Stop.mk ?_)
    · refine ret _ _ _ (by assumption) ?_
      rw [if_neg (by simpa using ht)]; rfl
    · rename (tag != _) = false => hc
      exact absurd (by simpa using hc) ht
end
section
theorem fillItem : Mine.HK = Mine.HK ∧ PySem.Challenge.rw_rg0218_01 = PySem.Challenge.rw_rg0218_01 := by
  k_fill; exact ⟨rfl, rfl⟩

theorem item_ok {prog : Program} {w : World} {p : Program} {loose : List Str} {mean : ExcName → Option Value} {mg mb : Str → Option Value} (x y : Addr) (us vs : List Value) (is js : List It) :
    CallOk prog w (Mine.HK w.params) p loose mean mg mb 900 [.ref x, .ref y] (fun h => h.IsList x us.toArray ∧ Its h us is ∧ h.IsList y vs.toArray ∧ Its h vs js ∧ us.length + vs.length ≤ 20) (fun _ h' r => ∃ R, r = .ref R ∧ Seen h' R "list" (is ++ js)) := by
  k_with_none
  k_with "my execs cons" => (k_here; first | k_gentoks | ((with_reducible refine wpAny_execs_cons ?_); (try dsimp only); k_fold))
  k_with "my LeaveC" => (refine leaveC_ (by assumption) ?_; intro kK9w; (try dsimp only))
  k_with "my pyIter ref" => refine Stop.out ?_
  k_with "my UROOM" => first | omega | ((simp only [units_in1, units_deeper]); (try dsimp only [ktrTop]); omega)
  intro dp un gd cn cs a ccd cl outer A₀ base h₀ L m s Q E B F X T hk hP hdp hu ret
  obtain ⟨hx, hi, hy, hj, hn⟩ := hP
  refine wpAny_call ?_
  k_dflt (refine' enter0 ?k1 ?k2 ?k3 ?k5 ?kA ?kF ?kK ?k6 ?k7 ?k8 ?k9 ?kB ?_ ?c2 ?c3 ?c4 ?c5; (case kA => exact rfl); (case kF => exact rfl); (case kK => assumption); (case k1 => k_asm); (case k2 => k_asm); (case k3 => k_asm); (case k5 => k_asm); (case k6 => k_is); (case k7 => k_is); (case k8 => ktr_room); (case k9 => exact BindsTo.of_eq rfl); (case c5 => decide); (case kB => exact locs rfl); (case c2 => exact rfl); (case c3 => exact rfl); (case c4 => exact rfl); k_whole; intro L' h' F' N' B' X' T'; (try dsimp only); (try k_fold))
  clear F B X T
  k_steps
  rename News _ _ _ _ => nE
  rename Keeps _ _ => kE
  refine ret _ _ _ (by assumption) ⟨_, rfl, _, _, ⟨_, News.get nE (.head _), rfl, _, rfl⟩, fun _ => ⟨_, us ++ vs, rfl, ⟨_, News.get nE (.tail _ (.head _)), rfl, _, rfl⟩, ?_, ?_⟩⟩
  · exact (hi.append hj).keeps kE
  · rw [List.length_append]; exact hn
end
section
open Sem (wp)
abbrev excTup (rest : List Value) : Obj := { cls := .type "tuple", data := .seq rest.toArray }
abbrev excNew (C t : Addr) : Obj := { cls := .ref C, data := .fields #[.ref t, .none, .none, .none, .bool false, .none] }
section
variable {prog : Program} {w : World} {A : Around} {E : Value → Shared → Prop} {h : Heap} {g : Array GenState} {d : Drawn} {t : Nat} {os : OsState} {K : Frag}
variable {nm q : Str} {C N : Addr} {bs bm : List Value} {hdct : Bool} {sn : List Str} {sub : List Value} {ab : Bool} {col : Option Bool} {dd : Option Addr} {k0 k1 k2 k3 k5 : Option Value}

theorem exc_check {M : Model} (hB : (Value.ref C :: bm).contains (.type "Exception") = true) {rest : List Value} {Q : Unit → Shared → Prop} (hC : h.get? C = some (excClassObj nm q C N bs bm hdct sn sub ab col dd k0 k1 k2 k3 k5 "Exception.__new__"))
    (hq : Q () ⟨h, g, d, t, os⟩) : wpAny M A (checkBuiltinCall "Exception.__new__" ⟨.ref C :: rest, []⟩) Q E ⟨h, g, d, t, os⟩ := by
  have F := PySem.F.excBase_Exception
  have hstar := F.noStar
  simp only [checkBuiltinCall, F.newKind, F.newSplit, F.newRow]
  repeat (first | refine wpAny_loadPart_at hC ?_ | (refine wpAny_isSubtype_exc hC ?_; rw [hB]) | refine wpAny_staticBase_exc hC ?_ | refine wpAny_madeBy_exc hC ?_ | simp only [bne_self_eq_false, Bool.false_eq_true, if_false] | wp_step)
  exact hq

theorem exc_new {R : Result → Shared → Prop} (hB : (Value.ref C :: bm).contains (.type "Exception") = true) (hA : (Value.ref C :: bm).contains (.type "AttributeError") = false) (hN : (Value.ref C :: bm).contains (.type "NameError") = false)
    {rest : List Value} (hC : h.get? C = some (excClassObj nm q C N bs bm hdct sn sub ab col dd k0 k1 k2 k3 k5 "Exception.__new__"))
    (hq : R (.ok (.ret (.ref (h.objs.size + 1)))) ⟨(h.push (excTup rest)).push (excNew C h.objs.size), g, d, t, os⟩) (hrest : rest.length ≤ sizeLine) :
    codeAny (model prog w) A (.builtin "Exception.__new__" ⟨.ref C :: rest, []⟩) R ⟨h, g, d, t, os⟩ := by
  have F := PySem.F.excBase_Exception
  have hends := F.ends
  refine codeAny_builtinAt F.entry ?_
  unfold Builtin.«BaseException.__new__»
  refine PySem.wpAt_bind ?_
  show PySem.wpAt _ _ _ (stack >>= _) _ _ _
  refine PySem.wpAt_bind (PySem.wpAt_stack fun p below => PySem.wpAt_of_wpAny ?_)
  wp_walk
  refine PySem.wpAt_of_wpAny ?_
  rw [F.owner]
  repeat (first | with_reducible refine wpAny_madeHere_exc F.canon hC ?_ | with_reducible refine wpAny_loadPart_at hC ?_ | (with_reducible refine wpAny_isSubtype_exc hC ?_; first | rw [hB] | rw [hA] | rw [hN]) | wp_step)
  show R _ _
  rw [Heap.size_push]
  exact hq

theorem exc_tcall (X : K.In h) (hB : (Value.ref C :: bm).contains (.type "Exception") = true) (hA : (Value.ref C :: bm).contains (.type "AttributeError") = false) (hN : (Value.ref C :: bm).contains (.type "NameError") = false)
    {rest : List Value} {fI : Addr} {Q : Fin → Shared → Prop} (hC : h.get? C = some (excClassObj nm q C N bs bm hdct sn sub ab col dd k0 k1 k2 k3 k5 "Exception.__new__"))
    (hi : findIn K (.ref C) "__init__" = some (some (.ref fI))) (hf : typeIn K (.ref fI) = some (.type "function")) (hrest : rest.length ≤ sizeLine)
    (hq : wpAny (model prog w) A (call (.ref fI) (.ref (h.objs.size + 1) :: rest)) (fun r s' => r = .none ∧ Q (.done (.ret (.ref (h.objs.size + 1)))) s') E ⟨(h.push (excTup rest)).push (excNew C h.objs.size), g, d, t, os⟩) :
    wpAny (model prog w) A (Builtin.«type.__call__» ⟨.ref C :: rest, []⟩) Q E ⟨h, g, d, t, os⟩ := by
  have F := PySem.F.excBase_Exception
  repeat (first | with_reducible refine wpAny_loadPart_at hC ?_ | with_reducible refine wpAny_madeBy_exc hC ?_ | wp_step)
  refine codeAny_call_builtin_code (Code.quiet_builtin _ F.quiet) (exc_check hB hC ?_)
  refine exc_new hB hA hN hC ?_ hrest
  show wpAny _ _ _ _ _ _
  have k1 : ∀ b o, h.get? b = some o → ((h.push (excTup rest)).push (excNew C h.objs.size)).get? b = some o := fun b o e => Heap.get?_push_of_some _ (Heap.get?_push_of_some _ e)
  have hC₁ := k1 _ _ hC
  have X₁ := X.keeps k1
  have hget : ((h.push (excTup rest)).push (excNew C h.objs.size)).get? (h.objs.size + 1) = some (excNew C h.objs.size) := by heap_get
  have hcC : (Value.ref C :: bm).contains (.ref C) = true := by simp
  unfold isInstance
  repeat (first | with_reducible refine wpAny_loadPart_at hget ?_ | (with_reducible refine wpAny_isSubtype_exc hC₁ ?_; rw [hcC]) | wp_step)
  show wpAny _ _ (typeLookup (.ref C) _) _ _ _
  refine (looks_findIn X₁ hi).here ?_
  refine wpAny_holding (wpAny_bind ?_)
  refine (bind_fn X₁ _ hf).here ?_
  refine wpAny_bind (wpAny_mono hq (fun r s' hr => ?_) fun _ _ x => x)
  obtain ⟨rfl, hQ⟩ := hr
  wp_walk
  exact hQ

theorem exc_call (X : K.In h) (hB : (Value.ref C :: bm).contains (.type "Exception") = true) (hA : (Value.ref C :: bm).contains (.type "AttributeError") = false) (hN : (Value.ref C :: bm).contains (.type "NameError") = false)
    {rest : List Value} {fI : Addr} {Q : Value → Shared → Prop} (hC : h.get? C = some (excClassObj nm q C N bs bm hdct sn sub ab col dd k0 k1 k2 k3 k5 "Exception.__new__"))
    (hi : findIn K (.ref C) "__init__" = some (some (.ref fI))) (hf : typeIn K (.ref fI) = some (.type "function")) (hrest : rest.length ≤ sizeLine)
    (hq : wpAny (model prog w) (A.under (.builtin "type.__call__" ⟨.ref C :: rest, []⟩)) (call (.ref fI) (.ref (h.objs.size + 1) :: rest)) (fun r s' => r = .none ∧ Q (.ref (h.objs.size + 1)) s') E ⟨(h.push (excTup rest)).push (excNew C h.objs.size), g, d, t, os⟩) :
    wpAny (model prog w) A (call (.ref C) rest) Q E ⟨h, g, d, t, os⟩ := by
  have f1 := tc_lookup
  have f2 := tc_bind (.ref C)
  have hT : (⟨h, g, d, t, os⟩ : Shared).TypeIs (.ref C) "type" := ⟨_, hC, rfl⟩
  refine wpAny_call (codeAny_of_tree ?_)
  show wpAny _ _ (callAny (.ref C) _) _ _ _
  repeat (any_goals (first | assumption | with_reducible refine wpAny_loadPart_at hC ?_ | wp_step))
  refine ⟨rfl, ?_⟩
  exact codeAny_call_builtin_at (Code.quiet_builtin _ (by decide +kernel)) entry_typeCall (wpAny_check_type_call_sub hC (exc_tcall X hB hA hN hC hi hf hrest hq))
end
end
section
theorem wd_slot : Slot "wrapper_descriptor" "__get__" "wrapper_descriptor.__get__" := .of (owner := "wrapper_descriptor") (n := "__get__") (by rw [typeLookup_type, builtinLookup_eq_fast]; kernel_rfl) (by decide +kernel) (by decide +kernel) (by decide +kernel)
  (by first | exact .inl (by decide +kernel) | exact .inr (by decide +kernel)) (by rw [isSubtype_type]; kernel_rfl)
theorem wd_entry : entryFor table "wrapper_descriptor.__get__" = some Builtin.«wrapper_descriptor.__get__» := entryFor_of_tree (by kernel_rfl)
theorem wd_args (a b c : Value) : argsOk "wrapper_descriptor.__get__" ⟨[a, b, c], []⟩ := by unfold argsOk; kernel_rfl
theorem ei_type : typeOf (.builtin "Exception.__init__") = pure (.type "wrapper_descriptor") := by show builtinType _ = _; rw [builtinType_eq_fast]; kernel_rfl
section
variable {prog : Program} {w : World} {A : Around} {E : Value → Shared → Prop} {h : Heap} {g : Array GenState} {d : Drawn} {t : Nat} {os : OsState} {K : Frag}
variable {nm q : Str} {C N : Addr} {bs bm : List Value} {hdct : Bool} {sn : List Str} {sub : List Value} {ab : Bool} {col : Option Bool} {dd : Option Addr} {k0 k1 k2 k3 k5 : Option Value} {newId : String}
abbrev mwObj (e : Addr) : Obj := { cls := .type "method-wrapper", data := .fields #[.builtin "Exception.__init__", .ref e] }

theorem wd_get {e : Addr} {oe : Obj} {Q : Fin → Shared → Prop} (hB : (Value.ref C :: bm).contains (.type "Exception") = true) (hC : h.get? C = some (excClassObj nm q C N bs bm hdct sn sub ab col dd k0 k1 k2 k3 k5 newId)) (he : h.get? e = some oe) (hcls : oe.cls = .ref C)
    (hq : Q (.done (.ret (.ref h.objs.size))) ⟨h.push (mwObj e), g, d, t, os⟩) :
    wpAny (model prog w) A (Builtin.«wrapper_descriptor.__get__» ⟨[.builtin "Exception.__init__", .ref e, .ref C], []⟩) Q E ⟨h, g, d, t, os⟩ := by
  have hne : (Value.ref e == Value.none) = false := rfl
  have hne2 : (Value.ref C == Value.none) = false := rfl
  have hs : (".".intercalate ("Exception.__init__".cutAt '.').dropLast) = "Exception" := by decide +kernel
  unfold Builtin.«wrapper_descriptor.__get__»
  repeat (first | (with_reducible refine wpAny_loadPart_at he ?_; rw [hcls]) | (rw [hs]; refine wpAny_isSubtype_exc hC ?_; rw [hB]) | wp_step | dsimp only)
  all_goals exact hq

theorem sup_ga {so D e : Addr} {oe : Obj} {l₀ l : List Value} {name : Str} {tk : Tok} {Q : Fin → Shared → Prop}
    (hso : h.get? so = some (ks_superObj D e C)) (hno : Looks (model prog w) h (opaqueClassAbove (.ref C)) none)
    (hM : Looks (model prog w) h (mroOf (.ref C)) l₀) (hl : (l₀.dropWhile (· != .ref D)).drop 1 = l) (X : K.In h)
    (hf : alongIn K name l = some (some (.builtin "Exception.__init__"))) (heC : e ≠ C) (hn : (name == ("__class__" : Str)) = false)
    (hB : (Value.ref C :: bm).contains (.type "Exception") = true) (hC : h.get? C = some (excClassObj nm q C N bs bm hdct sn sub ab col dd k0 k1 k2 k3 k5 newId)) (he : h.get? e = some oe) (hcls : oe.cls = .ref C)
    (hq : Q (.done (.ret (.ref h.objs.size))) ⟨h.push (mwObj e), g, d, t, os⟩) :
    wpAny (model prog w) A (Builtin.«super.__getattribute__» ⟨[.ref so, .str name tk], []⟩) Q E ⟨h, g, d, t, os⟩ := by
  have hne : (Value.ref e == Value.ref C) = false := by simp [heC]
  have hT : (⟨h, g, d, t, os⟩ : Shared).TypeIs (.builtin "Exception.__init__") "wrapper_descriptor" := ei_type
  have hdt : (ks_superObj D e C).data = .fields #[.ref D, .ref e, .ref C] := rfl
  have f0 : (#[.ref D, .ref e, .ref C] : Array Value)[0]? = some (.ref D) := rfl
  have f1 : (#[.ref D, .ref e, .ref C] : Array Value)[1]? = some (.ref e) := rfl
  have f2 : (#[.ref D, .ref e, .ref C] : Array Value)[2]? = some (.ref C) := rfl
  have hlk := wd_slot.lookup
  unfold Builtin.«super.__getattribute__»
  repeat (first
    | (with_reducible refine wpAny_field hso hdt f0 ?_) | (with_reducible refine wpAny_field hso hdt f1 ?_) | (with_reducible refine wpAny_field hso hdt f2 ?_)
    | (with_reducible refine ks_wpAny_notOpaque hno ?_)
    | (with_reducible refine Looks.at hM ?_; rw [hl])
    | (refine ks_forIn_along X (fun _ _ => rfl) rfl ?_ hf)
    | (with_reducible refine wpAny_of_eq ei_type ?_)
    | (with_reducible refine wpAny_call_entry wd_slot hT wd_entry ?_ (wd_args _ _ _))
    | (with_reducible refine wd_get hB hC he hcls ?_)
    | (with_reducible refine ⟨_, rfl, ?_⟩)
    | (simp only [hn, hne, Bool.or_false, Bool.false_eq_true, if_false])
    | wp_step
    | dsimp only)
  all_goals exact hq

theorem sup_method {so D e : Addr} {oe : Obj} {l₀ l : List Value} {name : Str} {pl : Sem Bool} {Q : Value × List Value → Shared → Prop}
    (hso : h.get? so = some (ks_superObj D e C)) (hno : Looks (model prog w) h (opaqueClassAbove (.ref C)) none)
    (hM : Looks (model prog w) h (mroOf (.ref C)) l₀) (hl : (l₀.dropWhile (· != .ref D)).drop 1 = l) (X : K.In h)
    (hf : alongIn K name l = some (some (.builtin "Exception.__init__"))) (heC : e ≠ C) (hn : (name == ("__class__" : Str)) = false)
    (hB : (Value.ref C :: bm).contains (.type "Exception") = true) (hC : h.get? C = some (excClassObj nm q C N bs bm hdct sn sub ab col dd k0 k1 k2 k3 k5 newId)) (he : h.get? e = some oe) (hcls : oe.cls = .ref C)
    (hq : Q (.ref h.objs.size, []) ⟨h.push (mwObj e), g, d, t + 1, os⟩) :
    wpAny (model prog w) A (getMethod (.ref so) name pl) Q E ⟨h, g, d, t, os⟩ := by
  have hlk := PySem.F.ks_slot_super_ga.lookup
  have hcan := PySem.F.ks_canon_super_ga
  have hT : ∀ t', (⟨h, g, d, t', os⟩ : Shared).TypeIs (.ref so) "super" := fun _ => ⟨_, hso, rfl⟩
  unfold getMethod
  refine wpAny_bind (wpAny_specialOf (hT _) hlk ?_)
  show wpAny _ _ (if (Manifest.canonical "super.__getattribute__" != "object.__getattribute__") = true then _ else _) _ _ _
  rw [if_pos hcan]
  unfold getAttr getAttrBy
  refine wpAny_bind (wpAny_bind (wpAny_mkText (wpAny_holding (wpAny_bind (wpAny_typeOf (hT _) (wpAny_bind (wpAny_of_eq hlk ?_)))))))
  show wpAny _ _ (getAttrByItsOwn (.ref so) (.str name t) (.type "super") (.builtin "super.__getattribute__") true false) _ _ _
  unfold getAttrByItsOwn hookBefore callGetattribute boundAndCalled
  refine wpAny_bind (wpAny_of_eq (show (if onTheHeap (.type "super") then typeLookup (.type "super") "__getattr__" else pure none) = pure none from rfl) ?_)
  refine wpAny_bind (wpAny_attempt (wpAny_holding ?_))
  show wpAny _ _ (bindSpecial (.builtin "super.__getattribute__") (.ref so) >>= _) _ _ _
  refine wpAny_bind (wpAny_of_eq (PySem.F.ks_slot_super_ga.bind _) ?_)
  refine wpAny_mono (Q := fun v s' => v = .ref h.objs.size ∧ s' = ⟨h.push (mwObj e), g, d, t + 1, os⟩) (E := fun _ _ => False)
    (wpAny_call_entry PySem.F.ks_slot_super_ga (hT _) PySem.F.ks_entry_super_ga (sup_ga hso hno hM hl X hf heC hn hB hC he hcls ⟨_, rfl, rfl, rfl⟩) (PySem.F.ks_gaArgs_super _ _)) (fun v s' hv => ?_) fun _ _ z => z.elim
  obtain ⟨rfl, rfl⟩ := hv
  exact wpAny_pure (wpAny_pure hq)
end
end
section
section
variable {prog : Program} {w : World} {A : Around} {E : Value → Shared → Prop} {h : Heap} {g : Array GenState} {d : Drawn} {t : Nat} {os : OsState} {K : Frag} {C : Addr}
variable {nm q : Str} {N : Addr} {bs bm : List Value} {hdct : Bool} {sn : List Str} {sub : List Value} {ab : Bool} {col : Option Bool} {dd : Option Addr} {k0 k1 k2 k3 k5 : Option Value} {newId : String}
structure Argd (h h' : Heap) (C e : Addr) (vs : List Value) : Prop where
  other : ∀ b o, b ≠ e → h.get? b = some o → h'.get? b = some o
  there : h'.get? e = some (excNew C h.objs.size)
  args : h'.get? h.objs.size = some (excTup vs)
  size : h'.objs.size = h.objs.size + 1
theorem bi_init {e t0 : Addr} {v : Value} {Q : Fin → Shared → Prop} (he : h.get? e = some (excNew C t0))
    (hq : ∀ h', Argd h h' C e [v] → Q (.done (.ret .none)) ⟨h', g, d, t, os⟩) :
    wpAny (model prog w) A (Builtin.«BaseException.__init__» ⟨[.ref e, v], []⟩) Q E ⟨h, g, d, t, os⟩ := by
  unfold Builtin.«BaseException.__init__»
  wp_walk
  refine hq _ ⟨fun b o hb eb => ?_, ?_, ?_, ?_⟩
  · rw [Heap.get?_update_other _ _ (Ne.symm hb)]
    exact Heap.get?_push_of_some _ eb
  · rw [Heap.get?_update_self _ (Heap.get?_push_of_some _ he) rfl]
    rfl
  · rw [Heap.get?_update_other _ _ (Nat.ne_of_lt (Heap.lt_size he))]
    exact Heap.get?_push_at rfl rfl
  · rw [Heap.size_after_update, Heap.size_push]
theorem mw_bound {M : Model} {e t0 : Addr} {v : Value} {Q : Unit → Shared → Prop} (hB : (Value.ref C :: bm).contains (.type "Exception") = true) (hC : h.get? C = some (excClassObj nm q C N bs bm hdct sn sub ab col dd k0 k1 k2 k3 k5 newId)) (he : h.get? e = some (excNew C t0))
    (hq : Q () ⟨h, g, d, t, os⟩) : wpAny M A (checkBoundCall "Exception.__init__" ⟨[.ref e, v], []⟩) Q E ⟨h, g, d, t, os⟩ := by
  have F := PySem.F.excBase_Exception
  have hshort := F.noStar
  simp only [checkBoundCall, F.initKind, F.initRow]
  repeat (first | with_reducible refine wpAny_loadPart_at he ?_ | with_reducible refine wpAny_loadPart_at hC ?_ | (with_reducible refine wpAny_isSubtype_exc hC ?_; rw [hB]) | wp_step)
  exact hq
theorem mw_call {mw e t0 : Addr} {v : Value} {Q : Value → Shared → Prop} (hB : (Value.ref C :: bm).contains (.type "Exception") = true) (hC : h.get? C = some (excClassObj nm q C N bs bm hdct sn sub ab col dd k0 k1 k2 k3 k5 newId)) (hm : h.get? mw = some (mwObj e)) (he : h.get? e = some (excNew C t0))
    (hq : ∀ h', Argd h h' C e [v] → Q .none ⟨h', g, d, t, os⟩) : wpAny (model prog w) A (call (.ref mw) [v]) Q E ⟨h, g, d, t, os⟩ := by
  have F := PySem.F.excBase_Exception
  refine wpAny_call (codeAny_of_tree ?_)
  show wpAny _ A.in1 (callAny (.ref mw) ⟨[v], []⟩) _ _ _
  simp only [callAny]
  refine wpAny_bind (wpAny_load hm ?_)
  simp only [mwObj, show (Value.type "method-wrapper" == Value.type "method" || Value.type "method-wrapper" == Value.type "builtin_function_or_method" || Value.type "method-wrapper" == Value.type "method-wrapper") = true by decide, if_true]
  show wpAny _ _ (if (Value.type "method-wrapper" != Value.type "method") = true then (checkBoundCall "Exception.__init__" ⟨[.ref e, v], []⟩ >>= fun _ => again (.builtin "Exception.__init__" ⟨[.ref e, v], []⟩)) else again (.call (.builtin "Exception.__init__") ⟨[.ref e, v], []⟩)) _ _ _
  rw [if_pos (by decide)]
  refine wpAny_bind (mw_bound hB hC he ?_)
  refine wpAny_pure ?_
  exact ⟨Code.quiet_builtin _ (by decide +kernel), codeAny_builtin F.initEntry (bi_init he hq)⟩
end
end
section
open PySem.Builtin PySem.Builtin.ObjectAttr
section
variable {prog : Program} {w : World} {A : Around} {E : Value → Shared → Prop} {h : Heap} {g : Array GenState} {d : Drawn} {t : Nat} {os : OsState} {K : Frag} {C : Addr}
variable {nm q : Str} {N : Addr} {bs bm : List Value} {sn : List Str} {sub : List Value} {ab : Bool} {col : Option Bool} {dd : Option Addr} {k0 k1 k2 k3 k5 : Option Value} {newId : String}
abbrev excHas (C t dx : Addr) : Obj := { cls := .ref C, dict := some dx, data := .fields #[.ref t, .none, .none, .none, .bool false, .none] }
theorem exc_own {x t0 : Addr} {name : Str} {tk : Tok} {v : Value} {b : Bool} {Q : Fin → Shared → Prop} (hC : h.get? C = some (excClassObj nm q C N bs bm true sn sub ab col dd k0 k1 k2 k3 k5 newId)) (hx : h.get? x = some (excNew C t0))
    (hq : ∀ h' tk' dx, h'.get? x = some (excHas C t0 dx) → (∀ b o, b ≠ x → h.get? b = some o → h'.get? b = some o) → Q (.done (.ret .none)) ⟨h', g, d, tk', os⟩) :
    wpAny (model prog w) A (storeInOwnDict (.ref x) (.ref C) (.str name tk) name v b) Q E ⟨h, g, d, t, os⟩ := by
  have hx₁ : (h.push { cls := .type "dict", data := .dict #[] }).get? x = some (excNew C t0) := Heap.get?_push_of_some _ hx
  have hxs : x ≠ h.objs.size := Nat.ne_of_lt (Heap.lt_size hx)
  have hgd : ((h.push { cls := .type "dict", data := .dict #[] }).update x fun o => { cls := o.cls, dict := some h.objs.size, data := o.data, slots := o.slots }).get? h.objs.size
      = some { cls := .type "dict", data := .dict #[] } :=
    (Heap.get?_update_ne _ _ _ _ hxs.symm).trans (Heap.get?_push_at rfl rfl)
  have hnd : ((h.push { cls := .type "dict", data := .dict #[] }).update x fun o => { cls := o.cls, dict := some h.objs.size, data := o.data, slots := o.slots }).Ns h.objs.size (fun _ => none) :=
    ⟨_, #[], _, hgd, rfl, fun e he => absurd he (by simp), fun _ => rfl⟩
  unfold storeInOwnDict
  refine wpAny_bind (wpAny_pure ?_)
  refine wpAny_bind ?_
  unfold ownDictForStores instanceDict
  refine wpAny_bind (wpAny_loadPart_at hx ?_)
  refine wpAny_bind ?_
  unfold classData
  refine wpAny_bind (wpAny_load hC (wpAny_pure ?_))
  dsimp only
  rw [if_neg (by simp)]
  try dsimp only
  trace_state
  rw [if_neg (by simp [typeHasDict])]
  refine wpAny_bind (wpAny_alloc' ?_)
  refine wpAny_bind (wpAny_update' hx₁ ?_)
  refine wpAny_pure ?_
  show wpAny _ _ (storeInDict h.objs.size (.str name tk) name v) _ _ _
  unfold storeInDict newKeyGuard
  refine wpAny_bind (wpAny_pure (wpAny_bind (wpAny_nsSet1 (Heap.Ns1.of_empty hnd) fun h' hn' hs => ?_)))
  obtain ⟨oD, esD, epD, hoD, hdD, hcD⟩ := hn'.count (Within.cons name v Within.nil)
  refine wpAny_bind (wpAny_lookBehind hoD (by rw [hdD]; exact pastItsLine_dict (Nat.le_trans hcD (by rw [List.length_cons, List.length_nil, sizeLine_eq]; omega))) ?_)
  wp_walk
  refine hq h' _ h.objs.size ?_ fun b ob hbx hb => ?_
  · exact (hs.2 x hxs).trans (Heap.get?_update_self _ hx₁ rfl)
  · exact (hs.2 b (Nat.ne_of_lt (Heap.lt_size hb))).trans ((Heap.get?_update_ne _ _ _ _ hbx).trans (Heap.get?_push_of_some _ hb))

theorem exc_store {x t0 : Addr} {name : Str} {v : Value} {Q : Unit → Shared → Prop} (X : K.In h) (hC : h.get? C = some (excClassObj nm q C N bs bm true sn sub ab col dd k0 k1 k2 k3 k5 newId)) (hx : h.get? x = some (excNew C t0))
    (hs : findIn K (.ref C) "__setattr__" = some (some (.builtin "object.__setattr__"))) (hna : findIn K (.ref C) name = some none) (hsub : mroIn K C (.type "object") = some true) (hpass : ∀ self : Value, refuseLoop self "__setattr__" bm = pure ())
    (hq : ∀ h' tk' dx, h'.get? x = some (excHas C t0 dx) → (∀ b o, b ≠ x → h.get? b = some o → h'.get? b = some o) → Q () ⟨h', g, d, tk', os⟩) :
    wpAny (model prog w) A (setAttr (.ref x) name v) Q E ⟨h, g, d, t, os⟩ := by
  have SF := PySem.F.store_Exception
  have I : InstAt h x (excNew C t0) C none := ⟨hx, rfl, rfl, trivial⟩
  have sub : Looks (model prog w) h (isInstance (.ref x) (.type "object")) true := I.type.andThen (looks_mroIn X hsub)
  refine set_plain (s := ⟨h, g, d, t, os⟩) X I hs ?_
  refine codeAny_call_builtin SF.slot.plain SF.entry (@check_slot (model prog w) _ _ _ "object.__setattr__" "object" "__setattr__" (.ref x) [.str name t, v] [] _ SF.kind SF.split sub (SF.args (.ref x) (.str name t) v) ?_)
  have L3 : Looks (model prog w) h (storeTaker? none) none := .now
  rw [osa_eq, refuse_eq]
  refine wpAny_bind (wpAny_bind (I.type.here (wpAny_bind (wpAny_mroOf_exc hC ?_))))
  rw [refuseLoop_ref, hpass]
  refine wpAny_pure (wpAny_bind (I.type.here (wpAny_bind ((looks_findIn X hna).here (wpAny_bind (L3.here ?_))))))
  exact exc_own hC hx hq
end
end
section
theorem fillInit : Mine.HK = Mine.HK ∧ PySem.Challenge.rw_rg0218_01 = PySem.Challenge.rw_rg0218_01 := by
  k_fill; exact ⟨rfl, rfl⟩
section
variable {M : Model} {A : Around} {E : Value → Shared → Prop} {s : Shared} {env : Env} {pos : Pos} {first : List Value} {Q : Value → Shared → Prop}
theorem callWith_mw {mw e : Addr} {x : PySem.Expr} {rest : List PySem.Expr} (h : wpAny M A (spliced (backTo pos (starEach (x :: rest) env))) (fun vs s₁ => s₁.heap.get? mw = some (mwObj e) ∧ wpAny M A (call (.ref mw) (first ++ vs)) Q E s₁) E s)
    (he : starEach (x :: rest) env = (false, eval x env) :: starEach rest env := by rfl) (hplain : (backTo pos (starEach rest env)).any (·.1) = false := by rfl) :
    wpAny M A (callWith pos (.ref mw) first (backTo pos (starEach (x :: rest) env)) []) Q E s := by
  rw [he] at h ⊢
  exact callWith_of (P := fun h => h.get? mw = some (mwObj e)) (by show ((false || (backTo pos (starEach rest env)).any (·.1)) || false) = false; rw [hplain]; rfl) (fun h X => ⟨.machine, .inr (.inl rfl), (Looks.ld (part := none) X).andThen .now⟩) (evalArgs_plain h)
end
theorem fr_other {g h h' : Heap} {L e : Addr} {m : Str → Option Value} (F : Fr g L h m) (k : ∀ b o, b ≠ e → h.get? b = some o → h'.get? b = some o) (he : g.get? e = none) (hL : e ≠ L) : Fr g L h' m := by
  obtain ⟨⟨oL, es, ep, hL', r⟩, kp, ab⟩ := F
  exact ⟨⟨oL, es, ep, k _ _ (Ne.symm hL) hL', r⟩, fun b o q => k _ _ (fun z => by rw [z, he] at q; cases q) (kp b o q), ab⟩
theorem get_none {h : Heap} {b : Addr} (e : h.objs.size ≤ b) : h.get? b = none := by
  cases z : h.get? b with
  | none => rfl
  | some o => exact absurd (Heap.lt_size z) (Nat.not_lt.mpr e)
/-- the exception stands, made and told its text -/
structure Told (h h' : Heap) (e t0 t d : Addr) (vs : List Value) : Prop where
  other : ∀ b o, b ≠ e → b ≠ t0 → h.get? b = some o → h'.get? b = some o
  there : h'.get? e = some (excHas 67 t d)
  args : h'.get? t = some (excTup vs)
  fresh : h.objs.size ≤ t
theorem k67 (P : Params) : ∃ nm q bs sub k0 k1 k2 k3 k5, (Mine.HK P).lookup 67 = some (excClassObj nm q 67 66 bs [.ref 47, .type "Exception", .type "BaseException", .type "object"] true [] sub false none none k0 k1 k2 k3 k5 "Exception.__new__") := by
  exact ⟨_, _, _, _, _, _, _, _, _, by k_is⟩
theorem k67cls (P : Params) : ∃ cd, clsIn (Mine.HK P) 67 = some cd ∧ cd.mro = [.ref 67, .ref 47, .type "Exception", .type "BaseException", .type "object"] := by
  exact ⟨_, by k_is, by rfl⟩
theorem k67init (P : Params) : findIn (Mine.HK P) (.ref 67) "__init__" = some (some (.ref 37)) := by k_is
theorem k67set (P : Params) : findIn (Mine.HK P) (.ref 67) "__setattr__" = some (some (.builtin "object.__setattr__")) := by k_is
theorem k67what (P : Params) : findIn (Mine.HK P) (.ref 67) "what" = some none := by k_is
theorem k67obj (P : Params) : mroIn (Mine.HK P) 67 (.type "object") = some true := by k_is
theorem k67init' (P : Params) : typeIn (Mine.HK P) (.ref 37) = some (.type "function") := by k_is
theorem kany (P : Params) : nsIn (Mine.HK P) cStatics "thirdparty.any" = some none := by k_is
theorem k67along (P : Params) : alongIn (Mine.HK P) "__init__" [.type "Exception", .type "BaseException", .type "object"] = some (some (.builtin "Exception.__init__")) := by kernel_rfl
section
variable {prog : Program} {w : World} {A₀ A : Around} {s : Shared} {K : Frag} {h₀ base : Heap} {L : Addr} {m mg mb : Str → Option Value} {p : Program} {loose : List Str} {mean : ExcName → Option Value}
/-- a call of a def that has __class__: the ground is all but the news -/
theorem enterS {env : Env} {outer : List Env} {R : Result → Shared → Prop} {name qual : Str} {params : Arguments} {body : List Stmt} {scope : Scope} {dV kV doc pm cdv ct oc : Value} {an od : Option Addr} {osl : Array (Option Value)} {f cc : Addr} {args : Args} {binds : List (Str × Value)} {news : List (Addr × Obj)}
    (B : Below A₀ base outer h₀) (F : Fr h₀ L s.heap m) (X₀ : K.In h₀) (N : News h₀ L s.heap news) (T : Top p loose mean mg mb h₀) (hA : A.frames = some (env :: outer)) (hf : env.frame = some L) (hke : env.scope.kind = .function)
    (ho : K.lookup f = some ⟨oc, od, .func (ksFn name qual params body scope dV kV doc pm an cdv ct cc), osl⟩) (hcd : codeIn K cdv qual = true) (hroom : A.depth < recursionLimit)
    (hbind : BindsTo s (ksFn name qual params body scope dV kV doc pm an cdv ct cc) args binds) (hloc : ∀ y ∈ binds, scope.names.lookup y.1 = some .local)
    (h : ∀ L' h₁, Fr (hideAll s.heap (news.map (·.1))) L' h₁ (fun y => binds.reverse.lookup y) → News (hideAll s.heap (news.map (·.1))) L' h₁ news → Below A base (env :: outer) (hideAll s.heap (news.map (·.1))) → K.In (hideAll s.heap (news.map (·.1))) → Top p loose mean mg mb (hideAll s.heap (news.map (·.1))) → (∀ p ∈ news, p.1 < L') →
      _root_.PySem.wpAt (model prog w) (A.deeper (ksEnv qual scope L' f cdv cc)) (.func body (ksEnv qual scope L' f cdv cc)) (execs body (ksEnv qual scope L' f cdv cc))
        (fun fl s' => LeaveC (hideAll s.heap (news.map (·.1))) (fun v s' => R (.ok (.ret v)) s') (match fl with | .ret v => v | _ => .none) s')
        (fun e s' => wpAny (model prog w) (A.deeper (ksEnv qual scope L' f cdv cc)) (leaving (ksEnv qual scope L' f cdv cc) e) (fun _ s'' => R (.error e) s'') (fun e' s'' => R (.error e') s'') s')
        { s with heap := h₁, toks := s.toks + binds.length })
    (hcell : ∀ x ∈ scope.names, x.2 ≠ .cell := by decide) (hco : scope.isCoroutine = false := by rfl) (hgen : scope.isGenerator = false := by rfl) (hk : scope.kind = .function := by rfl) : codeAny (model prog w) A (.call (.ref f) args) R s := by
  obtain ⟨FG, BG, st, lv⟩ := groundX (R := R) B F N hA hf hke
  refine ks_codeAny_call_defAt (fd := ksFn name qual params body scope dV kV doc pm an cdv ct cc) (body := body) (binds := binds) hroom ((X₀.keeps F.keep) _ _ ho) rfl (T.nolimit.keeps F.keep) (codeRec_of (X₀.keeps F.keep) hcd) rfl hbind hcell hloc (fun h₁ hns hk₁ => ?_) hco hgen hk
  exact ks_wpAt_mono (h s.heap.objs.size h₁ ⟨hns, fun b o e => hk₁ b o (of_hideAll _ e), Nat.le_of_eq (hideAll_size _ _)⟩
    (fun p hp => ⟨hk₁ _ _ (N p hp).1, Nat.ne_of_lt (Heap.lt_size (N p hp).1), hideAll_none _ (List.mem_map_of_mem hp)⟩) BG (X₀.keeps st) (T.keeps st) (fun p hp => Heap.lt_size (N p hp).1)) (fun fl s' hl => let ⟨_, _, F', k⟩ := hl; k F'.keep) fun _ _ y => y
end

theorem init_ok {prog : Program} {w : World} {p : Program} {loose : List Str} {mean : ExcName → Option Value} {mg mb : Str → Option Value} {A₀ A : Around} {base h₀ : Heap} {L : Addr} {m : Str → Option Value} {s : Shared} {Q E : Value → Shared → Prop} {env : Env} {outer : List Env} {e t0 : Addr} {x : Str} {tx : Tok}
    (B : Below A₀ base outer h₀) (F : Fr h₀ L s.heap m) (X : (Mine.HK w.params).In h₀) (N : News h₀ L s.heap [(e, excNew 67 t0), (t0, excTup [.str x tx])]) (T : Top p loose mean mg mb h₀)
    (hA : A.frames = some (env :: outer)) (hf : env.frame = some L) (hke : env.scope.kind = .function) (hdp : A.depth + 8 < recursionLimit) (hu : A.units + 80 < cLine) (hfile : ((prog.main.file : Str) == ("/claim/cut.py" : Str)) = true) (hsup : (prog.main.scope.names.lookup ("super" : Str)).isSome = false)
    (hq : ∀ h' tk' t d, Told s.heap h' e t0 t d [.str x tx] → Q .none { s with heap := h', toks := tk' }) :
    wpAny (model prog w) A (call (.ref 37) [.ref e, .str x tx]) Q E s := by
  k_with_none
  k_with "my execs cons" => (k_here; first | k_gentoks | ((with_reducible refine wpAny_execs_cons ?_); (try dsimp only); k_fold))
  k_with "my LeaveC" => (refine leaveC_ (by assumption) ?_; intro kK9w; (try dsimp only))
  k_with "my UROOM" => first | omega | ((simp only [units_in1, units_deeper]); (try dsimp only [ktrTop]); omega)
  refine wpAny_call ?_
  k_dflt (refine' enterS ?k1 ?k2 ?k3 ?k4 ?k5 ?kA ?kF ?kK ?k6 ?k7 ?k8 ?k9 ?kB ?_ ?c1 ?c2 ?c3 ?c4; (case kA => exact hA); (case kF => exact hf); (case kK => exact hke); (case k1 => k_asm); (case k2 => k_asm); (case k3 => k_asm); (case k4 => k_asm); (case k5 => k_asm); (case k6 => k_is); (case k7 => k_is); (case k8 => omega); (case k9 => exact BindsTo.of_eq rfl); (case kB => exact locs rfl); (case c1 => decide); (case c2 => exact rfl); (case c3 => exact rfl); (case c4 => exact rfl); intro L' h' F' N' B' X' T' l1; (try dsimp only))
  generalize hg : hideAll s.heap _ = g at *
  have hsz : g.objs.size = s.heap.objs.size := by rw [← hg]; exact hideAll_size _ _
  have hkg : ∀ b o, b ≠ e → b ≠ t0 → s.heap.get? b = some o → g.get? b = some o := fun b o n1 n2 q => by
    rw [← hg]
    exact hideAll_get _ q (by simp [n1, n2])
  clear F B X T N
  have I0 : InstAt h' e (excNew 67 t0) 67 none := ⟨News.get N' (.head _), rfl, rfl, trivial⟩
  k_steps
  k_here
  k_dflt (refine ks_node (by k_asm) (by k_asm) (by k_asm) (by k_asm) (by k_is) (by rfl) (by rfl) I0 (by k_is) (by rfl) hfile (by k_is) (by k_is) (by k_is) (by k_is) (by decide) (by rfl) (by rfl) (by rfl) (by rfl) hsup (by first | boot_by_name | rfl | kernel_rfl) ?_; intro so' h' F' N' l2)
  obtain ⟨nm, q, bs, sub, k0, k1, k2, k3, k5, hC67⟩ := k67 w.params
  obtain ⟨cd, hcd, hmro⟩ := k67cls w.params
  have X2 := X'.keeps F'.keep
  have hC := X2 _ _ hC67
  have hM : Looks (model prog w) h' (mroOf (.ref 67)) cd.mro := (looks_clsIn X2 hcd).andThen .now
  have heC : e ≠ 67 := by
    intro q
    have z := (N' _ (.tail _ (.head _))).2.2
    have y := X' _ _ hC67
    rw [q] at z
    rw [z] at y
    cases y
  k_here
  k_dflt (refine sup_method (l := [.type "Exception", .type "BaseException", .type "object"]) (News.get N' (.head _)) (looks_opaque X2 (kany _)) hM (by rw [hmro]; rfl) X2 (k67along _) heC (by decide) (by rfl) hC (News.get N' (.tail _ (.head _))) rfl ?_)
  have N3 : News g L' (h'.push (mwObj e)) [(h'.objs.size, mwObj e), (so', ks_superObj 47 e 67), (e, excNew 67 t0), (t0, excTup [.str x tx])] := by
    refine (ks_newsPush (s := { s with heap := h' }) F' N' rfl (Heap.get?_push_at rfl rfl) (fun b o e => Heap.get?_push_of_some _ e)).2.1
  have F3 := F'.push (mwObj e)
  k_here
  k_dflt (refine callWith_mw (e := e) ?_)
  k_steps
  · exact Heap.get?_push_at rfl rfl
  have he3 := News.get N3 (.tail _ (.tail _ (.head _)))
  have hge : g.get? e = none := (N3 _ (.tail _ (.tail _ (.head _)))).2.2
  have heL : e ≠ L' := (N3 _ (.tail _ (.tail _ (.head _)))).2.1
  k_here
  k_dflt (refine mw_call (by decide) (Heap.get?_push_of_some _ hC) (Heap.get?_push_at rfl rfl) he3 ?_)
  intro h4 A4
  have F4 := fr_other F3 A4.other hge heL
  have hlt4 : s.heap.objs.size ≤ (h'.push (mwObj e)).objs.size := by
    rw [← hsz]
    exact Nat.le_of_lt (Nat.lt_of_le_of_lt F3.above F3.ns.lt)
  have N4 : News g L' h4 [(e, excNew 67 (h'.push (mwObj e)).objs.size), ((h'.push (mwObj e)).objs.size, excTup [.str x tx])] := by
    intro p hp
    rcases List.mem_cons.mp hp with rfl | hp
    · exact ⟨A4.there, heL, hge⟩
    · obtain rfl := List.mem_singleton.mp hp
      exact ⟨A4.args, Nat.ne_of_gt F3.ns.lt, get_none (by rw [hsz]; exact hlt4)⟩
  clear F' N' F3 N3 I0
  k_steps
  have X4 := X'.keeps F4.keep
  have hpass : ∀ self : Value, refuseLoop self "__setattr__" [.ref 47, .type "Exception", .type "BaseException", .type "object"] = pure () := fun self => by rw [refuseLoop_ref]; exact PySem.F.store_Exception.passes self
  k_here
  k_dflt (refine exc_store X4 (X4 _ _ hC67) A4.there (k67set _) (k67what _) (k67obj _) hpass ?_)
  intro h5 tk5 d5 he5 ho5
  have F5 := fr_other F4 ho5 hge heL
  clear F4
  k_steps
  refine hq _ _ (h'.push (mwObj e)).objs.size d5 ⟨fun b o n1 n2 q => F5.keep _ _ (hkg b o n1 n2 q), he5, ?_, hlt4⟩
  refine ho5 _ _ ?_ A4.args
  intro z
  have y := Heap.lt_size he3
  rw [z] at y
  exact absurd y (Nat.lt_irrefl _)
end
section
structure Fault (h h' : Heap) (e t d : Addr) (vs : List Value) : Prop where
  keeps : ∀ b o, h.get? b = some o → h'.get? b = some o
  new : h.objs.size ≤ e
  there : h'.get? e = some (excHas 67 t d)
  args : h'.get? t = some (excTup vs)
  fresh : h.objs.size ≤ t
theorem fault_ok {prog : Program} {w : World} {p : Program} {loose : List Str} {mean : ExcName → Option Value} {mg mb : Str → Option Value} {A₀ A : Around} {base h₀ : Heap} {L : Addr} {m : Str → Option Value} {s : Shared} {Q E : Value → Shared → Prop} {env : Env} {outer : List Env} {x : Str} {tx : Tok}
    (B : Below A₀ base outer h₀) (F : Fr h₀ L s.heap m) (X : (Mine.HK w.params).In h₀) (T : Top p loose mean mg mb h₀)
    (hA : A.frames = some (env :: outer)) (hf : env.frame = some L) (hke : env.scope.kind = .function) (hdp : A.depth + 9 < recursionLimit) (hu : A.units + 90 < cLine) (hfile : ((prog.main.file : Str) == ("/claim/cut.py" : Str)) = true) (hsup : (prog.main.scope.names.lookup ("super" : Str)).isSome = false)
    (hq : ∀ h' tk' e t d, Fault s.heap h' e t d [.str x tx] → Q (.ref e) { s with heap := h', toks := tk' }) :
    wpAny (model prog w) A (call (.ref 67) [.str x tx]) Q E s := by
  obtain ⟨hh, g, d, t, os⟩ := s
  obtain ⟨nm, q, bs, sub, k0, k1, k2, k3, k5, hC67⟩ := k67 w.params
  have X1 := X.keeps F.keep
  refine exc_call X1 (by decide) (by decide) (by decide) (X1 _ _ hC67) (k67init _) (k67init' _) (by show 1 ≤ sizeLine; rw [sizeLine_eq]; decide) ?_
  have kk : ∀ b o, hh.get? b = some o → ((hh.push (excTup [.str x tx])).push (excNew 67 hh.objs.size)).get? b = some o := fun b o e => Heap.get?_push_of_some _ (Heap.get?_push_of_some _ e)
  have none0 : ∀ b, hh.objs.size ≤ b → h₀.get? b = none := fun b hb => by
    cases z : h₀.get? b with
    | none => rfl
    | some o => exact absurd (Heap.lt_size (F.keep _ _ z)) (Nat.not_lt.mpr hb)
  refine init_ok (e := hh.objs.size + 1) (t0 := hh.objs.size) (env := env) (outer := outer) (s := ⟨(hh.push (excTup [.str x tx])).push (excNew 67 hh.objs.size), g, d, t, os⟩) B ((F.push _).push _) X ?_ T hA hf hke ?_ ?_ hfile hsup ?_
  · intro p hp
    rcases List.mem_cons.mp hp with rfl | hp
    · exact ⟨Heap.get?_push_at (by simp only [Heap.size_push]) rfl, Nat.ne_of_gt (Nat.lt_succ_of_lt F.ns.lt), none0 _ (Nat.le_succ _)⟩
    · obtain rfl := List.mem_singleton.mp hp
      exact ⟨Heap.get?_push_of_some _ (Heap.get?_push_at rfl rfl), Nat.ne_of_gt F.ns.lt, none0 _ (Nat.le_refl _)⟩
  · exact hdp
  · exact Nat.lt_of_le_of_lt (Nat.add_le_add_left (by decide : 81 ≤ 90) A.units) hu
  · intro h' tk' t1 d1 D
    refine ⟨rfl, hq _ _ _ t1 d1 ⟨fun b o e => D.other b o (fun z => ?_) (fun z => ?_) (kk _ _ e), Nat.le_succ _, D.there, D.args, ?_⟩⟩
    · have y := Heap.lt_size e; rw [z] at y; exact absurd y (Nat.not_lt.mpr (Nat.le_succ _))
    · have y := Heap.lt_size e; rw [z] at y; exact absurd y (Nat.lt_irrefl _)
    · have := D.fresh
      simp only [Heap.size_push] at this
      show hh.objs.size ≤ t1
      omega

def ExcCls (h : Heap) (C : Addr) : Prop := ∃ nm q N bs bm hdct sn sub ab col dd k0 k1 k2 k3 k5 newId, h.get? C = some (excClassObj nm q C N bs bm hdct sn sub ab col dd k0 k1 k2 k3 k5 newId) ∧ (Value.ref C :: bm).contains (.type "BaseException") = true
theorem excCls67 {P : Params} {h : Heap} (X : (Mine.HK P).In h) : ExcCls h 67 := by
  obtain ⟨nm, q, bs, sub, k0, k1, k2, k3, k5, hC67⟩ := k67 P
  exact ⟨nm, q, 66, bs, _, true, [], sub, false, none, none, k0, k1, k2, k3, k5, "Exception.__new__", X _ _ hC67, by decide⟩
def RaisableX (E : Value → Shared → Prop) (v : Value) (s₁ : Shared) : Prop := ∃ C e t dx, v = .ref e ∧ ExcCls s₁.heap C ∧ s₁.heap.get? e = some (excHas C t dx) ∧ E (.ref e) s₁
section
variable {M : Model} {A : Around} {E : Value → Shared → Prop} {env : Env} {s : Shared}
theorem raise_stmt {x : Sem Value} {Q : Flow → Shared → Prop} (hh : A.handled = none) (h : wpAny M A x (RaisableX E) E s) : wpAny M A (raiseStmt env (some x) none) Q E s := by
  unfold raiseStmt
  refine wpAny_bind (wpAny_mono h (fun v s₁ h₁ => ?_) fun _ _ x => x)
  obtain ⟨C, e, t, dx, rfl, ⟨nm, q, N, bs, bm, hdct, sn, sub, ab, col, dd, k0, k1, k2, k3, k5, newId, hC, hcB⟩, he, hE⟩ := h₁
  obtain ⟨hp, g, d, tk, os⟩ := s₁
  repeat (first | with_reducible refine wpAny_loadPart_at he ?_ | with_reducible refine wpAny_loadPart_at hC ?_ | (with_reducible refine wpAny_isSubtype_exc hC ?_; rw [hcB]) | wp_step)
  exact wpAny_raiseNew_none hh hE
theorem raise_exec {ex : PySem.Expr} {pos : Pos} {Q : Flow → Shared → Prop} (hh : A.handled = none) (h : wpAny M A (eval ex env) (RaisableX E) E s) : wpAny M A (exec (.Raise (some ex) none pos) env) Q E s := by
  rw [arm_exec_Raise]
  refine wpAny_bind (wpAny_standAt (raise_stmt hh ?_))
  exact wpAny_bind (wpAny_mono h (fun v s₁ q => wpAny_bind (wpAny_standAt (wpAny_pure q))) fun _ _ x => x)
end
end
section
section
variable {M : Model} {A : Around} {E : Value → Shared → Prop} {s' : Shared} {base g h : Heap} {outer : List Env} {L a e t d : Addr} {m : Str → Option Value} {name : Str} {scope : Scope} {cd : Value} {Q : Unit → Shared → Prop}
theorem leave_fault {vs : List Value} (K : Below A base outer g) (hx : Fault h s'.heap e t d vs) (F : Fr g L h m)
    (hQ : ∀ h', RaisedS base g outer e (.ref 67) t vs [] h' → g.UpToSlots h' → Q () { s' with heap := h' }) (hk : scope.kind = .function := by rfl) :
    wpAny M (A.deeper (envOf name scope L a cd)) (leaving (envOf name scope L a cd) (.ref e)) Q E s' := by
  have K' := K.push (name := name) (a := a) (cd := cd) F hk
  have hin : ∀ env ∈ (envOf name scope L a cd :: outer), ∀ b, env.frame = some b → b ∈ (envOf name scope L a cd :: outer).filterMap (·.frame) := fun env he b hb => List.mem_filterMap.mpr ⟨env, he, hb⟩
  have st : base.StaysIn (hideAll h ((envOf name scope L a cd :: outer).filterMap (·.frame))) := fun b o q => hideAll_get _ (K'.stays b o q) fun hm => by
    rw [(K'.frames.mem hm).1] at q; cases q
  have sg : ∀ b o, g.get? b = some o → b ∉ outer.filterMap (·.frame) → (hideAll h ((envOf name scope L a cd :: outer).filterMap (·.frame))).get? b = some o := fun b o q nm => hideAll_get _ (F.keep b o q) fun hm => by
    rcases kts_mem hm with z | z
    · rw [z, kts_self F] at q
      cases q
    · exact nm z
  have none_h : ∀ b, h.objs.size ≤ b → (hideAll h ((envOf name scope L a cd :: outer).filterMap (·.frame))).get? b = none := fun b hb => get_none (by rw [hideAll_size]; exact hb)
  refine wpAny_leaving_firstW (a0 := .ref t) (base := hideAll h ((envOf name scope L a cd :: outer).filterMap (·.frame))) K'.stack ((funFrames_hide K'.frames hin).of_keeps fun b o hb _ => ⟨o, hx.keeps b o hb, rfl⟩) rfl hx.there (fun b o hb => hx.keeps b o (of_hideAll _ hb)) (none_h _ hx.new) rfl rfl rfl fun h' hL => ?_
  obtain ⟨k1, ⟨_, _, k2⟩, k3, k4⟩ := hL
  exact hQ h' ⟨⟨_, st, sg, (fun _ hq => nomatch hq), ⟨k1, none_h _ hx.new, k2, k3⟩, none_h _ hx.fresh⟩, Heap.TupAt.of_slots ⟨_, _, hx.args, rfl, rfl⟩ k4⟩ (((Heap.UpToSlots.of_keeps F.keep).trans (Heap.UpToSlots.of_keeps hx.keeps)).trans k4)
end
/-! a ground whose frames' slots are turned -/
def Slotted (g g' : Heap) : Prop := ∀ b o, g.get? b = some o → ∃ sl, g'.get? b = some { o with slots := sl }
theorem Slotted.of_keeps {g g' : Heap} (k : Keeps g g') : Slotted g g' := fun b o e => ⟨o.slots, k b o e⟩
theorem Slotted.trans {g g₁ g₂ : Heap} (x : Slotted g g₁) (y : Slotted g₁ g₂) : Slotted g g₂ := fun b o e => by
  obtain ⟨s1, h1⟩ := x b o e
  obtain ⟨s2, h2⟩ := y b _ h1
  exact ⟨s2, h2⟩
theorem isList_up {g g' : Heap} {l : Addr} {vs : Array Value} (k : Slotted g g') (x : g.IsList l vs) : g'.IsList l vs := by
  obtain ⟨o, ho, hc, n, hd⟩ := x
  obtain ⟨sl, hs⟩ := k _ _ ho
  exact ⟨_, hs, hc, n, hd⟩
theorem isTup_up {g g' : Heap} {l : Addr} {vs : Array Value} (k : Slotted g g') (x : IsTup g l vs) : IsTup g' l vs := by
  obtain ⟨o, ho, hc, n, hd⟩ := x
  obtain ⟨sl, hs⟩ := k _ _ ho
  exact ⟨_, hs, hc, n, hd⟩
mutual
theorem reads_up {g g' : Heap} (k : Slotted g g') : ∀ (d : PyData) (v : Value) (as : List Addr), Reads g v d as → Reads g' v d as
  | .none, _, _, r => by cases r; exact .none
  | .bool b, _, _, r => by cases r; exact .bool b
  | .int i, _, _, r => by cases r with | int _ t => exact .int i t
  | .str x, _, _, r => by cases r with | str _ t => exact .str x t
  | .list xs, _, _, r => by
    cases r with
    | list ho hc hd r =>
      obtain ⟨sl, hs⟩ := k _ _ ho
      exact .list hs hc hd (readsAll_up k xs _ _ r)
  | .tuple xs, _, _, r => by
    cases r with
    | tuple ho hc hd r =>
      obtain ⟨sl, hs⟩ := k _ _ ho
      exact .tuple hs hc hd (readsAll_up k xs _ _ r)
  | .dict kvs, _, _, r => by
    cases r with
    | dict ho hc hd r r2 =>
      obtain ⟨sl, hs⟩ := k _ _ ho
      exact .dict hs hc hd (readsKeys_up k kvs _ _ r) (readsVals_up k kvs _ _ r2)
theorem readsAll_up {g g' : Heap} (k : Slotted g g') : ∀ (ds : List PyData) (vs : List Value) (as : List Addr), ReadsAll g vs ds as → ReadsAll g' vs ds as
  | [], _, _, r => by cases r; exact .nil
  | d :: ds, _, _, r => by
    cases r with
    | cons r1 r2 => exact .cons (reads_up k d _ _ r1) (readsAll_up k ds _ _ r2)
theorem readsKeys_up {g g' : Heap} (k : Slotted g g') : ∀ (ds : List (PyData × PyData)) (vs : List Value) (as : List Addr), ReadsAll g vs (ds.map (·.1)) as → ReadsAll g' vs (ds.map (·.1)) as
  | [], _, _, r => by cases r; exact .nil
  | (a, b) :: ds, _, _, r => by
    cases r with
    | cons r1 r2 => exact .cons (reads_up k a _ _ r1) (readsKeys_up k ds _ _ r2)
theorem readsVals_up {g g' : Heap} (k : Slotted g g') : ∀ (ds : List (PyData × PyData)) (vs : List Value) (as : List Addr), ReadsAll g vs (ds.map (·.2)) as → ReadsAll g' vs (ds.map (·.2)) as
  | [], _, _, r => by cases r; exact .nil
  | (a, b) :: ds, _, _, r => by
    cases r with
    | cons r1 r2 => exact .cons (reads_up k b _ _ r1) (readsVals_up k ds _ _ r2)
end
theorem Rd.up {g g' : Heap} {v : Value} {d : PyData} (k : Slotted g g') (x : Rd g v d) : Rd g' v d := let ⟨as, r⟩ := x; ⟨as, reads_up k _ _ _ r⟩
theorem It.At.up {g g' : Heap} {v : Value} {it : It} (k : Slotted g g') (x : it.At g v) : it.At g' v := ⟨x.1.up k, x.2⟩
theorem Its.up {g g' : Heap} {vs : List Value} {is : List It} (k : Slotted g g') (x : Its g vs is) : Its g' vs is := by
  induction x with
  | nil => exact .nil
  | cons a _ ih => exact .cons (a.up k) ih
theorem Seen.up {g g' : Heap} {r : Addr} {tag : Str} {is : List It} (k : Slotted g g') (x : Seen g r tag is) : Seen g' r tag is := by
  obtain ⟨t, v2, h1, h2⟩ := x
  refine ⟨t, v2, isTup_up k h1, fun e => ?_⟩
  obtain ⟨T, us, h3, h4, h5, h6⟩ := h2 e
  exact ⟨T, us, h3, isTup_up k h4, h5.up k, h6⟩
theorem Slotted.of_turn {fs : List Addr} {g g' : Heap} (T : KtsTurn fs g g') : Slotted g g' := fun _ _ e => T.up e
theorem Seen.keeps {g g' : Heap} {r : Addr} {tag : Str} {is : List It} (x : Seen g r tag is) (k : Keeps g g') : Seen g' r tag is := x.up (Slotted.of_keeps k)
theorem isList_keeps {g g' : Heap} {l : Addr} {vs : Array Value} (x : g.IsList l vs) (k : Keeps g g') : g'.IsList l vs := isList_up (Slotted.of_keeps k) x

section
variable {A₀ : Around} {base h₀ h g' h' : Heap} {outer : List Env} {L : Addr} {m : Str → Option Value} {news : List (Addr × Obj)}
/-- the caller's ground behind a call that turned the frames' slots -/
theorem turned (B : Below A₀ base outer h₀) (F : Fr h₀ L h m) (N : News h₀ L h news) (D : KtsDicts (outer.filterMap (·.frame)) h₀) (T : KtsTurn (L :: outer.filterMap (·.frame)) h g') (k : Keeps g' h') (nN : ∀ p ∈ news, p.1 ∉ outer.filterMap (·.frame)) :
    ∃ h₁, KtsTurn (outer.filterMap (·.frame)) h₀ h₁ ∧ Fr h₁ L h' m ∧ News h₁ L h' news ∧ Below A₀ base outer h₁ ∧ KtsDicts (outer.filterMap (·.frame)) h₁ := by
  have nL : h₀.get? L = none := kts_self F
  obtain ⟨T₁, S₁⟩ := kts_turn_at (h := h') (fs := outer.filterMap (·.frame)) (g := h₀)
    (fun b hb => by
      obtain ⟨_, o, ho', _⟩ := B.frames.mem hb
      exact ⟨o, ho'⟩)
    (fun b o e nmem => k _ _ (T.other b o (F.keep b o e) (fun q => by
      rcases List.mem_cons.mp q with z | z
      · rw [z, nL] at e
        cases e
      · exact nmem z)))
    (fun b o e hm => by
      obtain ⟨sl, hs⟩ := T.up (F.keep b o e)
      exact ⟨sl, k _ _ hs⟩)
  refine ⟨_, T₁, ⟨?_, S₁, by rw [T₁.size]; exact F.above⟩, fun p hp => ?_, ⟨B.stack, fun b o e => T₁.other b o (B.stays b o e) (fun hm => by
    rw [(B.frames.mem hm).1] at e
    cases e), B.frames.of_keeps fun b o e _ => ?_⟩, D.turn T₁⟩
  · obtain ⟨oL, es, ep, hL, r1, r2, r3⟩ := F.ns
    obtain ⟨sl, hs⟩ := T.up hL
    exact ⟨_, es, ep, k _ _ hs, r1, r2, r3⟩
  · refine ⟨k _ _ (T.other _ _ (N p hp).1 fun q => ?_), (N p hp).2.1, T₁.none_ _ (N p hp).2.2⟩
    rcases List.mem_cons.mp q with z | z
    · exact (N p hp).2.1 z
    · exact nN p hp z
  · obtain ⟨sl, hs⟩ := T₁.up e
    exact ⟨_, hs, rfl⟩
theorem news_noframe (B : Below A₀ base outer h₀) (N : News h₀ L h news) : ∀ p ∈ news, p.1 ∉ outer.filterMap (·.frame) := fun p hp q => by
  obtain ⟨_, o, ho, _⟩ := B.frames.mem q
  rw [(N p hp).2.2] at ho
  cases ho
end
end
section
theorem fillName : Mine.HK = Mine.HK ∧ PySem.Challenge.rw_rg0218_01 = PySem.Challenge.rw_rg0218_01 := by
  k_fill; exact ⟨rfl, rfl⟩

/-- a call of f that may end in the fault -/
def CallX (dd uu : Nat) (prog : Program) (w : World) (K : Frag) (p : Program) (loose : List Str) (mean : ExcName → Option Value) (mg mb : Str → Option Value) (f : Addr) (vs : List Value) (Pre : Heap → Prop) (Post : Heap → Heap → Value → Prop) : Prop :=
  ∀ (dp un : Nat) (gd : Option (List Code)) (cn : Str) (cs : Scope) (a : Addr) (ccd : Value) (cl : List (Str × Addr)) (outer : List Env) (A₀ : Around) (base h₀ : Heap) (L : Addr) (m : Str → Option Value) (s : Shared) (Q E : Value → Shared → Prop),
    Below A₀ base outer h₀ → Fr h₀ L s.heap m → K.In h₀ → Top p loose mean mg mb h₀ → cs.kind = .function → Pre s.heap → dp + dd < recursionLimit → un + uu < cLine →
    (∀ r h' tk', Keeps s.heap h' → Post s.heap h' r → Q r { s with heap := h', toks := tk' }) →
    (∀ e t ws h' tk', RaisedS base s.heap (envX cn cs L a ccd cl :: outer) e (.ref 67) t ws [] h' → s.heap.UpToSlots h' → E (.ref e) { s with heap := h', toks := tk' }) →
    wpAny (model prog w) (ktrTop dp un gd cn cs L a ccd cl outer) (call (.ref f) vs) Q E s

theorem CallX.use {dd uu : Nat} {prog : Program} {w : World} {K : Frag} {p : Program} {loose : List Str} {mean : ExcName → Option Value} {mg mb : Str → Option Value} {f : Addr} {vs : List Value} {Pre : Heap → Prop} {Post : Heap → Heap → Value → Prop} {dp un : Nat} {gd : Option (List Code)} {cn : Str} {cs : Scope} {a : Addr} {ccd : Value} {cl : List (Str × Addr)} {outer : List Env} {A₀ : Around} {base h₀ : Heap} {L : Addr} {m : Str → Option Value} {s : Shared} {news : List (Addr × Obj)} {Q E : Value → Shared → Prop}
    (C : CallX dd uu prog w K p loose mean mg mb f vs Pre Post) (B : Below A₀ base outer h₀) (F : Fr h₀ L s.heap m) (X : K.In h₀) (N : News h₀ L s.heap news) (T : Top p loose mean mg mb h₀) (hk : cs.kind = .function) (pre : Pre s.heap) (hd : dp + dd < recursionLimit) (hu : un + uu < cLine)
    (ret : ∀ r h' tk', Keeps s.heap h' → Fr h₀ L h' m → News h₀ L h' news → Post s.heap h' r → Q r { s with heap := h', toks := tk' })
    (rai : ∀ e t ws h' tk', RaisedS base s.heap (envX cn cs L a ccd cl :: outer) e (.ref 67) t ws [] h' → s.heap.UpToSlots h' → E (.ref e) { s with heap := h', toks := tk' }) :
    wpAny (model prog w) (ktrTop dp un gd cn cs L a ccd cl outer) (call (.ref f) vs) Q E s :=
  C dp un gd cn cs a ccd cl outer A₀ base h₀ L m s Q E B F X T hk pre hd hu (fun r h' tk' k P => ret r h' tk' k
    (by obtain ⟨⟨oL, es, ep, hL, r'⟩, kp, ab⟩ := F; exact ⟨⟨oL, es, ep, k _ _ hL, r'⟩, fun b o e => k _ _ (kp b o e), ab⟩) (fun q hq => ⟨k _ _ (N q hq).1, (N q hq).2⟩) P) rai

theorem name_ok {prog : Program} {w : World} {p : Program} {loose : List Str} {mean : ExcName → Option Value} {mg mb : Str → Option Value} (hfile : ((prog.main.file : Str) == ("/claim/cut.py" : Str)) = true) (hsup : (prog.main.scope.names.lookup ("super" : Str)).isSome = false) (b : Addr) (it : It) (tx : Tok) :
    CallX 16 128 prog w (Mine.HK w.params) p loose mean mg mb 590 [.ref b, .str "!" tx] (fun h => it.At h (.ref b)) (fun _ _ r => ∃ x t, it = .sym x ∧ r = .str x t) := by
  k_with_none
  k_with "my execs cons" => (k_here; first | k_gentoks | ((with_reducible refine wpAny_execs_cons ?_); (try dsimp only); k_fold))
  k_with "my LeaveC" => (refine leaveC_ (by assumption) ?_; intro kK9w; (try dsimp only))
  k_with "my pyIter ref" => refine Stop.out ?_
  k_with "my exec Raise some none" => (k_here; refine raise_exec rfl ?_)
  k_with "my UROOM" => first | omega | ((simp only [units_in1, units_deeper]); (try dsimp only [ktrTop]); omega)
  intro dp un gd cn cs a ccd cl outer A₀ base h₀ L m s Q E B F X T hk x1 hdp hu ret rai
  refine wpAny_call ?_
  k_dflt (refine' enter0 ?k1 ?k2 ?k3 ?k5 ?kA ?kF ?kK ?k6 ?k7 ?k8 ?k9 ?kB ?_ ?c2 ?c3 ?c4 ?c5; (case kA => exact rfl); (case kF => exact rfl); (case kK => assumption); (case k1 => k_asm); (case k2 => k_asm); (case k3 => k_asm); (case k5 => k_asm); (case k6 => k_is); (case k7 => k_is); (case k8 => ktr_room); (case k9 => exact BindsTo.of_eq rfl); (case c5 => decide); (case kB => exact locs rfl); (case c2 => exact rfl); (case c3 => exact rfl); (case c4 => exact rfl); k_whole; intro L' h' F' N' B' X' T'; (try dsimp only); (try k_fold))
  clear F B X T
  k_steps
  refine sub_0 (by assumption) x1 ?_
  intro t1
  k_steps
  · k_here
    k_dflt (refine' fault_ok (L := L') B' ?F X' T' rfl rfl rfl ?dp ?un hfile hsup ?_; (case F => k_asm); (case dp => ktr_room); (case un => walk_at "UROOM"))
    intro h2 tk2 e2 t2 d2 D2
    refine ⟨67, e2, t2, d2, rfl, excCls67 ((X'.keeps (Fr.keep (by k_asm))).keeps D2.keeps), D2.there, ?_⟩
    k_whole
    refine leave_fault B' D2 (by k_asm) (fun h3 R3 U3 => ?_)
    exact rai _ _ _ _ _ R3 U3
  · k_here
    refine sub_1 (by assumption) x1 ?_
    intro v1 r1
    k_steps
    rename (it.tag != _) = false => ht
    obtain ⟨x, rfl⟩ := It.sym_of x1.2 (by simpa using ht)
    obtain ⟨t9, rfl⟩ := r1.str
    exact ret _ _ _ (by assumption) ⟨x, t9, rfl, rfl⟩
end
section
theorem fillNames : Mine.HK = Mine.HK ∧ PySem.Challenge.rw_rg0218_01 = PySem.Challenge.rw_rg0218_01 := by
  k_fill; exact ⟨rfl, rfl⟩

inductive Strs : List Value → List Str → Prop
  | nil : Strs [] []
  | cons {x : Str} {t : Tok} {vs : List Value} {xs : List Str} : Strs vs xs → Strs (.str x t :: vs) (x :: xs)
def NPost (is : List It) (h₀ h : Heap) (r : Value) : Prop := ∃ a vs xs, r = .ref a ∧ h₀.get? a = none ∧ h.IsList a vs ∧ Strs vs.toList xs ∧ xs.getLast? = label (is.drop 2) ∧ xs.length ≤ 20
abbrev NSt := List Value × Nat × Int × Tok
def NInv (is : List It) (c : NSt) : Prop := ∃ xs, Strs c.1 xs ∧ 2 ≤ c.2.2.1 ∧ c.2.2.1 ≤ is.length ∧ xs.getLast? = labTo (is.drop 2) (c.2.2.1 - 2).toNat ∧ (xs.length : Int) ≤ c.2.2.1

theorem Strs.snoc {vs : List Value} {xs : List Str} {x : Str} {t : Tok} (h : Strs vs xs) : Strs (vs ++ [.str x t]) (xs ++ [x]) := by
  induction h with
  | nil => exact .cons .nil
  | cons _ ih => exact .cons ih
theorem Strs.len {vs : List Value} {xs : List Str} (h : Strs vs xs) : vs.length = xs.length := by
  induction h with
  | nil => rfl
  | cons _ ih => simp [ih]
theorem pairOf_nk {a : It} {b : Option It} (h : a.tag ≠ "key") : pairOf (some a) b = none := by
  unfold pairOf
  split
  · rename_i k x e1
    have e2 := Option.some.inj e1
    subst e2
    exact absurd rfl h
  · rfl
theorem pairOf_nn {k : Str} {b : Option It} (h : (k == ("named" : Str)) = false) : pairOf (some (.key k)) b = none := by
  unfold pairOf
  split
  · rename_i k' x e1
    have e2 := Option.some.inj e1
    cases e2
    rw [if_neg (by intro e; rw [e] at h; simp at h)]
  · rfl
theorem labTo_full (is : List It) : labTo is is.length = label is := by
  unfold label
  cases is with
  | nil => rfl
  | cons i r =>
    refine labTo_none ?_
    unfold pairAt
    have : (i :: r)[(i :: r).length - 1 + 1]? = none := by simp
    show pairOf _ (i :: r)[r.length + 1]? = none
    rw [show (i :: r)[r.length + 1]? = none by simp]
    unfold pairOf
    split
    · rename_i e1 e2; cases e2
    · rfl
theorem step_one {is : List It} {pl : Int} {k : Str} (hp : 2 ≤ pl) (e1 : is[pl.toNat]? = some (.key k)) (hk : (k == ("named" : Str)) = false) : labTo (is.drop 2) (pl + 1 - 2).toNat = labTo (is.drop 2) (pl - 2).toNat := by
  have e : (pl + 1 - 2).toNat = (pl - 2).toNat + 1 := by omega
  rw [e]
  refine labTo_none ?_
  rw [pairAt_drop, pairAt, show (pl - 2).toNat + 2 = pl.toNat by omega, e1]
  exact pairOf_nn hk
theorem step_two {is : List It} {pl : Int} {k : Str} {i2 : It} (hp : 2 ≤ pl) (e1 : is[pl.toNat]? = some (.key k)) (hk : (k == ("named" : Str)) = false) (e2 : is[(pl + 1).toNat]? = some i2) (h2 : i2.tag ≠ "key") : labTo (is.drop 2) (pl + 2 - 2).toNat = labTo (is.drop 2) (pl - 2).toNat := by
  have e : (pl + 2 - 2).toNat = (pl + 1 - 2).toNat + 1 := by omega
  rw [e, labTo_none, step_one hp e1 hk]
  rw [pairAt_drop, pairAt, show (pl + 1 - 2).toNat + 2 = (pl + 1).toNat by omega, e2]
  exact pairOf_nk h2
theorem step_named {is : List It} {pl : Int} {x : Str} (hp : 2 ≤ pl) (e1 : is[pl.toNat]? = some (.key "named")) (e2 : is[(pl + 1).toNat]? = some (.sym x)) : labTo (is.drop 2) (pl + 2 - 2).toNat = some x := by
  have e : (pl + 2 - 2).toNat = (pl + 1 - 2).toNat + 1 := by omega
  have e' : (pl + 1 - 2).toNat = (pl - 2).toNat + 1 := by omega
  rw [e, labTo_none, e', labTo_some]
  · rw [pairAt_drop, pairAt, show (pl - 2).toNat + 2 = pl.toNat by omega, show pl.toNat + 1 = (pl + 1).toNat by omega, e1, e2]
    exact pairOf_named x
  · rw [pairAt_drop, pairAt, show (pl + 1 - 2).toNat + 2 = (pl + 1).toNat by omega, e2]
    exact pairOf_nk (fun h => ks h.symm)

theorem names_ok {prog : Program} {w : World} {p : Program} {loose : List Str} {mean : ExcName → Option Value} {mg mb : Str → Option Value} (hfile : ((prog.main.file : Str) == ("/claim/cut.py" : Str)) = true) (hsup : (prog.main.scope.names.lookup ("super" : Str)).isSome = false) (rd l : Addr) (us : List Value) (is : List It) :
    CallX 32 256 prog w (Mine.HK w.params) p loose mean mg mb 763 [.ref rd, .ref l] (fun h => h.IsList l us.toArray ∧ Its h us is ∧ us.length ≤ 20) (fun h h' r => NPost is h h' r) := by
  k_with_none
  k_with "my subscriptTail" => (k_here; (with_reducible show wpAny _ _ (subscriptTail _ _ (Value.ref _) (Value.int _ _)) _ _ _); refine Stop.out ?_)
  k_with "my call builtin:len" => (k_here; (with_reducible show wpAny _ _ (call (Value.builtin _) [Value.ref _]) _ _ _); refine Stop.out ?_)
  k_with "my LeaveC" => (refine leaveC_ (by assumption) ?_; intro kK9w; (try dsimp only))
  k_with "my pyIter ref" => refine Stop.out ?_
  k_with "my exec Raise some none" => (k_here; refine raise_exec rfl ?_)
  k_with "my exec While Compare cons nil" => refine Stop.out ?_
  k_with "my KswEnd" => refine Stop.out ?_
  k_with "my compareOp NotEq str str" => (k_here; refine ne_str2 ?_ ?_ <;> intro hc9w)
  k_with "my UROOM" => first | omega | ((simp only [units_in1, units_deeper]); (try dsimp only [ktrTop]); omega)
  intro dp un gd cn cs a ccd cl outer A₀ base h₀ L m s Q E B F X T hk hP hdp hu ret rai
  obtain ⟨hl, hi, hn⟩ := hP
  have hlen := hi.length
  refine wpAny_call ?_
  k_dflt (refine' enter0 ?k1 ?k2 ?k3 ?k5 ?kA ?kF ?kK ?k6 ?k7 ?k8 ?k9 ?kB ?_ ?c2 ?c3 ?c4 ?c5; (case kA => exact rfl); (case kF => exact rfl); (case kK => assumption); (case k1 => k_asm); (case k2 => k_asm); (case k3 => k_asm); (case k5 => k_asm); (case k6 => k_is); (case k7 => k_is); (case k8 => ktr_room); (case k9 => exact BindsTo.of_eq rfl); (case c5 => decide); (case kB => exact locs rfl); (case c2 => exact rfl); (case c3 => exact rfl); (case c4 => exact rfl); k_whole; intro L' h' F' N' B' X' T'; (try dsimp only); (try k_fold))
  clear F B X T
  k_steps
  all_goals (try with_reducible refine Stop.mk ?_)
  k_here
  k_dflt (refine' kun_lenL (k := (us.length : Int)) ?hl ?hk ?hz ?_; (case hl => exact hl.at fun o e => (Fr.keep (by k_asm)) l o e); (case hk => simp); (case hz => omega))
  k_steps
  all_goals (try with_reducible refine Stop.mk ?_)
  · k_here
    k_dflt (refine' fault_ok (L := L') B' ?F X' T' rfl rfl rfl ?dp ?un hfile hsup ?_; (case F => k_asm); (case dp => ktr_room); (case un => walk_at "UROOM"))
    intro h2 tk2 e2 t2 d2 D2
    refine ⟨67, e2, t2, d2, rfl, excCls67 ((X'.keeps (Fr.keep (by k_asm))).keeps D2.keeps), D2.there, ?_⟩
    k_whole
    refine leave_fault B' D2 (by k_asm) (fun h3 R3 U3 => ?_)
    exact rai _ _ _ _ _ R3 U3
  · rename (¬ (us.length : Int) < 3) => h3
    (try with_reducible refine Stop.mk ?_)
    rename_i tkp fl hA lA DD hB lB hC hD hE FW NW
    with_unfolding_all refine' ksw_while (σ := NSt) (fun c => [(fl, listOf c.1.toArray c.2.1)]) (fun c => [(Str.ofString "place", .int c.2.2.1 c.2.2.2)]) (fun _ => True) [Str.ofString "has_worth"] (NInv is) (fun c => ((is.length : Int) - c.2.2.1).toNat) ([], 0, 2, tkp) FW ?kn True.intro ?kk ?kp ?_
    case kn => exact kst_newsOf NW (by intro p hp; obtain rfl := List.mem_singleton.mp hp; exact .tail _ (.head _))
    case kk => exact List.forall_mem_cons.mpr ⟨rfl, List.forall_mem_nil _⟩
    case kp => exact ⟨[], .nil, by show (2 : Int) ≤ 2; decide, by show (2 : Int) ≤ _; omega, rfl, by show (0 : Int) ≤ 2; decide⟩
    rintro ⟨vs, n, pl, tp⟩ u h tk _ ⟨xs, hxs, hp2, hpl, hlab, hxl⟩ FT NT
    dsimp only at hxs hp2 hpl hlab hxl FT NT
    clear FW NW
    (try k_fold)
    k_steps
    all_goals (try with_reducible refine Stop.mk ?_)
    k_here
    k_dflt (refine' kun_lenL (k := (us.length : Int)) ?hl ?hk ?hz ?_; (case hl => exact hl.at fun o e => (Fr.keep (by k_asm)) l o e); (case hk => simp); (case hz => omega))
    k_steps
    all_goals (try with_reducible refine Stop.mk ?_)
    · rename (pl < (us.length : Int)) => hlt
      k_here
      refine sub_list (by assumption) hl hi (by omega) (by omega) (by omega) ?_
      intro a1 i1 e1 x1
      k_steps
      all_goals (try with_reducible refine Stop.mk ?_)
      k_here
      refine sub_0 (by assumption) x1 ?_
      intro t1
      k_steps
      all_goals (try with_reducible refine Stop.mk ?_)
      · k_here
        k_dflt (refine' fault_ok (L := L') B' ?F X' T' rfl rfl rfl ?dp ?un hfile hsup ?_; (case F => k_asm); (case dp => ktr_room); (case un => walk_at "UROOM"))
        intro h2 tk2 e2 t2 d2 D2
        refine ⟨67, e2, t2, d2, rfl, excCls67 ((X'.keeps (Fr.keep (by k_asm))).keeps D2.keeps), D2.there, ?_⟩
        k_whole
        refine leave_fault B' D2 (by k_asm) (fun h3 R3 U3 => ?_)
        exact rai _ _ _ _ _ R3 U3
      · rename (i1.tag = _) => ht1
        obtain ⟨k1, rfl⟩ := It.key_of x1.2 ht1
        k_here
        k_dflt (refine' kun_lenL (k := (us.length : Int)) ?hl ?hk ?hz ?_; (case hl => exact hl.at fun o e => (Fr.keep (by k_asm)) l o e); (case hk => simp); (case hz => omega))
        k_steps
        all_goals (try with_reducible refine Stop.mk ?_)
        · rename (pl + 1 < (us.length : Int)) => hlt2
          k_here
          refine sub_list (by assumption) hl hi (by omega) (by omega) (by omega) ?_
          intro a2 i2 e2 x2
          k_steps
          all_goals (try with_reducible refine Stop.mk ?_)
          k_here
          refine sub_0 (by assumption) x2 ?_
          intro t2
          k_steps
          all_goals (try with_reducible refine Stop.mk ?_)
          · rename (i2.tag ≠ _) => ht2
            k_here
            refine sub_list (by assumption) hl hi (by omega) (by omega) (by omega) ?_
            intro a3 i3 e3 x3
            k_steps
            all_goals (try with_reducible refine Stop.mk ?_)
            k_here
            refine sub_1 (by assumption) x3 ?_
            intro v3 r3
            obtain rfl := Option.some.inj (e1.symm.trans e3)
            obtain ⟨t3, rfl⟩ := r3.str
            k_steps
            all_goals (try with_reducible refine Stop.mk ?_)
            · rename (k1 == _) = true => hk1
              k_here
              refine sub_list (by assumption) hl hi (by omega) (by omega) (by omega) ?_
              intro a4 i4 e4 x4
              k_steps
              all_goals (try with_reducible refine Stop.mk ?_)
              k_here
              k_dflt (refine' CallX.use (name_ok hfile hsup a4 i4 _) ?B ?F ?X ?N ?T rfl ?pre ?hd ?hu ?ret ?rai; (case B => exact B'); (case F => k_asm); (case X => exact X'); (case N => k_asm); (case T => exact T'); (case pre => exact x4.keeps (Fr.keep (by k_asm))); (case hd => ktr_room); (case hu => walk_at "UROOM"))
              case rai =>
                intro e5 t5 ws5 h5 tk5 R5 U5
                k_whole
                refine leave_onS B' (by k_asm) R5 U5 (fun h6 R6 _ U6 => ?_)
                exact rai _ _ _ _ _ R6 U6
              intro r5 h5 tk5 k5 F5 N5 P5
              obtain ⟨x5, t5, rfl, rfl⟩ := P5
              k_steps
              all_goals (try with_reducible refine Stop.mk ?_)
              k_here
              k_dflt (refine' append_K ?k1 ?k2 ?k3 ?_ ?z; (case k1 => k_asm); (case k2 => k_asm); (case k3 => k_upd); (case z => (have hsl := hxs.len; simp only [List.size_toArray, sizeLine_eq]; omega)); k_whole)
              intro h' F' N'
              k_steps
              all_goals (try with_reducible refine Stop.mk ?_)
              obtain rfl := str_eq hk1
              (try with_reducible refine Stop.mk ?_)
              rename News _ _ _ _ => nE'
              simp only [List.push_toArray] at nE'
              refine ksw_end (vs ++ [.str x5 t5], n + 1, pl + 2, _) (by assumption) nE' (by intro p hp; kst_mem) True.intro (List.forall_mem_cons.mpr ⟨rfl, List.forall_mem_nil _⟩) (by intro z h2 h3; have h4 : z ≠ Str.ofString "place" := h2 _ (List.Mem.head _); have h5 : z ≠ Str.ofString "has_worth" := (by intro q; subst q; simp at h3); simp [kstB, h4, h5]) ?_ ?ms
              case ms => show Int.toNat (_ - (pl + 2)) < Int.toNat (_ - pl); omega
              refine ⟨xs ++ [x5], hxs.snoc, by show 2 ≤ pl + 2; omega, by show pl + 2 ≤ _; omega, ?_, by show ((xs ++ [x5]).length : Int) ≤ pl + 2; rw [List.length_append, List.length_singleton]; omega⟩
              rw [step_named hp2 e1 e4]
              simp
            · rename (k1 == _) = false => hk1
              (try with_reducible refine Stop.mk ?_)
              rename News _ _ _ _ => nE'
              refine ksw_end (vs, n, pl + 2, _) (by assumption) nE' (by intro p hp; kst_mem) True.intro (List.forall_mem_cons.mpr ⟨rfl, List.forall_mem_nil _⟩) (by intro z h2 h3; have h4 : z ≠ Str.ofString "place" := h2 _ (List.Mem.head _); have h5 : z ≠ Str.ofString "has_worth" := (by intro q; subst q; simp at h3); simp [kstB, h4, h5]) ?_ ?ms
              case ms => show Int.toNat (_ - (pl + 2)) < Int.toNat (_ - pl); omega
              exact ⟨xs, hxs, by show 2 ≤ pl + 2; omega, by show pl + 2 ≤ _; omega, hlab.trans (step_two hp2 e1 hk1 e2 ht2).symm, by show _ ≤ pl + 2; omega⟩
          · rename (i2.tag = _) => ht2
            k_here
            refine sub_list (by assumption) hl hi (by omega) (by omega) (by omega) ?_
            intro a3 i3 e3 x3
            k_steps
            all_goals (try with_reducible refine Stop.mk ?_)
            k_here
            refine sub_1 (by assumption) x3 ?_
            intro v3 r3
            obtain rfl := Option.some.inj (e1.symm.trans e3)
            obtain ⟨t3, rfl⟩ := r3.str
            k_steps
            all_goals (try with_reducible refine Stop.mk ?_)
            · k_here
              k_dflt (refine' fault_ok (L := L') B' ?F X' T' rfl rfl rfl ?dp ?un hfile hsup ?_; (case F => k_asm); (case dp => ktr_room); (case un => walk_at "UROOM"))
              intro h2 tk2 e2 t2 d2 D2
              refine ⟨67, e2, t2, d2, rfl, excCls67 ((X'.keeps (Fr.keep (by k_asm))).keeps D2.keeps), D2.there, ?_⟩
              k_whole
              refine leave_fault B' D2 (by k_asm) (fun h3 R3 U3 => ?_)
              exact rai _ _ _ _ _ R3 U3
            · rename (k1 == _) = false => hk1
              (try with_reducible refine Stop.mk ?_)
              rename News _ _ _ _ => nE'
              refine ksw_end (vs, n, pl + 1, _) (by assumption) nE' (by intro p hp; kst_mem) True.intro (List.forall_mem_cons.mpr ⟨rfl, List.forall_mem_nil _⟩) (by intro z h2 h3; have h4 : z ≠ Str.ofString "place" := h2 _ (List.Mem.head _); have h5 : z ≠ Str.ofString "has_worth" := (by intro q; subst q; simp at h3); simp [kstB, h4, h5]) ?_ ?ms
              case ms => show Int.toNat (_ - (pl + 1)) < Int.toNat (_ - pl); omega
              exact ⟨xs, hxs, by show 2 ≤ pl + 1; omega, by show pl + 1 ≤ _; omega, hlab.trans (step_one hp2 e1 hk1).symm, by show _ ≤ pl + 1; omega⟩
        · rename (¬ pl + 1 < (us.length : Int)) => hlt2
          k_here
          refine sub_list (by assumption) hl hi (by omega) (by omega) (by omega) ?_
          intro a3 i3 e3 x3
          k_steps
          all_goals (try with_reducible refine Stop.mk ?_)
          k_here
          refine sub_1 (by assumption) x3 ?_
          intro v3 r3
          obtain rfl := Option.some.inj (e1.symm.trans e3)
          obtain ⟨t3, rfl⟩ := r3.str
          k_steps
          all_goals (try with_reducible refine Stop.mk ?_)
          · k_here
            k_dflt (refine' fault_ok (L := L') B' ?F X' T' rfl rfl rfl ?dp ?un hfile hsup ?_; (case F => k_asm); (case dp => ktr_room); (case un => walk_at "UROOM"))
            intro h2 tk2 e2 t2 d2 D2
            refine ⟨67, e2, t2, d2, rfl, excCls67 ((X'.keeps (Fr.keep (by k_asm))).keeps D2.keeps), D2.there, ?_⟩
            k_whole
            refine leave_fault B' D2 (by k_asm) (fun h3 R3 U3 => ?_)
            exact rai _ _ _ _ _ R3 U3
          · rename (k1 == _) = false => hk1
            (try with_reducible refine Stop.mk ?_)
            rename News _ _ _ _ => nE'
            refine ksw_end (vs, n, pl + 1, _) (by assumption) nE' (by intro p hp; kst_mem) True.intro (List.forall_mem_cons.mpr ⟨rfl, List.forall_mem_nil _⟩) (by intro z h2 h3; have h4 : z ≠ Str.ofString "place" := h2 _ (List.Mem.head _); have h5 : z ≠ Str.ofString "has_worth" := (by intro q; subst q; simp at h3); simp [kstB, h4, h5]) ?_ ?ms
            case ms => show Int.toNat (_ - (pl + 1)) < Int.toNat (_ - pl); omega
            exact ⟨xs, hxs, by show 2 ≤ pl + 1; omega, by show pl + 1 ≤ _; omega, hlab.trans (step_one hp2 e1 hk1).symm, by show _ ≤ pl + 1; omega⟩
    · rename (¬ pl < (us.length : Int)) => hge
      have hpe : pl = is.length := by omega
      refine ret _ _ _ (by assumption) ⟨fl, vs.toArray, xs, rfl, News.fresh NT (.head _), ⟨_, News.get NT (.head _), rfl, _, rfl⟩, by simpa using hxs, ?_, by omega⟩
      rw [hlab, ← labTo_full, hpe]
      congr 1
      rw [List.length_drop]
      omega
end
section
theorem fillNoted : Mine.HK = Mine.HK ∧ PySem.Challenge.rw_rg0218_01 = PySem.Challenge.rw_rg0218_01 := by
  k_fill; exact ⟨rfl, rfl⟩

section
variable {prog : Program} {w : World} {A₀ A : Around} {s : Shared} {K : Frag} {h₀ base : Heap} {L : Addr} {m mg mb : Str → Option Value} {p : Program} {loose : List Str} {mean : ExcName → Option Value}
/-- a call of a def of the top: all that stands is the ground; the end is left open -/
theorem enterQ {env : Env} {outer : List Env} {R : Result → Shared → Prop} {name qual : Str} {params : Arguments} {body : List Stmt} {scope : Scope} {dV kV doc pm cdv ct oc : Value} {an od : Option Addr} {osl : Array (Option Value)} {f : Addr} {args : Args} {binds : List (Str × Value)}
    (B : Below A₀ base outer h₀) (F : Fr h₀ L s.heap m) (X₀ : K.In h₀) (T : Top p loose mean mg mb h₀) (hA : A.frames = some (env :: outer)) (hf : env.frame = some L) (hke : env.scope.kind = .function)
    (ho : K.lookup f = some ⟨oc, od, .func (fnOf name qual params body scope dV kV doc pm an cdv ct), osl⟩) (hcd : codeIn K cdv qual = true) (hroom : A.depth < recursionLimit)
    (hbind : BindsTo s (fnOf name qual params body scope dV kV doc pm an cdv ct) args binds) (hloc : ∀ y ∈ binds, scope.names.lookup y.1 = some .local)
    (h : ∀ L' h₁, Fr s.heap L' h₁ (fun y => binds.reverse.lookup y) → News s.heap L' h₁ [] → Below A base (env :: outer) s.heap → K.In s.heap → Top p loose mean mg mb s.heap →
      wpAny (model prog w) (A.deeper (envOf qual scope L' f cdv)) (execs body (envOf qual scope L' f cdv))
        (fun fl s' => Stop (R (.ok (.ret (match fl with | .ret v => v | _ => .none))) s'))
        (fun e s' => wpAny (model prog w) (A.deeper (envOf qual scope L' f cdv)) (leaving (envOf qual scope L' f cdv) e) (fun _ s'' => R (.error e) s'') (fun e' s'' => R (.error e') s'') s')
        { s with heap := h₁, toks := s.toks + binds.length })
    (hco : scope.isCoroutine = false) (hgen : scope.isGenerator = false) (hk : scope.kind = .function)
    (hcell : ∀ x ∈ scope.names, x.2 ≠ .cell) : codeAny (model prog w) A (.call (.ref f) args) R s := by
  obtain ⟨FG, BG, st, lv⟩ := groundX (R := R) (news := []) B F News.nil hA hf hke
  have e : hideAll s.heap (([] : List (Addr × Obj)).map (·.1)) = s.heap := rfl
  rw [e] at FG BG st
  refine codeAny_call_def (fd := fnOf name qual params body scope dV kV doc pm an cdv ct) (body := body) (binds := binds) hroom ((X₀.keeps F.keep) _ _ ho) rfl (T.nolimit.keeps F.keep) (codeRec_of (X₀.keeps F.keep) hcd) rfl hbind hcell hloc (fun h₁ hns hk₁ => ?_) hco hgen hk
  exact wpAny_mono (h s.heap.objs.size h₁ ⟨hns, hk₁, Nat.le_refl _⟩ News.nil BG (X₀.keeps F.keep) (T.keeps F.keep)) (fun fl s' hl => hl.out) fun _ _ y => y
theorem dicts_more {h : Heap} {fs : List Addr} (F : Fr h₀ L h m) (D : KtsDicts fs h₀) : KtsDicts (L :: fs) h := fun b hb => by
  rcases List.mem_cons.mp hb with rfl | hb
  · obtain ⟨oL, es, ep, hL, r1, _⟩ := F.ns
    exact ⟨oL, es, ep, hL, r1⟩
  · obtain ⟨o, es, n, ho, hd⟩ := D b hb
    exact ⟨o, es, n, F.keep _ _ ho, hd⟩
end
def VPost (is : List It) (h₀ h : Heap) (r : Value) : Prop := r = .none ∨ NPost is h₀ h r
/-- a call of f that may turn the frames' slots -/
def CallT (dd uu : Nat) (prog : Program) (w : World) (K : Frag) (p : Program) (loose : List Str) (mean : ExcName → Option Value) (mg mb : Str → Option Value) (f : Addr) (vs : List Value) (Pre : Heap → Prop) (Post : Heap → Heap → Value → Prop) : Prop :=
  ∀ (dp un : Nat) (gd : Option (List Code)) (cn : Str) (cs : Scope) (a : Addr) (ccd : Value) (cl : List (Str × Addr)) (outer : List Env) (A₀ : Around) (base h₀ : Heap) (L : Addr) (m : Str → Option Value) (s : Shared) (Q E : Value → Shared → Prop),
    Below A₀ base outer h₀ → Fr h₀ L s.heap m → K.In h₀ → Top p loose mean mg mb h₀ → K.In base → Top p loose mean mg mb base → KtsDicts (outer.filterMap (·.frame)) h₀ → cs.kind = .function → Pre s.heap → dp + dd < recursionLimit → un + uu < cLine →
    (∀ r h' tk' g', KtsTurn (L :: outer.filterMap (·.frame)) s.heap g' → Keeps g' h' → Post s.heap h' r → Q r { s with heap := h', toks := tk' }) →
    wpAny (model prog w) (ktrTop dp un gd cn cs L a ccd cl outer) (call (.ref f) vs) Q E s

theorem noted_ok {prog : Program} {w : World} {p : Program} {loose : List Str} {mean : ExcName → Option Value} {mg mb : Str → Option Value} (hfile : ((prog.main.file : Str) == ("/claim/cut.py" : Str)) = true) (hsup : (prog.main.scope.names.lookup ("super" : Str)).isSome = false) (rd rdd l : Addr) (es : List DictEntry) (ne : Nat) (us : List Value) (is : List It) :
    CallT 48 384 prog w (Mine.HK w.params) p loose mean mg mb 907 [.ref rd, .ref l] (fun h => h.get? rd = some (instObj 853 rdd) ∧ h.get? rdd = some (W.dictOf es ne) ∧ getL (Str.ofString "names_noted") es = some none ∧ h.IsList l us.toArray ∧ Its h us is ∧ us.length ≤ 20) (fun h h' r => VPost is h h' r) := by
  k_with_none
  k_with "my execs cons" => (k_here; first | k_gentoks | ((with_reducible refine wpAny_execs_cons ?_); (try dsimp only); k_fold))
  k_with "my LeaveC" => (refine leaveC_ (by assumption) ?_; intro kK9w; (try dsimp only))
  k_with "my pyIter ref" => refine Stop.out ?_
  k_with "my exec Raise some none" => (k_here; refine raise_exec rfl ?_)
  k_with "my UROOM" => first | omega | ((simp only [units_in1, units_deeper]); (try dsimp only [ktrTop]); omega)
  intro dp un gd cn cs a ccd cl outer A₀ base h₀ L m s Q E B F X T XB TB D hk hP hdp hu ret
  obtain ⟨hr1, hr2, hr3, hl, hi, hn⟩ := hP
  have D2 : KtsDicts ((envX cn cs L a ccd cl :: outer).filterMap (·.frame)) s.heap := dicts_more F D
  refine wpAny_call ?_
  k_dflt (refine' enterQ ?k1 ?k2 ?k3 ?k5 ?kA ?kF ?kK ?k6 ?k7 ?k8 ?k9 ?kB ?_ ?c2 ?c3 ?c4 ?c5; (case kA => exact rfl); (case kF => exact rfl); (case kK => assumption); (case k1 => k_asm); (case k2 => k_asm); (case k3 => k_asm); (case k5 => k_asm); (case k6 => k_is); (case k7 => k_is); (case k8 => ktr_room); (case k9 => exact BindsTo.of_eq rfl); (case c5 => decide); (case kB => exact locs rfl); (case c2 => exact rfl); (case c3 => exact rfl); (case c4 => exact rfl); k_whole; intro L' h' F' N' B' X' T'; (try dsimp only); (try k_fold))
  clear F B X T
  k_steps
  k_here
  k_dflt (refine' method_inst (es := es) (n := ne) ?k1 ?k2 ?k3 ?k4 ?k5 ?k6 ?k7 ?_; (case k1 => k_asm); (case k2 => k_asm); (case k3 => exact ⟨(Fr.keep (by k_asm)) _ _ hr1, rfl, rfl, (Fr.keep (by k_asm)) _ _ hr2⟩); (case k4 => k_is); (case k5 => k_is); (case k6 => k_is); (case k7 => exact hr3); k_whole)
  k_steps
  k_here
  k_dflt (refine' CallX.use (names_ok hfile hsup rd l us is) ?B ?F ?X ?N ?T rfl ?pre ?hd ?hu ?ret ?rai; (case B => exact B'); (case F => k_asm); (case X => exact X'); (case N => k_asm); (case T => exact T'); (case pre => exact ⟨hl.at fun o e => (Fr.keep (by k_asm)) l o e, hi.keeps (Fr.keep (by k_asm)), hn⟩); (case hd => ktr_room); (case hu => walk_at "UROOM"))
  case rai =>
    intro e5 t5 ws5 h5 tk5 R5 U5
    k_whole
    k_dflt (refine' caught_SO0 (KF := Mine.HK w.params) (g₀ := s.heap) R5 ?F B' U5 XB TB D2 KtsTurn.refl ?ex ?q ?_; (case F => k_asm); (case ex => k_is); (case q => kernel_rfl))
    intro h6 g6 n6 T6 F6 N6 G6 N6' B6 X6 P6 D6
    k_steps
    exact Stop.mk (ret _ _ _ g6 T6 F6.keep (.inl rfl))
  intro r5 h5 tk5 k5 F5 N5 P5
  k_steps
  refine Stop.mk ?_
  obtain ⟨a6, vs6, xs6, e6, f6, z6⟩ := P5
  exact ret _ _ _ s.heap KtsTurn.refl F5.keep (.inr ⟨a6, vs6, xs6, e6, kts_none (Fr.keep (by k_asm)) f6, z6⟩)
end
section
def dueOf (i0 : It) (js : List It) : Option Str := if i0.is2 "sym" "!" then label js else none
theorem labelOf_due (i0 i1 : It) (js : List It) : labelOf (i0 :: i1 :: js) = dueOf i0 js := rfl
theorem CallT.use {dd uu : Nat} {prog : Program} {w : World} {K : Frag} {p : Program} {loose : List Str} {mean : ExcName → Option Value} {mg mb : Str → Option Value} {f : Addr} {vs : List Value} {Pre : Heap → Prop} {Post : Heap → Heap → Value → Prop} {dp un : Nat} {gd : Option (List Code)} {cn : Str} {cs : Scope} {a : Addr} {ccd : Value} {cl : List (Str × Addr)} {outer : List Env} {A₀ : Around} {base h₀ : Heap} {L : Addr} {m : Str → Option Value} {s : Shared} {news : List (Addr × Obj)} {Q E : Value → Shared → Prop}
    (C : CallT dd uu prog w K p loose mean mg mb f vs Pre Post) (B : Below A₀ base outer h₀) (F : Fr h₀ L s.heap m) (X : K.In h₀) (N : News h₀ L s.heap news) (T : Top p loose mean mg mb h₀) (XB : K.In base) (TB : Top p loose mean mg mb base) (D : KtsDicts (outer.filterMap (·.frame)) h₀) (hk : cs.kind = .function) (pre : Pre s.heap) (hd : dp + dd < recursionLimit) (hu : un + uu < cLine)
    (ret : ∀ r h' tk' h₁, KtsTurn (outer.filterMap (·.frame)) h₀ h₁ → Fr h₁ L h' m → News h₁ L h' news → Below A₀ base outer h₁ → K.In h₁ → Top p loose mean mg mb h₁ → KtsDicts (outer.filterMap (·.frame)) h₁ → Post s.heap h' r → Q r { s with heap := h', toks := tk' }) :
    wpAny (model prog w) (ktrTop dp un gd cn cs L a ccd cl outer) (call (.ref f) vs) Q E s :=
  C dp un gd cn cs a ccd cl outer A₀ base h₀ L m s Q E B F X T XB TB D hk pre hd hu fun r h' tk' g' T' k P => by
    obtain ⟨h₁, T₁, F₁, N₁, B₁, D₁⟩ := turned B F N D T' k (news_noframe B N)
    exact ret r h' tk' h₁ T₁ F₁ N₁ B₁ (XB.keeps B₁.stays) (TB.keeps B₁.stays) D₁ P
def NP (js : List It) (k : Nat) : Prop := k = 0 ∨ js.length ≤ k ∨ ∃ i, js[k - 1]? = some i ∧ No i "key" "named"
theorem item_use {prog : Program} {w : World} {p : Program} {loose : List Str} {mean : ExcName → Option Value} {mg mb : Str → Option Value} {x y : Addr} {us vs : List Value} {is js : List It} {dp un : Nat} {gd : Option (List Code)} {cn : Str} {cs : Scope} {a : Addr} {ccd : Value} {cl : List (Str × Addr)} {outer : List Env} {A₀ : Around} {base h₀ : Heap} {L : Addr} {m : Str → Option Value} {s : Shared} {news : List (Addr × Obj)} {Q E : Value → Shared → Prop}
    (hx : s.heap.IsList x us.toArray) (hi : Its s.heap us is) (hy : s.heap.IsList y vs.toArray) (hj : Its s.heap vs js) (hn : us.length + vs.length ≤ 20) (B : Below A₀ base outer h₀) (F : Fr h₀ L s.heap m) (X : (Mine.HK w.params).In h₀) (N : News h₀ L s.heap news) (T : Top p loose mean mg mb h₀) (hk : cs.kind = .function) (hd : dp + 16 < recursionLimit) (hu : un + 128 < cLine)
    (ret : ∀ R h' tk', Keeps s.heap h' → Fr h₀ L h' m → News h₀ L h' news → Seen h' R "list" (is ++ js) → Q (.ref R) { s with heap := h', toks := tk' }) :
    wpAny (model prog w) (ktrTop dp un gd cn cs L a ccd cl outer) (call (.ref 900) [.ref x, .ref y]) Q E s :=
  CallOk.use (item_ok x y us vs is js) B F X N T hk ⟨hx, hi, hy, hj, hn⟩ hd hu fun r h' tk' k F' N' P => by
    obtain ⟨R, rfl, S⟩ := P
    exact ret R h' tk' k F' N' S
def nest (i0 : It) : It := .other "list" (.tuple ([i0, .sym "p", .key "named", .sym "last"].map It.data))
theorem nest_at {h : Heap} {R : Addr} {i0 : It} (hn : SeqAt.shaped (nest i0).data = true) (S : Seen h R "list" ([i0, .sym "p"] ++ [.key "named", .sym "last"])) : (nest i0).At h (.ref R) := by
  obtain ⟨t, v2, h1, h2⟩ := S
  obtain ⟨T, us, rfl, h4, h5, h6⟩ := h2 rfl
  refine ⟨Rd.tup h1 (RdAll.cons ⟨_, .str _ _⟩ (RdAll.cons (Rd.tup h4 h5.data) RdAll.nil)), hn, ?_⟩
  exact ⟨by decide +kernel, by decide +kernel⟩
theorem shSL : SeqAt.shaped (.tuple [.str "sym", .str "last"]) = true := by
  simp [SeqAt.shaped, PyData.canLay0, PyData.canLayAll0, PyData.depth, PyData.depthAll, PyData.strOk]
  decide +kernel
theorem tup_at {h : Heap} {b : Addr} {x y : Str} {t1 t2 : Tok} {n : Nat} {d : Option Addr} {sl : Array (Option Value)} (hb : h.get? b = some ⟨.type "tuple", d, .seq #[.str x t1, .str y t2] n, sl⟩) : Rd h (.ref b) (.tuple [.str x, .str y]) :=
  ⟨_, Reads.tuple hb rfl rfl (ReadsAll.cons (Reads.str _ _) (ReadsAll.cons (Reads.str _ _) ReadsAll.nil))⟩
theorem label_two {h : Heap} {b c : Addr} {t1 t2 t3 t4 : Tok} {n n' : Nat} {d d' : Option Addr} {sl sl' : Array (Option Value)} (hb : h.get? b = some ⟨.type "tuple", d, .seq #[.str "key" t1, .str "named" t2] n, sl⟩) (hc : h.get? c = some ⟨.type "tuple", d', .seq #[.str "sym" t3, .str "last" t4] n', sl'⟩) :
    Its h [.ref b, .ref c] [.key "named", .sym "last"] := .cons ⟨tup_at hb, shKN, trivial⟩ (.cons ⟨tup_at hc, shSL, trivial⟩ .nil)
theorem label_last (js : List It) : label (js ++ [.key "named", .sym "last"]) = some (Str.ofString "last") := by
  unfold label
  have e : (js ++ [It.key "named", It.sym "last"]).length - 1 = js.length + 1 := by simp
  rw [e]
  refine labTo_some ?_
  unfold pairAt
  rw [show (js ++ [It.key "named", It.sym "last"])[js.length]? = some (.key "named") by simp, show (js ++ [It.key "named", It.sym "last"])[js.length + 1]? = some (.sym "last") by simp]
  exact pairOf_named _
theorem Strs.last {vs : List Value} {xs : List Str} (h : Strs vs xs) (hn : vs ≠ []) : ∃ x t, xs.getLast? = some x ∧ vs[vs.length - 1]? = some (.str x t) := by
  induction h with
  | nil => exact absurd rfl hn
  | @cons x t vs xs h' ih =>
    cases h' with
    | nil => exact ⟨x, t, rfl, rfl⟩
    | @cons y t' vs' xs' h'' =>
      obtain ⟨z, tz, h1, h2⟩ := ih (by simp)
      refine ⟨z, tz, by simpa using h1, ?_⟩
      simpa using h2
theorem pick_to (us : List Value) (k : Nat) : slicePick us.toArray none (some (k : Int)) none = (us.take k).toArray := by
  rw [kms_pick_eq]
  unfold kms_pick kms_lo kms_hi
  dsimp only
  rw [if_neg (by omega), List.drop_zero, Nat.sub_zero, Int.toNat_natCast, kmk_take_min]
theorem pick_from (us : List Value) (k : Nat) : slicePick us.toArray (some (k : Int)) none none = (us.drop k).toArray := by
  rw [kms_pick_eq]
  unfold kms_pick kms_lo kms_hi
  dsimp only
  rw [if_neg (by omega), Int.toNat_natCast, kmk_drop_min]
  congr 1
  apply List.take_of_length_le
  rw [List.length_drop]
  omega
theorem pairOf_none (a : Option It) : pairOf a none = none := by
  unfold pairOf
  split
  · rename_i e1 e2; cases e2
  · rfl
theorem labTo_add (js : List It) (k : Nat) : ∀ m, labTo js (k + m) = match labTo (js.drop k) m with | some x => some x | none => labTo js k
  | 0 => rfl
  | m + 1 => by
    have e : k + (m + 1) = (k + m) + 1 := rfl
    rw [e]
    have e2 : pairAt (js.drop k) m = pairAt js (k + m) := by rw [pairAt_drop, Nat.add_comm]
    cases h : pairAt js (k + m) with
    | some x => rw [labTo_some h, labTo_some (e2.trans h)]
    | none => rw [labTo_none h, labTo_none (e2.trans h), labTo_add js k m]
theorem labTo_take (js : List It) (k : Nat) : ∀ n, n < k → labTo (js.take k) n = labTo js n
  | 0, _ => rfl
  | n + 1, hn => by
    have e : pairAt (js.take k) n = pairAt js n := by
      simp only [pairAt, List.getElem?_take, if_pos (show n < k by omega), if_pos hn]
    have ih := labTo_take js k n (by omega)
    cases h : pairAt js n with
    | some x => rw [labTo_some h, labTo_some (e.trans h)]
    | none => rw [labTo_none h, labTo_none (e.trans h), ih]
theorem labTo_at {js : List It} {k : Nat} (h : NP js k) : labTo (js.take k) k = labTo js k := by
  cases k with
  | zero => rfl
  | succ n =>
    have e1 : pairAt (js.take (n + 1)) n = none := by
      unfold pairAt
      rw [show (js.take (n + 1))[n + 1]? = none by simp [List.getElem?_take]]
      exact pairOf_none _
    have e2 : pairAt js n = none := by
      unfold pairAt
      rcases h with h | h | ⟨i, h1, h2⟩
      · cases h
      · rw [List.getElem?_eq_none h]
        exact pairOf_none _
      · rw [Nat.add_sub_cancel] at h1
        rw [h1]
        exact pairOf_key h2
    rw [labTo_none e1, labTo_none e2, labTo_take js (n + 1) n (Nat.lt_succ_self n)]
theorem split_law (i0 i1 : It) {js : List It} {k : Nat} (hk : k ≤ js.length) (h : NP js k) :
    dueOf i0 js = (match labelOf (i0 :: i1 :: js.drop k) with | some x => some x | none => labelOf (i0 :: i1 :: js.take k)) := by
  rw [labelOf_due, labelOf_due]
  unfold dueOf
  split
  · have e := labTo_add js k (js.length - k)
    rw [show k + (js.length - k) = js.length by omega, labTo_full] at e
    have e1 := labTo_full (js.drop k)
    rw [List.length_drop] at e1
    rw [e1] at e
    have e2 := labTo_full (js.take k)
    rw [List.length_take, Nat.min_eq_left hk, labTo_at h] at e2
    rw [e, e2]
  · rfl
section
variable {prog : Program} {w : World} {A : Around} {E : Value → Shared → Prop} {s : Shared}
def CutP (s : Shared) (g : Heap) (L : Addr) (m : Str → Option Value) (D : Value → Prop) (v : Value) (s' : Shared) : Prop := ∃ h' tk', s' = { s with heap := h', toks := tk' } ∧ Fr g L h' m ∧ D v
theorem CutP.mk' {s : Shared} {g h' : Heap} {L : Addr} {m : Str → Option Value} {D : Value → Prop} {v : Value} {tk' : Nat} (F : Fr g L h' m) (d : D v) : CutP s g L m D v { s with heap := h', toks := tk' } := ⟨h', tk', rfl, F, d⟩
theorem cutV {t : Sem Value} {g : Heap} {L : Addr} {m : Str → Option Value} {Q : Value → Shared → Prop} (D : Value → Prop) (F : Fr g L s.heap m) (h : wpAny (model prog w) A t (CutP s g L m D) E s)
    (k : ∀ v h' tk', Fr g L h' m → D v → Q v { s with heap := h', toks := tk' }) : wpAny (model prog w) A t Q E s :=
  wpAny_mono h (fun v s' q => by obtain ⟨h', tk', rfl, F', d⟩ := q; exact k v h' tk' F' d) fun _ _ x => x
def CutN (s : Shared) (g : Heap) (L : Addr) (m : Str → Option Value) (nw : List (Addr × Obj)) (D : Value → Prop) (v : Value) (s' : Shared) : Prop := ∃ h' tk', s' = { s with heap := h', toks := tk' } ∧ Fr g L h' m ∧ News g L h' nw ∧ D v
theorem CutN.mk' {s : Shared} {g h' : Heap} {L : Addr} {m : Str → Option Value} {nw nws : List (Addr × Obj)} {D : Value → Prop} {v : Value} {tk' : Nat} (F : Fr g L h' m) (N : News g L h' nws) (hs : ∀ p ∈ nw, p ∈ nws) (d : D v) : CutN s g L m nw D v { s with heap := h', toks := tk' } := ⟨h', tk', rfl, F, fun p hp => N p (hs p hp), d⟩
theorem cutN {t : Sem Value} {g : Heap} {L : Addr} {m : Str → Option Value} {nw : List (Addr × Obj)} {Q : Value → Shared → Prop} (D : Value → Prop) (F : Fr g L s.heap m) (N : News g L s.heap nw) (h : wpAny (model prog w) A t (CutN s g L m nw D) E s)
    (k : ∀ v h' tk', Fr g L h' m → News g L h' nw → D v → Q v { s with heap := h', toks := tk' }) : wpAny (model prog w) A t Q E s :=
  wpAny_mono h (fun v s' q => by obtain ⟨h', tk', rfl, F', N', d⟩ := q; exact k v h' tk' F' N' d) fun _ _ x => x
def CutX (s : Shared) (g : Heap) (L : Addr) (m : Str → Option Value) (nw : List (Addr × Obj)) (f : Flow) (s' : Shared) : Prop := f = .next ∧ ∃ h' tk', s' = { s with heap := h', toks := tk' } ∧ Fr g L h' m ∧ News g L h' nw
theorem CutX.mk' {s : Shared} {g h' : Heap} {L : Addr} {m : Str → Option Value} {nw nws : List (Addr × Obj)} {tk' : Nat} (F : Fr g L h' m) (N : News g L h' nws) (hs : ∀ p ∈ nw, p ∈ nws) : CutX s g L m nw .next { s with heap := h', toks := tk' } := ⟨rfl, h', tk', rfl, F, fun p hp => N p (hs p hp)⟩
theorem cutX {t : Sem Flow} {g : Heap} {L : Addr} {m : Str → Option Value} {nw : List (Addr × Obj)} {Q : Flow → Shared → Prop} (F : Fr g L s.heap m) (N : News g L s.heap nw) (h : wpAny (model prog w) A t (CutX s g L m nw) E s)
    (k : ∀ h' tk', Fr g L h' m → News g L h' nw → Q .next { s with heap := h', toks := tk' }) : wpAny (model prog w) A t Q E s :=
  wpAny_mono h (fun v s' q => by obtain ⟨rfl, h', tk', rfl, F', N'⟩ := q; exact k h' tk' F' N') fun _ _ x => x
theorem ne_optv {v u : Value} {o o' : Option Str} {Q : Value → Shared → Prop} (hv : OptV v o) (hu : OptV u o') (h1 : o = o' → Q (.bool false) s) (h2 : o ≠ o' → Q (.bool true) s) : wpAny (model prog w) A (compareOp .NotEq v u) Q E s := by
  cases o with
  | none =>
    cases hv
    cases o' with
    | none => cases hu; exact PySem.EqNone.ne_none_none (h1 rfl)
    | some y => obtain ⟨t, rfl⟩ := hu; exact PySem.EqNone.ne_none_str (h2 (fun e => nomatch e))
  | some x =>
    obtain ⟨t, rfl⟩ := hv
    cases o' with
    | none => cases hu; exact PySem.EqNone.ne_str_none (h2 (fun e => nomatch e))
    | some y =>
      obtain ⟨t', rfl⟩ := hu
      exact ne_str2 (fun e => h2 (fun q => e (Option.some.inj q))) (fun e => h1 (by rw [e]))
theorem ne_nil {a b : Addr} {vs : Array Value} {Q : Value → Shared → Prop} (ha : s.heap.IsList a vs) (hb : s.heap.IsList b #[]) (hu : A.units + 64 < cLine) (h1 : vs.toList ≠ [] → Q (.bool true) s) (h2 : vs.toList = [] → Q (.bool false) s) :
    wpAny (model prog w) A (compareOp .NotEq (.ref a) (.ref b)) Q E s := by
  by_cases z : vs.toList = []
  · have hv : vs = #[] := by apply Array.toList_inj.mp; simpa using z
    subst hv
    obtain ⟨o, ho, hc, n, hd⟩ := ha
    obtain ⟨o2, ho2, hc2, n2, hd2⟩ := hb
    refine ne_dataH (Reads.list ho hc hd ReadsAll.nil) (Reads.list ho2 hc2 hd2 ReadsAll.nil) (by decide) (by decide) hu ?_
    exact h2 z
  · have hz : vs.size ≠ 0 := by
      intro e
      exact z (by rw [← List.length_eq_zero_iff, Array.length_toList]; exact e)
    refine PySem.SeqAt.RcNeAt.lists_lengths ha hb (by simp [hz]) (by omega) prog w E Q ?_
    exact h1 z
theorem sub_last {value slice : PySem.Expr} {a : Addr} {vs : Array Value} {v : Value} {u : Tok} {Q : Value → Shared → Prop} (hl : s.heap.IsList a vs) (hv : vs.toList[vs.toList.length - 1]? = some v) (hz : vs.size < 1000) (h : Q v s)
    (hs : subscripted slice false (.ref a) (.int (-1) u) = operate [.ref a, .int (-1) u] (getItem (.ref a) (.int (-1) u)) := by with_unfolding_all rfl) :
    wpAny (model prog w) A (subscriptTail value slice (.ref a) (.int (-1) u)) Q E s := by
  have hne : vs.size ≠ 0 := by
    intro e
    have e' : vs.toList = [] := by rw [← List.length_eq_zero_iff, Array.length_toList]; exact e
    rw [e'] at hv
    cases hv
  refine tail_any hl.typeIs slot_list_getitem.lookup (wpAny_getItem_list_neg hl (by decide) (by omega) (by decide) ?_ h) hs
  have e : ((-1 : Int) + (vs.size : Int)).toNat = vs.toList.length - 1 := by rw [Array.length_toList]; omega
  rw [e, ← Array.getElem?_toList]
  exact hv
theorem eq_optv {v u : Value} {o o' : Option Str} {Q : Value → Shared → Prop} (hv : OptV v o) (hu : OptV u o') (e : o = o') (h : Q (.bool true) s) : wpAny (model prog w) A (compareOp .Eq v u) Q E s := by
  subst e
  cases o with
  | none => cases hv; cases hu; exact PySem.EqNone.eq_none_none h
  | some x =>
    obtain ⟨t, rfl⟩ := hv
    obtain ⟨t', rfl⟩ := hu
    refine PyProof.Rows.eq_str ?_
    rw [show (x == x) = true by simp]
    exact h
end
end
section
section
variable {prog : Program} {w : World} {A : Around} {E : Value → Shared → Prop} {s : Shared}
theorem in_range {r : Addr} {a b k : Int} {t t1 t2 t3 : Tok} {Q : Value → Shared → Prop} (hr : IsRange s.heap r a b 1 t1 t2 t3) (h1 : a ≤ k → k < b → Q (.bool true) s) (h2 : ¬ (a ≤ k ∧ k < b) → Q (.bool false) s) :
    wpAny (model prog w) A (compareOp .In (.int k t) (.ref r)) Q E s := by
  have hT : s.TypeIs (.ref r) "range" := ⟨_, hr, rfl⟩
  have h : Q (.bool (Builtin.Range.rangePlace? a b 1 k).isSome) s := by
    unfold Builtin.Range.rangePlace?
    by_cases c : a ≤ k ∧ k < b
    · rw [show (if (if (1 : Int) > 0 then decide (a ≤ k) && decide (k < b) else decide (b < k) && decide (k ≤ a)) && (k - a) % 1 == 0 then some ((k - a) / 1) else none) = some ((k - a) / 1) by simp [c.1, c.2, Int.emod_one]]
      exact h1 c.1 c.2
    · rw [show (if (if (1 : Int) > 0 then decide (a ≤ k) && decide (k < b) else decide (b < k) && decide (k ≤ a)) && (k - a) % 1 == 0 then some ((k - a) / 1) else none) = none by
        have c' : (decide (a ≤ k) && decide (k < b)) = false := by
          rw [Bool.eq_false_iff]
          intro q
          obtain ⟨q1, q2⟩ := Bool.and_eq_true_iff.mp q
          exact c ⟨of_decide_eq_true q1, of_decide_eq_true q2⟩
        simp [c']]
      exact h2 c
  show wpAny _ A (do return .bool (← contains (.ref r) (.int k t))) Q E s
  refine wpAny_bind (wpAny_contains_slot hT PySem.F.slot_range_contains (wpAny_call_entry PySem.F.slot_range_contains hT PySem.F.entry_range_contains ?_ (PySem.F.args_range_contains_2 _ _)))
  unfold Builtin.«range.__contains__»
  obtain ⟨hh, g, d, tt, os⟩ := s
  wp_walk
  exact ⟨_, rfl, wpAny_truthy_bool (wpAny_pure h)⟩
end
end
section
theorem fillRight : Mine.HK = Mine.HK ∧ PySem.Challenge.rw_rg0218_01 = PySem.Challenge.rw_rg0218_01 := by
  k_fill; exact ⟨rfl, rfl⟩

theorem right_ok {prog : Program} {w : World} {p : Program} {loose : List Str} {mean : ExcName → Option Value} {mg mb : Str → Option Value} (hfile : ((prog.main.file : Str) == ("/claim/cut.py" : Str)) = true) (hsup : (prog.main.scope.names.lookup ("super" : Str)).isSome = false) (rd rdd st nl tm : Addr) (es : List DictEntry) (ne : Nat) (a0 a1 : Addr) (i0 i1 : It) (us : List Value) (js : List It) (hnest : SeqAt.shaped (nest i0).data = true) :
    CallT 64 512 prog w (Mine.HK w.params) p loose mean mg mb 914 [.ref rd, .ref st, .ref nl, .ref tm] (fun h => (h.get? rd = some (instObj 853 rdd) ∧ h.get? rdd = some (W.dictOf es ne) ∧ getL (Str.ofString "names_noted") es = some none) ∧ h.IsList st [.ref a0, .ref a1].toArray ∧ (i0.At h (.ref a0) ∧ i1.At h (.ref a1)) ∧ h.IsList nl us.toArray ∧ Its h us js ∧ us.length ≤ 7 ∧ (It.sym "p").At h (.ref tm)) (fun _ _ r => r = .bool true) := by
  k_with_none
  k_with "my LeaveC" => (refine leaveC_ (by assumption) ?_; intro kK9w; (try dsimp only))
  k_with "my pyIter ref" => refine Stop.out ?_
  k_with "my exec Raise some none" => (k_here; refine raise_exec rfl ?_)
  k_with "my eval IfExp" => refine Stop.out ?_
  k_with "my InvEndN" => refine Stop.out ?_
  k_with "my ENDR" => (refine Stop.mk ?_; rename News _ _ _ _ => nE9w'; (refine kst_end () (by assumption) nE9w' (by intro p9w hp9w; cases hp9w) (by intro p9w hp9w; kst_mem) (by rfl) True.intro (List.forall_mem_nil _) ?_ True.intro))
  k_with "my newList" => (k_here; k_dflt (refine' newList_NK ?k1 ?k2 ?_ ?z; (case k1 => k_asm); (case k2 => k_asm); (case z => size_fits)); intro h9w' F9w' N9w' kL9w)
  k_with "my eval BoolOp" => refine Stop.out ?_
  k_with "my UROOM" => first | omega | ((simp only [units_in1, units_deeper]); (try dsimp only [ktrTop]); omega)
  intro dp un gd cn cs a ccd cl outer A₀ base h₀ L m s Q E B F X T XB TB D hk hP hdp hu ret
  obtain ⟨⟨hr1, hr2, hr3⟩, hst, ⟨x0, x1⟩, hnl, hi, hn, htm⟩ := hP
  have hlen := hi.length
  have his : Its s.heap [.ref a0, .ref a1] [i0, i1] := .cons x0 (.cons x1 .nil)
  have D2 : KtsDicts ((envX cn cs L a ccd cl :: outer).filterMap (·.frame)) s.heap := dicts_more F D
  refine wpAny_call ?_
  k_dflt (refine' enterQ ?k1 ?k2 ?k3 ?k5 ?kA ?kF ?kK ?k6 ?k7 ?k8 ?k9 ?kB ?_ ?c2 ?c3 ?c4 ?c5; (case kA => exact rfl); (case kF => exact rfl); (case kK => assumption); (case k1 => k_asm); (case k2 => k_asm); (case k3 => k_asm); (case k5 => k_asm); (case k6 => k_is); (case k7 => k_is); (case k8 => ktr_room); (case k9 => exact BindsTo.of_eq rfl); (case c5 => decide); (case kB => exact locs rfl); (case c2 => exact rfl); (case c3 => exact rfl); (case c4 => exact rfl); k_whole; intro L' h' F' N' B' X' T'; (try dsimp only); (try k_fold))
  clear F B X T
  k_steps
  refine Stop.mk ?_
  k_dflt (refine' cutV (fun v => OptV v (dueOf i0 js)) (by k_asm) ?_ ?_)
  · k_here
    refine wpAny_IfExp ?_
    k_steps
    k_here
    k_dflt (refine' eq_it ?F x0 ?hb shSB ?hu ?_ ?_; (case F => k_asm); (case hb => exact News.get (by k_asm) (by k_mem)); (case hu => walk_at "UROOM"))
    · intro hb1
      k_steps
      k_here
      k_dflt (refine' CallOk.use (last_ok nl us js) ?B ?F ?X ?N ?T rfl ?pre ?hd ?hu ?_; (case B => exact B'); (case F => k_asm); (case X => exact X'); (case N => k_asm); (case T => exact T'); (case pre => exact ⟨hnl.at fun o e => (Fr.keep (by k_asm)) nl o e, hi.keeps (Fr.keep (by k_asm)), by omega⟩); (case hd => ktr_room); (case hu => walk_at "UROOM"))
      intro r3 h3 tk3 k3 F3 N3 P3
      have P4 : OptV r3 (dueOf i0 js) := by rw [dueOf, if_pos hb1.out]; exact P3
      exact CutP.mk' F3 P4
    · intro hb1
      k_steps
      have P4 : OptV .none (dueOf i0 js) := by rw [dueOf, hb1.out]; rfl
      exact CutP.mk' (by k_asm) P4
  · clear F' N'
    intro v h2 tk2 F2 hdue
    have N2 : News s.heap L' h2 [] := News.nil
    k_steps
    k_here
    k_dflt (refine' CallOk.use (item_ok st nl [.ref a0, .ref a1] us [i0, i1] js) ?B ?F ?X ?N ?T rfl ?pre ?hd ?hu ?_; (case B => exact B'); (case F => k_asm); (case X => exact X'); (case N => k_asm); (case T => exact T'); (case pre => exact ⟨hst.at fun o e => (Fr.keep (by k_asm)) st o e, his.keeps (Fr.keep (by k_asm)), hnl.at fun o e => (Fr.keep (by k_asm)) nl o e, hi.keeps (Fr.keep (by k_asm)), by show 2 + us.length ≤ 20; omega⟩); (case hd => ktr_room); (case hu => walk_at "UROOM"))
    intro r3 h3 tk3 k3 F3 N3 P3
    obtain ⟨R3, rfl, S3⟩ := P3
    k_steps
    k_here
    k_dflt (refine' CallOk.use (label_ok R3 "list" ([i0, i1] ++ js)) ?B ?F ?X ?N ?T rfl ?pre ?hd ?hu ?_; (case B => exact B'); (case F => k_asm); (case X => exact X'); (case N => k_asm); (case T => exact T'); (case pre => exact S3); (case hd => ktr_room); (case hu => walk_at "UROOM"))
    intro r4 h4 tk4 k4 F4 N4 P4
    have P4 : OptV r4 (labelOf ([i0, i1] ++ js)) := P4
    k_steps
    k_here
    refine ne_optv P4 hdue (fun _ => ?_) (fun e => absurd (labelOf_due i0 i1 js) e)
    k_steps
    k_here
    k_dflt (refine' kun_lenL (k := (us.length : Int)) ?hl ?hk ?hz ?_; (case hl => exact hnl.at fun o e => (Fr.keep (by k_asm)) nl o e); (case hk => simp); (case hz => omega))
    k_steps
    refine Stop.mk ?_
    rename Fr _ _ _ _ => lF'
    rename News _ _ _ _ => lN'
    rename IsRange _ _ _ _ _ _ _ _ => rgX
    with_unfolding_all refine' kst_range (σ := Unit) (n := us.length + 1) (fun _ => []) (fun _ => []) (fun _ => True) [Str.ofString "is_parted", Str.ofString "early", Str.ofString "late"] (fun _ _ => True) () (by rfl) rgX ?hs ?kn lF' ?hN True.intro ?kk ?kp ?_ ?_
    case hs => exact small_one (by omega) (by omega) (by omega) (by omega)
    case kn => rw [rangeSize_nat]; omega
    case hN => exact kst_newsOf lN' (by intro p hp; cases hp)
    case kk => exact List.forall_mem_nil _
    case kp => exact True.intro
    · try clear lF' lN' rgX
      intro c pre k t u h tk own hk' hlt hoff _ hinv F₁ N₁
      (try k_fold)
      simp only [Int.zero_add] at hk'
      subst hk'
      k_steps
      refine Stop.mk ?_
      k_dflt (refine' cutN (fun v => ∃ b, v = .bool b ∧ (b = false → NP js pre.length)) (by k_asm) (by k_asm) ?_ ?_)
      · k_here
        refine BoolOp_and ?_
        k_steps
        k_here
        k_dflt (refine' kun_lenL (k := (us.length : Int)) ?hl ?hk ?hz ?_; (case hl => exact hnl.at fun o e => (Fr.keep (by k_asm)) nl o e); (case hk => simp); (case hz => omega))
        k_steps
        k_here
        refine in_range (by assumption) ?_ ?_
        · intro hk1 hk2
          k_steps
          refine Stop.mk ?_
          refine BoolOp_one ?_
          k_steps
          k_here
          refine sub_list (by assumption) hnl hi (by omega) (by omega) (by omega) ?_
          intro a5 j5 e5 x5
          k_steps
          k_here
          k_dflt (refine' eq_it ?F x5 ?hb shKN ?hu ?_ ?_; (case F => k_asm); (case hb => exact News.get (by k_asm) (by k_mem)); (case hu => walk_at "UROOM"))
          · intro hb5
            have P9 : ∃ b, Value.bool true = .bool b ∧ (b = false → NP js pre.length) := ⟨true, rfl, fun e => nomatch e⟩
            exact CutN.mk' (by k_asm) (by k_asm) (by intro p hp; kst_mem) P9
          · intro hb5
            have P9 : ∃ b, Value.bool false = .bool b ∧ (b = false → NP js pre.length) := ⟨false, rfl, fun _ => .inr (.inr ⟨j5, by rw [← e5]; congr 1; omega, hb5⟩)⟩
            exact CutN.mk' (by k_asm) (by k_asm) (by intro p hp; kst_mem) P9
        · intro hk1
          k_steps
          have P9 : ∃ b, Value.bool false = .bool b ∧ (b = false → NP js pre.length) := ⟨false, rfl, fun _ => by
            by_cases z : pre.length = 0
            · exact .inl z
            · exact .inr (.inl (by omega))⟩
          exact CutN.mk' (by k_asm) (by k_asm) (by intro p hp; kst_mem) P9
      · clear F₁ N₁
        intro v3 h3 tk3 F3 N3 hv3
        obtain ⟨b3, rfl, hnp⟩ := hv3
        k_steps
        k_here
        k_dflt (refine' CallOk.use (item_ok st _ [.ref a0, .ref a1] (us.take pre.length) [i0, i1] (js.take pre.length)) ?B ?F ?X ?N ?T rfl ?pre ?hd ?hu ?_; (case B => exact B'); (case F => k_asm); (case X => exact X'); (case N => k_asm); (case T => exact T'); (case pre => exact ⟨hst.at fun o e => (Fr.keep (by k_asm)) st o e, his.keeps (Fr.keep (by k_asm)), ⟨_, News.get (by k_asm) (by k_mem), rfl, _, congrArg (fun z => Data.seq z 0) (pick_to us _)⟩, (hi.take _).keeps (Fr.keep (by k_asm)), by show 2 + (us.take pre.length).length ≤ 20; rw [List.length_take]; omega⟩); (case hd => ktr_room); (case hu => walk_at "UROOM"))
        intro r5 h5 tk5 k5 F5 N5 P5
        obtain ⟨R5, rfl, S5⟩ := P5
        k_steps
        k_here
        k_dflt (refine' CallOk.use (label_ok R5 "list" ([i0, i1] ++ js.take pre.length)) ?B ?F ?X ?N ?T rfl ?pre ?hd ?hu ?_; (case B => exact B'); (case F => k_asm); (case X => exact X'); (case N => k_asm); (case T => exact T'); (case pre => exact S5); (case hd => ktr_room); (case hu => walk_at "UROOM"))
        intro r6 h6 tk6 k6 F6 N6 P6
        have P6 : OptV r6 (labelOf ([i0, i1] ++ js.take pre.length)) := P6
        k_steps
        k_here
        k_dflt (refine' CallOk.use (item_ok st _ [.ref a0, .ref a1] (us.drop pre.length) [i0, i1] (js.drop pre.length)) ?B ?F ?X ?N ?T rfl ?pre ?hd ?hu ?_; (case B => exact B'); (case F => k_asm); (case X => exact X'); (case N => k_asm); (case T => exact T'); (case pre => exact ⟨hst.at fun o e => (Fr.keep (by k_asm)) st o e, his.keeps (Fr.keep (by k_asm)), ⟨_, News.get (by k_asm) (by k_mem), rfl, _, congrArg (fun z => Data.seq z 0) (pick_from us _)⟩, (hi.drop _).keeps (Fr.keep (by k_asm)), by show 2 + (us.drop pre.length).length ≤ 20; rw [List.length_drop]; omega⟩); (case hd => ktr_room); (case hu => walk_at "UROOM"))
        intro r7 h7 tk7 k7 F7 N7 P7
        obtain ⟨R7, rfl, S7⟩ := P7
        k_steps
        k_here
        k_dflt (refine' CallOk.use (label_ok R7 "list" ([i0, i1] ++ js.drop pre.length)) ?B ?F ?X ?N ?T rfl ?pre ?hd ?hu ?_; (case B => exact B'); (case F => k_asm); (case X => exact X'); (case N => k_asm); (case T => exact T'); (case pre => exact S7); (case hd => ktr_room); (case hu => walk_at "UROOM"))
        intro r8 h8 tk8 k8 F8 N8 P8
        have P8 : OptV r8 (labelOf ([i0, i1] ++ js.drop pre.length)) := P8
        k_steps
        · walk_at "ENDR"
          exact (by
            intro z h1 h2 h9
            have g1 : z ≠ Str.ofString "is_parted" := (by intro q; subst q; simp at h9)
            have g2 : z ≠ Str.ofString "early" := (by intro q; subst q; simp at h9)
            have g3 : z ≠ Str.ofString "late" := (by intro q; subst q; simp at h9)
            simp [kstB, h1, g1, g2, g3])
        · have hb4 : b3 = false := by first | (simpa using (show (!b3) = true by assumption)) | (simpa using (show ¬ (b3 = true) by assumption)) | assumption
          refine Stop.mk ?_
          k_dflt (refine' cutN (fun v => OptV v (match labelOf ([i0, i1] ++ js.drop pre.length) with | some x => some x | none => labelOf ([i0, i1] ++ js.take pre.length))) (by k_asm) (by k_asm) ?_ ?_)
          · k_here
            refine wpAny_IfExp ?_
            cases hL : labelOf ([i0, i1] ++ js.drop pre.length) with
            | none =>
              rw [hL] at P8
              obtain rfl : r8 = .none := P8
              k_steps
              exact CutN.mk' (by k_asm) (by k_asm) (by intro p hp; exact hp) P6
            | some x =>
              rw [hL] at P8
              obtain ⟨t9, rfl⟩ : ∃ t, r8 = .str x t := P8
              k_steps
              have P9 : OptV (.str x t9) (some x) := ⟨t9, rfl⟩
              exact CutN.mk' (by k_asm) (by k_asm) (by intro p hp; exact hp) P9
          · intro v9 h9 tk9 F9 N9 P9
            k_here
            refine ne_optv hdue P9 (fun _ => ?_) (fun e => absurd (split_law i0 i1 (by omega) (hnp hb4)) e)
            k_steps
            walk_at "ENDR"
            exact (by
              intro z h1 h2 h9
              have g1 : z ≠ Str.ofString "is_parted" := (by intro q; subst q; simp at h9)
              have g2 : z ≠ Str.ofString "early" := (by intro q; subst q; simp at h9)
              have g3 : z ≠ Str.ofString "late" := (by intro q; subst q; simp at h9)
              simp [kstB, h1, g1, g2, g3])
    · try clear lF' lN' rgX
      intro c u h tk _ hinv F₁ N₁
      (try k_fold)
      k_steps
      k_here
      k_dflt (refine' ne_it ?F x0 ?hb shSB ?hu ?_ ?_; (case F => k_asm); (case hb => exact News.get (by k_asm) (by k_mem)); (case hu => walk_at "UROOM"))
      · intro hb1
        k_steps
        k_here
        k_dflt (refine' CallT.use (noted_ok hfile hsup rd rdd _ es ne ([.ref a0, .ref a1] ++ us) ([i0, i1] ++ js)) ?B ?F ?X ?N ?T XB TB D2 rfl ?pre ?hd ?hu ?_; (case B => exact B'); (case F => k_asm); (case X => exact X'); (case N => k_asm); (case T => exact T'); (case pre => exact ⟨(Fr.keep (by k_asm)) _ _ hr1, (Fr.keep (by k_asm)) _ _ hr2, hr3, ⟨_, News.get (by k_asm) (by k_mem), rfl, _, rfl⟩, (his.append hi).keeps (Fr.keep (by k_asm)), by rw [List.length_append]; show 2 + us.length ≤ 20; omega⟩); (case hd => ktr_room); (case hu => walk_at "UROOM"))
        intro r6 h6 tk6 g1 T1 F6 N6 B1 X1 Tp1 D1 P6
        have sl1 : Slotted s.heap g1 := Slotted.of_turn T1
        replace hst := isList_up sl1 hst
        replace his := his.up sl1
        replace hnl := isList_up sl1 hnl
        replace hi := hi.up sl1
        replace htm := htm.up sl1
        replace x0 := x0.up sl1
        have hdue1 : dueOf i0 js = label js := by rw [dueOf, if_pos hb1.out]
        obtain ⟨nw, Nw, P7⟩ : ∃ nw, News g1 L' h6 nw ∧ ((r6 = .none ∧ nw = []) ∨ ∃ a6 o6 vs6 xs6 n6, r6 = .ref a6 ∧ nw = [(a6, o6)] ∧ o6.cls = .type "list" ∧ o6.data = .seq vs6 n6 ∧ Strs vs6.toList xs6 ∧ xs6.getLast? = label js ∧ xs6.length ≤ 20) := by
          rcases P6 with rfl | ⟨a6, vs6, xs6, rfl, f6, ⟨o6, ho6, hc6, n6, hd6⟩, hs6, hlast6, hxl6⟩
          · exact ⟨[], News.nil, .inl ⟨rfl, rfl⟩⟩
          · exact ⟨[(a6, o6)], News.more F6 News.nil ho6 (fun es n q => by rw [hd6] at q; cases q) (T1.none_ _ (kts_none (Fr.keep (by k_asm)) f6)), .inr ⟨a6, o6, vs6, xs6, n6, rfl, rfl, hc6, hd6, hs6, hlast6, hxl6⟩⟩
        clear N6 P6
        k_whole
        iterate 3 walk1
        k_here
        k_dflt (refine' cutX (nw := []) (by k_asm) ?n0 ?_ ?_; (case n0 => exact News.nil))
        · rcases P7 with ⟨rfl, rfl⟩ | ⟨a6, o6, vs6, xs6, n6, rfl, rfl, hc6, hd6, hs6, hlast6, hxl6⟩
          · k_steps
            exact CutX.mk' (by k_asm) News.nil (by intro p hp; cases hp)
          · k_steps
            refine Stop.mk ?_
            k_dflt (refine' cutV (fun v => OptV v (label js)) (by k_asm) ?_ ?_)
            · k_here
              refine wpAny_IfExp ?_
              k_steps
              k_here
              k_dflt (refine' ne_nil (vs := vs6) ?ha ?hb ?hu ?_ ?_; (case ha => exact ⟨o6, News.get (by k_asm) (by k_mem), hc6, n6, hd6⟩); (case hb => exact ⟨_, News.get (by k_asm) (by k_mem), rfl, _, rfl⟩); (case hu => walk_at "UROOM"))
              · intro hz6
                obtain ⟨x6, t6, e6, e7⟩ := hs6.last hz6
                k_steps
                k_here
                k_dflt (refine' sub_last (vs := vs6) ?ha e7 ?hz ?_; (case ha => exact ⟨o6, News.get (by k_asm) (by k_mem), hc6, n6, hd6⟩); (case hz => (have q6 := hs6.len; rw [Array.length_toList] at q6; omega)))
                k_steps
                have P9 : OptV (.str x6 t6) (label js) := by rw [← hlast6, e6]; exact ⟨t6, rfl⟩
                exact CutP.mk' (by k_asm) P9
              · intro hz6
                k_steps
                have P9 : OptV .none (label js) := by
                  rw [hz6] at hs6
                  cases hs6
                  rw [← hlast6]
                  rfl
                exact CutP.mk' (by k_asm) P9
            · intro v9 h9 tk9 F9 P9
              k_here
              refine ne_optv hdue P9 (fun _ => ?_) (fun e => absurd hdue1 e)
              have N9 : News g1 L' h9 [] := News.nil
              k_steps
              exact CutX.mk' (by k_asm) News.nil (by intro p hp; cases hp)
        · try clear P7
          intro h7 tk7 F7 N7
          k_steps
          rename News _ _ _ _ => NQ
          have hC8 := News.get NQ (.head _)
          have hsym := News.get NQ (.tail _ (.tail _ (.tail _ (.head _))))
          have hkey := News.get NQ (.tail _ (.tail _ (.tail _ (.tail _ (.head _)))))
          have hJ8 := (hi.keeps (Fr.keep (by k_asm))).append (label_two hkey hsym)
          k_here
          k_dflt (refine' item_use (hst.at fun o e => (Fr.keep (by k_asm)) st o e) (his.keeps (Fr.keep (by k_asm))) ⟨_, hC8, rfl, _, rfl⟩ hJ8 (by rw [List.length_append]; show 2 + (us.length + 2) ≤ 20; omega) ?B ?F ?X ?N ?T rfl ?hd ?hu ?_; (case B => exact B1); (case F => k_asm); (case X => exact X1); (case N => k_asm); (case T => exact Tp1); (case hd => ktr_room); (case hu => walk_at "UROOM"))
          intro R8 h8 tk8 k8 F8 N8 S8
          clear hC8 hsym hkey hJ8 NQ
          k_steps
          k_here
          k_dflt (refine' CallOk.use (label_ok R8 "list" ([i0, i1] ++ (js ++ [.key "named", .sym "last"]))) ?B ?F ?X ?N ?T rfl ?pre ?hd ?hu ?_; (case B => exact B1); (case F => k_asm); (case X => exact X1); (case N => k_asm); (case T => exact Tp1); (case pre => exact S8); (case hd => ktr_room); (case hu => walk_at "UROOM"))
          intro r9 h9 tk9 k9 F9 N9 P9
          obtain ⟨t9, rfl⟩ : OptV r9 (some (Str.ofString "last")) := by
            have q : labelOf ([i0, i1] ++ (js ++ [.key "named", .sym "last"])) = some (Str.ofString "last") := by
              rw [show [i0, i1] ++ (js ++ [It.key "named", It.sym "last"]) = i0 :: i1 :: (js ++ [It.key "named", It.sym "last"]) from rfl, labelOf_due, dueOf, if_pos hb1.out, label_last]
            rw [← q]
            exact P9
          clear P9 N8 F8
          k_steps
          rename News _ _ _ _ => NR
          have hD10 := News.get NR (.head _)
          have hL10 := News.get NR (.tail _ (.head _))
          have hsym := News.get NR (.tail _ (.tail _ (.tail _ (.tail _ (.tail _ (.head _))))))
          have hkey := News.get NR (.tail _ (.tail _ (.tail _ (.tail _ (.tail _ (.tail _ (.head _)))))))
          k_here
          k_dflt (refine' item_use (us := [.ref a0, .ref tm]) ⟨_, hL10, rfl, _, rfl⟩ (.cons (x0.keeps (Fr.keep (by k_asm))) (.cons (htm.keeps (Fr.keep (by k_asm))) .nil)) ⟨_, hD10, rfl, _, rfl⟩ (label_two hkey hsym) (by show 2 + 2 ≤ 20; decide) ?B ?F ?X ?N ?T rfl ?hd ?hu ?_; (case B => exact B1); (case F => k_asm); (case X => exact X1); (case N => k_asm); (case T => exact Tp1); (case hd => ktr_room); (case hu => walk_at "UROOM"))
          intro R10 h10 tk10 k10 F10 N10 S10
          have hnst := nest_at hnest S10
          clear hD10 hL10 hsym hkey NR S10
          k_steps
          rename (∀ b o, Heap.get? _ b = some o → Heap.get? _ b = some o) => kL
          k_here
          k_dflt (refine' item_use (us := [.ref a0, .ref R10]) ⟨_, News.get (by k_asm) (by k_mem), rfl, _, rfl⟩ (.cons (x0.keeps (Fr.keep (by k_asm))) (.cons (hnst.keeps kL) .nil)) (hnl.at fun o e => (Fr.keep (by k_asm)) nl o e) (hi.keeps (Fr.keep (by k_asm))) (by show 2 + us.length ≤ 20; omega) ?B ?F ?X ?N ?T rfl ?hd ?hu ?_; (case B => exact B1); (case F => k_asm); (case X => exact X1); (case N => k_asm); (case T => exact Tp1); (case hd => ktr_room); (case hu => walk_at "UROOM"))
          intro R11 h11 tk11 k11 F11 N11 S11
          k_steps
          k_here
          k_dflt (refine' CallOk.use (label_ok R11 "list" ([i0, nest i0] ++ js)) ?B ?F ?X ?N ?T rfl ?pre ?hd ?hu ?_; (case B => exact B1); (case F => k_asm); (case X => exact X1); (case N => k_asm); (case T => exact Tp1); (case pre => exact S11); (case hd => ktr_room); (case hu => walk_at "UROOM"))
          intro r12 h12 tk12 k12 F12 N12 P12
          have P12 : OptV r12 (labelOf ([i0, nest i0] ++ js)) := P12
          k_steps
          k_here
          refine eq_optv P12 hdue (labelOf_due i0 (nest i0) js) ?_
          k_steps
          exact Stop.mk (ret _ _ _ g1 T1 (Fr.keep (by k_asm)) rfl)
      · intro hb1
        k_steps
        exact Stop.mk (ret _ _ _ s.heap KtsTurn.refl (Fr.keep (by k_asm)) rfl)
end
section
section
variable {prog : Program} {w : World}
abbrev tupHash (hs : List Int) : Int := reduceHash (Builtin.Tuple.tupleHashOf hs)
/-- each value hashes to its number, so many draws in all -/
inductive HL (prog : Program) (w : World) (m : Nat) (h : Heap) : List Value → List Int → Nat → Prop
  | nil : HL prog w m h [] [] 0
  | cons {v : Value} {x : Int} {d : Nat} {vs : List Value} {xs : List Int} {n : Nat} : (∀ (A : Around) (Q : Int → Shared → Prop) (E : Value → Shared → Prop) (s : Shared), A.units + m < cLine → s.heap = h → Q x { s with toks := s.toks + d } → wpAny (model prog w) A (pyHash v) Q E s) → HL prog w m h vs xs n → HL prog w m h (v :: vs) (x :: xs) (d + n)
theorem hash_tup {h : Heap} {a : Addr} {items : Array Value} {hs : List Int} {nd k0 : Nat} (hk0 : 60 ≤ k0) (ht : IsTup h a items) (hi : HL prog w k0 h items.toList hs nd)
    (A : Around) (Q : Int → Shared → Prop) (E : Value → Shared → Prop) (s : Shared) (hu : A.units + k0 + 1 < cLine) (e : s.heap = h) (k : Q (tupHash hs) { s with toks := s.toks + (nd + 1) }) : wpAny (model prog w) A (pyHash (.ref a)) Q E s := by
  subst e
  obtain ⟨o, ho, hc, n, hd⟩ := ht
  have hT : s.TypeIs (.ref a) "tuple" := ⟨o, ho, hc⟩
  unfold pyHash
  first | unfold pyHashByItsType | skip
  first | refine wpAny_bind (wpAny_cRoomFor_or (.inr (by omega)) ?_) | skip
  refine wpAny_bind (wpAny_specialOf hT PySem.F.slot_tuple_hash.lookup ?_)
  show wpAny _ _ (if (some (Value.builtin "tuple.__hash__") == some Value.none) = true then _ else _) Q E s
  rw [if_neg (by rw [beq_builtin_none]; exact Bool.false_ne_true)]
  refine wpAny_bind (wpAny_specialOf hT PySem.F.slot_tuple_hash.lookup ?_)
  show wpAny _ _ (callSpecialIfBoundUnlessNone? (.ref a) "__hash__" _ >>= _) Q E s
  refine wpAny_bind (wpAny_callSpecialIfBoundUnlessNone?_slot hT PySem.F.slot_tuple_hash (wpAny_call_entry PySem.F.slot_tuple_hash hT PySem.F.entry_tuple_hash ?_ (PySem.F.args_tuple_hash_1 _)))
  show wpAny _ _ (Builtin.Tuple.tupleItemsOf (.ref a) >>= _) _ _ s
  refine wpAny_bind (wpAny_tupleItemsOf ho hd ?_)
  refine wpAny_bind ?_
  rw [← Array.forIn_toList]
  refine wpAny_forIn_list _
    (fun rest (b : Array Int) s' => ∃ left m, HL prog w k0 s.heap rest left m ∧ b.toList ++ left = hs ∧ s' = { s with toks := s.toks + (nd - m) } ∧ m ≤ nd)
    _ ?_ ?_ _ _ ⟨hs, nd, hi, by simp, by simp, Nat.le_refl _⟩
  · rintro x rest b s' ⟨left, m, hl, hb, rfl, hm⟩
    cases hl with
    | @cons _ y d _ ys m' h1 hl' =>
      refine wpAny_bind (h1 _ _ _ _ (by simp only [units_in1]; omega) rfl ?_)
      have e2 : s.toks + (nd - (d + m')) + d = s.toks + (nd - m') := by omega
      first
        | exact wpAny_pure ⟨ys, m', hl', by simpa using hb, by show ({ s with toks := s.toks + (nd - (d + m')) + d } : Shared) = _; rw [e2], by omega⟩
        | exact wpAny_bind (wpAny_pure (wpAny_pure ⟨ys, m', hl', by simpa using hb, by show ({ s with toks := s.toks + (nd - (d + m')) + d } : Shared) = _; rw [e2], by omega⟩))
  · rintro b s' ⟨left, m, hl, hb, rfl, hm⟩
    cases hl
    rw [List.append_nil] at hb
    show wpAny _ _ (retInt (Builtin.Tuple.tupleHashOf b.toList)) _ _ _
    rw [hb]
    refine wpAny_ret_mkInt ?_
    show wpAny _ _ (if (decide (-(2 : Int) ^ 63 ≤ Builtin.Tuple.tupleHashOf hs) && decide (Builtin.Tuple.tupleHashOf hs < 2 ^ 63)) = true then _ else _) Q E _
    unfold tupHash reduceHash at k
    by_cases hr : (decide (-(2 : Int) ^ 63 ≤ Builtin.Tuple.tupleHashOf hs) && decide (Builtin.Tuple.tupleHashOf hs < 2 ^ 63)) = true
    · rw [if_pos hr]
      rw [if_pos hr] at k
      exact wpAny_pure (by simpa [Nat.add_assoc] using k)
    · rw [if_neg hr]
      rw [if_neg hr] at k
      exact wpAny_bind (wpAny_rule (wpAny_pure (by simpa [Nat.add_assoc] using k)))
/-- the keys of a bank: (op, (), 0, 0) -/
def BKey (h : Heap) (x : Str) (a : Addr) : Prop := PyData.strOk x = true ∧ ∃ e t t1 t2, IsTup h a #[.str x t, .ref e, .int 0 t1, .int 0 t2] ∧ IsTup h e #[]
theorem tup_same {h : Heap} {a : Addr} {xs ys : Array Value} (x : IsTup h a xs) (y : IsTup h a ys) : xs = ys := by
  obtain ⟨o, ho, _, n, hd⟩ := x
  obtain ⟨o', ho', _, n', hd'⟩ := y
  obtain rfl := Option.some.inj (ho.symm.trans ho')
  rw [hd] at hd'
  injection hd'
theorem tup_but {h h' : Heap} {a d : Addr} {o : Obj} {es : Array DictEntry} {ep : Nat} {xs : Array Value} (x : IsTup h a xs) (ho : h.get? d = some o) (hd : o.data = .dict es ep) (hs : Heap.SameBut d h h') : IsTup h' a xs := by
  obtain ⟨o', ho', hc, n, hd'⟩ := x
  have hne : a ≠ d := by
    rintro rfl
    obtain rfl := Option.some.inj (ho.symm.trans ho')
    rw [hd] at hd'
    cases hd'
  exact ⟨o', (hs.2 a hne).trans ho', hc, n, hd'⟩
theorem BKey.reads {h : Heap} {x : Str} {a : Addr} (b : BKey h x a) : ∃ as, Reads h (.ref a) (.tuple [.str x, .tuple [], .int 0, .int 0]) as := by
  obtain ⟨_, e, t, t1, t2, h1, h2⟩ := b
  exact Rd.tup h1 (RdAll.cons ⟨_, .str x t⟩ (RdAll.cons (Rd.tup h2 RdAll.nil) (RdAll.cons ⟨_, .int 0 t1⟩ (RdAll.cons ⟨_, .int 0 t2⟩ RdAll.nil))))
theorem quiet_tup {A : Around} {E : Value → Shared → Prop} {s : Shared} {a : Addr} {items : Array Value} {n : Nat} {Q : Bool → Shared → Prop} (ht : IsTup s.heap a items) (hi : ∀ v ∈ items.toList, ∀ (A : Around) (E : Value → Shared → Prop) (Q : Bool → Shared → Prop), Q true s → wpAny (model prog w) A (eqIsQuiet n v) Q E s) (h : Q true s) :
    wpAny (model prog w) A (eqIsQuiet (n + 1) (.ref a)) Q E s := by
  obtain ⟨o, ho, hc, k, hd⟩ := ht
  have hT : s.TypeIs (.ref a) "tuple" := ⟨o, ho, hc⟩
  unfold eqIsQuiet
  refine wpAny_bind (wpAny_specialOf hT PySem.F.slot_tuple_eq.lookup ?_)
  show wpAny _ _ (isInstance (.ref a) (.type "tuple") >>= _) _ _ s
  refine wpAny_bind (wpAny_isInstance hT isSubtype_tuple_tuple ?_)
  simp only [Bool.not_true, Bool.false_eq_true, if_false]
  refine wpAny_bind (wpAny_seqItems ho hd ?_)
  refine wpAny_bind ?_
  show wpAny _ _ (forIn items _ _) _ _ s
  rw [← Array.forIn_toList]
  refine wpAny_forIn_list _ (fun rest r s' => r.1 = none ∧ s' = s ∧ ∀ v ∈ rest, v ∈ items.toList) _ ?_ ?_ _ _ ⟨rfl, rfl, fun _ hv => hv⟩
  · rintro v rest r s' ⟨hr, rfl, hall⟩
    refine wpAny_bind (hi v (hall v List.mem_cons_self) _ _ _ ?_)
    simp only [Bool.not_true, Bool.false_eq_true, if_false]
    exact wpAny_pure ⟨rfl, rfl, fun u hu' => hall u (List.mem_cons_of_mem _ hu')⟩
  · rintro ⟨r1, r2⟩ s' ⟨hr, rfl, _⟩
    simp only at hr
    subst hr
    exact wpAny_pure h
theorem quiet_val {A : Around} {E : Value → Shared → Prop} {s : Shared} {v : Value} {n : Nat} {Q : Bool → Shared → Prop} (hv : carriedByValue v = true) (h : Q true s) : wpAny (model prog w) A (eqIsQuiet n v) Q E s := by
  rw [eqIsQuiet_byValue _ hv]
  exact wpAny_pure h
theorem BKey.eqv (x y : Str) : PyData.eqv (.tuple [.str x, .tuple [], .int 0, .int 0]) (.tuple [.str y, .tuple [], .int 0, .int 0]) = decide (x = y) := by
  simp only [PyData.eqv, PyData.eqvAll, beq_self_eq_true, Bool.and_true]
  by_cases h : x = y
  · subst h; simp
  · simp [h]
theorem BKey.lay {x : Str} (h : PyData.strOk x = true) : PyData.canLay0 (.tuple [.str x, .tuple [], .int 0, .int 0]) = true := by
  simp [PyData.canLay0, PyData.canLayAll0, h]
def bankKind (prog : Program) (w : World) : HeapKind prog w Str where
  is := BKey
  hash := fun x => tupHash [hashStr w x, tupHash [], (PySem.intKind prog w).hash 0, (PySem.intKind prog w).hash 0]
  draws := fun _ => 5
  room := fun A => A.units + 70 < cLine
  inj := fun hx hy => by
    obtain ⟨_, e, t, t1, t2, h1, _⟩ := hx
    obtain ⟨_, e', t', t1', t2', h1', _⟩ := hy
    have := tup_same h1 h1'
    simp at this
    exact this.1.1
  keeps := fun x ho hd hs => by
    obtain ⟨h0, e, t, t1, t2, h1, h2⟩ := x
    exact ⟨h0, e, t, t1, t2, tup_but h1 ho hd hs, tup_but h2 ho hd hs⟩
  pyHash := fun {A E s x a Q} hu hk h => by
    obtain ⟨_, e, t, t1, t2, h1, h2⟩ := hk
    refine hash_tup (nd := 4) (k0 := 65) (by decide) h1 (HL.cons (d := 1) (fun A' Q' E' s' _ he q => wpAny_pyHash_str q) (HL.cons (d := 1) (fun A' Q' E' s' hu' he q => hash_tup (k0 := 60) (by decide) (he ▸ h2) .nil A' Q' E' s' (by omega) rfl q) (HL.cons (d := 1) (fun A' Q' E' s' _ he q => (PySem.intKind prog w).pyHash (k := 0) (by rfl) q) (HL.cons (d := 1) (n := 0) (fun A' Q' E' s' _ he q => (PySem.intKind prog w).pyHash (k := 0) (by rfl) q) .nil)))) A Q E s (by omega) rfl h
  eqBool := fun {A E s x y a b Q} hu hx hy h => by
    obtain ⟨as, r1⟩ := BKey.reads hx
    obtain ⟨bs, r2⟩ := BKey.reads hy
    refine PySem.SeqAt.eqBoolOverData prog w A E s _ _ _ _ as bs Q r1 r2 (BKey.lay hx.1) (BKey.lay hy.1) ?_ (by rw [BKey.eqv]; exact h)
    simp [PyData.depth, PyData.depthAll]
    omega
  quiet := fun {A E s x a Q} hk h => by
    obtain ⟨_, e, t, t1, t2, h1, h2⟩ := hk
    refine quiet_tup h1 (fun v hv A' E' Q' q => ?_) h
    simp only [List.mem_cons, List.not_mem_nil, or_false] at hv
    rcases hv with rfl | rfl | rfl | rfl
    · exact quiet_val rfl q
    · exact quiet_tup h2 (fun v hv => by simp at hv) q
    · exact quiet_val rfl q
    · exact quiet_val rfl q
end
end
section
section
variable {prog : Program} {w : World} {A : Around} {E : Value → Shared → Prop} {s : Shared} {h h₀ : Heap} {L d a : Addr} {m : Str → Option Value} {news : List (Addr × Obj)} {g : Obj → List (Addr × Obj)} {o : Obj} {xs : List (Str × Addr × Value)} {k : Str} {v dflt : Value}
/-- a dict whose keys are a bank's -/
structure BD (prog : Program) (w : World) (o : Obj) (xs : List (Str × Addr × Value)) : Prop where
  exact_ : o.ExactDict
  data : ∃ es ep, o.data = .dict es ep ∧ es.toList = xs.map (entryOfKey (bankKind prog w))
  nodup : (xs.map (·.1)).Nodup
theorem BD.nil {K : Type} [DecidableEq K] {knd : KeyKind prog w K} (hd : o.IsDictOf knd []) : BD prog w o [] := by
  obtain ⟨es, ep, h1, h2, h3, h4, h5⟩ := hd
  refine ⟨h1, ⟨es, ep, h2, ?_⟩, List.nodup_nil⟩
  cases h : es.toList with
  | nil => rfl
  | cons x l => rw [h] at h4; cases h4
theorem bkey {x : Str} {e : Addr} {t t1 t2 : Tok} (N : News h₀ L h news) (h1 : (a, ({ cls := .type "tuple", data := .seq #[.str x t, .ref e, .int 0 t1, .int 0 t2] } : Obj)) ∈ news) (h2 : (e, ({ cls := .type "tuple", data := .seq #[] } : Obj)) ∈ news) (hx : PyData.strOk x = true) : BKey h x a :=
  ⟨hx, e, t, t1, t2, ⟨_, (N _ h1).1, rfl, _, rfl⟩, ⟨_, (N _ h2).1, rfl, _, rfl⟩⟩
theorem bd_dict (N : News h₀ L h news) (hp : (d, o) ∈ news) (hd : BD prog w o xs) (hks : ∀ x ∈ xs, BKey h x.1 x.2.1) : h.DictOfH (bankKind prog w) d xs := by
  obtain ⟨he, ⟨es, ep, h1, h2⟩, hn⟩ := hd
  exact ⟨o, es, ep, (N _ hp).1, he, h1, h2, hks, hn⟩
theorem bd_method {pl : Sem Bool} {Q : Value × List Value → Shared → Prop} (N : News h₀ L s.heap news) (hp : (d, o) ∈ news) (hd : BD prog w o xs) (h : Q (.builtin "dict.get", [.ref d]) s) : wpAny (model prog w) A (getMethod (.ref d) "get" pl) Q E s := by
  obtain ⟨he, ⟨es, ep, h1, h2⟩, hn⟩ := hd
  have hg := (N _ hp).1
  exact getMethod_builtin (T := "dict") ⟨o, hg, he.1⟩ PySem.F.plainAttrs_dict PySem.F.slot_dict_get PySem.F.type_dict_get (fun a e => by cases e; exact ⟨o, hg, he.2.1⟩) h
theorem bd_get {Q : Value → Shared → Prop} (N : News h₀ L s.heap news) (hp : (d, o) ∈ news) (hd : BD prog w o xs) (lo : (d == sysModules) = false) (hu : A.units + 90 < cLine) (hks : ∀ x ∈ xs, BKey s.heap x.1 x.2.1) (hk : BKey s.heap k a) (hno : atKey xs k = none) (h : Q dflt { s with toks := s.toks + 5 }) :
    wpAny (model prog w) A (call (.builtin "dict.get") [.ref d, .ref a, dflt]) Q E s :=
  have hD := bd_dict N hp hd hks
  call_meetsIn PySem.F.slot_dict_get hD.typeIs PySem.F.entry_dict_get (PySem.F.args_dict_get_3 _ _ _) (meetsH_dict_get_default (bankKind prog w) d a lo dflt)
    ⟨by show A.in1.units + 70 < cLine; simp only []; omega, k, xs, hk, hD, by rw [hno]; exact h⟩
theorem bd_get0 {K : Type} [DecidableEq K] {knd : KeyKind prog w K} {Q : Value → Shared → Prop} (N : News h₀ L s.heap news) (hp : (d, o) ∈ news) (hd : o.IsDictOf knd []) (lo : (d == sysModules) = false) (hu : A.units + 90 < cLine) (hk : BKey s.heap k a) (h : Q dflt { s with toks := s.toks + 5 }) :
    wpAny (model prog w) A (call (.builtin "dict.get") [.ref d, .ref a, dflt]) Q E s :=
  bd_get N hp (BD.nil hd) lo hu (fun x hx => nomatch hx) hk rfl h
theorem bd_set {Q : Unit → Shared → Prop} (F : Fr h₀ L s.heap m) (N : News h₀ L s.heap news) (U : UpdF d o news g) (hd : BD prog w o xs) (hu : A.units + 90 < cLine) (hks : ∀ x ∈ xs, BKey s.heap x.1 x.2.1) (hk : BKey s.heap k a) (hno : atKey xs k = none) (hsz : xs.length ≤ 100)
    (h : ∀ h' o', Fr h₀ L h' m → News h₀ L h' (g o') → BD prog w o' (xs ++ [(k, a, v)]) → Q () { s with heap := h', toks := s.toks + 5 }) : wpAny (model prog w) A (setItem (.ref d) (.ref a) v) Q E s := by
  obtain ⟨pre, post, rfl, hg, p, q⟩ := U.split
  have hm := N (d, o) (List.mem_append_right _ (.head _))
  have hD := bd_dict N (List.mem_append_right _ (.head _)) hd hks
  refine wpAny_setItem_heap (knd := bankKind prog w) (k := k) (by show A.in1.units + 70 < cLine; simp only []; omega) hk hD (fun h' hmm hs => ?_) (by rw [sizeLine_eq]; omega)
  obtain ⟨o', es, ep, ho', he', h1, h2, _, hn⟩ := hmm
  rw [storedH_new hno] at h2 hn
  exact h h' o' (F.change hs hm.2.1 hm.2.2) (hg o' ▸ N.setIn p q hs ho') ⟨he', ⟨es, ep, h1, h2⟩, hn⟩
theorem bd_set0 {K : Type} [DecidableEq K] {knd : KeyKind prog w K} {Q : Unit → Shared → Prop} (F : Fr h₀ L s.heap m) (N : News h₀ L s.heap news) (U : UpdF d o news g) (hd : o.IsDictOf knd []) (hu : A.units + 90 < cLine) (hk : BKey s.heap k a)
    (h : ∀ h' o', Fr h₀ L h' m → News h₀ L h' (g o') → BD prog w o' [(k, a, v)] → Q () { s with heap := h', toks := s.toks + 5 }) : wpAny (model prog w) A (setItem (.ref d) (.ref a) v) Q E s :=
  bd_set F N U (BD.nil hd) hu (fun x hx => nomatch hx) hk rfl (Nat.zero_le _) h
theorem bkeys1 {k' : Str} {a' : Addr} {v' : Value} (h1 : BKey h k' a') : ∀ x ∈ [(k', a', v')], BKey h x.1 x.2.1 := by
  intro x hx
  rcases List.mem_singleton.mp hx with rfl
  exact h1
theorem atKey1 {k' : Str} {a' : Addr} {v' : Value} (h : k' ≠ k) : atKey [(k', a', v')] k = none := by
  simp [atKey, h]
end
end
section
theorem fillMnu : Mine.HK = Mine.HK ∧ PySem.Challenge.rw_rg0218_01 = PySem.Challenge.rw_rg0218_01 := by
  k_fill; exact ⟨rfl, rfl⟩
def menuVs : List Value := [.ref 858, .ref 859, .ref 860, .ref 861, .ref 862, .ref 863, .ref 864, .ref 870]
def innerIs : List It := [.sym "!", .sym "p", .key "named", .sym "inner"]
def menuIs : List It := [.key "named", .key "w", .sym "a", .sym "b", .sym "named", .other "num" (.int 3), .other "str" (.str "named"), .other "list" (.tuple (innerIs.map It.data))]
def headVs : List Value := [.ref 872, .ref 873, .ref 874, .ref 875, .ref 876, .ref 877, .ref 878]
def headIs : List It := [.sym "!", .sym "!", .sym "!", .sym "!", .sym "as", .key "!", .other "str" (.str "!")]
theorem tup2 {P : Params} {h : Heap} (X : (Mine.HK P).In h) {a : Addr} {d : Option Addr} {vs : Array Value} {n : Nat} {sl : Array (Option Value)} (e : (Mine.HK P).lookup a = some ⟨.type "tuple", d, .seq vs n, sl⟩) : IsTup h a vs := ⟨_, X _ _ e, rfl, _, rfl⟩
theorem t871 {P : Params} {h : Heap} (X : (Mine.HK P).In h) : IsTup h 871 menuVs.toArray := tup2 X (by k_is)
theorem rd2 {P : Params} {h : Heap} (X : (Mine.HK P).In h) {a : Addr} {d : Option Addr} {x y : Str} {t u : Tok} {n : Nat} {sl : Array (Option Value)} (e : (Mine.HK P).lookup a = some ⟨.type "tuple", d, .seq #[.str x t, .str y u] n, sl⟩) : Rd h (.ref a) (.tuple [.str x, .str y]) :=
  Rd.tup (tup2 X e) (RdAll.cons ⟨_, .str _ _⟩ (RdAll.cons ⟨_, .str _ _⟩ RdAll.nil))
theorem menu_shaped : ∀ i ∈ menuIs, SeqAt.shaped i.data = true := by
  intro i hi
  simp only [menuIs, innerIs, List.mem_cons, List.not_mem_nil, or_false] at hi
  rcases hi with rfl | rfl | rfl | rfl | rfl | rfl | rfl | rfl <;> (simp [It.data, It.tag, It.sec, SeqAt.shaped, PyData.canLay0, PyData.canLayAll0, PyData.depth, PyData.depthAll, PyData.strOk]; try decide +kernel)
theorem head_shaped : ∀ i ∈ headIs, SeqAt.shaped i.data = true := by
  intro i hi
  simp only [headIs, List.mem_cons, List.not_mem_nil, or_false] at hi
  rcases hi with rfl | rfl | rfl | rfl | rfl | rfl | rfl <;> (simp [It.data, It.tag, It.sec, SeqAt.shaped, PyData.canLay0, PyData.canLayAll0, PyData.depth, PyData.depthAll, PyData.strOk]; try decide +kernel)
def nest' (i0 : It) : It := .other "list" (.tuple ([i0, .sym "p", .key "named", .sym "last"].map It.data))
theorem nest_shaped : ∀ i ∈ headIs, SeqAt.shaped (nest' i).data = true := by
  intro i hi
  simp only [headIs, List.mem_cons, List.not_mem_nil, or_false] at hi
  rcases hi with rfl | rfl | rfl | rfl | rfl | rfl | rfl <;> (simp [nest', It.data, It.tag, It.sec, SeqAt.shaped, PyData.canLay0, PyData.canLayAll0, PyData.depth, PyData.depthAll, PyData.strOk]; try decide +kernel)
theorem menu_own : ∀ i ∈ menuIs, i.Own := by
  intro i hi
  simp only [menuIs, innerIs, List.mem_cons, List.not_mem_nil, or_false] at hi
  rcases hi with rfl | rfl | rfl | rfl | rfl | rfl | rfl | rfl <;> first | exact trivial | exact ⟨by decide +kernel, by decide +kernel⟩
theorem head_own : ∀ i ∈ headIs, i.Own := by
  intro i hi
  simp only [headIs, List.mem_cons, List.not_mem_nil, or_false] at hi
  rcases hi with rfl | rfl | rfl | rfl | rfl | rfl | rfl <;> first | exact trivial | exact ⟨by decide +kernel, by decide +kernel⟩
theorem Its.mk {h : Heap} : ∀ {vs : List Value} {is : List It}, RdAll h vs (is.map It.data) → (∀ i ∈ is, SeqAt.shaped i.data = true) → (∀ i ∈ is, i.Own) → Its h vs is
  | vs, [], r, _, _ => by
    have := r.inv0; subst this; exact .nil
  | vs, i :: is, r, s, o => by
    obtain ⟨v, vs', rfl, r1, r2⟩ := r.inv
    exact .cons ⟨r1, s i (.head _), o i (.head _)⟩ (Its.mk r2 (fun j hj => s j (.tail _ hj)) (fun j hj => o j (.tail _ hj)))
theorem menu_its {P : Params} {h : Heap} (X : (Mine.HK P).In h) : Its h menuVs menuIs := by
  refine Its.mk ?_ menu_shaped menu_own
  refine RdAll.cons (rd2 X (by k_is)) (RdAll.cons (rd2 X (by k_is)) (RdAll.cons (rd2 X (by k_is)) (RdAll.cons (rd2 X (by k_is)) (RdAll.cons (rd2 X (by k_is)) (RdAll.cons ?_ (RdAll.cons (rd2 X (by k_is)) (RdAll.cons ?_ RdAll.nil)))))))
  · exact Rd.tup (vs := #[.str "num" _, .int 3 _]) (tup2 X (by k_is)) (RdAll.cons ⟨_, .str _ _⟩ (RdAll.cons ⟨_, .int _ _⟩ RdAll.nil))
  · refine Rd.tup (vs := #[.str "list" _, .ref 869]) (tup2 X (by k_is)) (RdAll.cons ⟨_, .str _ _⟩ (RdAll.cons ?_ RdAll.nil))
    exact Rd.tup (vs := #[.ref 865, .ref 866, .ref 867, .ref 868]) (tup2 X (by k_is)) (RdAll.cons (rd2 X (by k_is)) (RdAll.cons (rd2 X (by k_is)) (RdAll.cons (rd2 X (by k_is)) (RdAll.cons (rd2 X (by k_is)) RdAll.nil))))
theorem head_its {P : Params} {h : Heap} (X : (Mine.HK P).In h) : IsTup h 879 headVs.toArray ∧ Its h headVs headIs := by
  refine ⟨tup2 X (by k_is), Its.mk ?_ head_shaped head_own⟩
  exact RdAll.cons (rd2 X (by k_is)) (RdAll.cons (rd2 X (by k_is)) (RdAll.cons (rd2 X (by k_is)) (RdAll.cons (rd2 X (by k_is)) (RdAll.cons (rd2 X (by k_is)) (RdAll.cons (rd2 X (by k_is)) (RdAll.cons (rd2 X (by k_is)) RdAll.nil))))))
end
section
abbrev BSt := Obj × Int × Tok
/-- the bowl's dict, with its place -/
structure Bowl (prog : Program) (w : World) (D : Addr) (c : BSt) : Prop where
  dict : c.1.IsDictOf (PySem.strKind prog w) [(Str.ofString "cells", .ref D), (Str.ofString "at", .int c.2.1 c.2.2)]
abbrev LapLed (rd rdd : Addr) (es : List DictEntry) (ne : Nat) (D : Addr) (ys : List Value) (bowl : Addr) (c : BSt) : List (Addr × Obj) :=
  [(rd, instObj 853 rdd), (rdd, W.dictOf es ne), (D, LCg.lst ys), (bowl, c.1)]
theorem kst_laps {prog : Program} {w : World} {A : Around} {E : Value → Shared → Prop} {s : Shared} {env : Env} {h₀ : Heap} {x : Str} {body : List Stmt} {Q : Flow → Shared → Prop} {r : Addr} {t₀ u₀ v₀ : Tok} {m₀ : Str → Option Value} {news : List (Addr × Obj)} {rd rdd D bowl : Addr} {es : List DictEntry} {ne : Nat} {ys : List Value} {o : Obj} {t : Tok}
    (hh : A.handled = none) (hr : IsRange s.heap r 0 2 1 t₀ u₀ v₀) (F : Fr h₀ env.locals s.heap m₀) (N : News h₀ env.locals s.heap news)
    (hb : m₀ (Str.ofString "bowl") = some (.ref bowl)) (h1 : (rd, instObj 853 rdd) ∈ news) (h2 : (rdd, W.dictOf es ne) ∈ news) (h3 : (bowl, o) ∈ news)
    (hd : o.IsDictOf (PySem.strKind prog w) [(Str.ofString "cells", .ref D), (Str.ofString "at", .int 0 t)]) (h4 : (D, LCg.lst ys) ∈ news) (g1 : @Ne Nat rd bowl) (g2 : @Ne Nat rdd bowl) (g3 : @Ne Nat D bowl)
    (turn : (@Ne Nat rd bowl) → (@Ne Nat rdd bowl) → (@Ne Nat D bowl) → ∀ (c : BSt) (pre : List Int) (k : Int) t (u : Str → Option Value) h tk own, pre.length < 2 → OwnOff own [rd, rdd, D, bowl] → Bowl prog w D c → 0 ≤ c.2.1 → c.2.1 ≤ 10 * pre.length →
      Fr h₀ env.locals h (fun y => if y = x then some (.int k t) else if [Str.ofString "start", Str.ofString "notes", Str.ofString "turn"].contains y then u y else m₀ y) → News h₀ env.locals h ((rd, instObj 853 rdd) :: (rdd, W.dictOf es ne) :: (D, LCg.lst ys) :: (bowl, c.1) :: own) →
      wpAny (model prog w) A (execs body env) (InvPostN h₀ env.locals (KstS (LapLed rd rdd es ne D ys bowl) (fun _ => []) (Bowl prog w D) x [Str.ofString "start", Str.ofString "notes", Str.ofString "turn"] m₀ (fun pre c => 0 ≤ c.2.1 ∧ c.2.1 ≤ 10 * pre.length) (pre ++ [k])) own [rd, rdd, D, bowl] { s with heap := h, toks := tk } Q) E { s with heap := h, toks := tk })
    (done : ∀ (c : BSt) (u : Str → Option Value) h tk, Fr h₀ env.locals h (fun y => if y = x then u y else if [Str.ofString "start", Str.ofString "notes", Str.ofString "turn"].contains y then u y else m₀ y) → News h₀ env.locals h (LapLed rd rdd es ne D ys bowl c) → Q .next { s with heap := h, toks := tk }) :
    wpAny (model prog w) A (pyIter (.ref r)) (fun it s₂ => LoopAtV prog w A h₀ env x body Q E it s₂) E s := by
  refine kst_range (σ := BSt) (n := 2) (LapLed rd rdd es ne D ys bowl) (fun _ => []) (Bowl prog w D) [Str.ofString "start", Str.ofString "notes", Str.ofString "turn"] (fun pre c => 0 ≤ c.2.1 ∧ c.2.1 ≤ 10 * pre.length) (o, 0, t) hh hr (by decide +kernel) (by decide +kernel) F ?_ ⟨hd⟩ (List.forall_mem_nil _) ⟨Int.le_refl 0, Int.le_refl 0⟩ ?_ ?_
  · intro p hp
    rcases List.mem_cons.mp hp with rfl | hp
    · exact N _ h1
    rcases List.mem_cons.mp hp with rfl | hp
    · exact N _ h2
    rcases List.mem_cons.mp hp with rfl | hp
    · exact N _ h4
    rcases List.mem_cons.mp hp with rfl | hp
    · exact N _ h3
    · cases hp
  · intro c pre k t u h tk own hk hlt hoff hf hp F₁ N₁
    exact turn g1 g2 g3 c pre k t u h tk own hlt hoff hf hp.1 hp.2 F₁ N₁
  · intro c u h tk hf hp F₁ N₁
    exact done c u h tk F₁ N₁

theorem offMore {tl : List (Addr × Obj)} {rd rdd D bowl nl st : Addr} (h1 : OwnOff tl [rd, rdd, D, bowl]) (h2 : ∀ p ∈ tl, p.1 ≠ nl) (h3 : ∀ p ∈ tl, p.1 ≠ st) : OwnOff tl [bowl, nl, st, rd, rdd, D] := by
  intro p hp b hb
  have k := h1 p hp
  simp only [List.mem_cons, List.not_mem_nil, or_false] at hb k
  rcases hb with rfl | rfl | rfl | rfl | rfl | rfl
  · exact k _ (.inr (.inr (.inr rfl)))
  · exact h2 p hp
  · exact h3 p hp
  · exact k _ (.inl rfl)
  · exact k _ (.inr (.inl rfl))
  · exact k _ (.inr (.inr (.inl rfl)))
/-- between the turns: the bowl, the notes and their items, the notes' list's room -/
abbrev TSt := BSt × List Value × List It × Nat
structure TFacts (prog : Program) (w : World) (D : Addr) (h₀ : Heap) (c : TSt) : Prop where
  bowl : Bowl prog w D c.1
  its : Its h₀ c.2.1 c.2.2.1
def TurnEnd (prog : Program) (w : World) (D : Addr) (h₀ : Heap) (L : Addr) (s₁ : Shared) (bowl nl : Addr) (rest : List (Addr × Obj)) (x : Str) (m₀ : Str → Option Value) (a : Int) (n : Nat) (f : Flow) (s' : Shared) : Prop :=
  f = .next ∧ ∃ (c : TSt) (m' : Str → Option Value) (h' : Heap) (tk' : Nat), s' = { s₁ with heap := h', toks := tk' } ∧ Fr h₀ L h' m' ∧ News h₀ L h' ((bowl, c.1.1) :: (nl, W.listOf c.2.1.toArray c.2.2.2) :: rest) ∧ TFacts prog w D h₀ c ∧ 0 ≤ c.1.2.1 ∧ c.1.2.1 ≤ a + (n + 1 : Nat) ∧ c.2.1.length = n + 1 ∧ (∀ z, z ≠ x → m' z = m₀ z)
theorem TurnEnd.mk' {prog : Program} {w : World} {D : Addr} {h₀ : Heap} {L : Addr} {s₁ : Shared} {bowl nl : Addr} {rest news : List (Addr × Obj)} {x : Str} {m₀ m' : Str → Option Value} {a a' : Int} {n nn : Nat} {o' : Obj} {t' : Tok} {us : List Value} {js : List It} {h' : Heap} {tk' : Nat}
    (F : Fr h₀ L h' m') (N : News h₀ L h' news) (h1 : (bowl, o') ∈ news) (h2 : (nl, W.listOf us.toArray nn) ∈ news) (h3 : ∀ p ∈ rest, p ∈ news) (hd : o'.IsDictOf (PySem.strKind prog w) [(Str.ofString "cells", .ref D), (Str.ofString "at", .int a' t')]) (hi : Its h₀ us js) (b1 : 0 ≤ a') (b2 : a' ≤ a + (n + 1 : Nat)) (hl : us.length = n + 1) (hm : ∀ z, z ≠ x → m' z = m₀ z) :
    TurnEnd prog w D h₀ L s₁ bowl nl rest x m₀ a n .next { s₁ with heap := h', toks := tk' } :=
  ⟨rfl, ((o', a', t'), us, js, nn), m', h', tk', rfl, F, fun p hp => by
    rcases List.mem_cons.mp hp with rfl | hp
    · exact N _ h1
    rcases List.mem_cons.mp hp with rfl | hp
    · exact N _ h2
    · exact N _ (h3 p hp), ⟨⟨hd⟩, hi⟩, b1, b2, hl, hm⟩
theorem kst_turns {prog : Program} {w : World} {A : Around} {E : Value → Shared → Prop} {s : Shared} {env : Env} {h₀ : Heap} {x : Str} {body : List Stmt} {Q : Flow → Shared → Prop} {r : Addr} {t₀ u₀ v₀ : Tok} {m₀ : Str → Option Value} {b : Int} {bowl D nl : Addr} {o : Obj} {a : Int} {t : Tok} {tp so rdp rddp Dp : Addr × Obj} {tl : List (Addr × Obj)}
    (hh : A.handled = none) (hr : IsRange s.heap r 0 b 1 t₀ u₀ v₀) (hb0 : 0 ≤ b) (hb : b < 8) (F : Fr h₀ env.locals s.heap m₀)
    (N : News h₀ env.locals s.heap (tp :: (nl, W.listOf #[] 0) :: so :: rdp :: rddp :: Dp :: (bowl, o) :: tl))
    (htl : OwnOff tl [bowl, nl, so.1, rdp.1, rddp.1, Dp.1])
    (hd : o.IsDictOf (PySem.strKind prog w) [(Str.ofString "cells", .ref D), (Str.ofString "at", .int a t)]) (ha : 0 ≤ a)
    (turn : ∀ (c : TSt) (pre : List Int) (k : Int) t (u : Str → Option Value) h tk ow, pre.length < 8 → OwnOff ow [bowl, nl, so.1, rdp.1, rddp.1, Dp.1] → TFacts prog w D h₀ c → 0 ≤ c.1.2.1 → c.1.2.1 ≤ a + pre.length → c.2.1.length = pre.length →
      Fr h₀ env.locals h (fun y => if y = x then some (.int k t) else m₀ y) → News h₀ env.locals h ((bowl, c.1.1) :: (nl, W.listOf c.2.1.toArray c.2.2.2) :: so :: rdp :: rddp :: Dp :: ow) →
      wpAny (model prog w) A (execs body env) (TurnEnd prog w D h₀ env.locals { s with heap := h, toks := tk } bowl nl (so :: rdp :: rddp :: Dp :: ow) x m₀ a pre.length) E { s with heap := h, toks := tk })
    (done : ∀ (c : TSt) (u : Str → Option Value) h tk, TFacts prog w D h₀ c → 0 ≤ c.1.2.1 → c.1.2.1 ≤ a + 7 → c.2.1.length ≤ 7 → Fr h₀ env.locals h (fun y => if y = x then u y else m₀ y) → News h₀ env.locals h ((bowl, c.1.1) :: (nl, W.listOf c.2.1.toArray c.2.2.2) :: so :: rdp :: rddp :: Dp :: tl) → Q .next { s with heap := h, toks := tk }) :
    wpAny (model prog w) A (pyIter (.ref r)) (fun it s₂ => LoopAtV prog w A h₀ env x body Q E it s₂) E s := by
  refine kst_range (σ := TSt) (n := b.toNat) (fun c => (bowl, c.1.1) :: (nl, W.listOf c.2.1.toArray c.2.2.2) :: so :: rdp :: rddp :: Dp :: tl) (fun _ => []) (TFacts prog w D h₀) [] (fun pre c => 0 ≤ c.1.2.1 ∧ c.1.2.1 ≤ a + pre.length ∧ c.2.1.length = pre.length) ((o, a, t), [], [], 0) hh hr (small_one (by omega) (by omega) (by omega) (by omega)) (by rw [rangeSize_nat]; omega) F ?_ ⟨⟨hd⟩, .nil⟩ (List.forall_mem_nil _) ⟨ha, by simp, rfl⟩ ?_ ?_
  · intro p hp
    refine N p ?_
    simp only [List.mem_cons] at hp ⊢
    rcases hp with rfl | rfl | rfl | rfl | rfl | rfl | hp
    · simp
    · simp
    · simp
    · simp
    · simp
    · simp
    · simp [hp]
  · rintro c pre k t' u h tk own hk hlt hoff hf ⟨hp1, hp2, hp3⟩ F₁ N₁
    have hoff' : OwnOff (tl ++ own) [bowl, nl, so.1, rdp.1, rddp.1, Dp.1] := by
      intro p hp q hq
      rcases List.mem_append.mp hp with hp | hp
      · exact htl p hp q hq
      · refine hoff p hp q ?_
        simp only [List.map_cons, List.mem_cons, List.not_mem_nil, or_false] at hq ⊢
        rcases hq with rfl | rfl | rfl | rfl | rfl | rfl <;> simp
    have e : (fun y => if y = x then some (Value.int k t') else kstB (fun z => if ([] : List Str).contains z then u z else m₀ z) [] y) = fun y => if y = x then some (Value.int k t') else m₀ y := by
      funext y
      simp [kstB]
    rw [e] at F₁
    refine wpAny_mono (turn c pre k t' u h tk (tl ++ own) (by omega) hoff' hf hp1 hp2 hp3 F₁ N₁) (fun f s' ht => ?_) fun _ _ z => z
    obtain ⟨rfl, c', m', h', tk', rfl, F', N', hf', b1, b2, hl', hm'⟩ := ht
    refine kst_end (x := x) (ps := fun _ => []) (stored := []) (m₀ := m₀) (Facts := TFacts prog w D h₀) (P := fun pre c => 0 ≤ c.1.2.1 ∧ c.1.2.1 ≤ a + pre.length ∧ c.2.1.length = pre.length) c' F' N' (fun p hp => ?_) (fun p hp => ?_) rfl hf' (List.forall_mem_nil _) (fun z h1 _ _ => hm' z h1) ⟨b1, ?_, ?_⟩
    · simp only [List.mem_cons, List.mem_append] at hp ⊢
      rcases hp with rfl | rfl | rfl | rfl | rfl | rfl | hp
      · simp
      · simp
      · simp
      · simp
      · simp
      · simp
      · simp [hp]
    · simp only [List.mem_cons, List.mem_append]
      simp [hp]
    · simpa using b2
    · simpa using hl'
  · rintro c u h tk hf ⟨hp1, hp2, hp3⟩ F₁ N₁
    have e : (fun y => if y = x then u y else kstB (fun z => if ([] : List Str).contains z then u z else m₀ z) [] y) = fun y => if y = x then u y else m₀ y := by
      funext y
      simp [kstB]
    rw [e] at F₁
    rw [rangeKs_length] at hp2 hp3
    exact done c u h tk hf hp1 (by omega) (by omega) F₁ N₁
open PySem.Calls in
theorem keep2 {G : Prop} {prog : Program} {w : World} {h₀ h base : Heap} {L bowl D : Addr} {m : Str → Option Value} {news : List (Addr × Obj)} {o : Obj} {ys : List Value} {v : Value} {p : Program} {loose : List Str} {mean : ExcName → Option Value} {mg mb : Str → Option Value} {K : Frag} (F : Fr h₀ L h m) (N : News h₀ L h news) (hb : m (Str.ofString "bowl") = some (.ref bowl)) (h1 : (bowl, o) ∈ news)
    (hd : o.IsDictOf (PySem.strKind prog w) [(Str.ofString "cells", .ref D), (Str.ofString "at", v)]) (h2 : (D, LCg.lst ys) ∈ news) (hne : @Ne Nat D bowl) (B : Below callerA base [] h₀) (T : Top p loose mean mg mb h₀) (X : K.In h₀)
    (k : Below callerA base [] h₀ → Top p loose mean mg mb h₀ → K.In h₀ → Fr h₀ L h m → o.IsDictOf (PySem.strKind prog w) [(Str.ofString "cells", .ref D), (Str.ofString "at", v)] → @Ne Nat D bowl → News h₀ L h [(D, LCg.lst ys), (bowl, o)] → G) : G :=
  k B T X F hd hne (fun p hp => by
    rcases List.mem_cons.mp hp with rfl | hp
    · exact N _ h2
    rcases List.mem_cons.mp hp with rfl | hp
    · exact N _ h1
    · cases hp)
open PySem.Calls in
theorem baseOf {p : Program} {loose : List Str} {mean : ExcName → Option Value} {mg mb : Str → Option Value} {base h : Heap} {K : Frag} (B : Below callerA base [] h) (T : Top p loose mean mg mb h) (X : K.In h) : Stop (Below callerA base [] h ∧ Top p loose mean mg mb h ∧ K.In h) := ⟨B, T, X⟩
end
section
theorem CallT.use0 {dd uu : Nat} {prog : Program} {w : World} {K : Frag} {p : Program} {loose : List Str} {mean : ExcName → Option Value} {mg mb : Str → Option Value} {f : Addr} {vs : List Value} {Pre : Heap → Prop} {Post : Heap → Heap → Value → Prop} {dp un : Nat} {gd : Option (List Code)} {cn : Str} {cs : Scope} {a : Addr} {ccd : Value} {cl : List (Str × Addr)} {A₀ : Around} {base h₀ : Heap} {L : Addr} {m : Str → Option Value} {s : Shared} {news : List (Addr × Obj)} {Q E : Value → Shared → Prop}
    (C : CallT dd uu prog w K p loose mean mg mb f vs Pre Post) (B : Below A₀ base [] h₀) (F : Fr h₀ L s.heap m) (X : K.In h₀) (N : News h₀ L s.heap news) (T : Top p loose mean mg mb h₀) (XB : K.In base) (TB : Top p loose mean mg mb base) (hk : cs.kind = .function) (pre : Pre s.heap) (hd : dp + dd < recursionLimit) (hu : un + uu < cLine)
    (ret : ∀ r h' tk', Fr h₀ L h' m → News h₀ L h' news → Post s.heap h' r → Q r { s with heap := h', toks := tk' }) :
    wpAny (model prog w) (ktrTop dp un gd cn cs L a ccd cl []) (call (.ref f) vs) Q E s :=
  CallT.use C B F X N T XB TB ktsDicts_nil hk pre hd hu fun r h' tk' h₁ T₁ F₁ N₁ _ _ _ _ P =>
    ret r h' tk' ⟨F₁.ns, fun b o e => F₁.keep b o (T₁.other b o e (fun q => nomatch q)), T₁.size ▸ F₁.above⟩ (fun q hq => ⟨(N₁ q hq).1, (N₁ q hq).2.1, kts_none (fun b o e => T₁.other b o e (fun q => nomatch q)) (N₁ q hq).2.2⟩) P
theorem shSP : SeqAt.shaped (.tuple [.str "sym", .str "p"]) = true := by
  simp [SeqAt.shaped, PyData.canLay0, PyData.canLayAll0, PyData.depth, PyData.depthAll, PyData.strOk]
  decide +kernel
theorem mainFile : ((PySem.Challenge.rw_rg0218_01.row.prog.main.file : Str) == ("/claim/cut.py" : Str)) = true := by decide +kernel
theorem mainSuper : (PySem.Challenge.rw_rg0218_01.row.prog.main.scope.names.lookup ("super" : Str)).isSome = false := by decide +kernel
theorem right_use {w : World} {p : Program} {loose : List Str} {mean : ExcName → Option Value} {mg mb : Str → Option Value} {dp un : Nat} {gd : Option (List Code)} {cn : Str} {cs : Scope} {a : Addr} {ccd : Value} {cl : List (Str × Addr)} {A₀ : Around} {base h₀ : Heap} {L : Addr} {m : Str → Option Value} {s : Shared} {news : List (Addr × Obj)} {Q E : Value → Shared → Prop} {rd rdd st nl tm a0 a1 : Addr} {es : List DictEntry} {ne c0 nn n6 : Nat} {us : List Value} {i0 i1 : It} {js : List It} {t1 t2 : Tok}
    (B : Below A₀ base [] h₀) (F : Fr h₀ L s.heap m) (X : (Mine.HK w.params).In h₀) (N : News h₀ L s.heap news) (T : Top p loose mean mg mb h₀) (XB : (Mine.HK w.params).In base) (TB : Top p loose mean mg mb base) (hk : cs.kind = .function)
    (h1 : (rd, instObj 853 rdd) ∈ news) (h2 : (rdd, W.dictOf es ne) ∈ news) (h3 : getL (Str.ofString "names_noted") es = some none) (h4 : (st, W.listOf #[.ref a0, .ref a1] c0) ∈ news) (h5 : (nl, W.listOf us.toArray nn) ∈ news)
    (h6 : (tm, ({ cls := .type "tuple", data := .seq #[.str (Str.ofString "sym") t1, .str (Str.ofString "p") t2] n6 } : Obj)) ∈ news)
    (x0 : i0.At h₀ (.ref a0)) (x1 : i1.At h₀ (.ref a1)) (hi : Its h₀ us js) (hn : us.length ≤ 7) (hnest : SeqAt.shaped (nest' i0).data = true) (hd : dp + 64 < recursionLimit) (hu : un + 512 < cLine)
    (ret : ∀ h' tk', Fr h₀ L h' m → News h₀ L h' news → Q (.bool true) { s with heap := h', toks := tk' }) :
    wpAny (model PySem.Challenge.rw_rg0218_01.row.prog w) (ktrTop dp un gd cn cs L a ccd cl []) (call (.ref 914) [.ref rd, .ref st, .ref nl, .ref tm]) Q E s := by
  refine CallT.use0 (right_ok mainFile mainSuper rd rdd st nl tm es ne a0 a1 i0 i1 us js hnest) B F X N T XB TB hk ⟨⟨(N _ h1).1, (N _ h2).1, h3⟩, ⟨_, (N _ h4).1, rfl, _, rfl⟩, ⟨x0.keeps F.keep, x1.keeps F.keep⟩, ⟨_, (N _ h5).1, rfl, _, rfl⟩, hi.keeps F.keep, hn, ⟨tup_at (N _ h6).1, shSP, trivial⟩⟩ hd hu ?_
  rintro r h' tk' F' N' rfl
  exact ret h' tk' F' N'
theorem headOf {k : Nat} {i : It} (e : headIs[k]? = some i) : SeqAt.shaped (nest' i).data = true := nest_shaped i (List.mem_of_getElem? e)
end
section
section
variable {prog : Program} {w : World} {A : Around} {E : Value → Shared → Prop} {s : Shared} {h₀ : Heap} {L : Addr} {m : Str → Option Value} {news : List (Addr × Obj)}
def menu7 : List Value := [.ref 858, .ref 859, .ref 860, .ref 861, .ref 862, .ref 863, .ref 864]
theorem applied7 {sl : Addr} {u : Tok} {Q : Int × Int × Nat → Shared → Prop} (hs : s.heap.IsSliceOf sl .none (.int 7 u) .none) (h : Q (0, 1, 7) s) :
    wpAny (model prog w) A (Builtin.Slice.sliceApplied (.ref sl) (pure (8 : Int))) Q E s := by
  obtain ⟨os, hos, hcs, hds⟩ := id hs
  unfold Builtin.Slice.sliceApplied Builtin.Slice.sliceFields
  refine wpAny_bind (wpAny_bind (wpAny_field hos hds (x := .none) rfl (wpAny_bind (wpAny_field hos hds (x := .int 7 u) rfl (wpAny_bind (wpAny_field hos hds (x := .none) rfl (wpAny_pure ?_)))))))
  refine wpAny_bind (slicePart_none ?_)
  show wpAny _ _ (if ((1 : Int) == 0) = true then _ else _) _ _ s
  rw [if_neg (by decide)]
  refine wpAny_bind (slicePart_none (wpAny_bind (slicePart_int (wpAny_bind (wpAny_pure ?_)))))
  exact wpAny_pure h
theorem get7 {t sl : Addr} {u : Tok} {Q : Value → Shared → Prop} (ht : IsTup s.heap t menuVs.toArray) (hs : s.heap.IsSliceOf sl .none (.int 7 u) .none)
    (h : Q (.ref s.heap.objs.size) { s with heap := s.heap.push { cls := .type "tuple", data := .seq menu7.toArray } }) : wpAny (model prog w) A (getItem (.ref t) (.ref sl)) Q E s := by
  have hz : sizeOk (.seq menu7.toArray) := by
    show 7 ≤ sizeLine
    rw [sizeLine_eq]; decide
  obtain ⟨os, hos, hcs, hds⟩ := id hs
  have hTs : s.TypeIs (.ref sl) "slice" := ⟨os, hos, hcs⟩
  unfold getItem
  try with_reducible refine wpAny_holding ?_
  first | refine wpAny_bind (wpAny_pure ?_) | skip
  refine wpAny_bind (wpAny_sequenceKey ht.typeIs (by decide) ?_)
  refine wpAny_bind (wpAny_callSpecial?_slot (name := Str.ofString "__getitem__") ht.typeIs slot_tuple_getitem
    (wpAny_call_entry slot_tuple_getitem ht.typeIs entry_tuple_getitem ?_ (args_tuple_getitem _ _)))
  show wpAny _ _ (Builtin.Tuple.tupleItemsOf (.ref t) >>= _) _ _ s
  refine wpAny_bind (tupleItemsOf_ ht ?_)
  refine wpAny_bind (wpAny_typeOf hTs ?_)
  rw [if_pos (by decide)]
  refine wpAny_bind (applied7 hs ?_)
  show wpAny _ _ (if ((0 : Int) == 0 && (1 : Int) == 1 && (7 : Nat) == 8) = true then _ else _) _ _ s
  rw [if_neg (by decide)]
  show wpAny _ _ (Builtin.Tuple.tupleExact menu7.toArray >>= _) _ _ s
  first
    | exact wpAny_bind (m := Builtin.Tuple.tupleExact _) (wpAny_newObj_type (wpAny_pure ⟨_, rfl, wpAny_pure h⟩) hz)
    | exact wpAny_bind (m := Builtin.Tuple.tupleExact _) (wpAny_newObj_type (wpAny_bind (wpAny_pure (wpAny_pure ⟨_, rfl, wpAny_pure h⟩))) hz)
    | exact wpAny_bind (wpAny_bind (m := Builtin.Tuple.tupleExact _) (wpAny_newObj_type (wpAny_pure (wpAny_pure ⟨_, rfl, wpAny_pure h⟩)) hz))
    | exact wpAny_bind (wpAny_bind (m := Builtin.Tuple.tupleExact _) (wpAny_newObj_type (wpAny_pure ⟨_, rfl, wpAny_pure h⟩) hz))
theorem slice7 {value slice : Expr} {t : Addr} {u : Tok} {Q : Value → Shared → Prop}
    (F : Fr h₀ L s.heap m) (N : News h₀ L s.heap news) (ht : IsTup h₀ t menuVs.toArray)
    (h : ∀ D h', Fr h₀ L h' m → News h₀ L h' ((D, ({ cls := .type "tuple", data := .seq menu7.toArray } : Obj)) :: news) → AllLt D news → Q (.ref D) { s with heap := h' })
    (hs : subscripted slice false (.ref t) (.ref s.heap.objs.size) = operate [.ref s.heap.objs.size, .ref t] (getItem (.ref t) (.ref s.heap.objs.size)) := by with_unfolding_all rfl)
    (hg : ∀ r, letTemporaryGo value (.ref t) r = pure () := by intro _; with_unfolding_all rfl) :
    wpAny (model prog w) A (subscriptTail value slice (.ref t) (.ref s.heap.objs.size)) Q E { s with heap := s.heap.push { cls := .type "slice", data := .fields #[.none, .int 7 u, .none] } } := by
  have ht' : IsTup (s.heap.push { cls := .type "slice", data := .fields #[.none, .int 7 u, .none] }) t menuVs.toArray := (ht.keeps F.keep).keeps fun _ _ e => Heap.get?_push_of_some _ e
  refine subscriptTail_ops (s := { s with heap := s.heap.push { cls := .type "slice", data := .fields #[.none, .int 7 u, .none] } }) ht'.typeIs slot_tuple_getitem.lookup
    (get7 ht' (Heap.IsSliceOf.new ..) ?_) hs hg
  have N1 := News.push (F.push { cls := .type "slice", data := .fields #[.none, .int 7 u, .none] }) (N.grown fun _ _ e => Heap.get?_push_of_some _ e) { cls := .type "tuple", data := .seq menu7.toArray }
  rw [Heap.size_push] at N1
  show Q (.ref (s.heap.push _).objs.size) _
  rw [Heap.size_push]
  exact h _ _ ((F.push _).push _) N1 (allLt_of fun p hp => Nat.lt_succ_of_lt (Heap.lt_size (N p hp).1))
end
end
section
open PyProof.Rows.LCg PyProof.Rows.LCt
/-- an item of which label_of says nothing -/
def NoLab (h : Heap) (v : Value) : Prop := ∃ R tag is, v = .ref R ∧ Seen h R tag is ∧ (if tag == Str.ofString "list" then labelOf is else none) = none
structure OneEnd (s : Shared) (h₀ : Heap) (L : Addr) (m : Str → Option Value) (news : List (Addr × Obj)) (ok : Bool) (s' : Shared) : Prop where
  out : ok = false ∧ ∃ h' tk', s' = { s with heap := h', toks := tk' } ∧ Fr h₀ L h' m ∧ News h₀ L h' news
theorem rest_none {prog : Program} {w : World} {A : Around} {h₀ : Heap} {L : Addr} {m : Str → Option Value} {env : Env} {ct elt : Expr} {x : Str} {scope : Scope} {cl : List (Str × Addr)} {s : Shared} {S : List (Addr × Obj) → Prop} {P : Nat → Value → Prop} {Fin : List Value → List (Addr × Obj) → Prop} {news : List (Addr × Obj)}
    (good : ∀ h, Fr h₀ L h m → News h₀ L h news → ∀ i v, P i v → NoLab h v)
    (H : ∀ (R : Addr) (tag : Str) (is : List It) (I : Addr) (oI : Obj) (C : Addr) (oC : Obj) (D : Addr) (m₂ : Str → Option Value) (h : Heap) (tk : Nat) (E' : Value → Shared → Prop), Seen h R tag is → (if tag == Str.ofString "list" then labelOf is else none) = none → NsObj oC m₂ → m₂ x = some (.ref R) → Fr h₀ L h m → News h₀ L h ((I, oI) :: (C, oC) :: (D, lst []) :: news) → 
      wpAny (model prog w) A (isTrue ct (compEnvC scope cl C env) (eval ct (compEnvC scope cl C env))) (OneEnd s h₀ L m ((I, oI) :: (C, oC) :: (D, lst []) :: news)) E' { s with heap := h, toks := tk })
    (hS : S news) (fin : Fin [] news) : ∀ k i, CompRestT prog w A h₀ L m env ct elt x scope cl s S P Fin k i [] news
  | 0, i => CompRestT.zero fin
  | k + 1, i => CompRestT.succ fun v I oI C oC D m₂ h tk E' hP hC hx F N off ne => by
      obtain ⟨R, tag, is, rfl, hs, hl⟩ := good h F (fun p hp => N p (.tail _ (.tail _ (.tail _ hp)))) i v hP
      refine wpAny_mono (H R tag is I oI C oC D m₂ h tk E' hs hl hC hx F N) (fun ok s' q => ?_) fun _ _ e => e
      obtain ⟨rfl, h', tk', rfl, F', N'⟩ := q.out
      rw [if_neg (by decide)]
      exact CompEnd.intro F' N' news (fun p hp => hp) off hS (rest_none good H hS fin k (i + 1))
theorem noLab_it {h : Heap} {v : Value} {i : It} (x : i.At h v) (ht : i.tag ≠ Str.ofString "list") : NoLab h v := by
  obtain ⟨a, t, v2, rfl, h1, h2⟩ := x.inv
  refine ⟨a, i.tag, [], rfl, ⟨t, v2, h1, fun e => absurd e ht⟩, ?_⟩
  rw [if_neg (by simpa using ht)]
theorem noLab_list {h : Heap} {R T : Addr} {t : Tok} {us : List Value} {is : List It} (h1 : IsTup h R #[.str "list" t, .ref T]) (h2 : IsTup h T us.toArray) (h3 : Its h us is) (h4 : us.length ≤ 20) (h5 : is.drop 2 = []) : NoLab h (.ref R) := by
  refine ⟨R, "list", is, rfl, ⟨t, _, h1, fun _ => ⟨T, us, rfl, h2, h3, h4⟩⟩, ?_⟩
  have e : labelOf is = none := by
    unfold labelOf
    split
    · rw [h5]; rfl
    · rfl
  rw [e]; split <;> rfl
theorem shSA : SeqAt.shaped (.tuple [.str "sym", .str "a"]) = true := by
  simp [SeqAt.shaped, PyData.canLay0, PyData.canLayAll0, PyData.depth, PyData.depthAll, PyData.strOk]
  decide +kernel
theorem tup_rd {h : Heap} {b : Addr} {x y : Str} {t1 t2 : Tok} (hb : IsTup h b #[.str x t1, .str y t2]) : Rd h (.ref b) (.tuple [.str x, .str y]) :=
  Rd.tup hb (RdAll.cons ⟨_, .str _ _⟩ (RdAll.cons ⟨_, .str _ _⟩ RdAll.nil))
theorem tupN {h₀ h : Heap} {L : Addr} {news : List (Addr × Obj)} {a : Addr} {vs : Array Value} (N : News h₀ L h news) (hm : (a, ({ cls := .type "tuple", data := .seq vs } : Obj)) ∈ news) : IsTup h a vs := ⟨_, (N _ hm).1, rfl, _, rfl⟩
theorem some_ok {P : Params} {h₀ h : Heap} {L : Addr} {m : Str → Option Value} {news : List (Addr × Obj)} {D1 D2 D3 D4 D5 D6 D7 D8 D9 : Addr} {t1 t2 t3 t4 t5 t6 t7 t8 t9 : Tok} (X : (Mine.HK P).In h₀) (F : Fr h₀ L h m) (N : News h₀ L h news)
    (e8 : (D8, ({ cls := .type "tuple", data := .seq #[.str (Str.ofString "list") t1, .ref D9] } : Obj)) ∈ news) (e9 : (D9, ({ cls := .type "tuple", data := .seq #[] } : Obj)) ∈ news)
    (e5 : (D5, ({ cls := .type "tuple", data := .seq #[.str (Str.ofString "list") t2, .ref D6] } : Obj)) ∈ news) (e6 : (D6, ({ cls := .type "tuple", data := .seq #[.ref D7] } : Obj)) ∈ news) (e7 : (D7, ({ cls := .type "tuple", data := .seq #[.str (Str.ofString "sym") t3, .str (Str.ofString "!") t4] } : Obj)) ∈ news)
    (e1 : (D1, ({ cls := .type "tuple", data := .seq #[.str (Str.ofString "list") t5, .ref D2] } : Obj)) ∈ news) (e2 : (D2, ({ cls := .type "tuple", data := .seq #[.ref D4, .ref D3] } : Obj)) ∈ news)
    (e4 : (D4, ({ cls := .type "tuple", data := .seq #[.str (Str.ofString "sym") t6, .str (Str.ofString "!") t7] } : Obj)) ∈ news) (e3 : (D3, ({ cls := .type "tuple", data := .seq #[.str (Str.ofString "sym") t8, .str (Str.ofString "a") t9] } : Obj)) ∈ news) :
    ∀ v, v ∈ [Value.ref 858, .ref 859, .ref 860, .ref 861, .ref 862, .ref 863, .ref 864, .ref D8, .ref D5, .ref D1] → NoLab h v := by
  have M := (menu_its X).keeps F.keep
  have M' : Its h [Value.ref 858, .ref 859, .ref 860, .ref 861, .ref 862, .ref 863, .ref 864, .ref 870] menuIs := M
  unfold menuIs at M'
  obtain _ | ⟨m0, M'⟩ := M'
  obtain _ | ⟨m1, M'⟩ := M'
  obtain _ | ⟨m2, M'⟩ := M'
  obtain _ | ⟨m3, M'⟩ := M'
  obtain _ | ⟨m4, M'⟩ := M'
  obtain _ | ⟨m5, M'⟩ := M'
  obtain _ | ⟨m6, M'⟩ := M'
  intro v hv
  simp only [List.mem_cons, List.not_mem_nil, or_false] at hv
  rcases hv with rfl | rfl | rfl | rfl | rfl | rfl | rfl | rfl | rfl | rfl
  · exact noLab_it m0 (by decide +kernel)
  · exact noLab_it m1 (by decide +kernel)
  · exact noLab_it m2 (by decide +kernel)
  · exact noLab_it m3 (by decide +kernel)
  · exact noLab_it m4 (by decide +kernel)
  · exact noLab_it m5 (by decide +kernel)
  · exact noLab_it m6 (by decide +kernel)
  · exact noLab_list (us := []) (is := []) (tupN N e8) (tupN N e9) .nil (by decide) rfl
  · exact noLab_list (us := [.ref D7]) (is := [.sym "!"]) (tupN N e5) (tupN N e6) (.cons ⟨tup_rd (tupN N e7), shSB, trivial⟩ .nil) (by simp) rfl
  · exact noLab_list (us := [.ref D4, .ref D3]) (is := [.sym "!", .sym "a"]) (tupN N e1) (tupN N e2) (.cons ⟨tup_rd (tupN N e4), shSB, trivial⟩ (.cons ⟨tup_rd (tupN N e3), shSA, trivial⟩ .nil)) (by simp) rfl
end
theorem law_all.tw8819117257120922360 : True := trivial
theorem law_all.tw722575636977539305 : True := trivial
theorem law_all.tw5678733996055502616 : True := trivial
theorem law_all.tw15447014339297491418 : True := trivial
theorem law_all.tw13816088996357386294 : True := trivial
theorem law_all.tw8102590376130340518 : True := trivial
theorem law_all.tw17326277097086680044 : True := trivial
theorem law_all.tw13776277129572235237 : True := trivial
theorem law_all.tw391340077780216222 : True := trivial
theorem law_all.tw1540823168150712794 : True := trivial
theorem law_all.tw7667603355912174858 : True := trivial
theorem law_all.tw14009896748690293396 : True := trivial
theorem law_all.tw868630823890672784 : True := trivial
theorem law_all.tw1311172424341347001 : True := trivial
theorem law_all.tw8918867682395888021 : True := trivial
theorem law_all.tw4736597106153987208 : True := trivial
theorem law_all.tw4480038230075673074 : True := trivial
theorem law_all.tw9887299218743004959 : True := trivial
theorem law_all.tw11901745937860681274 : True := trivial
theorem law_all.tw18111101636983865273 : True := trivial
theorem law_all.tw17634485057143527814 : True := trivial
theorem law_all.tw8111887240566869400 : True := trivial
theorem law_all.tw14264949915988352486 : True := trivial
theorem law_all.tw2664837248581391718 : True := trivial
theorem law_all.tw5405629532781151163 : True := trivial
theorem law_all.tw2400240231172028607 : True := trivial
theorem law_all.tw15789628848311565090 : True := trivial
theorem law_all.tw2224743311408289904 : True := trivial
theorem law_all.tw18228451960930216718 : True := trivial
theorem law_all.tw16858498490930685151 : True := trivial
theorem law_all.tw17923636723392841309 : True := trivial
theorem law_all.tw18301845018729093935 : True := trivial
theorem law_all.tw1189080093081105346 : True := trivial
theorem law_all.tw1241443445691168864 : True := trivial
theorem law_all.tw9143542557157773347 : True := trivial
theorem law_all.tw8814184745475322185 : True := trivial
theorem law_all.tw571745101423254476 : True := trivial
theorem law_all.tw14754817845271324549 : True := trivial
theorem law_all.tw15571035769430105807 : True := trivial
theorem law_all.tw17879881856010532143 : True := trivial
theorem law_all.tw17204981761803003489 : True := trivial
theorem law_all.tw2253686190644405003 : True := trivial
theorem law_all.tw17955762135096478813 : True := trivial
theorem law_all.tw14829923604676511662 : True := trivial
theorem law_all.tw9715068110327944835 : True := trivial
theorem law_all.tw12427383291781161483 : True := trivial
theorem law_all.tw7831887952337321200 : True := trivial
theorem law_all.tw2862211712955723747 : True := trivial
theorem law_all.tw16844301800673861149 : True := trivial
theorem law_all.tw6231493701403800928 : True := trivial
theorem law_all.tw15336482529451251379 : True := trivial
theorem law_all.tw5133684288058214382 : True := trivial
theorem law_all.tw14662071744767229590 : True := trivial
theorem law_all.tw10026225614770084411 : True := trivial
theorem law_all.tw2617532451759129828 : True := trivial
theorem law_all.tw699081443379234643 : True := trivial
theorem law_all.tw4519926244757231806 : True := trivial
theorem law_all.tw13253971527945154862 : True := trivial
theorem law_all.tw2581710391698950328 : True := trivial
theorem law_all.tw8295653638501232855 : True := trivial
theorem law_all.tw13695802665173106307 : True := trivial
theorem law_all.tw13707208606822203510 : True := trivial
theorem law_all.tw12620598019160589179 : True := trivial
theorem law_all.tw16215754179596024581 : True := trivial
theorem law_all.tw14598207043298650064 : True := trivial
theorem law_all.tw2425498562415444253 : True := trivial
theorem law_all.tw15746133877532336623 : True := trivial
theorem law_all.tw7680916366514936674 : True := trivial
theorem law_all.tw6438830307732024469 : True := trivial
theorem law_all.tw2234524100257708063 : True := trivial
theorem law_all.tw10362440531411215723 : True := trivial
theorem law_all.tw4218093189155465367 : True := trivial
theorem law_all.tw15106878835201008470 : True := trivial
theorem law_all.tw12415261661798453589 : True := trivial
theorem law_all.tw11566998951525393313 : True := trivial
theorem law_all.tw2432424846941410789 : True := trivial
theorem law_all.tw876161497427613219 : True := trivial
theorem law_all.tw14228614434331140909 : True := trivial
theorem law_all.tw8182643449472363497 : True := trivial
theorem law_all.tw13211181752546427078 : True := trivial
theorem law_all.tw14112813277465929817 : True := trivial
theorem law_all.tw937055499877386264 : True := trivial
theorem law_all.tw9326504959393919199 : True := trivial
theorem law_all.tw17746380398831214136 : True := trivial
theorem law_all.tw6738363049555094938 : True := trivial
theorem law_all.tw1216541509919387563 : True := trivial
theorem law_all.tw7913414452795691321 : True := trivial
theorem law_all.tw2431311244206744821 : True := trivial
theorem law_all.tw11833566044642688545 : True := trivial
theorem law_all.tw5591302951066050737 : True := trivial
theorem law_all.tw6022211634629375331 : True := trivial
theorem law_all.tw12055539081176029090 : True := trivial
theorem law_all.tw3826946535189723318 : True := trivial
theorem law_all.tw7554247435833788720 : True := trivial
theorem law_all.tw3806819470392062991 : True := trivial
theorem law_all.tw7188791813448049371 : True := trivial
theorem law_all.tw11242008053828918384 : True := trivial
theorem law_all.tw5386138778478946084 : True := trivial
theorem law_all.tw3692716606047857953 : True := trivial
theorem law_all.tw5077807667812295140 : True := trivial
theorem law_all.tw2982699944288580842 : True := trivial
theorem law_all.tw702301822881741497 : True := trivial
theorem law_all.tw13262692118744678910 : True := trivial
theorem law_all.tw10253732280001569212 : True := trivial
theorem law_all.tw9126654936404069527 : True := trivial
theorem law_all.tw18135408350670230780 : True := trivial
theorem law_all.tw15387212284789558141 : True := trivial
theorem law_all.tw4879740849226431979 : True := trivial
theorem law_all.tw4767241430983704032 : True := trivial
theorem law_all.tw11421492830896010466 : True := trivial
theorem law_all.tw12230927248747617965 : True := trivial
theorem law_all.tw6398541023519338344 : True := trivial
theorem law_all.tw17002978438999879153 : True := trivial
theorem law_all.tw13977805788617109767 : True := trivial
theorem law_all.tw2323212241562108314 : True := trivial
theorem law_all.tw15427931746332374070 : True := trivial
theorem law_all.tw8347406222979154285 : True := trivial
theorem law_all.tw12018720973117135595 : True := trivial
theorem law_all.tw16147590587498475195 : True := trivial
theorem law_all.tw17386547048453696860 : True := trivial
theorem law_all.tw11604076886869528917 : True := trivial
theorem law_all.tw5923626274025043023 : True := trivial
theorem law_all.tw16651006203443513197 : True := trivial
theorem law_all.tw13126924672156596446 : True := trivial
theorem law_all.tw11061263923128422616 : True := trivial
theorem law_all.tw581509044858899661 : True := trivial
theorem law_all.tw3261250254779219729 : True := trivial
theorem law_all.tw8192627400900402444 : True := trivial
theorem law_all.tw5716606068430416637 : True := trivial
theorem law_all.tw8292125754366032315 : True := trivial
theorem law_all.tw7213851623774115239 : True := trivial
theorem law_all.tw8351115422591919128 : True := trivial
theorem law_all.tw2754305514957794308 : True := trivial
theorem law_all.tw12540705440526740223 : True := trivial
theorem law_all.tw1469086916834449242 : True := trivial
theorem law_all.tw265244927588178289 : True := trivial
theorem law_all.tw13880960847138548369 : True := trivial
theorem law_all.tw5176073063277498486 : True := trivial
theorem law_all.tw17264329242000108839 : True := trivial
theorem law_all.tw18369321035705266579 : True := trivial
theorem law_all.tw6001686606448372975 : True := trivial
theorem law_all.tw6539801629210723327 : True := trivial
theorem law_all.tw17311543511305506410 : True := trivial
theorem law_all.tw8858638111541304496 : True := trivial
theorem law_all.tw8921295990715661176 : True := trivial
theorem law_all.tw1672642222964062884 : True := trivial
theorem law_all.tw2981204530259232531 : True := trivial
theorem law_all.tw15353343082906663676 : True := trivial
theorem law_all.tw4373205857372294398 : True := trivial
theorem law_all.tw16011759601916289475 : True := trivial
theorem law_all.tw11185291794543270386 : True := trivial
theorem law_all.tw17008558775933394028 : True := trivial
theorem law_all.tw3669051535078491162 : True := trivial
theorem law_all.tw1619606534716276043 : True := trivial
theorem law_all.tw10464263001826078911 : True := trivial
theorem law_all.tw9058530902327166115 : True := trivial
theorem law_all.tw15988300070643674236 : True := trivial
theorem law_all.tw11125228077776306136 : True := trivial
theorem law_all.tw2427204884901857759 : True := trivial
theorem law_all.tw7718588101098686155 : True := trivial
theorem law_all.tw1677000207678209685 : True := trivial
theorem law_all.tw7163010275520755743 : True := trivial
theorem law_all.tw3813564530132189172 : True := trivial
theorem law_all.tw6378717016339408911 : True := trivial
theorem law_all.tw2081400668093259977 : True := trivial
theorem law_all.tw9101883533985367949 : True := trivial
theorem law_all.tw1100412207481686545 : True := trivial
theorem law_all.tw1542534431135467645 : True := trivial
theorem law_all.tw14253376895313793166 : True := trivial
theorem law_all.tw17139090271463625037 : True := trivial
theorem law_all.tw742109610064614720 : True := trivial
theorem law_all.tw6645749129768185620 : True := trivial
theorem law_all.tw7506031421445054254 : True := trivial
theorem law_all.tw10152195772459584916 : True := trivial
theorem law_all.tw697804852917623427 : True := trivial
theorem law_all.tw13298211186511003629 : True := trivial
theorem law_all.tw16625629747186990877 : True := trivial
theorem law_all.tw3602784471345507114 : True := trivial
theorem law_all.tw4929754174449762034 : True := trivial
theorem law_all.tw8518996810716976194 : True := trivial
theorem law_all.tw8223056095079733190 : True := trivial
theorem law_all.tw14404595031650566798 : True := trivial
theorem law_all.tw7765527865837770668 : True := trivial
theorem law_all.tw49386822889696764 : True := trivial
theorem law_all.tw10610644917846335340 : True := trivial
theorem law_all.tw14692936392394494320 : True := trivial
theorem law_all.tw16759230557537464115 : True := trivial
theorem law_all.tw19739987971221059 : True := trivial
theorem law_all.tw1536540366311737286 : True := trivial
theorem law_all.tw5046676412343541489 : True := trivial
theorem law_all.tw16436836394604217106 : True := trivial
theorem law_all.tw2277564616630081101 : True := trivial
theorem law_all.tw17956888979338296214 : True := trivial
theorem law_all.tw1178986762315405437 : True := trivial
theorem law_all.tw147287198433707135 : True := trivial
theorem law_all.tw9112288994732759537 : True := trivial
theorem law_all.tw13367176642022358155 : True := trivial
theorem law_all.tw13928278647878734309 : True := trivial
theorem law_all.tw15888606964102597316 : True := trivial
theorem law_all.tw7893887008874934858 : True := trivial
theorem law_all.tw3366036023818841170 : True := trivial
theorem law_all.tw144113969167408035 : True := trivial
theorem law_all.tw7485473053946288431 : True := trivial
theorem law_all.tw13833317127055801060 : True := trivial
theorem law_all.tw10589317585424288234 : True := trivial
theorem law_all.tw14955915058466119356 : True := trivial
theorem law_all.tw10678495700301636131 : True := trivial
theorem law_all.tw12610587468927266379 : True := trivial
theorem law_all.tw11981917482434212799 : True := trivial
theorem law_all.tw7881162431508693036 : True := trivial
theorem law_all.tw10947403709319365705 : True := trivial
theorem law_all.tw9193932539253619566 : True := trivial
theorem law_all.tw12942184054927948311 : True := trivial
theorem law_all.tw1899502164790749458 : True := trivial
theorem law_all.tw51366843150158886 : True := trivial
theorem law_all.tw1006284481315042348 : True := trivial
theorem law_all.tw8564888430778796407 : True := trivial
theorem law_all.tw16086454116606642178 : True := trivial
theorem law_all.tw13801121007944782333 : True := trivial
theorem law_all.tw1941046448484579991 : True := trivial
theorem law_all.tw7802134551347416789 : True := trivial
theorem law_all.tw8631452304911163145 : True := trivial
theorem law_all.tw8232574851226356751 : True := trivial
theorem law_all.tw16741880675132489432 : True := trivial
theorem law_all.tw15817853144674484978 : True := trivial
theorem law_all.tw4800166454244708440 : True := trivial
theorem law_all.tw17535888986555872392 : True := trivial
theorem law_all.tw11156016171303442314 : True := trivial
theorem law_all.tw2906490581532596320 : True := trivial
theorem law_all.tw10834972849280226571 : True := trivial
theorem law_all.tw6157751959391354502 : True := trivial
theorem law_all.tw14286706155488264146 : True := trivial
theorem law_all.tw17769878892396552597 : True := trivial
theorem law_all.tw13531483092564520072 : True := trivial
theorem law_all.tw13699687274142533169 : True := trivial
theorem law_all.tw9777012025061369200 : True := trivial
theorem law_all.tw4813512349449720863 : True := trivial
theorem law_all.tw11085147635474315433 : True := trivial
theorem law_all.tw17213418721671049187 : True := trivial
theorem law_all.tw14774489703277084257 : True := trivial
theorem law_all.tw1727299009364677637 : True := trivial
theorem law_all.tw12443848507722431881 : True := trivial
theorem law_all.tw1313042743327799990 : True := trivial
theorem law_all.tw1244168298268136379 : True := trivial
theorem law_all.tw10842723371336156597 : True := trivial
theorem law_all.tw17870765948467921550 : True := trivial
theorem law_all.tw8755279341700096616 : True := trivial
theorem law_all.tw3243097391343231957 : True := trivial
theorem law_all.tw10340441938079615943 : True := trivial
theorem law_all.tw17676645770964659787 : True := trivial
theorem law_all.tw12747770506215440745 : True := trivial
theorem law_all.tw13171468961803394345 : True := trivial
theorem law_all.tw11527891035238042781 : True := trivial
theorem law_all.tw2113808404335124552 : True := trivial
theorem law_all.tw8729561690571945798 : True := trivial
theorem law_all.tw10470740866990187283 : True := trivial
theorem law_all.tw8100261704194928128 : True := trivial
theorem law_all.tw5823586147374532853 : True := trivial
theorem law_all.tw9697324461614764831 : True := trivial
theorem law_all.tw7791439051762490624 : True := trivial
theorem law_all.tw5429858767254799258 : True := trivial
theorem law_all.tw8665318985690784266 : True := trivial
theorem law_all.tw1961576592547977382 : True := trivial
theorem law_all.tw8175941863582059467 : True := trivial
theorem law_all.tw2872085493576920064 : True := trivial
theorem law_all.tw14683782652083582347 : True := trivial
theorem law_all.tw540954306642092798 : True := trivial
theorem law_all.tw11404586228399824523 : True := trivial
theorem law_all.tw7028125823600010858 : True := trivial
theorem law_all.tw5331902312086228352 : True := trivial
theorem law_all.tw11208032702916000851 : True := trivial
theorem law_all.tw16878132310238698819 : True := trivial
theorem law_all.tw10075493852517998716 : True := trivial
theorem law_all.tw550076807988554015 : True := trivial
theorem law_all.tw4531640430275123664 : True := trivial
theorem law_all.tw10447141982152834051 : True := trivial
theorem law_all.tw8287017651184956003 : True := trivial
theorem law_all.tw7090190583926799169 : True := trivial
theorem law_all.tw5480159453071252461 : True := trivial
theorem law_all.tw3498384184797677056 : True := trivial
theorem law_all.tw13680609273526107374 : True := trivial
theorem law_all.tw15170568344654724480 : True := trivial
theorem law_all.tw9005674034113058390 : True := trivial
theorem law_all.tw18074040619987095483 : True := trivial
theorem law_all.tw12703074045546933829 : True := trivial
theorem law_all.tw14100515932553792916 : True := trivial
theorem law_all.tw31263012393092130 : True := trivial
theorem law_all.tw6317846471518068684 : True := trivial
theorem law_all.tw10517906790627618544 : True := trivial
theorem law_all.tw5914833246583547866 : True := trivial
theorem law_all.tw17073913150402608559 : True := trivial
theorem law_all.tw2791512771193701167 : True := trivial
theorem law_all.tw8986646422429841763 : True := trivial
theorem law_all.tw15640896081885072018 : True := trivial
theorem law_all.tw11977895914950762854 : True := trivial
theorem law_all.tw18438550808169337630 : True := trivial
theorem law_all.tw12012145143388645040 : True := trivial
theorem law_all.tw12539917319762660869 : True := trivial
theorem law_all.tw17613353281601113540 : True := trivial
theorem law_all.tw12509682125398910234 : True := trivial
theorem law_all.tw12760510453615215998 : True := trivial
theorem law_all.tw11836482064631991793 : True := trivial
theorem law_all.tw13274840464982359763 : True := trivial
theorem law_all.tw17238692654854937651 : True := trivial
theorem law_all.tw9729604732972894722 : True := trivial
theorem law_all.tw10486281728991561039 : True := trivial
theorem law_all.tw7897600568026276390 : True := trivial
theorem law_all.tw2103784332974290115 : True := trivial
theorem law_all.tw17367182206784257886 : True := trivial
theorem law_all.tw13989974958611873218 : True := trivial
theorem law_all.tw5925129876391146066 : True := trivial
theorem law_all.tw14966067393961270158 : True := trivial
theorem law_all.tw18049563021733404900 : True := trivial
theorem law_all.tw5124336459398086462 : True := trivial
theorem law_all.tw9337859482809679654 : True := trivial
theorem law_all.tw5306588570621787507 : True := trivial
theorem law_all.tw42735402098718572 : True := trivial
theorem law_all.tw14556471413784652454 : True := trivial
theorem law_all.tw11911069920064303837 : True := trivial
theorem law_all.tw7290121776363987770 : True := trivial
theorem law_all.tw6237155331754066022 : True := trivial
theorem law_all.tw8068670141169891791 : True := trivial
theorem law_all.tw978204252779252794 : True := trivial
theorem law_all.tw17711649757482097080 : True := trivial
theorem law_all.tw808926787595212315 : True := trivial
theorem law_all.tw5126693611934764887 : True := trivial
theorem law_all.tw15421464354274691625 : True := trivial
theorem law_all.tw11238844513194340339 : True := trivial
theorem law_all.tw9019875401820227665 : True := trivial
theorem law_all.tw7601383465899748548 : True := trivial
theorem law_all.tw6792082311772641283 : True := trivial
theorem law_all.tw5312162465146274830 : True := trivial
theorem law_all.tw14161950200463332022 : True := trivial
theorem law_all.tw11237757471492391802 : True := trivial
theorem law_all.tw5453859960540951435 : True := trivial
theorem law_all.tw7241301525396740710 : True := trivial
theorem law_all.tw14142368258859480080 : True := trivial
theorem law_all.tw18084503921448002766 : True := trivial
theorem law_all.tw35717200308832025 : True := trivial
theorem law_all.tw15982079766070313398 : True := trivial
theorem law_all.tw7382394883274062982 : True := trivial
theorem law_all.tw5542367601281971411 : True := trivial
theorem law_all.tw324088458086427686 : True := trivial
theorem law_all.tw15955839384417658414 : True := trivial
theorem law_all.tw15111771918000721386 : True := trivial
theorem law_all.tw11655911931479345256 : True := trivial
theorem law_all.tw3053660256275331401 : True := trivial
theorem law_all.tw5058365699104195747 : True := trivial
theorem law_all.tw11739812003963863410 : True := trivial
theorem law_all.tw10247251320241082336 : True := trivial
theorem law_all.tw8803404886157929299 : True := trivial
theorem law_all.tw16695031017190818104 : True := trivial
theorem law_all.tw3325111520719290175 : True := trivial
theorem law_all.tw2746415857694854958 : True := trivial
theorem law_all.tw6550320685308687620 : True := trivial
theorem law_all.tw5403677533733193846 : True := trivial
theorem law_all.tw5483578599265696199 : True := trivial
theorem law_all.tw16577843217576899742 : True := trivial
theorem law_all.tw2472384424244870459 : True := trivial
theorem law_all.tw4710498895635838384 : True := trivial
theorem law_all.tw10427768884268684552 : True := trivial
theorem law_all.tw9441140268209864922 : True := trivial
theorem law_all.tw1819660966834464121 : True := trivial
theorem law_all.tw17459176674885784516 : True := trivial
theorem law_all.tw18437768301239656569 : True := trivial
theorem law_all.tw4959470712613272833 : True := trivial
theorem law_all.tw7570389025846386837 : True := trivial
theorem law_all.tw2763200530551224835 : True := trivial
theorem law_all.tw9987792911408698340 : True := trivial
theorem law_all.tw15743857825236497588 : True := trivial
theorem law_all.tw14115007137499183204 : True := trivial
theorem law_all.tw4221142147964649119 : True := trivial
theorem law_all.tw4048687063676348890 : True := trivial
theorem law_all.tw9389932311233280350 : True := trivial
theorem law_all.tw6775264209203825292 : True := trivial
theorem law_all.tw12836747770095448064 : True := trivial
theorem law_all.tw7379131392961922385 : True := trivial
theorem law_all.tw11986533732874898875 : True := trivial
theorem law_all.tw1408806660432250928 : True := trivial
theorem law_all.tw7911531064090814180 : True := trivial
theorem law_all.tw17074971947010181610 : True := trivial
theorem law_all.tw13048455256248648906 : True := trivial
theorem law_all.tw15041844750066439977 : True := trivial
theorem law_all.tw15627020587669677704 : True := trivial
theorem law_all.tw4338267340049963969 : True := trivial
theorem law_all.tw10575808222751662728 : True := trivial
theorem law_all.tw3986953027485292477 : True := trivial
theorem law_all.tw5409939720034131757 : True := trivial
theorem law_all.tw8224182919288875669 : True := trivial
theorem law_all.tw9504067815950663498 : True := trivial
theorem law_all.tw11844059635380801397 : True := trivial
theorem law_all.tw1392986371725896769 : True := trivial
theorem law_all.tw8636992181308737738 : True := trivial
theorem law_all.tw7664980124186717229 : True := trivial
theorem law_all.tw16414695610588875360 : True := trivial
theorem law_all.tw1618355861504449712 : True := trivial
theorem law_all.tw14573240092562081179 : True := trivial
theorem law_all.tw9642360315720231220 : True := trivial
theorem law_all.tw14384918623772240547 : True := trivial
theorem law_all.tw5945882358115643694 : True := trivial
theorem law_all.tw4179209112946984403 : True := trivial
theorem law_all.tw866564066945910344 : True := trivial
theorem law_all.tw14591837725140855343 : True := trivial
theorem law_all.tw16796844674787945095 : True := trivial
theorem law_all.tw2406078263742745528 : True := trivial
theorem law_all.tw8618336906785351942 : True := trivial
theorem law_all.tw12401159385186942576 : True := trivial
theorem law_all.tw4357118453508938140 : True := trivial
theorem law_all.tw18223944042725728250 : True := trivial
theorem law_all.tw1908834790331025158 : True := trivial
theorem law_all.tw2161507521139017325 : True := trivial
theorem law_all.tw10240734782212473332 : True := trivial
theorem law_all.tw2919649542600381882 : True := trivial
theorem law_all.tw14690459059760270787 : True := trivial
theorem law_all.tw10620959191045113335 : True := trivial
theorem law_all.tw5123302808915844946 : True := trivial
theorem law_all.tw17547520148116901912 : True := trivial
theorem law_all.tw97606015624290612 : True := trivial
theorem law_all.tw9000883745109673501 : True := trivial
theorem law_all.tw16819984471793681257 : True := trivial
theorem law_all.tw17767113159749017559 : True := trivial
theorem law_all.tw2795527421740472226 : True := trivial
theorem law_all.tw13185898863257932480 : True := trivial
theorem law_all.tw6442390396111978729 : True := trivial
theorem law_all.tw14435836088163181261 : True := trivial
theorem law_all.tw4520348996882111033 : True := trivial
theorem law_all.tw16253221267709922555 : True := trivial
theorem law_all.tw9385311596571155968 : True := trivial
theorem law_all.tw16903961797545972891 : True := trivial
theorem law_all.tw5881403375008658740 : True := trivial
theorem law_all.tw3809176837591794956 : True := trivial
theorem law_all.tw11373430062764667247 : True := trivial
theorem law_all.tw15404506543987917969 : True := trivial
theorem law_all.tw6829346939798277260 : True := trivial
theorem law_all.tw9837858002760397563 : True := trivial
theorem law_all.tw18057504948879369530 : True := trivial
theorem law_all.tw2844858656615280384 : True := trivial
theorem law_all.tw7032130934624792205 : True := trivial
theorem law_all.tw1948564067660347018 : True := trivial
theorem law_all.tw14640322939972922974 : True := trivial
theorem law_all.tw3936332338030081361 : True := trivial
theorem law_all.tw2440259602994764050 : True := trivial
theorem law_all.tw17108745809969156113 : True := trivial
theorem law_all.tw9861116201611136278 : True := trivial
theorem law_all.tw13444409871249696073 : True := trivial
theorem law_all.tw1702886262042523489 : True := trivial
theorem law_all.tw14783403437535847111 : True := trivial
theorem law_all.tw12060882817262935456 : True := trivial
theorem law_all.tw9041314720431649662 : True := trivial
theorem law_all.tw12078552371085240558 : True := trivial
theorem law_all.tw3116252448390264038 : True := trivial
theorem law_all.tw2202764407437257358 : True := trivial
theorem law_all.tw6564360385875737041 : True := trivial
theorem law_all.tw14300270879109701445 : True := trivial
theorem law_all.tw17585104241551753366 : True := trivial
theorem law_all.tw17423994124011686517 : True := trivial
theorem law_all.tw13509177966542993873 : True := trivial
theorem law_all.tw16118133896454242471 : True := trivial
theorem law_all.tw11256057167368738214 : True := trivial
theorem law_all.tw10250544082008050651 : True := trivial
theorem law_all.tw7358765618238378763 : True := trivial
theorem law_all.tw8305597428437692698 : True := trivial
theorem law_all.tw3358472159093845929 : True := trivial
theorem law_all.tw14978941665995686438 : True := trivial
theorem law_all.tw18098063318637971162 : True := trivial
theorem law_all.tw9815603410090176864 : True := trivial
theorem law_all.tw3680652904941992002 : True := trivial
theorem law_all.tw17138794587834298416 : True := trivial
theorem law_all.tw9930186087560989292 : True := trivial
theorem law_all.tw17699220586243776058 : True := trivial
theorem law_all.tw5810238935025566227 : True := trivial
theorem law_all.tw12491990524712166927 : True := trivial
theorem law_all.tw6541656116107318362 : True := trivial
theorem law_all.tw616006375310393957 : True := trivial
theorem law_all.tw15661191395286312072 : True := trivial
theorem law_all.tw17894447663895493757 : True := trivial
theorem law_all.tw374766727668220859 : True := trivial
theorem law_all.tw10972643930856128791 : True := trivial
theorem law_all.tw4142882797520435500 : True := trivial
theorem law_all.tw11968179528029030403 : True := trivial
theorem law_all.tw17060384074182460019 : True := trivial
theorem law_all.tw6471123649784635168 : True := trivial
theorem law_all.tw4261436866732715612 : True := trivial
theorem law_all.tw4206972478804468234 : True := trivial
theorem law_all.tw14697745337508549957 : True := trivial
theorem law_all.tw5407152262560994199 : True := trivial
theorem law_all.tw13528875618702146035 : True := trivial
theorem law_all.tw11378994670534948722 : True := trivial
theorem law_all.tw11978475443051844996 : True := trivial
theorem law_all.tw11549886222698464505 : True := trivial
theorem law_all.tw14703302427499458811 : True := trivial
theorem law_all.tw13446384164382990572 : True := trivial
theorem law_all.tw13242965595582236870 : True := trivial
theorem law_all.tw906757414912418612 : True := trivial
theorem law_all.tw10806039510188334631 : True := trivial
theorem law_all.tw11254592457914836137 : True := trivial
theorem law_all.tw10277864918451100114 : True := trivial
theorem law_all.tw3275827474247852994 : True := trivial
theorem law_all.tw18243188635623463072 : True := trivial
theorem law_all.tw5719042974799534917 : True := trivial
theorem law_all.tw11239549508614699967 : True := trivial
theorem law_all.tw13851053519262918477 : True := trivial
theorem law_all.tw12415205634060267573 : True := trivial
theorem law_all.tw5143838461203301668 : True := trivial
theorem law_all.tw7166755544651728111 : True := trivial
theorem law_all.tw13809103348235374114 : True := trivial
theorem law_all.tw14174517074612190596 : True := trivial
theorem law_all.tw14600590696809855391 : True := trivial
theorem law_all.tw85819176771130555 : True := trivial
theorem law_all.tw1682840521854849442 : True := trivial
theorem law_all.tw3743276652137241584 : True := trivial
theorem law_all.tw10221997122443297352 : True := trivial
theorem law_all.tw50990029914848857 : True := trivial
theorem law_all.tw941666048300869634 : True := trivial
theorem law_all.tw43822206185756307 : True := trivial
theorem law_all.tw11126621595802289062 : True := trivial
theorem law_all.tw2506844670610910573 : True := trivial
theorem law_all.tw18031673381082608066 : True := trivial
theorem law_all.tw196974008228917347 : True := trivial
theorem law_all.tw8552878003761168958 : True := trivial
theorem law_all.tw14448975606232184337 : True := trivial
theorem law_all.tw6723525195617269812 : True := trivial
theorem law_all.tw12309555987426629805 : True := trivial
theorem law_all.tw8864850031346182118 : True := trivial
theorem law_all.tw14169471996915453906 : True := trivial
theorem law_all.tw2586092790497031182 : True := trivial
theorem law_all.tw15696156366995490489 : True := trivial
theorem law_all.tw13763162616901922433 : True := trivial
theorem law_all.tw10145363553656391591 : True := trivial
theorem law_all.tw8847300426190641854 : True := trivial
theorem law_all.tw6851157634355297669 : True := trivial
theorem law_all.tw2127671843654578818 : True := trivial
theorem law_all.tw9621619661464635597 : True := trivial
theorem law_all.tw12104823046187114806 : True := trivial
theorem law_all.tw13963356664251284108 : True := trivial
theorem law_all.tw6372170185144319752 : True := trivial
theorem law_all.tw15807664475251556305 : True := trivial
theorem law_all.tw12332833768631797781 : True := trivial
theorem law_all.tw17198419215744740974 : True := trivial
theorem law_all.tw3813577191599259775 : True := trivial
theorem law_all.tw7292434958787203408 : True := trivial
theorem law_all.tw3560663033078476128 : True := trivial
theorem law_all.tw4545471796157021838 : True := trivial
theorem law_all.tw10623982647197800651 : True := trivial
theorem law_all.tw8645198988984335144 : True := trivial
theorem law_all.tw8080594972815299366 : True := trivial
theorem law_all.tw5007728179111998763 : True := trivial
theorem law_all.tw1373718396076105583 : True := trivial
theorem law_all.tw8093662343118647261 : True := trivial
theorem law_all.tw16892600953724058444 : True := trivial
theorem law_all.tw1038885855152599283 : True := trivial
theorem law_all.tw1668538180921589862 : True := trivial
theorem law_all.tw6068437695709350847 : True := trivial
theorem law_all.tw13095150338055272814 : True := trivial
theorem law_all.tw8990330740181145737 : True := trivial
theorem law_all.tw2271960705470518616 : True := trivial
theorem law_all.tw15476179445698796577 : True := trivial
theorem law_all.tw8998419837362456327 : True := trivial
theorem law_all.tw9015332790510971594 : True := trivial
theorem law_all.tw8820261365336496098 : True := trivial
theorem law_all.tw11072852086419898238 : True := trivial
theorem law_all.tw6064550380648306667 : True := trivial
theorem law_all.tw1071026390990159442 : True := trivial
theorem law_all.tw9730515428898209248 : True := trivial
theorem law_all.tw1541181133342956825 : True := trivial
theorem law_all.tw17516141867632195740 : True := trivial
theorem law_all.tw14969216848811132704 : True := trivial
theorem law_all.tw11283148420750326516 : True := trivial
theorem law_all.tw10632998686855480601 : True := trivial
theorem law_all.tw8587321083128229445 : True := trivial
theorem law_all.tw15511605559735665272 : True := trivial
theorem law_all.tw4707387843944023101 : True := trivial
theorem law_all.tw3728958221131766131 : True := trivial
theorem law_all.tw17455748989664764793 : True := trivial
theorem law_all.tw4118192364197012240 : True := trivial
theorem law_all.tw17964100949573051663 : True := trivial
theorem law_all.tw13429518711100229310 : True := trivial
theorem law_all.tw17606432771363783360 : True := trivial
theorem law_all.tw782427809645370415 : True := trivial
theorem law_all.tw6281480290983300618 : True := trivial
theorem law_all.tw390498358708893106 : True := trivial
theorem law_all.tw857312800663944748 : True := trivial
theorem law_all.tw7902074397041296349 : True := trivial
theorem law_all.tw13698209543225463622 : True := trivial
theorem law_all.tw16364907183938773818 : True := trivial
theorem law_all.tw14770069727077805929 : True := trivial
theorem law_all.tw15161120417280960535 : True := trivial
theorem law_all.tw2744981985473423791 : True := trivial
theorem law_all.tw5964670041877113058 : True := trivial
theorem law_all.tw17120200779325065073 : True := trivial
theorem law_all.tw7565920113569585601 : True := trivial
theorem law_all.tw6801470937092483863 : True := trivial
theorem law_all.tw1462358456018306731 : True := trivial
theorem law_all.tw9884004495850169556 : True := trivial
theorem law_all.tw10780945830723714241 : True := trivial
theorem law_all.tw4547236602926478784 : True := trivial
theorem law_all.tw17824699565076465075 : True := trivial
theorem law_all.tw9462809283271141762 : True := trivial
theorem law_all.tw7757561431791933054 : True := trivial
theorem law_all.tw11195006048519719982 : True := trivial
theorem law_all.tw7247918254408752490 : True := trivial
theorem law_all.tw6250623550151289363 : True := trivial
theorem law_all.tw9225959068197669698 : True := trivial
theorem law_all.tw4665142225715192508 : True := trivial
theorem law_all.tw13066556902979482641 : True := trivial
theorem law_all.tw4182408002180818360 : True := trivial
theorem law_all.tw2238069962009214901 : True := trivial
theorem law_all.tw9098079959301702225 : True := trivial
theorem law_all.tw4640835974096237147 : True := trivial
theorem law_all.tw15796676433106474108 : True := trivial
theorem law_all.tw10808177503072308079 : True := trivial
theorem law_all.tw9906353361400467681 : True := trivial
theorem law_all.tw4449761216389261190 : True := trivial
theorem law_all.tw12481217338035120217 : True := trivial
theorem law_all.tw16693345006668779598 : True := trivial
theorem law_all.tw2030871139163601056 : True := trivial
theorem law_all.tw12078470571680310831 : True := trivial
theorem law_all.tw4513022563276176288 : True := trivial
theorem law_all.tw2313850143442069465 : True := trivial
theorem law_all.tw13760747126890918739 : True := trivial
theorem law_all.tw5214331894307755913 : True := trivial
theorem law_all.tw3983192056104361193 : True := trivial
theorem law_all.tw6628267780710048319 : True := trivial
theorem law_all.tw4723709930683531510 : True := trivial
theorem law_all.tw1134505771618074870 : True := trivial
theorem law_all.tw5415215016402467412 : True := trivial
theorem law_all.tw1125080383469598763 : True := trivial
theorem law_all.tw308099982120028020 : True := trivial
theorem law_all.tw1938755509981744232 : True := trivial
theorem law_all.tw3681249414171492099 : True := trivial
theorem law_all.tw1172793060472301760 : True := trivial
theorem law_all.tw15414137240233699022 : True := trivial
theorem law_all.tw7539104779076750295 : True := trivial
theorem law_all.tw13573102627690589801 : True := trivial
theorem law_all.tw12437776262134278062 : True := trivial
theorem law_all.tw541292884143145059 : True := trivial
theorem law_all.tw14967953119522679212 : True := trivial
theorem law_all.tw4312221214654303245 : True := trivial
theorem law_all.tw154029563992915288 : True := trivial
theorem law_all.tw14813995537974290954 : True := trivial
theorem law_all.tw15638214500589831823 : True := trivial
theorem law_all.tw16611412123790042429 : True := trivial
theorem law_all.tw14644953146487814992 : True := trivial
theorem law_all.tw17240311926567722313 : True := trivial
theorem law_all.tw12742291788480804056 : True := trivial
theorem law_all.tw6495852183210934563 : True := trivial
theorem law_all.tw5368372463894450783 : True := trivial
theorem law_all.tw1343695993253210297 : True := trivial
theorem law_all.tw3716920204369683755 : True := trivial
theorem law_all.tw17118986888630616858 : True := trivial
theorem law_all.tw16768144245005235482 : True := trivial
theorem law_all.tw2947101405759643883 : True := trivial
theorem law_all.tw1748755634552202416 : True := trivial
theorem law_all.tw5467091673537627360 : True := trivial
theorem law_all.tw16314742590276871135 : True := trivial
theorem law_all.tw4468289917989545160 : True := trivial
theorem law_all.tw14976291558557332888 : True := trivial
theorem law_all.tw4971525033006987312 : True := trivial
theorem law_all.tw12857768353395258856 : True := trivial
theorem law_all.tw3135528900888663784 : True := trivial
theorem law_all.tw1556948465960636121 : True := trivial
theorem law_all.tw2413856156487422069 : True := trivial
theorem law_all.tw7271922334478322552 : True := trivial
theorem law_all.tw8559622642134532576 : True := trivial
theorem law_all.tw9929707098585528879 : True := trivial
theorem law_all.tw4054552316874386740 : True := trivial
theorem law_all.tw12829037096407747505 : True := trivial
theorem law_all.tw11887072702994114029 : True := trivial
theorem law_all.tw18235319390762920864 : True := trivial
theorem law_all.tw3777453917453456667 : True := trivial
theorem law_all.tw3933338468746785916 : True := trivial
theorem law_all.tw17970757394946253910 : True := trivial
theorem law_all.tw12681778448758301329 : True := trivial
theorem law_all.tw10565121375587587042 : True := trivial
theorem law_all.tw14038700456328504219 : True := trivial
theorem law_all.tw11973853004191696713 : True := trivial
theorem law_all.tw13814730616935933626 : True := trivial
theorem law_all.tw4724553419533229902 : True := trivial
theorem law_all.tw10332199025257759670 : True := trivial
theorem law_all.tw15076095784800757957 : True := trivial
theorem law_all.tw4706784108104460177 : True := trivial
theorem law_all.tw16736700015079776020 : True := trivial
theorem law_all.tw4875587917594351017 : True := trivial
theorem law_all.tw16850067431916028951 : True := trivial
theorem law_all.tw17213219829386642084 : True := trivial
theorem law_all.tw1195523087049108795 : True := trivial
theorem law_all.tw15119586037695207966 : True := trivial
theorem law_all.tw10189568930606134409 : True := trivial
theorem law_all.tw14086168745368120678 : True := trivial
theorem law_all.tw12821476480046859578 : True := trivial
theorem law_all.tw11086646823923730572 : True := trivial
theorem law_all.tw6513319782983348548 : True := trivial
theorem law_all.tw16389678097679539626 : True := trivial
theorem law_all.tw2747623398821866450 : True := trivial
theorem law_all.tw13140779808272988157 : True := trivial
theorem law_all.tw15823504312377517234 : True := trivial
theorem law_all.tw5495784557159034327 : True := trivial
theorem law_all.tw9285932881680792518 : True := trivial
theorem law_all.tw2812987420286402142 : True := trivial
theorem law_all.tw6275667225862918451 : True := trivial
theorem law_all.tw9350206980387211188 : True := trivial
theorem law_all.tw2721814648045382242 : True := trivial
theorem law_all.tw1564792174963846901 : True := trivial
theorem law_all.tw7804374761869212844 : True := trivial
theorem law_all.tw11499723639459963570 : True := trivial
theorem law_all.tw1809502294756820286 : True := trivial
theorem law_all.tw9548666868741536164 : True := trivial
theorem law_all.tw13838683757722122955 : True := trivial
theorem law_all.tw630476419553509972 : True := trivial
theorem law_all.tw12878576852180475762 : True := trivial
theorem law_all.tw1526100267518658005 : True := trivial
theorem law_all.tw5040694191884385472 : True := trivial
theorem law_all.tw12912951368749151951 : True := trivial
theorem law_all.tw9339400996390342628 : True := trivial
theorem law_all.tw15775596325662777338 : True := trivial
theorem law_all.tw9117050903738871367 : True := trivial
theorem law_all.tw17994726235332625280 : True := trivial
theorem law_all.tw1696500276726984248 : True := trivial
theorem law_all.tw15546441815245403988 : True := trivial
theorem law_all.tw14831206303057345538 : True := trivial
theorem law_all.tw8732206733074496467 : True := trivial
theorem law_all.tw2873621719533781954 : True := trivial
theorem law_all.tw6946091854452207773 : True := trivial
theorem law_all.tw15978949696629488146 : True := trivial
theorem law_all.tw17737764639412749679 : True := trivial
theorem law_all.tw9682089725965795925 : True := trivial
theorem law_all.tw88744338008619462 : True := trivial
theorem law_all.tw2924756278709178009 : True := trivial
theorem law_all.tw11811711451108638055 : True := trivial
theorem law_all.tw14832577517017574144 : True := trivial
theorem law_all.tw7914111920488281241 : True := trivial
theorem law_all.tw1703305540711997886 : True := trivial
theorem law_all.tw17459949371448459252 : True := trivial
theorem law_all.tw15804987732041531161 : True := trivial
theorem law_all.tw12644882131140162811 : True := trivial
theorem law_all.tw15740732772335265587 : True := trivial
theorem law_all.tw9055577570390366099 : True := trivial
theorem law_all.tw10801504523797058725 : True := trivial
theorem law_all.tw3085543861111676997 : True := trivial
theorem law_all.tw9619780615421632182 : True := trivial
theorem law_all.tw5113565536986230370 : True := trivial
theorem law_all.tw12308355309068749982 : True := trivial
theorem law_all.tw11681217401251675389 : True := trivial
theorem law_all.tw2560851641824476598 : True := trivial
theorem law_all.tw2465578340897827915 : True := trivial
theorem law_all.tw6818535541638068524 : True := trivial
theorem law_all.tw9839478241757703614 : True := trivial
theorem law_all.tw4638716497167235156 : True := trivial
theorem law_all.tw16413752452701970063 : True := trivial
theorem law_all.tw17610193108198147946 : True := trivial
theorem law_all.tw16108003277724382137 : True := trivial
theorem law_all.tw1878014509627251406 : True := trivial
theorem law_all.tw9167269915635825372 : True := trivial
theorem law_all.tw11575233253633470811 : True := trivial
theorem law_all.tw9281404008301498739 : True := trivial
theorem law_all.tw17657424406159520245 : True := trivial
theorem law_all.tw18313445508184284481 : True := trivial
theorem law_all.tw2225694422541459837 : True := trivial
theorem law_all.tw12733668576097638289 : True := trivial
theorem law_all.tw13985060576507940359 : True := trivial
theorem law_all.tw12338384112835736923 : True := trivial
theorem law_all.tw12507762813244862470 : True := trivial
theorem law_all.tw12719020962863150717 : True := trivial
theorem law_all.tw16132189220444017940 : True := trivial
theorem law_all.tw6940715142576804456 : True := trivial
theorem law_all.tw6649969067901403340 : True := trivial
theorem law_all.tw10603289331690730176 : True := trivial
theorem law_all.tw15854292548045388264 : True := trivial
theorem law_all.tw9144500139776326259 : True := trivial
theorem law_all.tw404534946110283943 : True := trivial
theorem law_all.tw8622995446146391313 : True := trivial
theorem law_all.tw13581327203777572028 : True := trivial
theorem law_all.tw7497220510776412333 : True := trivial
theorem law_all.tw2714459630560403676 : True := trivial
theorem law_all.tw15186910425931473683 : True := trivial
theorem law_all.tw9727265499822647776 : True := trivial
theorem law_all.tw17167370007966241821 : True := trivial
theorem law_all.tw7672995546314809169 : True := trivial
theorem law_all.tw3781572232802922534 : True := trivial
theorem law_all.tw18084819778460367582 : True := trivial
theorem law_all.tw17824975005920425677 : True := trivial
theorem law_all.tw9026439464527418359 : True := trivial
theorem law_all.tw3825936540422273863 : True := trivial
theorem law_all.tw6652356289361680949 : True := trivial
theorem law_all.tw4527195061187594670 : True := trivial
theorem law_all.tw3206805621277776192 : True := trivial
theorem law_all.tw6667596460715735799 : True := trivial
theorem law_all.tw9758465039191818689 : True := trivial
theorem law_all.tw8595197912787149095 : True := trivial
theorem law_all.tw6352045179492744985 : True := trivial
theorem law_all.tw12961678295145188246 : True := trivial
theorem law_all.tw7035262430463298820 : True := trivial
theorem law_all.tw7701153426736177974 : True := trivial
theorem law_all.tw4408054295985219607 : True := trivial
theorem law_all.tw12795914074852961918 : True := trivial
theorem law_all.tw14578468027487938174 : True := trivial
theorem law_all.tw5285307726481897559 : True := trivial
theorem law_all.tw13105876084392545070 : True := trivial
theorem law_all.tw4676387156939204929 : True := trivial
theorem law_all.tw13685136416335799533 : True := trivial
theorem law_all.tw3050570416659367537 : True := trivial
theorem law_all.tw7042643379613257464 : True := trivial
theorem law_all.tw4198061620403395136 : True := trivial
theorem law_all.tw2891144412967124082 : True := trivial
theorem law_all.tw9552890226225023792 : True := trivial
theorem law_all.tw13881306047427017735 : True := trivial
theorem law_all.tw12426150187355495272 : True := trivial
theorem law_all.tw2032630373190490227 : True := trivial
theorem law_all.tw4116516876634802910 : True := trivial
theorem law_all.tw505844514383608538 : True := trivial
theorem law_all.tw1458131495679319933 : True := trivial
theorem law_all.tw16829598718399601788 : True := trivial
theorem law_all.tw7837713855860009970 : True := trivial
theorem law_all.tw2539981353633615827 : True := trivial
theorem law_all.tw16768936007509957499 : True := trivial
theorem law_all.tw11161673737740280770 : True := trivial
theorem law_all.tw7982698399765186325 : True := trivial
theorem law_all.tw8496572883052770167 : True := trivial
theorem law_all.tw11344874559957333639 : True := trivial
theorem law_all.tw2252203913613538044 : True := trivial
theorem law_all.tw1678774688637317811 : True := trivial
theorem law_all.tw14484216793023953687 : True := trivial
theorem law_all.tw16371911816118071455 : True := trivial
theorem law_all.tw17818739092667572935 : True := trivial
theorem law_all.tw2818472761355251851 : True := trivial
theorem law_all.tw12162759631566370067 : True := trivial
theorem law_all.tw5099097261256123588 : True := trivial
theorem law_all.tw450456051597042649 : True := trivial
theorem law_all.tw456885184704423047 : True := trivial
theorem law_all.tw2394756045033803996 : True := trivial
theorem law_all.tw15090710645362110852 : True := trivial
theorem law_all.tw17671693468899418834 : True := trivial
theorem law_all.tw2897607846274201091 : True := trivial
theorem law_all.tw8408013158107128451 : True := trivial
theorem law_all.tw14306978333734412998 : True := trivial
theorem law_all.tw11587524997120335971 : True := trivial
theorem law_all.tw15994752243992478524 : True := trivial
theorem law_all.tw644193453371022997 : True := trivial
theorem law_all.tw16084122824873582314 : True := trivial
theorem law_all.tw3091593169578194674 : True := trivial
theorem law_all.tw10041133594965264650 : True := trivial
theorem law_all.tw8399003694265948756 : True := trivial
theorem law_all.tw4411415793883364592 : True := trivial
theorem law_all.tw7658680413803366864 : True := trivial
theorem law_all.tw1253934859468775004 : True := trivial
theorem law_all.tw2126261026752179203 : True := trivial
theorem law_all.tw3896677248486430384 : True := trivial
theorem law_all.tw7244142420057014546 : True := trivial
theorem law_all.tw9036414278844654636 : True := trivial
theorem law_all.tw16317050728709778059 : True := trivial
theorem law_all.tw6311965134907485826 : True := trivial
theorem law_all.tw16669387040374730769 : True := trivial
theorem law_all.tw8961255980978662838 : True := trivial
theorem law_all.tw4881685112826633117 : True := trivial
theorem law_all.tw14752512131158284028 : True := trivial
theorem law_all.tw14998430357298625318 : True := trivial
theorem law_all.tw11194228370837134999 : True := trivial
theorem law_all.tw13760851721862378156 : True := trivial
theorem law_all.tw6529279197570483795 : True := trivial
theorem law_all.tw15362320644881486680 : True := trivial
theorem law_all.tw6237928856598503754 : True := trivial
theorem law_all.tw2454280419872470169 : True := trivial
theorem law_all.tw569701484050765398 : True := trivial
theorem law_all.tw1393781700504683939 : True := trivial
theorem law_all.tw14236084546645660719 : True := trivial
theorem law_all.tw14483480384061991028 : True := trivial
theorem law_all.tw1284789603859255583 : True := trivial
theorem law_all.tw13424269955956943198 : True := trivial
theorem law_all.tw16610364562264112213 : True := trivial
theorem law_all.tw9484003277438265565 : True := trivial
theorem law_all.tw11780552165158174459 : True := trivial
theorem law_all.tw8604365185360055868 : True := trivial
theorem law_all.tw12272814491482326452 : True := trivial
theorem law_all.tw868222490149932729 : True := trivial
theorem law_all.tw5760287462876925609 : True := trivial
theorem law_all.tw2135314059674174450 : True := trivial
theorem law_all.tw6355135678535457092 : True := trivial
theorem law_all.tw7780568949283567224 : True := trivial
theorem law_all.tw6463489072841894807 : True := trivial
theorem law_all.tw6422183658796698897 : True := trivial
theorem law_all.tw14512922981909422826 : True := trivial
theorem law_all.tw5465242347971369183 : True := trivial
theorem law_all.tw12653141808531994812 : True := trivial
theorem law_all.tw5515175385397997255 : True := trivial
theorem law_all.tw11660793784710997211 : True := trivial
theorem law_all.tw17177926690069352239 : True := trivial
theorem law_all.tw7702720457695366031 : True := trivial
theorem law_all.tw15421611283047414692 : True := trivial
theorem law_all.tw1682832674239571567 : True := trivial
theorem law_all.tw11615710364362942683 : True := trivial
theorem law_all.tw6133868015239824228 : True := trivial
theorem law_all.tw4463155090383804945 : True := trivial
theorem law_all.tw11790237786372046490 : True := trivial
theorem law_all.tw6231318655119160662 : True := trivial
theorem law_all.tw13312783184378385674 : True := trivial
theorem law_all.tw18019929789766518222 : True := trivial
theorem law_all.tw12613626564643572922 : True := trivial
theorem law_all.tw12074057436302401830 : True := trivial
theorem law_all.tw14085601271495138652 : True := trivial
theorem law_all.tw8053974599713079812 : True := trivial
theorem law_all.tw10495323473316150548 : True := trivial
theorem law_all.tw7848056648850132878 : True := trivial
theorem law_all.tw2924670171094740670 : True := trivial
theorem law_all.tw2018976290973465159 : True := trivial
theorem law_all.tw1166129813771130549 : True := trivial
theorem law_all.tw1909231634321623422 : True := trivial
theorem law_all.tw14548401533875796570 : True := trivial
theorem law_all.tw15955814874369106537 : True := trivial
theorem law_all.tw18024192373445878068 : True := trivial
theorem law_all.tw3342747189937667127 : True := trivial
theorem law_all.tw3944966475094738777 : True := trivial
theorem law_all.tw17628540532235563227 : True := trivial
theorem law_all.tw7647884552941119451 : True := trivial
theorem law_all.tw4105255371170773908 : True := trivial
theorem law_all.tw7343335850631077457 : True := trivial
theorem law_all.tw7517537711377488852 : True := trivial
theorem law_all.tw5857963957486633590 : True := trivial
theorem law_all.tw15345321202798516387 : True := trivial
theorem law_all.tw14991419344657449139 : True := trivial
theorem law_all.tw15844257298622311405 : True := trivial
theorem law_all.tw8426454859378444244 : True := trivial
theorem law_all.tw7206139752427571534 : True := trivial
theorem law_all.tw15894988515832802272 : True := trivial
theorem law_all.tw1325725505073848231 : True := trivial
theorem law_all.tw15917809590553049049 : True := trivial
theorem law_all.tw13008198028515782221 : True := trivial
theorem law_all.tw6038085552947697086 : True := trivial
theorem law_all.tw6974504298890653878 : True := trivial
theorem law_all.tw401616629055616331 : True := trivial
theorem law_all.tw8765806042451288875 : True := trivial
theorem law_all.tw16994514146051193508 : True := trivial
theorem law_all.tw16371026202757247076 : True := trivial
theorem law_all.tw12852575843583276402 : True := trivial
theorem law_all.tw11407212017213923087 : True := trivial
theorem law_all.tw7385059913978287034 : True := trivial
theorem law_all.tw5970844899898935343 : True := trivial
theorem law_all.tw10090999975856555344 : True := trivial
theorem law_all.tw1584610834578658081 : True := trivial
theorem law_all.tw7318158564511299729 : True := trivial
theorem law_all.tw18383949787495555429 : True := trivial
theorem law_all.tw12095277606438711637 : True := trivial
theorem law_all.tw9065303865073120601 : True := trivial
theorem law_all.tw11628095284720837169 : True := trivial
theorem law_all.tw8410422384732016249 : True := trivial
theorem law_all.tw5918046297749794308 : True := trivial
theorem law_all.tw3284748957273996875 : True := trivial
theorem law_all.tw7224549994232214638 : True := trivial
theorem law_all.tw4032514571123518927 : True := trivial
theorem law_all.tw14200917436561629008 : True := trivial
theorem law_all.tw1485154726033263068 : True := trivial
theorem law_all.tw14305966270870369670 : True := trivial
theorem law_all.tw11945523544114663292 : True := trivial
theorem law_all.tw3949233295002134002 : True := trivial
theorem law_all.tw16802804513485658213 : True := trivial
theorem law_all.tw11516134287502957769 : True := trivial
theorem law_all.tw9278164327587833473 : True := trivial
theorem law_all.tw8093475581411736961 : True := trivial
theorem law_all.tw8718603462263403589 : True := trivial
theorem law_all.tw9135970852051700672 : True := trivial
theorem law_all.tw232006020691507172 : True := trivial
theorem law_all.tw9505956043534509327 : True := trivial
theorem law_all.tw8515956640902208893 : True := trivial
theorem law_all.tw12056103759676145562 : True := trivial
theorem law_all.tw10519519679866249972 : True := trivial
theorem law_all.tw12729013581757030507 : True := trivial
theorem law_all.tw12057113539981475253 : True := trivial
theorem law_all.tw11020806828292283134 : True := trivial
theorem law_all.tw5332743953270975010 : True := trivial
theorem law_all.tw15366096471495861104 : True := trivial
theorem law_all.tw1745867294719425553 : True := trivial
theorem law_all.tw3707600311073335261 : True := trivial
theorem law_all.tw15795279041995733746 : True := trivial
theorem law_all.tw11755048821886595345 : True := trivial
theorem law_all.tw8144562630861866219 : True := trivial
theorem law_all.tw10300875812035996732 : True := trivial
theorem law_all.tw1347740606709914761 : True := trivial
theorem law_all.tw11887014909107480075 : True := trivial
theorem law_all.tw13323004776771469176 : True := trivial
theorem law_all.tw7810743181515291045 : True := trivial
theorem law_all.tw14971921406432897392 : True := trivial
theorem law_all.tw10425333190776739551 : True := trivial
theorem law_all.tw14022319627245857414 : True := trivial
theorem law_all.tw6394399434190074597 : True := trivial
theorem law_all.tw18272266722473543086 : True := trivial
theorem law_all.tw5234447947421495549 : True := trivial
theorem law_all.tw10474069288783402820 : True := trivial
theorem law_all.tw17188035321649709614 : True := trivial
theorem law_all.tw18299426437183154797 : True := trivial
theorem law_all.tw15275527861284700546 : True := trivial
theorem law_all.tw2726533656112109469 : True := trivial
theorem law_all.tw12051850038722144316 : True := trivial
theorem law_all.tw10487270797120572952 : True := trivial
theorem law_all.tw15121837243256198043 : True := trivial
theorem law_all.tw5355107437934412706 : True := trivial
theorem law_all.tw17831633481768180021 : True := trivial
theorem law_all.tw1479220743327157826 : True := trivial
theorem law_all.tw12692521775855915814 : True := trivial
theorem law_all.tw14285781888347874446 : True := trivial
theorem law_all.tw18287222699253342127 : True := trivial
theorem law_all.tw3226911033302893226 : True := trivial
theorem law_all.tw5961023722609971472 : True := trivial
theorem law_all.tw17349332059202253450 : True := trivial
theorem law_all.tw5184584404607951288 : True := trivial
theorem law_all.tw17135547795266049317 : True := trivial
theorem law_all.tw16101399557488211435 : True := trivial
theorem law_all.tw11276032279946435343 : True := trivial
theorem law_all.tw10492806786580578284 : True := trivial
theorem law_all.tw11316630271383740818 : True := trivial
theorem law_all.tw7424173207631694637 : True := trivial
theorem law_all.tw4663659113027530946 : True := trivial
theorem law_all.tw4984181149395053762 : True := trivial
theorem law_all.tw9741297799410488584 : True := trivial
theorem law_all.tw12458883203613716781 : True := trivial
theorem law_all.tw15510326591141048214 : True := trivial
theorem law_all.tw4073406199993252850 : True := trivial
theorem law_all.tw17091725206767289263 : True := trivial
theorem law_all.tw4270512862863035808 : True := trivial
theorem law_all.tw9421408513443329588 : True := trivial
theorem law_all.tw16428596772273243351 : True := trivial
theorem law_all.tw254210294449290986 : True := trivial
theorem law_all.tw7245700242062677723 : True := trivial
theorem law_all.tw498969334165971575 : True := trivial
theorem law_all.tw18020365155930744069 : True := trivial
theorem law_all.tw7219402698325937587 : True := trivial
theorem law_all.tw17025013958437641781 : True := trivial
theorem law_all.tw3416886346130291467 : True := trivial
theorem law_all.tw7762748990098453861 : True := trivial
theorem law_all.tw11596821628577882342 : True := trivial
theorem law_all.tw9992796612143662886 : True := trivial
theorem law_all.tw14375837930296264146 : True := trivial
theorem law_all.tw8937883705780218553 : True := trivial
theorem law_all.tw15680072974341577534 : True := trivial
theorem law_all.tw7697204384454675280 : True := trivial
theorem law_all.tw15693939393655280204 : True := trivial
theorem law_all.tw87554848720477697 : True := trivial
theorem law_all.tw17381011072343130446 : True := trivial
theorem law_all.tw4078097894350094191 : True := trivial
theorem law_all.tw5199301434253951998 : True := trivial
theorem law_all.tw3764594079211352018 : True := trivial
theorem law_all.tw4787805881238422163 : True := trivial
theorem law_all.tw8652508824891024273 : True := trivial
theorem law_all.tw4298414287522497693 : True := trivial
theorem law_all.tw4810359999024667066 : True := trivial
theorem law_all.tw2546207491649054136 : True := trivial
theorem law_all.tw2534205154373081525 : True := trivial
theorem law_all.tw5587102911052348867 : True := trivial
theorem law_all.tw8406315387685492880 : True := trivial
theorem law_all.tw753871570185349790 : True := trivial
theorem law_all.tw8723218627587633102 : True := trivial
theorem law_all.tw7564772252293548769 : True := trivial
theorem law_all.tw4322978343721434318 : True := trivial
theorem law_all.tw8585119295471724657 : True := trivial
theorem law_all.tw17749092094045793073 : True := trivial
theorem law_all.tw3903515962272563663 : True := trivial
theorem law_all.tw6692152015941094863 : True := trivial
theorem law_all.tw15586044915557591662 : True := trivial
theorem law_all.tw18402216632963273465 : True := trivial
theorem law_all.tw1068153473233568800 : True := trivial
theorem law_all.tw17035568942905013000 : True := trivial
theorem law_all.tw13491740491915545503 : True := trivial
theorem law_all.tw7515087699904939769 : True := trivial
theorem law_all.tw10024686837709580625 : True := trivial
theorem law_all.tw15516733807979383809 : True := trivial
theorem law_all.tw14024095959683317476 : True := trivial
theorem law_all.tw4651138369972664570 : True := trivial
theorem law_all.tw7297819598837024618 : True := trivial
theorem law_all.tw1487786111206980130 : True := trivial
theorem law_all.tw15327138436386969399 : True := trivial
theorem law_all.tw17215917983952657280 : True := trivial
theorem law_all.tw4799799285233713263 : True := trivial
theorem law_all.tw298556003828902562 : True := trivial
theorem law_all.tw9815803367523510294 : True := trivial
theorem law_all.tw1861297953188256277 : True := trivial
theorem law_all.tw1009202279429155662 : True := trivial
theorem law_all.tw4629605032302363013 : True := trivial
theorem law_all.tw13794602993731048600 : True := trivial
theorem law_all.tw796818876455020728 : True := trivial
theorem law_all.tw645013614473375241 : True := trivial
theorem law_all.tw866766908457270551 : True := trivial
theorem law_all.tw7093450904264552785 : True := trivial
theorem law_all.tw10344729229328920165 : True := trivial
theorem law_all.tw18236519589282089527 : True := trivial
theorem law_all.tw13765443263638010091 : True := trivial
theorem law_all.tw18069371669798473238 : True := trivial
theorem law_all.tw13481792717815950801 : True := trivial
theorem law_all.tw15189314362614519228 : True := trivial
theorem law_all.tw14487002281987264104 : True := trivial
theorem law_all.tw15146687380694534961 : True := trivial
theorem law_all.tw16554060013575348944 : True := trivial
theorem law_all.tw15877617104253876215 : True := trivial
theorem law_all.tw16731210891918897592 : True := trivial
theorem law_all.tw11366365906516837970 : True := trivial
theorem law_all.tw14222145142556662505 : True := trivial
theorem law_all.tw29785838706219937 : True := trivial
theorem law_all.tw6699625200842085812 : True := trivial
theorem law_all.tw8259473591719373357 : True := trivial
theorem law_all.tw3877723044392924569 : True := trivial
theorem law_all.tw10416063536870402424 : True := trivial
theorem law_all.tw15053150841094675366 : True := trivial
theorem law_all.tw7209142699435546151 : True := trivial
theorem law_all.tw7119508329715715523 : True := trivial
theorem law_all.tw3426539022656043222 : True := trivial
theorem law_all.tw17550541601872772917 : True := trivial
theorem law_all.tw10635536241202982537 : True := trivial
theorem law_all.tw5564237334548157303 : True := trivial
theorem law_all.tw3907663706730131783 : True := trivial
theorem law_all.tw15816446151563789378 : True := trivial
theorem law_all.tw15671280296326744443 : True := trivial
theorem law_all.tw1115311737908471259 : True := trivial
theorem law_all.tw2083335414270168501 : True := trivial
theorem law_all.tw6555256405940155819 : True := trivial
theorem law_all.tw13284267574609153846 : True := trivial
theorem law_all.tw10112902700007934811 : True := trivial
theorem law_all.tw17461023701970706658 : True := trivial
theorem law_all.tw12733029705023595350 : True := trivial
theorem law_all.tw11779399842900871346 : True := trivial
theorem law_all.tw9526463903346643153 : True := trivial
theorem law_all.tw13846950719819077829 : True := trivial
theorem law_all.tw1115970785884932992 : True := trivial
theorem law_all.tw16378840673372724951 : True := trivial
theorem law_all.tw5315506903917589002 : True := trivial
theorem law_all.tw11090485264053204359 : True := trivial
theorem law_all.tw14817745034569102223 : True := trivial
theorem law_all.tw13137264578799596756 : True := trivial
theorem law_all.tw13835618231726790416 : True := trivial
theorem law_all.tw7518268271031788722 : True := trivial
theorem law_all.tw16357951813041135294 : True := trivial
theorem law_all.tw15175368528575537740 : True := trivial
theorem law_all.tw18424452837839797475 : True := trivial
theorem law_all.tw3015541545424464467 : True := trivial
theorem law_all.tw3049941219963327188 : True := trivial
theorem law_all.tw16385951753907185183 : True := trivial
theorem law_all.tw6630503555795351075 : True := trivial
theorem law_all.tw6281336798887741830 : True := trivial
theorem law_all.tw2525653633432605389 : True := trivial
theorem law_all.tw1264670296981799925 : True := trivial
theorem law_all.tw15753174923161979217 : True := trivial
theorem law_all.tw15510922497428549454 : True := trivial
theorem law_all.tw2310117848358827485 : True := trivial
theorem law_all.tw5331488109775412076 : True := trivial
theorem law_all.tw8352638903468824440 : True := trivial
theorem law_all.tw3296963836593520940 : True := trivial
theorem law_all.tw743412211500013303 : True := trivial
theorem law_all.tw1988555749612562791 : True := trivial
theorem law_all.tw4481082551865045004 : True := trivial
theorem law_all.tw10548317783181927485 : True := trivial
theorem law_all.tw15649952513613631697 : True := trivial
theorem law_all.tw17115713224241774592 : True := trivial
theorem law_all.tw11331813773473021967 : True := trivial
theorem law_all.tw11256467734840833315 : True := trivial
theorem law_all.tw9372167265927652766 : True := trivial
theorem law_all.tw5255894285599169570 : True := trivial
theorem law_all.tw12880530043633816451 : True := trivial
theorem law_all.tw7791761455036148250 : True := trivial
theorem law_all.tw17333561848662834254 : True := trivial
theorem law_all.tw17811419955406721850 : True := trivial
theorem law_all.tw18260159938748754179 : True := trivial
theorem law_all.tw9800942999675429824 : True := trivial
theorem law_all.tw15515702583689602614 : True := trivial
theorem law_all.tw4783601065168354762 : True := trivial
theorem law_all.tw4438399736822516121 : True := trivial
theorem law_all.tw1851005829296705102 : True := trivial
theorem law_all.tw10423822332596533971 : True := trivial
theorem law_all.tw18180275025638004960 : True := trivial
theorem law_all.tw2577563808611626836 : True := trivial
theorem law_all.tw10529780158634616513 : True := trivial
theorem law_all.tw6397261156675118401 : True := trivial
theorem law_all.tw2662628459423469990 : True := trivial
theorem law_all.tw15313853814466723436 : True := trivial
theorem law_all.tw17783994495123558372 : True := trivial
theorem law_all.tw15256493282736253867 : True := trivial
theorem law_all.tw7247926347573934118 : True := trivial
theorem law_all.tw15067176116416451425 : True := trivial
theorem law_all.tw12168520589393599259 : True := trivial
theorem law_all.tw17009404168889603793 : True := trivial
theorem law_all.tw711021382710547372 : True := trivial
theorem law_all.tw16434993861110634532 : True := trivial
theorem law_all.tw16838179679014408406 : True := trivial
theorem law_all.tw623384496221371744 : True := trivial
theorem law_all.tw7320585726020715318 : True := trivial
theorem law_all.tw121348372011856147 : True := trivial
theorem law_all.tw11370059905445811129 : True := trivial
theorem law_all.tw892440070764786429 : True := trivial
theorem law_all.tw8378616637936851624 : True := trivial
theorem law_all.tw9995192584476968585 : True := trivial
theorem law_all.tw3212133317209086894 : True := trivial
theorem law_all.tw14680051335654784553 : True := trivial
theorem law_all.tw11509529326707108785 : True := trivial
theorem law_all.tw9626924371936766941 : True := trivial
theorem law_all.tw3263060017730090603 : True := trivial
theorem law_all.tw17293483708993535449 : True := trivial
theorem law_all.tw2885707341163702077 : True := trivial
theorem law_all.tw17962646048161934237 : True := trivial
theorem law_all.tw14636622166468137105 : True := trivial
theorem law_all.tw4728599345574348774 : True := trivial
theorem law_all.tw17969530034244639028 : True := trivial
section
theorem fm0 (k m : Int) (h : 0 < m) : 0 ≤ (k.fmod 97).fmod m := Int.fmod_nonneg_of_pos _ h
theorem fm1 (k m : Int) (h : 0 < m) : (k.fmod 97).fmod m < m := Int.fmod_lt_of_pos _ h
theorem menu_its2 {P : Params} {h : Heap} (X : (Mine.HK P).In h) : IsTup h 871 menuVs.toArray ∧ Its h menuVs menuIs := ⟨t871 X, menu_its X⟩
set_option Elab.async true in
theorem law_all : PySem.Challenge.rw_rg0218_01.Holds := by
  k_with_none
  (w_on; o_law; o_head (kHook Mine.HK (2 :: 3 :: 25 :: 30 :: 36 :: 37 :: 46 :: 47 :: 48 :: 66 :: 67 :: 97 :: 98 :: 230 :: 231 :: 296 :: 297 :: 298 :: 299 :: 399 :: 400 :: 426 :: 427 :: 428 :: 429 :: 444 :: 445 :: 451 :: 452 :: 557 :: 558 :: 559 :: 560 :: 578 :: 579 :: 580 :: 581 :: 589 :: 590 :: 610 :: 611 :: 631 :: 632 :: 688 :: 689 :: 690 :: 691 :: 706 :: 707 :: 762 :: 763 :: 852 :: 853 :: 854 :: 855 :: 858 :: 859 :: 860 :: 861 :: 862 :: 863 :: 864 :: 865 :: 866 :: 867 :: 868 :: 869 :: 870 :: 871 :: 872 :: 873 :: 874 :: 875 :: 876 :: 877 :: 878 :: 879 :: 880 :: 882 :: 883 :: 885 :: 886 :: 887 :: 889 :: 890 :: 892 :: 893 :: 894 :: 896 :: 897 :: 899 :: 900 :: 901 :: 903 :: 904 :: 906 :: 907 :: 908 :: 910 :: 911 :: 913 :: 914 :: 915 :: 918 :: 919 :: []) (fun _ => by kernel_rfl)); (case hw => w_witness2))
  k_with_none
  k_with "my subscriptTail" => (k_here; (first | (with_reducible show wpAny _ _ (subscriptTail _ _ (Value.ref 879) _) _ _ _) | (with_reducible show wpAny _ _ (subscriptTail _ _ (Value.ref 871) _) _ _ _)); refine Stop.out ?_)
  k_with "my LeaveC" => (refine leaveC_ (by assumption) ?_; intro kK9w; (try dsimp only))
  k_with "my pyIter ref" => refine Stop.out ?_
  k_with "my eval IfExp" => refine Stop.out ?_
  k_with "my call type:range" => (k_here; (rename Fr _ _ _ _ => F9w'); (rename News _ _ _ _ => N9w'); (with_unfolding_all refine range1_rows F9w' N9w' ?_; intro _ _ _ _ _ _ _ _ _))
  k_with "my InvEndN" => refine Stop.out ?_
  k_with "my UROOM" => first | omega | ((simp only [units_in1, units_deeper]); (try dsimp only [ktrTop]); omega)
  k_with "my UROOM" => units_room
  k_with "my eval ListComp" => (k_here; (with_reducible show wpAny _ _ (eval (Expr.ListComp _ [⟨_, _, [_], _⟩] _ _) _) _ _ _); refine Stop.out ?_)
  k_with "my CompSrcT" => refine Stop.out ?_
  k_with "my exec Raise some none" => (k_here; refine raise_exec rfl ?_)
  k_with "my call builtin:dict.get" => refine Stop.out ?_
  k_with "my getMethod ref" => (k_here; (with_reducible show wpAny _ _ (getMethod (Value.ref _) (Str.ofString "get") _) _ _ _); k_dflt (refine' bd_method ?bdN ?bdP ?bdD ?_; (case bdN => k_asm); (case bdP => k_mem); (case bdD => k_asm)))
  k_with "my setItem ref ref" => (k_here; k_dflt (first | (refine' bd_set0 (knd := PySem.strKind _ _) ?bdF ?bdN ?bdU ?bdD ?bdHu ?bdK ?_; (case bdF => k_asm); (case bdN => k_asm); (case bdU => first | (refine' UpdG.updF ?apU D9w rfl; (case apU => walk_at "UPDG")) | k_updF); (case bdD => k_asm); (case bdHu => walk_at "UROOM"); (case bdK => exact bkey (by k_asm) (by k_mem) (by k_mem) (by decide +kernel))) | (refine' bd_set ?bdF ?bdN ?bdU ?bdD ?bdHu ?bdKs ?bdK ?bdO ?bdZ ?_; (case bdF => k_asm); (case bdN => k_asm); (case bdU => first | (refine' UpdG.updF ?apU D9w rfl; (case apU => walk_at "UPDG")) | k_updF); (case bdD => k_asm); (case bdHu => walk_at "UROOM"); (case bdKs => exact bkeys1 (bkey (by k_asm) (by k_mem) (by k_mem) (by decide +kernel))); (case bdK => exact bkey (by k_asm) (by k_mem) (by k_mem) (by decide +kernel)); (case bdO => exact atKey1 (by decide +kernel)); (case bdZ => exact Nat.le_of_ble_eq_true rfl))); intro h9w' o9w' F9w' N9w' hd9w'; (try dsimp only at N9w'))
  k_with "my exec Assign" => (k_here; (with_reducible show wpAny _ _ (exec (Stmt.Assign [Expr.Name (Str.ofString "reader") _] _ _) _) _ _ _); (rename BD _ _ _ _ => bdX9w); refine Stop.out ?_)
  k_with "my execs cons" => (k_here; first | k_gentoks | ((with_reducible refine wpAny_execs_cons ?_); (try dsimp only); k_fold))
  k_with "my ite" => refine (if_pos (by decide)).mpr ?_
  k_with "my UPDE" => first | exact UpdE.head | (refine' UpdE.tail ?apT; (case apT => walk_at "UPDE"))
  k_with "my UPDG" => first | exact UpdG.head | (refine' UpdG.tail ?apT; (case apT => walk_at "UPDG"))
  k_with "my TWO" => first | exact Two.here (by k_mem) | exact Two.there (by walk_at "TWO")
  k_with "my NE" => first | exact Apart.ne D9w (by walk_at "TWO") | exact Ne.symm (Apart.ne D9w (by walk_at "TWO"))
  k_with "my APL" => first | exact True.intro | (refine And.intro (by k_all) ?_; walk_at "APL")
  k_with "my newList" => (k_here; k_dflt (refine' newList_A D9w ?apE ?k1 ?k2 ?_ ?z; (case k1 => k_asm); (case k2 => k_asm); (case apE => rfl); (case z => size_fits); k_whole); intro l9w h9w F9w N9w D9w; (try k_sweep))
  k_with "my newTuple" => (k_here; k_dflt (refine' newTuple_A D9w ?apE ?k1 ?k2 ?_ ?z; (case k1 => k_asm); (case k2 => k_asm); (case apE => rfl); (case z => kmk_size)); intro d9w h9w F9w N9w D9w; (try k_sweep))
  k_with "my eval Dict nil nil" => (k_here; k_dflt (refine' newDict_A D9w ?apE ?k1 ?k2 (TopRead.nolimit (by k_asm)) ?_; (case k1 => k_asm); (case k2 => k_asm); (case apE => rfl); k_whole); intro d9w h9w o9w F9w N9w D9w lo9w hs9w; (try k_sweep))
  k_with "my CLS" => (k_dflt (refine' call_cls_A D9w ?apE ?k1 ?k2 ?k3 ?k4 ?k5 ?k6 ?_; (case k1 => k_asm); (case k2 => k_asm); (case k3 => k_asm); (case apE => rfl); (case k4 => k_is); (case k5 => k_is); (case k6 => k_is); k_whole); intro x9w d9w h9w F9w N9w D9w; (try k_sweep); k_dflt k_enter)
  k_with "my call ref" => (k_here; walk_at "CLS")
  k_with "my call ref" => (k_here; (with_reducible show wpAny _ _ (call (Value.ref 400) _) _ _ _); refine Stop.out ?_)
  k_with "my setAttr ref" => (k_here; k_dflt (refine' set_dict ?k1 ?k2 ?k3 ?k4 ?k5 ?k6 ?k7 ?k8 ?k9 ?k10 ?k11 ?k12 ?k13 ?_; (case k1 => k_asm); (case k2 => k_asm); (case k3 => k_asm); (case k4 => k_inst); (case k5 => exact rfl); (case k6 => k_is); (case k7 => k_is); (case k8 => k_is); (case k9 => k_is); (case k10 => k_get); (case k11 => k_put); (case k12 => (refine' UpdE.upd ?apU D9w rfl; (case apU => walk_at "UPDE"))); (case k13 => exact Nat.le_of_ble_eq_true rfl); k_whole; intro h9w F9w N9w; (try k_sweep)))
  k_with "my call builtin:list.append" => (k_here; (with_reducible show wpAny _ _ (call (Value.builtin _) [Value.ref _, _]) _ _ _); k_dflt (refine' append_K ?k1 ?k2 ?k3 ?_ ?z; (case k1 => k_asm); (case k2 => k_asm); (case k3 => (refine' UpdE.upd ?apU D9w rfl; (case apU => walk_at "UPDE"))); (case z => size_fits); k_whole); intro h9w F9w N9w; (try k_sweep))
  k_with "my call ref" => (k_here; (with_reducible show wpAny _ _ (call (Value.ref 914) _) _ _ _); refine Stop.out ?_)
  k_with "my call ref" => (k_here; (with_reducible show wpAny _ _ (call (Value.ref 611) _) _ _ _); refine Stop.out ?_)
  w_strict (
    k_go0
    all_goals (try k_fold)
    k_steps
    refine Stop.mk ?_
    rename News _ _ _ _ => nN9
    have D9w := apart_of nN9 (by walk_at "APL")
    dsimp only [List.map] at D9w
    walk_at "CLS"
    k_steps
    refine Stop.mk ?_
    k_here
    refine' bd_get0 (knd := PySem.strKind _ _) ?bdN ?bdP ?bdD ?bdLo ?bdHu ?bdK ?_
    (case bdN => k_asm)
    (case bdD => k_asm)
    (case bdLo => k_asm)
    (case bdHu => walk_at "UROOM")
    (case bdK => exact bkey (by k_asm) (by k_mem) (by k_mem) (by decide +kernel))
    (case bdP => k_mem)
    k_steps
    refine Stop.mk ?_
    k_here
    refine' bd_get ?bdN2 ?bdP2 ?bdD2 ?bdLo2 ?bdHu2 ?bdKs2 ?bdK2 ?bdO2 ?_
    (case bdN2 => k_asm)
    (case bdD2 => k_asm)
    (case bdLo2 => k_asm)
    (case bdHu2 => walk_at "UROOM")
    (case bdKs2 => exact bkeys1 (bkey (by k_asm) (by k_mem) (by k_mem) (by decide +kernel)))
    (case bdK2 => exact bkey (by k_asm) (by k_mem) (by k_mem) (by decide +kernel))
    (case bdO2 => exact atKey1 (by decide +kernel))
    (case bdP2 => k_mem)
    k_steps
    refine Stop.mk ?_
    k_here
    rename Fr _ _ _ _ => lB
    rename News _ _ _ _ => nB
    with_unfolding_all refine' keep2 lB nB (by rfl) ?hG1 ?hG2 ?hG3 ?hG4 ?hG5 ?hG6 ?hG7 ?_
    case hG1 => k_mem
    case hG2 => k_asm
    case hG3 => k_mem
    case hG4 => k_ne
    case hG5 => assumption
    case hG6 => assumption
    case hG7 => assumption
    clear lB nB
    repeat (rename Fr _ _ _ _ => zz; clear zz)
    repeat (rename News _ _ _ _ => zz; clear zz)
    repeat (rename _ ∧ _ => zz; clear zz)
    repeat (rename BD _ _ _ _ => zz; clear zz)
    repeat (rename Obj.IsDictOf _ _ _ => zz; clear zz)
    repeat (rename Below _ _ _ _ => zz; clear zz)
    repeat (rename Top _ _ _ _ _ _ => zz; clear zz)
    repeat (rename Frag.In _ _ => zz; clear zz)
    repeat (rename Glob _ _ _ _ _ _ _ _ => zz; clear zz)
    repeat (rename BMod _ _ _ _ => zz; clear zz)
    repeat (rename PyProof.V.FlatPairs _ _ _ => zz; clear zz)
    intro B8 T8 X8 lB dB neB nB
    have D9w := Apart.two (Ne.symm neB)
    k_steps
    refine Stop.mk ?_
    k_here
    rename Fr _ _ _ _ => lF'
    rename News _ _ _ _ => lN'
    rename IsRange _ _ _ _ _ _ _ _ => rgX
    rename Frag.In _ _ => KX9
    with_unfolding_all refine' kst_laps (by rfl) rgX lF' lN' (by rfl) ?hA1 ?hA2 ?hA3 ?hA4 ?hA5 ?hA6 ?hA7 ?hA8 ?_ ?_
    case hA1 => k_mem
    case hA2 => k_mem
    case hA3 => k_mem
    case hA4 => k_asm
    case hA5 => k_mem
    case hA6 => exact Ne.symm (Apart.ne D9w (Two.there (Two.there (Two.here (by k_mem)))))
    case hA7 => exact Ne.symm (Apart.ne D9w (Two.there (Two.there (Two.there (Two.here (by k_mem))))))
    case hA8 => exact neB
    · repeat (rename Apart _ => zz; clear zz)
      try clear lF' lN' rgX
      have cA := baseOf (by assumption) (by assumption) KX9
      clear KX9
      repeat (rename Fr _ _ _ _ => zz; clear zz)
      repeat (rename News _ _ _ _ => zz; clear zz)
      repeat (rename _ ∧ _ => zz; clear zz)
      repeat (rename BD _ _ _ _ => zz; clear zz)
      repeat (rename Obj.IsDictOf _ _ _ => zz; clear zz)
      repeat (rename Below _ _ _ _ => zz; clear zz)
      repeat (rename Top _ _ _ _ _ _ => zz; clear zz)
      repeat (rename Frag.In _ _ => zz; clear zz)
      repeat (rename Glob _ _ _ _ _ _ _ _ => zz; clear zz)
      repeat (rename BMod _ _ _ _ => zz; clear zz)
      repeat (rename Reads _ _ _ _ => zz; clear zz)
      repeat (rename ReadsAll _ _ _ _ => zz; clear zz)
      repeat (rename Heap.IsList _ _ _ => zz; clear zz)
      repeat (rename PyProof.V.FlatPairs _ _ _ => zz; clear zz)
      obtain ⟨⟨K09, T9, KX9⟩⟩ := cA
      intro g1 g2 g3 c pre k t u h tk own hlt hoff hf hlo hhi F₁ N₁
      obtain ⟨o, a, ta⟩ := c
      obtain ⟨hf⟩ := hf
      try dsimp only at hf hlo hhi F₁ N₁
      (try k_fold)
      k_steps
      refine Stop.mk ?_
      rename Fr _ _ _ _ => cF
      rename News _ _ _ _ => cN
      refine cutN (fun v => ∃ k t, v = .int k t) cF cN ?_ ?_
      · k_here
        refine wpAny_IfExp ?_
        k_steps
        all_goals exact CutN.mk' (by k_asm) (by k_asm) (fun p hp => hp) ⟨_, _, rfl⟩
      · clear cF cN
        intro v h3 tk3 F3 N3 hv3
        obtain ⟨k3, t3, rfl⟩ := hv3
        k_steps
        refine Stop.mk ?_
        k_here
        rename Fr _ _ _ _ => fA
        refine sub_tup fA (head_its KX9).1 (head_its KX9).2 (fm0 _ _ (by decide)) (fm1 _ 7 (by decide)) (by have := fm1 k3 7 (by decide); omega) ?_
        intro a0 i0 e0 x0
        k_steps
        refine Stop.mk ?_
        rename Fr _ _ _ _ => cF
        rename News _ _ _ _ => cN
        refine cutN (fun v => ∃ k t, v = .int k t) cF cN ?_ ?_
        · k_here
          refine wpAny_IfExp ?_
          k_steps
          all_goals exact CutN.mk' (by k_asm) (by k_asm) (fun p hp => hp) ⟨_, _, rfl⟩
        · clear cF cN
          intro v h4 tk4 F4 N4 hv4
          obtain ⟨k4, t4, rfl⟩ := hv4
          k_steps
          refine Stop.mk ?_
          k_here
          rename Fr _ _ _ _ => fA
          refine sub_tup fA (menu_its2 KX9).1 (menu_its2 KX9).2 (fm0 _ _ (by decide)) (fm1 _ 8 (by decide)) (by have := fm1 k4 8 (by decide); omega) ?_
          intro a1 i1 e1 x1
          k_steps
          refine Stop.mk ?_
          rename Fr _ _ _ _ => cF
          rename News _ _ _ _ => cN
          refine cutN (fun v => ∃ k t, v = .int k t) cF cN ?_ ?_
          · k_here
            refine wpAny_IfExp ?_
            k_steps
            all_goals exact CutN.mk' (by k_asm) (by k_asm) (fun p hp => hp) ⟨_, _, rfl⟩
          · clear cF cN
            intro v h5 tk5 F5 N5 hv5
            obtain ⟨k5, t5, rfl⟩ := hv5
            k_steps
            refine Stop.mk ?_
            rename Fr _ _ _ _ => lF2
            rename News _ _ _ _ => lN2
            rename IsRange _ _ _ _ _ _ _ _ => rgY
            with_unfolding_all refine' kst_turns (by rfl) rgY ?hB1 ?hB2 lF2 lN2 ?hB3 ?hB4 ?hB5 ?_ ?_
            case hB1 => exact fm0 _ _ (by decide)
            case hB2 => exact fm1 _ 8 (by decide)
            case hB3 => (have hMk := kstMark; exact offMore (by assumption) (by kst_allNe) (by kst_allNe))
            case hB4 => k_asm
            case hB5 => omega
            · try clear lF2 lN2 rgY
              intro c2 pre2 kk tt u2 h9 tk9 ow hlt2 hoff2 hf2 hlo2 hhi2 hlen2 F9 N9
              obtain ⟨⟨o2, a2, ta2⟩, us, js, nn⟩ := c2
              obtain ⟨⟨hf2⟩, hits⟩ := hf2
              try dsimp only at hf2 hits hlo2 hhi2 hlen2 F9 N9
              (try k_fold)
              k_steps
              refine Stop.mk ?_
              rename Fr _ _ _ _ => cF
              rename News _ _ _ _ => cN
              refine cutN (fun v => ∃ k t, v = .int k t) cF cN ?_ ?_
              · k_here
                refine wpAny_IfExp ?_
                k_steps
                all_goals exact CutN.mk' (by k_asm) (by k_asm) (fun p hp => hp) ⟨_, _, rfl⟩
              · clear cF cN
                intro v h6 tk6 F6 N6 hv6
                obtain ⟨k6, t6, rfl⟩ := hv6
                k_steps
                refine Stop.mk ?_
                k_here
                rename Fr _ _ _ _ => fA
                refine sub_tup fA (menu_its2 KX9).1 (menu_its2 KX9).2 (fm0 _ _ (by decide)) (fm1 _ 8 (by decide)) (by have := fm1 k6 8 (by decide); omega) ?_
                intro a6 i6 e6 x6
                k_steps
                rename Fr _ _ _ _ => eF
                rename News _ _ _ _ => eN
                (try simp only [List.push_toArray] at eN)
                exact TurnEnd.mk' eF eN (by k_mem) (by k_mem) (by intro p hp; kst_mem) (by k_asm) (hits.append (.cons x6 .nil)) (by omega) (by omega) (by simp [hlen2]) (by intro z hz; simp [hz])
            · try clear lF2 lN2 rgY
              intro c2 u2 h9 tk9 hf2 hlo2 hhi2 hlen2 F9 N9
              obtain ⟨⟨o2, a2, ta2⟩, us, js, nn⟩ := c2
              obtain ⟨⟨hf2⟩, hits⟩ := hf2
              try dsimp only at hf2 hits hlo2 hhi2 hlen2 F9 N9
              (try k_fold)
              k_steps
              refine Stop.mk ?_
              k_here
              rename Fr _ _ _ _ => gF
              rename News _ _ _ _ => gN
              k_dflt (refine' right_use ?B gF KX9 gN ?T KX9 ?TB rfl ?r1 ?r2 ?r3 ?r4 ?r5 ?r6 x0 x1 hits hlen2 (headOf e0) ?hd ?hu ?_; (case B => k_asm); (case T => k_asm); (case TB => k_asm); (case r1 => k_mem); (case r2 => k_mem); (case r3 => rfl); (case r4 => k_mem); (case r5 => k_mem); (case r6 => k_mem); (case hd => ktr_room); (case hu => walk_at "UROOM"))
              clear gF gN
              intro h8 tk8 F8 N8
              k_steps
              refine Stop.mk ?_
              rename Fr _ _ _ _ => eF
              rename News _ _ _ _ => eN
              rename Obj.IsDictOf _ _ _ => hf2
              refine kst_end (_, _, _) eF eN ?_ ?_ (by rfl) ⟨hf2⟩ (List.forall_mem_nil _) ?_ ⟨?_, ?_⟩
              · intro p hp
                rcases List.mem_cons.mp hp with rfl | hp
                · k_mem
                rcases List.mem_cons.mp hp with rfl | hp
                · k_mem
                rcases List.mem_cons.mp hp with rfl | hp
                · k_mem
                rcases List.mem_cons.mp hp with rfl | hp
                · k_mem
                · cases hp
              · intro p hp; kst_mem
              · first | kst_same | (intro z h1 h2 h3; simp_all)
              · show 0 ≤ _; omega
              · simp only [List.length_append, List.length_singleton]; omega
    · repeat (rename Apart _ => zz; clear zz)
      intro c u h tk F9 N9
      k_steps
      refine Stop.mk ?_
      k_here
      k_dflt (refine' slice7 ?sF ?sN (t871 KX9) ?_ ?s1 ?s2; (case sF => k_asm); (case sN => k_asm); (case s1 => with_unfolding_all rfl); (case s2 => intro _; with_unfolding_all rfl))
      intro D7 h7 F7 N7 l7
      try dsimp only [AllLt] at l7
      k_steps
      refine Stop.mk ?_
      k_here
      k_dflt (refine LCt.ListComp_T (F₀ := by k_asm) (by with_unfolding_all rfl) (by decide) (by rfl) (by decide) (by rfl) ?_)
      k_steps
      refine Stop.mk ?_
      k_here
      rename Fr _ _ _ _ => cF
      rename News _ _ _ _ => cN
      refine LCt.CompSrcT.ledger (by rfl) cF cN (by k_mem) (by exact Nat.le_of_ble_eq_true rfl) ?_
      intro g'
      refine rest_none ?good ?H ?S ?fin _ _
      case good =>
        intro h9 F9 N9 i v hv
        have hv := Array.mem_of_getElem? hv
        refine' some_ok KX9 F9 N9 ?q8 ?q9 ?q5 ?q6 ?q7 ?q1 ?q2 ?q4 ?q3 v hv.val
        case q8 => k_mem
        case q9 => k_mem
        case q5 => k_mem
        case q6 => k_mem
        case q7 => k_mem
        case q1 => k_mem
        case q2 => k_mem
        case q4 => k_mem
        case q3 => k_mem
      case S => exact .inr ⟨_, by k_mem, rfl, _, rfl⟩
      case H =>
        clear cF cN
        intro R tag is I oI C oC D m₂ h tk E' hs hl hC hx F9 N9
        k_steps
        refine Stop.mk ?_
        k_here
        rename Fr _ _ _ _ => gF
        rename News _ _ _ _ => gN
        k_dflt (refine' CallOk.use (label_ok R tag is) ?B gF KX9 gN ?T rfl hs ?hd ?hu ?_; (case B => k_asm); (case T => k_asm); (case hd => ktr_room); (case hu => walk_at "UROOM"))
        intro r3 h3 tk3 k3 F3 N3 P3
        rw [hl] at P3
        obtain rfl : r3 = .none := P3
        k_steps
        exact OneEnd.mk ⟨rfl, _, _, rfl, by k_asm, by k_asm⟩
      case fin =>
        k_steps)
end
end Mine
theorem PySem.Challenge.cw_rg0218_01_holds : PySem.Challenge.rw_rg0218_01.Holds := by
  exact Mine.law_all
