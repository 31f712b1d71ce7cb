import PyProof.Rows.All
import Wide.All
import OpenK.AllK
import Wide.FinOn
import PySem.Challenge.RW_pq1424_01
set_option Elab.async false
set_option maxRecDepth 100000
set_option rowWalk.seconds 0
set_option compiler.extract_closed false
set_option genInjectivity false
set_option genSizeOf false
-- Hk
namespace Mine
open PySem PySem.W PySem.Calls PySem.Spec PyProof.Rows

noncomputable def noPos : Pos := { line := 0, col := 0, endLine := 0, endCol := 0 }
noncomputable def stAt : List Nat → Stmt
  | [i] => (PySem.Challenge.rw_pq1424_01.row.prog.main.body[i]?).getD (.Pass noPos)
  | [i, j] => match PySem.Challenge.rw_pq1424_01.row.prog.main.body[i]? with
    | some (.ClassDef _ _ _ b _ _ _ _ _ _ _) => (b[j]?).getD (.Pass noPos)
    | _ => .Pass noPos
  | _ => .Pass noPos
noncomputable def parAt (l : List Nat) : Arguments := match stAt l with
  | .FunctionDef _ a _ _ _ _ _ _ _ _ => a
  | _ => ⟨[], [], none, [], [], none, []⟩
noncomputable def bodyAt (l : List Nat) : List Stmt := match stAt l with
  | .FunctionDef _ _ b _ _ _ _ _ _ _ => b
  | _ => []
noncomputable def scAt (l : List Nat) : Scope := match stAt l with
  | .FunctionDef _ _ _ _ _ _ s _ _ _ => s
  | _ => { kind := .module, names := [], isGenerator := false, isCoroutine := false, more := [] }
/-- what stands behind the top: the objects that the walks read -/
noncomputable def kAt (P : Params) : Frag :=
  (nat_lit 2, .mk .none none (.dict #[.mk (PyData.keyHash P (Str.ofString "type.__subclasses__.Exception.0")) (.str (Str.ofString "type.__subclasses__.Exception.0") 270) (.int 80 0), .mk (PyData.keyHash P (Str.ofString "type.__subclasses__.Exception.n")) (.str (Str.ofString "type.__subclasses__.Exception.n") 271) (.int 1 0)] 2) #[]) ::
  (nat_lit 3, .mk (.type "dict") none (.dict #[.mk (PyData.keyHash P (Str.ofString "__name__")) (.str (Str.ofString "__name__") 165) (.str (Str.ofString "law_pq1424_01") 1312), .mk (PyData.keyHash P (Str.ofString "__doc__")) (.str (Str.ofString "__doc__") 166) .none, .mk (PyData.keyHash P (Str.ofString "__package__")) (.str (Str.ofString "__package__") 167) .none, .mk (PyData.keyHash P (Str.ofString "__loader__")) (.str (Str.ofString "__loader__") 168) (.builtin "__main__.__loader__#opaque"), .mk (PyData.keyHash P (Str.ofString "__spec__")) (.str (Str.ofString "__spec__") 169) .none, .mk (PyData.keyHash P (Str.ofString "__annotations__")) (.str (Str.ofString "__annotations__") 170) (.ref 6), .mk (PyData.keyHash P (Str.ofString "__builtins__")) (.str (Str.ofString "__builtins__") 171) (.ref 4), .mk (PyData.keyHash P (Str.ofString "__file__")) (.str (Str.ofString "__file__") 173) (.str (Str.ofString "/claim/cut.py") 172), .mk (PyData.keyHash P (Str.ofString "__cached__")) (.str (Str.ofString "__cached__") 174) .none, .mk (PyData.keyHash P (Str.ofString "_wall")) (.str (Str.ofString "_wall") 193) (.ref 21), .mk (PyData.keyHash P (Str.ofString "get_attr")) (.str (Str.ofString "get_attr") 203) (.ref 28), .mk (PyData.keyHash P (Str.ofString "dim_of")) (.str (Str.ofString "dim_of") 211) (.ref 35), .mk (PyData.keyHash P (Str.ofString "class_attr")) (.str (Str.ofString "class_attr") 219) (.ref 42), .mk (PyData.keyHash P (Str.ofString "language_class")) (.str (Str.ofString "language_class") 227) (.ref 49), .mk (PyData.keyHash P (Str.ofString "shape_class")) (.str (Str.ofString "shape_class") 235) (.ref 56), .mk (PyData.keyHash P (Str.ofString "plain_class")) (.str (Str.ofString "plain_class") 243) (.ref 63), .mk (PyData.keyHash P (Str.ofString "class_of")) (.str (Str.ofString "class_of") 251) (.ref 70), .mk (PyData.keyHash P (Str.ofString "CoveError")) (.str (Str.ofString "CoveError") 273) (.ref 80), .mk (PyData.keyHash P (Str.ofString "Refusal")) (.str (Str.ofString "Refusal") 298) (.ref 100), .mk (PyData.keyHash P (Str.ofString "Vector")) (.str (Str.ofString "Vector") 342) (.ref 127), .mk (PyData.keyHash P (Str.ofString "Builtin")) (.str (Str.ofString "Builtin") 379) (.ref 148), .mk (PyData.keyHash P (Str.ofString "Environment")) (.str (Str.ofString "Environment") 416) (.ref 170), .mk (PyData.keyHash P (Str.ofString "S4Object")) (.str (Str.ofString "S4Object") 448) (.ref 191), .mk (PyData.keyHash P (Str.ofString "integer")) (.str (Str.ofString "integer") 455) (.ref 202), .mk (PyData.keyHash P (Str.ofString "flag")) (.str (Str.ofString "flag") 462) (.ref 209), .mk (PyData.keyHash P (Str.ofString "length")) (.str (Str.ofString "length") 470) (.ref 216), .mk (PyData.keyHash P (Str.ofString "is_atomic")) (.str (Str.ofString "is_atomic") 477) (.ref 223), .mk (PyData.keyHash P (Str.ofString "Matching")) (.str (Str.ofString "Matching") 562) (.ref 280), .mk (PyData.keyHash P (Str.ofString "doubled_text")) (.str (Str.ofString "doubled_text") 569) (.ref 291), .mk (PyData.keyHash P (Str.ofString "argument_text")) (.str (Str.ofString "argument_text") 581) (.ref 298), .mk (PyData.keyHash P (Str.ofString "plain_text")) (.str (Str.ofString "plain_text") 589) (.ref 305), .mk (PyData.keyHash P (Str.ofString "unused_text")) (.str (Str.ofString "unused_text") 595) (.ref 310), .mk (PyData.keyHash P (Str.ofString "match_names")) (.str (Str.ofString "match_names") 601) (.ref 316), .mk (PyData.keyHash P (Str.ofString "needed")) (.str (Str.ofString "needed") 609) (.ref 323), .mk (PyData.keyHash P (Str.ofString "take")) (.str (Str.ofString "take") 615) (.ref 329), .mk (PyData.keyHash P (Str.ofString "is_na")) (.str (Str.ofString "is_na") 624) (.ref 336), .mk (PyData.keyHash P (Str.ofString "as_logical_text")) (.str (Str.ofString "as_logical_text") 633) (.ref 343), .mk (PyData.keyHash P (Str.ofString "to_logical")) (.str (Str.ofString "to_logical") 641) (.ref 350), .mk (PyData.keyHash P (Str.ofString "condition")) (.str (Str.ofString "condition") 650) (.ref 357), .mk (PyData.keyHash P (Str.ofString "all_classes")) (.str (Str.ofString "all_classes") 663) (.ref 364), .mk (PyData.keyHash P (Str.ofString "b_inherits")) (.str (Str.ofString "b_inherits") 669) (.ref 369), .mk (PyData.keyHash P (Str.ofString "Evaluator")) (.str (Str.ofString "Evaluator") 963) (.ref 575), .mk (PyData.keyHash P (Str.ofString "S4Class")) (.str (Str.ofString "S4Class") 1004) (.ref 596), .mk (PyData.keyHash P (Str.ofString "data_kinds")) (.str (Str.ofString "data_kinds") 1010) (.ref 607), .mk (PyData.keyHash P (Str.ofString "basic_names")) (.str (Str.ofString "basic_names") 1016) (.ref 614), .mk (PyData.keyHash P (Str.ofString "basic_parents")) (.str (Str.ofString "basic_parents") 1023) (.ref 621), .mk (PyData.keyHash P (Str.ofString "ClassTable")) (.str (Str.ofString "ClassTable") 1152) (.ref 708), .mk (PyData.keyHash P (Str.ofString "check_slots")) (.str (Str.ofString "check_slots") 1164) (.ref 719), .mk (PyData.keyHash P (Str.ofString "MethodTable")) (.str (Str.ofString "MethodTable") 1272) (.ref 792), .mk (PyData.keyHash P (Str.ofString "S4State")) (.str (Str.ofString "S4State") 1304) (.ref 813), .mk (PyData.keyHash P (Str.ofString "s4_state")) (.str (Str.ofString "s4_state") 1311) (.ref 824), .mk (PyData.keyHash P (Str.ofString "_law_tap")) (.str (Str.ofString "_law_tap") 1321) (.ref 831), .mk (PyData.keyHash P (Str.ofString "_law_classes")) (.str (Str.ofString "_law_classes") 1336) (.ref 838), .mk (PyData.keyHash P (Str.ofString "_law_row")) (.str (Str.ofString "_law_row") 1349) (.ref 845), .mk (PyData.keyHash P (Str.ofString "_law_told_right")) (.str (Str.ofString "_law_told_right") 1355) (.ref 850), .mk (PyData.keyHash P (Str.ofString "law")) (.str (Str.ofString "law") 1361) (.ref 855)] 56) #[]) ::
  (nat_lit 27, .mk (.type "code") none (.fields #[.str (Str.ofString "get_attr") 196, .str (Str.ofString "get_attr") 197, .str (Str.ofString "/claim/cut.py") 198, .int 5 0, .int 2 0, .int 0 0, .int 0 0, .int 3 0, .ref 22, .bool true, .int 181 0, .ref 23, .none, .ref 24, .ref 25, .ref 26, .int 201 0, .int 5 0, .str (Str.ofString "/claim/cut.py") 202]) #[]) ::
  (nat_lit 28, .mk (.type "function") none (.func (.mk (Str.ofString "get_attr") (Str.ofString "get_attr") ((by exact fun f _ => f : (f : Arguments) → parAt [2] = f → Arguments) _ (by conv => lhs; whnf)) (.stmts ((by exact fun f _ => f : (f : List Stmt) → bodyAt [2] = f → List Stmt) _ (by conv => lhs; whnf))) ((by exact fun f _ => f : (f : Scope) → scAt [2] = f → Scope) _ (by conv => lhs; whnf)) 3 [] .none .none .none (.str (Str.ofString "vectorcove.attrs") 194) none (.ref 27) .none 0)) #[]) ::
  (nat_lit 34, .mk (.type "code") none (.fields #[.str (Str.ofString "dim_of") 204, .str (Str.ofString "dim_of") 205, .str (Str.ofString "/claim/cut.py") 206, .int 9 0, .int 1 0, .int 0 0, .int 0 0, .int 3 0, .ref 29, .bool true, .int 181 0, .ref 30, .none, .ref 31, .ref 32, .ref 33, .int 209 0, .int 9 0, .str (Str.ofString "/claim/cut.py") 210]) #[]) ::
  (nat_lit 35, .mk (.type "function") none (.func (.mk (Str.ofString "dim_of") (Str.ofString "dim_of") ((by exact fun f _ => f : (f : Arguments) → parAt [3] = f → Arguments) _ (by conv => lhs; whnf)) (.stmts ((by exact fun f _ => f : (f : List Stmt) → bodyAt [3] = f → List Stmt) _ (by conv => lhs; whnf))) ((by exact fun f _ => f : (f : Scope) → scAt [3] = f → Scope) _ (by conv => lhs; whnf)) 3 [] .none .none .none (.str (Str.ofString "vectorcove.attrs") 194) none (.ref 34) .none 0)) #[]) ::
  (nat_lit 41, .mk (.type "code") none (.fields #[.str (Str.ofString "class_attr") 212, .str (Str.ofString "class_attr") 213, .str (Str.ofString "/claim/cut.py") 214, .int 14 0, .int 1 0, .int 0 0, .int 0 0, .int 3 0, .ref 36, .bool true, .int 181 0, .ref 37, .none, .ref 38, .ref 39, .ref 40, .int 217 0, .int 14 0, .str (Str.ofString "/claim/cut.py") 218]) #[]) ::
  (nat_lit 42, .mk (.type "function") none (.func (.mk (Str.ofString "class_attr") (Str.ofString "class_attr") ((by exact fun f _ => f : (f : Arguments) → parAt [4] = f → Arguments) _ (by conv => lhs; whnf)) (.stmts ((by exact fun f _ => f : (f : List Stmt) → bodyAt [4] = f → List Stmt) _ (by conv => lhs; whnf))) ((by exact fun f _ => f : (f : Scope) → scAt [4] = f → Scope) _ (by conv => lhs; whnf)) 3 [] .none .none .none (.str (Str.ofString "vectorcove.attrs") 194) none (.ref 41) .none 0)) #[]) ::
  (nat_lit 48, .mk (.type "code") none (.fields #[.str (Str.ofString "language_class") 220, .str (Str.ofString "language_class") 221, .str (Str.ofString "/claim/cut.py") 222, .int 19 0, .int 1 0, .int 0 0, .int 0 0, .int 3 0, .ref 43, .bool true, .int 181 0, .ref 44, .none, .ref 45, .ref 46, .ref 47, .int 225 0, .int 19 0, .str (Str.ofString "/claim/cut.py") 226]) #[]) ::
  (nat_lit 49, .mk (.type "function") none (.func (.mk (Str.ofString "language_class") (Str.ofString "language_class") ((by exact fun f _ => f : (f : Arguments) → parAt [5] = f → Arguments) _ (by conv => lhs; whnf)) (.stmts ((by exact fun f _ => f : (f : List Stmt) → bodyAt [5] = f → List Stmt) _ (by conv => lhs; whnf))) ((by exact fun f _ => f : (f : Scope) → scAt [5] = f → Scope) _ (by conv => lhs; whnf)) 3 [] .none .none .none (.str (Str.ofString "vectorcove.attrs") 194) none (.ref 48) .none 0)) #[]) ::
  (nat_lit 55, .mk (.type "code") none (.fields #[.str (Str.ofString "shape_class") 228, .str (Str.ofString "shape_class") 229, .str (Str.ofString "/claim/cut.py") 230, .int 24 0, .int 1 0, .int 0 0, .int 0 0, .int 3 0, .ref 50, .bool true, .int 181 0, .ref 51, .none, .ref 52, .ref 53, .ref 54, .int 233 0, .int 24 0, .str (Str.ofString "/claim/cut.py") 234]) #[]) ::
  (nat_lit 56, .mk (.type "function") none (.func (.mk (Str.ofString "shape_class") (Str.ofString "shape_class") ((by exact fun f _ => f : (f : Arguments) → parAt [6] = f → Arguments) _ (by conv => lhs; whnf)) (.stmts ((by exact fun f _ => f : (f : List Stmt) → bodyAt [6] = f → List Stmt) _ (by conv => lhs; whnf))) ((by exact fun f _ => f : (f : Scope) → scAt [6] = f → Scope) _ (by conv => lhs; whnf)) 3 [] .none .none .none (.str (Str.ofString "vectorcove.attrs") 194) none (.ref 55) .none 0)) #[]) ::
  (nat_lit 62, .mk (.type "code") none (.fields #[.str (Str.ofString "plain_class") 236, .str (Str.ofString "plain_class") 237, .str (Str.ofString "/claim/cut.py") 238, .int 29 0, .int 1 0, .int 0 0, .int 0 0, .int 3 0, .ref 57, .bool true, .int 181 0, .ref 58, .none, .ref 59, .ref 60, .ref 61, .int 241 0, .int 29 0, .str (Str.ofString "/claim/cut.py") 242]) #[]) ::
  (nat_lit 63, .mk (.type "function") none (.func (.mk (Str.ofString "plain_class") (Str.ofString "plain_class") ((by exact fun f _ => f : (f : Arguments) → parAt [7] = f → Arguments) _ (by conv => lhs; whnf)) (.stmts ((by exact fun f _ => f : (f : List Stmt) → bodyAt [7] = f → List Stmt) _ (by conv => lhs; whnf))) ((by exact fun f _ => f : (f : Scope) → scAt [7] = f → Scope) _ (by conv => lhs; whnf)) 3 [] .none .none .none (.str (Str.ofString "vectorcove.attrs") 194) none (.ref 62) .none 0)) #[]) ::
  (nat_lit 69, .mk (.type "code") none (.fields #[.str (Str.ofString "class_of") 244, .str (Str.ofString "class_of") 245, .str (Str.ofString "/claim/cut.py") 246, .int 40 0, .int 1 0, .int 0 0, .int 0 0, .int 3 0, .ref 64, .bool true, .int 181 0, .ref 65, .none, .ref 66, .ref 67, .ref 68, .int 249 0, .int 40 0, .str (Str.ofString "/claim/cut.py") 250]) #[]) ::
  (nat_lit 70, .mk (.type "function") none (.func (.mk (Str.ofString "class_of") (Str.ofString "class_of") ((by exact fun f _ => f : (f : Arguments) → parAt [8] = f → Arguments) _ (by conv => lhs; whnf)) (.stmts ((by exact fun f _ => f : (f : List Stmt) → bodyAt [8] = f → List Stmt) _ (by conv => lhs; whnf))) ((by exact fun f _ => f : (f : Scope) → scAt [8] = f → Scope) _ (by conv => lhs; whnf)) 3 [] .none .none .none (.str (Str.ofString "vectorcove.attrs") 194) none (.ref 69) .none 0)) #[]) ::
  (nat_lit 71, .mk (.type "tuple") none (.seq #[.type "Exception"]) #[]) ::
  (nat_lit 78, .mk (.type "tuple") none (.seq #[]) #[]) ::
  (nat_lit 79, .mk (.type "dict") none (.dict #[.mk (PyData.keyHash P (Str.ofString "__module__")) (.str (Str.ofString "__module__") 261) (.str (Str.ofString "vectorcove.errors") 252), .mk (PyData.keyHash P (Str.ofString "__firstlineno__")) (.str (Str.ofString "__firstlineno__") 265) (.int 49 264), .mk (PyData.keyHash P (Str.ofString "__static_attributes__")) (.str (Str.ofString "__static_attributes__") 266) (.ref 78), .mk (PyData.keyHash P (Str.ofString "__weakref__")) (.str (Str.ofString "__weakref__") 268) (.ref 81), .mk (PyData.keyHash P (Str.ofString "__doc__")) (.str (Str.ofString "__doc__") 269) .none] 3) #[]) ::
  (nat_lit 80, .mk (.type "type") none (.cls (.mk (Str.ofString "CoveError") [.type "Exception"] [.ref 80, .type "Exception", .type "BaseException", .type "object"] 79 (Str.ofString "CoveError") true [] [.ref 100] false none false)) #[some (.ref 71), none, some (.str (Str.ofString "CoveError") 254), some (.str (Str.ofString "CoveError") 262), some (.builtin "Exception.__new__"), some (.bool true)]) ::
  (nat_lit 81, .mk (.type "getset_descriptor") none (.fields #[.str (Str.ofString "__weakref__") 267, .ref 80, .builtin "ExceptionGroup.__weakref__", .none]) #[]) ::
  (nat_lit 84, .mk (.type "tuple") none (.seq #[.ref 80]) #[]) ::
  (nat_lit 96, .mk (.type "code") none (.fields #[.str (Str.ofString "__init__") 286, .str (Str.ofString "Refusal.__init__") 287, .str (Str.ofString "/claim/cut.py") 288, .int 53 0, .int 2 0, .int 0 0, .int 0 0, .int 3 0, .ref 91, .bool true, .int 181 0, .ref 92, .none, .ref 93, .ref 94, .ref 95, .int 291 0, .int 53 0, .str (Str.ofString "/claim/cut.py") 292]) #[]) ::
  (nat_lit 97, .mk (.type "function") none (.func (.mk (Str.ofString "__init__") (Str.ofString "Refusal.__init__") ((by exact fun f _ => f : (f : Arguments) → parAt [11,0] = f → Arguments) _ (by conv => lhs; whnf)) (.stmts ((by exact fun f _ => f : (f : List Stmt) → bodyAt [11,0] = f → List Stmt) _ (by conv => lhs; whnf))) ((by exact fun f _ => f : (f : Scope) → scAt [11,0] = f → Scope) _ (by conv => lhs; whnf)) 3 [] .none .none .none (.str (Str.ofString "vectorcove.errors") 252) none (.ref 96) .none 0)) #[]) ::
  (nat_lit 98, .mk (.type "tuple") none (.seq #[.str (Str.ofString "message") 294]) #[]) ::
  (nat_lit 99, .mk (.type "dict") none (.dict #[.mk (PyData.keyHash P (Str.ofString "__module__")) (.str (Str.ofString "__module__") 281) (.str (Str.ofString "vectorcove.errors") 252), .mk (PyData.keyHash P (Str.ofString "__firstlineno__")) (.str (Str.ofString "__firstlineno__") 285) (.int 51 284), .mk (PyData.keyHash P (Str.ofString "__init__")) (.str (Str.ofString "__init__") 293) (.ref 97), .mk (PyData.keyHash P (Str.ofString "__static_attributes__")) (.str (Str.ofString "__static_attributes__") 295) (.ref 98), .mk (PyData.keyHash P (Str.ofString "__doc__")) (.str (Str.ofString "__doc__") 296) .none] 2) #[]) ::
  (nat_lit 100, .mk (.type "type") none (.cls (.mk (Str.ofString "Refusal") [.ref 80] [.ref 100, .ref 80, .type "Exception", .type "BaseException", .type "object"] 99 (Str.ofString "Refusal") true [] [] false none false)) #[some (.ref 84), none, some (.str (Str.ofString "Refusal") 274), some (.str (Str.ofString "Refusal") 282), some (.builtin "Exception.__new__"), some (.bool true)]) ::
  (nat_lit 110, .mk (.type "tuple") none (.seq #[.none]) #[]) ::
  (nat_lit 116, .mk (.type "code") none (.fields #[.str (Str.ofString "__init__") 313, .str (Str.ofString "Vector.__init__") 314, .str (Str.ofString "/claim/cut.py") 315, .int 58 0, .int 4 0, .int 0 0, .int 0 0, .int 3 0, .ref 111, .bool true, .int 181 0, .ref 112, .none, .ref 113, .ref 114, .ref 115, .int 320 0, .int 58 0, .str (Str.ofString "/claim/cut.py") 321]) #[]) ::
  (nat_lit 117, .mk (.type "function") none (.func (.mk (Str.ofString "__init__") (Str.ofString "Vector.__init__") ((by exact fun f _ => f : (f : Arguments) → parAt [13,0] = f → Arguments) _ (by conv => lhs; whnf)) (.stmts ((by exact fun f _ => f : (f : List Stmt) → bodyAt [13,0] = f → List Stmt) _ (by conv => lhs; whnf))) ((by exact fun f _ => f : (f : Scope) → scAt [13,0] = f → Scope) _ (by conv => lhs; whnf)) 3 [] (.ref 110) .none .none (.str (Str.ofString "vectorcove.values") 299) none (.ref 116) .none 0)) #[]) ::
  (nat_lit 125, .mk (.type "tuple") none (.seq #[.str (Str.ofString "attrs") 330, .str (Str.ofString "items") 331, .str (Str.ofString "kind") 332, .str (Str.ofString "loose") 333, .str (Str.ofString "shared") 334]) #[]) ::
  (nat_lit 126, .mk (.type "dict") none (.dict #[.mk (PyData.keyHash P (Str.ofString "__module__")) (.str (Str.ofString "__module__") 308) (.str (Str.ofString "vectorcove.values") 299), .mk (PyData.keyHash P (Str.ofString "__firstlineno__")) (.str (Str.ofString "__firstlineno__") 312) (.int 56 311), .mk (PyData.keyHash P (Str.ofString "__init__")) (.str (Str.ofString "__init__") 322) (.ref 117), .mk (PyData.keyHash P (Str.ofString "copy")) (.str (Str.ofString "copy") 329) (.ref 124), .mk (PyData.keyHash P (Str.ofString "__static_attributes__")) (.str (Str.ofString "__static_attributes__") 335) (.ref 125), .mk (PyData.keyHash P (Str.ofString "__dict__")) (.str (Str.ofString "__dict__") 337) (.ref 128), .mk (PyData.keyHash P (Str.ofString "__weakref__")) (.str (Str.ofString "__weakref__") 339) (.ref 129), .mk (PyData.keyHash P (Str.ofString "__doc__")) (.str (Str.ofString "__doc__") 340) .none] 4) #[]) ::
  (nat_lit 127, .mk (.type "type") none (.cls (.mk (Str.ofString "Vector") [.type "object"] [.ref 127, .type "object"] 126 (Str.ofString "Vector") true [] [] false none false)) #[none, none, some (.str (Str.ofString "Vector") 301), some (.str (Str.ofString "Vector") 309), some (.builtin "object.__new__"), some (.bool true)]) ::
  (nat_lit 128, .mk (.type "getset_descriptor") none (.fields #[.str (Str.ofString "__dict__") 336, .ref 127, .builtin "function.__dict__", .builtin "function.__dict__#set"]) #[]) ::
  (nat_lit 129, .mk (.type "getset_descriptor") none (.fields #[.str (Str.ofString "__weakref__") 338, .ref 127, .builtin "ExceptionGroup.__weakref__", .none]) #[]) ::
  (nat_lit 144, .mk (.type "code") none (.fields #[.str (Str.ofString "__init__") 355, .str (Str.ofString "Builtin.__init__") 356, .str (Str.ofString "/claim/cut.py") 357, .int 69 0, .int 5 0, .int 0 0, .int 0 0, .int 3 0, .ref 139, .bool true, .int 181 0, .ref 140, .none, .ref 141, .ref 142, .ref 143, .int 363 0, .int 69 0, .str (Str.ofString "/claim/cut.py") 364]) #[]) ::
  (nat_lit 145, .mk (.type "function") none (.func (.mk (Str.ofString "__init__") (Str.ofString "Builtin.__init__") ((by exact fun f _ => f : (f : Arguments) → parAt [14,0] = f → Arguments) _ (by conv => lhs; whnf)) (.stmts ((by exact fun f _ => f : (f : List Stmt) → bodyAt [14,0] = f → List Stmt) _ (by conv => lhs; whnf))) ((by exact fun f _ => f : (f : Scope) → scAt [14,0] = f → Scope) _ (by conv => lhs; whnf)) 3 [] .none .none .none (.str (Str.ofString "vectorcove.values") 299) none (.ref 144) .none 0)) #[]) ::
  (nat_lit 146, .mk (.type "tuple") none (.seq #[.str (Str.ofString "attrs") 366, .str (Str.ofString "fn") 367, .str (Str.ofString "group") 368, .str (Str.ofString "kind") 369, .str (Str.ofString "name") 370, .str (Str.ofString "special") 371]) #[]) ::
  (nat_lit 147, .mk (.type "dict") none (.dict #[.mk (PyData.keyHash P (Str.ofString "__module__")) (.str (Str.ofString "__module__") 350) (.str (Str.ofString "vectorcove.values") 299), .mk (PyData.keyHash P (Str.ofString "__firstlineno__")) (.str (Str.ofString "__firstlineno__") 354) (.int 67 353), .mk (PyData.keyHash P (Str.ofString "__init__")) (.str (Str.ofString "__init__") 365) (.ref 145), .mk (PyData.keyHash P (Str.ofString "__static_attributes__")) (.str (Str.ofString "__static_attributes__") 372) (.ref 146), .mk (PyData.keyHash P (Str.ofString "__dict__")) (.str (Str.ofString "__dict__") 374) (.ref 149), .mk (PyData.keyHash P (Str.ofString "__weakref__")) (.str (Str.ofString "__weakref__") 376) (.ref 150), .mk (PyData.keyHash P (Str.ofString "__doc__")) (.str (Str.ofString "__doc__") 377) .none] 4) #[]) ::
  (nat_lit 148, .mk (.type "type") none (.cls (.mk (Str.ofString "Builtin") [.type "object"] [.ref 148, .type "object"] 147 (Str.ofString "Builtin") true [] [] false none false)) #[none, none, some (.str (Str.ofString "Builtin") 343), some (.str (Str.ofString "Builtin") 351), some (.builtin "object.__new__"), some (.bool true)]) ::
  (nat_lit 149, .mk (.type "getset_descriptor") none (.fields #[.str (Str.ofString "__dict__") 373, .ref 148, .builtin "function.__dict__", .builtin "function.__dict__#set"]) #[]) ::
  (nat_lit 150, .mk (.type "getset_descriptor") none (.fields #[.str (Str.ofString "__weakref__") 375, .ref 148, .builtin "ExceptionGroup.__weakref__", .none]) #[]) ::
  (nat_lit 160, .mk (.type "tuple") none (.seq #[.none]) #[]) ::
  (nat_lit 166, .mk (.type "code") none (.fields #[.str (Str.ofString "__init__") 392, .str (Str.ofString "Environment.__init__") 393, .str (Str.ofString "/claim/cut.py") 394, .int 78 0, .int 4 0, .int 0 0, .int 0 0, .int 3 0, .ref 161, .bool true, .int 181 0, .ref 162, .none, .ref 163, .ref 164, .ref 165, .int 399 0, .int 78 0, .str (Str.ofString "/claim/cut.py") 400]) #[]) ::
  (nat_lit 167, .mk (.type "function") none (.func (.mk (Str.ofString "__init__") (Str.ofString "Environment.__init__") ((by exact fun f _ => f : (f : Arguments) → parAt [15,0] = f → Arguments) _ (by conv => lhs; whnf)) (.stmts ((by exact fun f _ => f : (f : List Stmt) → bodyAt [15,0] = f → List Stmt) _ (by conv => lhs; whnf))) ((by exact fun f _ => f : (f : Scope) → scAt [15,0] = f → Scope) _ (by conv => lhs; whnf)) 3 [] (.ref 160) .none .none (.str (Str.ofString "vectorcove.values") 299) none (.ref 166) .none 0)) #[]) ::
  (nat_lit 168, .mk (.type "tuple") none (.seq #[.str (Str.ofString "attrs") 402, .str (Str.ofString "frame") 403, .str (Str.ofString "kind") 404, .str (Str.ofString "locked") 405, .str (Str.ofString "locks") 406, .str (Str.ofString "number") 407, .str (Str.ofString "parent") 408]) #[]) ::
  (nat_lit 169, .mk (.type "dict") none (.dict #[.mk (PyData.keyHash P (Str.ofString "__module__")) (.str (Str.ofString "__module__") 387) (.str (Str.ofString "vectorcove.values") 299), .mk (PyData.keyHash P (Str.ofString "__firstlineno__")) (.str (Str.ofString "__firstlineno__") 391) (.int 76 390), .mk (PyData.keyHash P (Str.ofString "__init__")) (.str (Str.ofString "__init__") 401) (.ref 167), .mk (PyData.keyHash P (Str.ofString "__static_attributes__")) (.str (Str.ofString "__static_attributes__") 409) (.ref 168), .mk (PyData.keyHash P (Str.ofString "__dict__")) (.str (Str.ofString "__dict__") 411) (.ref 171), .mk (PyData.keyHash P (Str.ofString "__weakref__")) (.str (Str.ofString "__weakref__") 413) (.ref 172), .mk (PyData.keyHash P (Str.ofString "__doc__")) (.str (Str.ofString "__doc__") 414) .none] 4) #[]) ::
  (nat_lit 170, .mk (.type "type") none (.cls (.mk (Str.ofString "Environment") [.type "object"] [.ref 170, .type "object"] 169 (Str.ofString "Environment") true [] [] false none false)) #[none, none, some (.str (Str.ofString "Environment") 380), some (.str (Str.ofString "Environment") 388), some (.builtin "object.__new__"), some (.bool true)]) ::
  (nat_lit 171, .mk (.type "getset_descriptor") none (.fields #[.str (Str.ofString "__dict__") 410, .ref 170, .builtin "function.__dict__", .builtin "function.__dict__#set"]) #[]) ::
  (nat_lit 172, .mk (.type "getset_descriptor") none (.fields #[.str (Str.ofString "__weakref__") 412, .ref 170, .builtin "ExceptionGroup.__weakref__", .none]) #[]) ::
  (nat_lit 187, .mk (.type "code") none (.fields #[.str (Str.ofString "__init__") 429, .str (Str.ofString "S4Object.__init__") 430, .str (Str.ofString "/claim/cut.py") 431, .int 88 0, .int 2 0, .int 0 0, .int 0 0, .int 3 0, .ref 182, .bool true, .int 181 0, .ref 183, .none, .ref 184, .ref 185, .ref 186, .int 434 0, .int 88 0, .str (Str.ofString "/claim/cut.py") 435]) #[]) ::
  (nat_lit 188, .mk (.type "function") none (.func (.mk (Str.ofString "__init__") (Str.ofString "S4Object.__init__") ((by exact fun f _ => f : (f : Arguments) → parAt [16,0] = f → Arguments) _ (by conv => lhs; whnf)) (.stmts ((by exact fun f _ => f : (f : List Stmt) → bodyAt [16,0] = f → List Stmt) _ (by conv => lhs; whnf))) ((by exact fun f _ => f : (f : Scope) → scAt [16,0] = f → Scope) _ (by conv => lhs; whnf)) 3 [] .none .none .none (.str (Str.ofString "vectorcove.values") 299) none (.ref 187) .none 0)) #[]) ::
  (nat_lit 189, .mk (.type "tuple") none (.seq #[.str (Str.ofString "attrs") 437, .str (Str.ofString "kind") 438, .str (Str.ofString "name") 439, .str (Str.ofString "slots") 440]) #[]) ::
  (nat_lit 190, .mk (.type "dict") none (.dict #[.mk (PyData.keyHash P (Str.ofString "__module__")) (.str (Str.ofString "__module__") 424) (.str (Str.ofString "vectorcove.values") 299), .mk (PyData.keyHash P (Str.ofString "__firstlineno__")) (.str (Str.ofString "__firstlineno__") 428) (.int 86 427), .mk (PyData.keyHash P (Str.ofString "__init__")) (.str (Str.ofString "__init__") 436) (.ref 188), .mk (PyData.keyHash P (Str.ofString "__static_attributes__")) (.str (Str.ofString "__static_attributes__") 441) (.ref 189), .mk (PyData.keyHash P (Str.ofString "__dict__")) (.str (Str.ofString "__dict__") 443) (.ref 192), .mk (PyData.keyHash P (Str.ofString "__weakref__")) (.str (Str.ofString "__weakref__") 445) (.ref 193), .mk (PyData.keyHash P (Str.ofString "__doc__")) (.str (Str.ofString "__doc__") 446) .none] 4) #[]) ::
  (nat_lit 191, .mk (.type "type") none (.cls (.mk (Str.ofString "S4Object") [.type "object"] [.ref 191, .type "object"] 190 (Str.ofString "S4Object") true [] [] false none false)) #[none, none, some (.str (Str.ofString "S4Object") 417), some (.str (Str.ofString "S4Object") 425), some (.builtin "object.__new__"), some (.bool true)]) ::
  (nat_lit 192, .mk (.type "getset_descriptor") none (.fields #[.str (Str.ofString "__dict__") 442, .ref 191, .builtin "function.__dict__", .builtin "function.__dict__#set"]) #[]) ::
  (nat_lit 193, .mk (.type "getset_descriptor") none (.fields #[.str (Str.ofString "__weakref__") 444, .ref 191, .builtin "ExceptionGroup.__weakref__", .none]) #[]) ::
  (nat_lit 201, .mk (.type "code") none (.fields #[.str (Str.ofString "integer") 449, .str (Str.ofString "integer") 450, .str (Str.ofString "/claim/cut.py") 451, .int 93 0, .int 1 0, .int 0 0, .int 0 0, .int 3 0, .ref 196, .bool true, .int 181 0, .ref 197, .none, .ref 198, .ref 199, .ref 200, .int 453 0, .int 93 0, .str (Str.ofString "/claim/cut.py") 454]) #[]) ::
  (nat_lit 202, .mk (.type "function") none (.func (.mk (Str.ofString "integer") (Str.ofString "integer") ((by exact fun f _ => f : (f : Arguments) → parAt [17] = f → Arguments) _ (by conv => lhs; whnf)) (.stmts ((by exact fun f _ => f : (f : List Stmt) → bodyAt [17] = f → List Stmt) _ (by conv => lhs; whnf))) ((by exact fun f _ => f : (f : Scope) → scAt [17] = f → Scope) _ (by conv => lhs; whnf)) 3 [] .none .none .none (.str (Str.ofString "vectorcove.values") 299) none (.ref 201) .none 0)) #[]) ::
  (nat_lit 208, .mk (.type "code") none (.fields #[.str (Str.ofString "flag") 456, .str (Str.ofString "flag") 457, .str (Str.ofString "/claim/cut.py") 458, .int 95 0, .int 1 0, .int 0 0, .int 0 0, .int 3 0, .ref 203, .bool true, .int 181 0, .ref 204, .none, .ref 205, .ref 206, .ref 207, .int 460 0, .int 95 0, .str (Str.ofString "/claim/cut.py") 461]) #[]) ::
  (nat_lit 209, .mk (.type "function") none (.func (.mk (Str.ofString "flag") (Str.ofString "flag") ((by exact fun f _ => f : (f : Arguments) → parAt [18] = f → Arguments) _ (by conv => lhs; whnf)) (.stmts ((by exact fun f _ => f : (f : List Stmt) → bodyAt [18] = f → List Stmt) _ (by conv => lhs; whnf))) ((by exact fun f _ => f : (f : Scope) → scAt [18] = f → Scope) _ (by conv => lhs; whnf)) 3 [] .none .none .none (.str (Str.ofString "vectorcove.values") 299) none (.ref 208) .none 0)) #[]) ::
  (nat_lit 215, .mk (.type "code") none (.fields #[.str (Str.ofString "length") 463, .str (Str.ofString "length") 464, .str (Str.ofString "/claim/cut.py") 465, .int 99 0, .int 1 0, .int 0 0, .int 0 0, .int 3 0, .ref 210, .bool true, .int 181 0, .ref 211, .none, .ref 212, .ref 213, .ref 214, .int 468 0, .int 99 0, .str (Str.ofString "/claim/cut.py") 469]) #[]) ::
  (nat_lit 216, .mk (.type "function") none (.func (.mk (Str.ofString "length") (Str.ofString "length") ((by exact fun f _ => f : (f : Arguments) → parAt [19] = f → Arguments) _ (by conv => lhs; whnf)) (.stmts ((by exact fun f _ => f : (f : List Stmt) → bodyAt [19] = f → List Stmt) _ (by conv => lhs; whnf))) ((by exact fun f _ => f : (f : Scope) → scAt [19] = f → Scope) _ (by conv => lhs; whnf)) 3 [] .none .none .none (.str (Str.ofString "vectorcove.values") 299) none (.ref 215) .none 0)) #[]) ::
  (nat_lit 222, .mk (.type "code") none (.fields #[.str (Str.ofString "is_atomic") 471, .str (Str.ofString "is_atomic") 472, .str (Str.ofString "/claim/cut.py") 473, .int 110 0, .int 1 0, .int 0 0, .int 0 0, .int 3 0, .ref 217, .bool true, .int 181 0, .ref 218, .none, .ref 219, .ref 220, .ref 221, .int 475 0, .int 110 0, .str (Str.ofString "/claim/cut.py") 476]) #[]) ::
  (nat_lit 223, .mk (.type "function") none (.func (.mk (Str.ofString "is_atomic") (Str.ofString "is_atomic") ((by exact fun f _ => f : (f : Arguments) → parAt [20] = f → Arguments) _ (by conv => lhs; whnf)) (.stmts ((by exact fun f _ => f : (f : List Stmt) → bodyAt [20] = f → List Stmt) _ (by conv => lhs; whnf))) ((by exact fun f _ => f : (f : Scope) → scAt [20] = f → Scope) _ (by conv => lhs; whnf)) 3 [] .none .none .none (.str (Str.ofString "vectorcove.values") 299) none (.ref 222) .none 0)) #[]) ::
  (nat_lit 236, .mk (.type "code") none (.fields #[.str (Str.ofString "__init__") 492, .str (Str.ofString "Matching.__init__") 493, .str (Str.ofString "/claim/cut.py") 494, .int 115 0, .int 3 0, .int 0 0, .int 0 0, .int 3 0, .ref 231, .bool true, .int 181 0, .ref 232, .none, .ref 233, .ref 234, .ref 235, .int 498 0, .int 115 0, .str (Str.ofString "/claim/cut.py") 499]) #[]) ::
  (nat_lit 237, .mk (.type "function") none (.func (.mk (Str.ofString "__init__") (Str.ofString "Matching.__init__") ((by exact fun f _ => f : (f : Arguments) → parAt [22,0] = f → Arguments) _ (by conv => lhs; whnf)) (.stmts ((by exact fun f _ => f : (f : List Stmt) → bodyAt [22,0] = f → List Stmt) _ (by conv => lhs; whnf))) ((by exact fun f _ => f : (f : Scope) → scAt [22,0] = f → Scope) _ (by conv => lhs; whnf)) 3 [] .none .none .none (.str (Str.ofString "vectorcove.callargs") 478) none (.ref 236) .none 0)) #[]) ::
  (nat_lit 243, .mk (.type "code") none (.fields #[.str (Str.ofString "exact") 501, .str (Str.ofString "Matching.exact") 502, .str (Str.ofString "/claim/cut.py") 503, .int 121 0, .int 1 0, .int 0 0, .int 0 0, .int 3 0, .ref 238, .bool true, .int 181 0, .ref 239, .none, .ref 240, .ref 241, .ref 242, .int 507 0, .int 121 0, .str (Str.ofString "/claim/cut.py") 508]) #[]) ::
  (nat_lit 244, .mk (.type "function") none (.func (.mk (Str.ofString "exact") (Str.ofString "Matching.exact") ((by exact fun f _ => f : (f : Arguments) → parAt [22,1] = f → Arguments) _ (by conv => lhs; whnf)) (.stmts ((by exact fun f _ => f : (f : List Stmt) → bodyAt [22,1] = f → List Stmt) _ (by conv => lhs; whnf))) ((by exact fun f _ => f : (f : Scope) → scAt [22,1] = f → Scope) _ (by conv => lhs; whnf)) 3 [] .none .none .none (.str (Str.ofString "vectorcove.callargs") 478) none (.ref 243) .none 0)) #[]) ::
  (nat_lit 250, .mk (.type "code") none (.fields #[.str (Str.ofString "partial") 510, .str (Str.ofString "Matching.partial") 511, .str (Str.ofString "/claim/cut.py") 512, .int 131 0, .int 1 0, .int 0 0, .int 0 0, .int 3 0, .ref 245, .bool true, .int 181 0, .ref 246, .none, .ref 247, .ref 248, .ref 249, .int 515 0, .int 131 0, .str (Str.ofString "/claim/cut.py") 516]) #[]) ::
  (nat_lit 251, .mk (.type "function") none (.func (.mk (Str.ofString "partial") (Str.ofString "Matching.partial") ((by exact fun f _ => f : (f : Arguments) → parAt [22,2] = f → Arguments) _ (by conv => lhs; whnf)) (.stmts ((by exact fun f _ => f : (f : List Stmt) → bodyAt [22,2] = f → List Stmt) _ (by conv => lhs; whnf))) ((by exact fun f _ => f : (f : Scope) → scAt [22,2] = f → Scope) _ (by conv => lhs; whnf)) 3 [] .none .none .none (.str (Str.ofString "vectorcove.callargs") 478) none (.ref 250) .none 0)) #[]) ::
  (nat_lit 257, .mk (.type "code") none (.fields #[.str (Str.ofString "partial_of") 518, .str (Str.ofString "Matching.partial_of") 519, .str (Str.ofString "/claim/cut.py") 520, .int 138 0, .int 2 0, .int 0 0, .int 0 0, .int 3 0, .ref 252, .bool true, .int 181 0, .ref 253, .none, .ref 254, .ref 255, .ref 256, .int 525 0, .int 138 0, .str (Str.ofString "/claim/cut.py") 526]) #[]) ::
  (nat_lit 258, .mk (.type "function") none (.func (.mk (Str.ofString "partial_of") (Str.ofString "Matching.partial_of") ((by exact fun f _ => f : (f : Arguments) → parAt [22,3] = f → Arguments) _ (by conv => lhs; whnf)) (.stmts ((by exact fun f _ => f : (f : List Stmt) → bodyAt [22,3] = f → List Stmt) _ (by conv => lhs; whnf))) ((by exact fun f _ => f : (f : Scope) → scAt [22,3] = f → Scope) _ (by conv => lhs; whnf)) 3 [] .none .none .none (.str (Str.ofString "vectorcove.callargs") 478) none (.ref 257) .none 0)) #[]) ::
  (nat_lit 264, .mk (.type "code") none (.fields #[.str (Str.ofString "positional") 528, .str (Str.ofString "Matching.positional") 529, .str (Str.ofString "/claim/cut.py") 530, .int 149 0, .int 1 0, .int 0 0, .int 0 0, .int 3 0, .ref 259, .bool true, .int 181 0, .ref 260, .none, .ref 261, .ref 262, .ref 263, .int 534 0, .int 149 0, .str (Str.ofString "/claim/cut.py") 535]) #[]) ::
  (nat_lit 265, .mk (.type "function") none (.func (.mk (Str.ofString "positional") (Str.ofString "Matching.positional") ((by exact fun f _ => f : (f : Arguments) → parAt [22,4] = f → Arguments) _ (by conv => lhs; whnf)) (.stmts ((by exact fun f _ => f : (f : List Stmt) → bodyAt [22,4] = f → List Stmt) _ (by conv => lhs; whnf))) ((by exact fun f _ => f : (f : Scope) → scAt [22,4] = f → Scope) _ (by conv => lhs; whnf)) 3 [] .none .none .none (.str (Str.ofString "vectorcove.callargs") 478) none (.ref 264) .none 0)) #[]) ::
  (nat_lit 271, .mk (.type "code") none (.fields #[.str (Str.ofString "is_free") 537, .str (Str.ofString "Matching.is_free") 538, .str (Str.ofString "/claim/cut.py") 539, .int 161 0, .int 2 0, .int 0 0, .int 0 0, .int 3 0, .ref 266, .bool true, .int 181 0, .ref 267, .none, .ref 268, .ref 269, .ref 270, .int 542 0, .int 161 0, .str (Str.ofString "/claim/cut.py") 543]) #[]) ::
  (nat_lit 272, .mk (.type "function") none (.func (.mk (Str.ofString "is_free") (Str.ofString "Matching.is_free") ((by exact fun f _ => f : (f : Arguments) → parAt [22,5] = f → Arguments) _ (by conv => lhs; whnf)) (.stmts ((by exact fun f _ => f : (f : List Stmt) → bodyAt [22,5] = f → List Stmt) _ (by conv => lhs; whnf))) ((by exact fun f _ => f : (f : Scope) → scAt [22,5] = f → Scope) _ (by conv => lhs; whnf)) 3 [] .none .none .none (.str (Str.ofString "vectorcove.callargs") 478) none (.ref 271) .none 0)) #[]) ::
  (nat_lit 276, .mk (.type "code") none (.fields #[.str (Str.ofString "rest") 545, .str (Str.ofString "Matching.rest") 546, .str (Str.ofString "/claim/cut.py") 547, .int 164 0, .int 1 0, .int 0 0, .int 0 0, .int 3 0, .ref 273, .bool true, .int 181 0, .ref 274, .none, .none, .none, .ref 275, .int 548 0, .int 164 0, .str (Str.ofString "/claim/cut.py") 549]) #[]) ::
  (nat_lit 277, .mk (.type "function") none (.func (.mk (Str.ofString "rest") (Str.ofString "Matching.rest") ((by exact fun f _ => f : (f : Arguments) → parAt [22,6] = f → Arguments) _ (by conv => lhs; whnf)) (.stmts ((by exact fun f _ => f : (f : List Stmt) → bodyAt [22,6] = f → List Stmt) _ (by conv => lhs; whnf))) ((by exact fun f _ => f : (f : Scope) → scAt [22,6] = f → Scope) _ (by conv => lhs; whnf)) 3 [] .none .none .none (.str (Str.ofString "vectorcove.callargs") 478) none (.ref 276) .none 0)) #[]) ::
  (nat_lit 278, .mk (.type "tuple") none (.seq #[.str (Str.ofString "formals") 551, .str (Str.ofString "places") 552, .str (Str.ofString "tags") 553, .str (Str.ofString "used") 554]) #[]) ::
  (nat_lit 279, .mk (.type "dict") none (.dict #[.mk (PyData.keyHash P (Str.ofString "__module__")) (.str (Str.ofString "__module__") 487) (.str (Str.ofString "vectorcove.callargs") 478), .mk (PyData.keyHash P (Str.ofString "__firstlineno__")) (.str (Str.ofString "__firstlineno__") 491) (.int 113 490), .mk (PyData.keyHash P (Str.ofString "__init__")) (.str (Str.ofString "__init__") 500) (.ref 237), .mk (PyData.keyHash P (Str.ofString "exact")) (.str (Str.ofString "exact") 509) (.ref 244), .mk (PyData.keyHash P (Str.ofString "partial")) (.str (Str.ofString "partial") 517) (.ref 251), .mk (PyData.keyHash P (Str.ofString "partial_of")) (.str (Str.ofString "partial_of") 527) (.ref 258), .mk (PyData.keyHash P (Str.ofString "positional")) (.str (Str.ofString "positional") 536) (.ref 265), .mk (PyData.keyHash P (Str.ofString "is_free")) (.str (Str.ofString "is_free") 544) (.ref 272), .mk (PyData.keyHash P (Str.ofString "rest")) (.str (Str.ofString "rest") 550) (.ref 277), .mk (PyData.keyHash P (Str.ofString "__static_attributes__")) (.str (Str.ofString "__static_attributes__") 555) (.ref 278), .mk (PyData.keyHash P (Str.ofString "__dict__")) (.str (Str.ofString "__dict__") 557) (.ref 281), .mk (PyData.keyHash P (Str.ofString "__weakref__")) (.str (Str.ofString "__weakref__") 559) (.ref 282), .mk (PyData.keyHash P (Str.ofString "__doc__")) (.str (Str.ofString "__doc__") 560) .none] 4) #[]) ::
  (nat_lit 280, .mk (.type "type") none (.cls (.mk (Str.ofString "Matching") [.type "object"] [.ref 280, .type "object"] 279 (Str.ofString "Matching") true [] [] false none false)) #[none, none, some (.str (Str.ofString "Matching") 480), some (.str (Str.ofString "Matching") 488), some (.builtin "object.__new__"), some (.bool true)]) ::
  (nat_lit 281, .mk (.type "getset_descriptor") none (.fields #[.str (Str.ofString "__dict__") 556, .ref 280, .builtin "function.__dict__", .builtin "function.__dict__#set"]) #[]) ::
  (nat_lit 282, .mk (.type "getset_descriptor") none (.fields #[.str (Str.ofString "__weakref__") 558, .ref 280, .builtin "ExceptionGroup.__weakref__", .none]) #[]) ::
  (nat_lit 311, .mk (.type "tuple") none (.seq #[.none]) #[]) ::
  (nat_lit 315, .mk (.type "code") none (.fields #[.str (Str.ofString "match_names") 596, .str (Str.ofString "match_names") 597, .str (Str.ofString "/claim/cut.py") 598, .int 195 0, .int 3 0, .int 0 0, .int 0 0, .int 3 0, .ref 312, .bool true, .int 181 0, .ref 313, .none, .none, .none, .ref 314, .int 599 0, .int 195 0, .str (Str.ofString "/claim/cut.py") 600]) #[]) ::
  (nat_lit 316, .mk (.type "function") none (.func (.mk (Str.ofString "match_names") (Str.ofString "match_names") ((by exact fun f _ => f : (f : Arguments) → parAt [27] = f → Arguments) _ (by conv => lhs; whnf)) (.stmts ((by exact fun f _ => f : (f : List Stmt) → bodyAt [27] = f → List Stmt) _ (by conv => lhs; whnf))) ((by exact fun f _ => f : (f : Scope) → scAt [27] = f → Scope) _ (by conv => lhs; whnf)) 3 [] (.ref 311) .none .none (.str (Str.ofString "vectorcove.callargs") 478) none (.ref 315) .none 0)) #[]) ::
  (nat_lit 322, .mk (.type "code") none (.fields #[.str (Str.ofString "needed") 602, .str (Str.ofString "needed") 603, .str (Str.ofString "/claim/cut.py") 604, .int 204 0, .int 2 0, .int 0 0, .int 0 0, .int 3 0, .ref 317, .bool true, .int 181 0, .ref 318, .none, .ref 319, .ref 320, .ref 321, .int 607 0, .int 204 0, .str (Str.ofString "/claim/cut.py") 608]) #[]) ::
  (nat_lit 323, .mk (.type "function") none (.func (.mk (Str.ofString "needed") (Str.ofString "needed") ((by exact fun f _ => f : (f : Arguments) → parAt [28] = f → Arguments) _ (by conv => lhs; whnf)) (.stmts ((by exact fun f _ => f : (f : List Stmt) → bodyAt [28] = f → List Stmt) _ (by conv => lhs; whnf))) ((by exact fun f _ => f : (f : Scope) → scAt [28] = f → Scope) _ (by conv => lhs; whnf)) 3 [] .none .none .none (.str (Str.ofString "vectorcove.callargs") 478) none (.ref 322) .none 0)) #[]) ::
  (nat_lit 324, .mk (.type "tuple") none (.seq #[.none]) #[]) ::
  (nat_lit 328, .mk (.type "code") none (.fields #[.str (Str.ofString "take") 610, .str (Str.ofString "take") 611, .str (Str.ofString "/claim/cut.py") 612, .int 208 0, .int 3 0, .int 0 0, .int 0 0, .int 3 0, .ref 325, .bool true, .int 181 0, .ref 326, .none, .none, .none, .ref 327, .int 613 0, .int 208 0, .str (Str.ofString "/claim/cut.py") 614]) #[]) ::
  (nat_lit 329, .mk (.type "function") none (.func (.mk (Str.ofString "take") (Str.ofString "take") ((by exact fun f _ => f : (f : Arguments) → parAt [29] = f → Arguments) _ (by conv => lhs; whnf)) (.stmts ((by exact fun f _ => f : (f : List Stmt) → bodyAt [29] = f → List Stmt) _ (by conv => lhs; whnf))) ((by exact fun f _ => f : (f : Scope) → scAt [29] = f → Scope) _ (by conv => lhs; whnf)) 3 [] (.ref 324) .none .none (.str (Str.ofString "vectorcove.callargs") 478) none (.ref 328) .none 0)) #[]) ::
  (nat_lit 335, .mk (.type "code") none (.fields #[.str (Str.ofString "is_na") 618, .str (Str.ofString "is_na") 619, .str (Str.ofString "/claim/cut.py") 620, .int 220 0, .int 1 0, .int 0 0, .int 0 0, .int 3 0, .ref 330, .bool true, .int 181 0, .ref 331, .none, .ref 332, .ref 333, .ref 334, .int 622 0, .int 220 0, .str (Str.ofString "/claim/cut.py") 623]) #[]) ::
  (nat_lit 336, .mk (.type "function") none (.func (.mk (Str.ofString "is_na") (Str.ofString "is_na") ((by exact fun f _ => f : (f : Arguments) → parAt [31] = f → Arguments) _ (by conv => lhs; whnf)) (.stmts ((by exact fun f _ => f : (f : List Stmt) → bodyAt [31] = f → List Stmt) _ (by conv => lhs; whnf))) ((by exact fun f _ => f : (f : Scope) → scAt [31] = f → Scope) _ (by conv => lhs; whnf)) 3 [] .none .none .none (.str (Str.ofString "vectorcove.rational") 616) none (.ref 335) .none 0)) #[]) ::
  (nat_lit 349, .mk (.type "code") none (.fields #[.str (Str.ofString "to_logical") 634, .str (Str.ofString "to_logical") 635, .str (Str.ofString "/claim/cut.py") 636, .int 229 0, .int 2 0, .int 0 0, .int 0 0, .int 3 0, .ref 344, .bool true, .int 181 0, .ref 345, .none, .ref 346, .ref 347, .ref 348, .int 639 0, .int 229 0, .str (Str.ofString "/claim/cut.py") 640]) #[]) ::
  (nat_lit 350, .mk (.type "function") none (.func (.mk (Str.ofString "to_logical") (Str.ofString "to_logical") ((by exact fun f _ => f : (f : Arguments) → parAt [34] = f → Arguments) _ (by conv => lhs; whnf)) (.stmts ((by exact fun f _ => f : (f : List Stmt) → bodyAt [34] = f → List Stmt) _ (by conv => lhs; whnf))) ((by exact fun f _ => f : (f : Scope) → scAt [34] = f → Scope) _ (by conv => lhs; whnf)) 3 [] .none .none .none (.str (Str.ofString "vectorcove.coerce") 625) none (.ref 349) .none 0)) #[]) ::
  (nat_lit 356, .mk (.type "code") none (.fields #[.str (Str.ofString "condition") 642, .str (Str.ofString "condition") 643, .str (Str.ofString "/claim/cut.py") 644, .int 239 0, .int 1 0, .int 0 0, .int 0 0, .int 3 0, .ref 351, .bool true, .int 181 0, .ref 352, .none, .ref 353, .ref 354, .ref 355, .int 648 0, .int 239 0, .str (Str.ofString "/claim/cut.py") 649]) #[]) ::
  (nat_lit 357, .mk (.type "function") none (.func (.mk (Str.ofString "condition") (Str.ofString "condition") ((by exact fun f _ => f : (f : Arguments) → parAt [35] = f → Arguments) _ (by conv => lhs; whnf)) (.stmts ((by exact fun f _ => f : (f : List Stmt) → bodyAt [35] = f → List Stmt) _ (by conv => lhs; whnf))) ((by exact fun f _ => f : (f : Scope) → scAt [35] = f → Scope) _ (by conv => lhs; whnf)) 3 [] .none .none .none (.str (Str.ofString "vectorcove.coerce") 625) none (.ref 356) .none 0)) #[]) ::
  (nat_lit 363, .mk (.type "code") none (.fields #[.str (Str.ofString "all_classes") 653, .str (Str.ofString "all_classes") 654, .str (Str.ofString "/claim/cut.py") 655, .int 254 0, .int 2 0, .int 0 0, .int 0 0, .int 3 0, .ref 358, .bool true, .int 181 0, .ref 359, .none, .ref 360, .ref 361, .ref 362, .int 661 0, .int 254 0, .str (Str.ofString "/claim/cut.py") 662]) #[]) ::
  (nat_lit 364, .mk (.type "function") none (.func (.mk (Str.ofString "all_classes") (Str.ofString "all_classes") ((by exact fun f _ => f : (f : Arguments) → parAt [37] = f → Arguments) _ (by conv => lhs; whnf)) (.stmts ((by exact fun f _ => f : (f : List Stmt) → bodyAt [37] = f → List Stmt) _ (by conv => lhs; whnf))) ((by exact fun f _ => f : (f : Scope) → scAt [37] = f → Scope) _ (by conv => lhs; whnf)) 3 [] .none .none .none (.str (Str.ofString "vectorcove.attrcalls") 651) none (.ref 363) .none 0)) #[]) ::
  (nat_lit 368, .mk (.type "code") none (.fields #[.str (Str.ofString "b_inherits") 664, .str (Str.ofString "b_inherits") 665, .str (Str.ofString "/claim/cut.py") 666, .int 261 0, .int 3 0, .int 0 0, .int 0 0, .int 3 0, .ref 365, .bool true, .int 181 0, .ref 366, .none, .none, .none, .ref 367, .int 667 0, .int 261 0, .str (Str.ofString "/claim/cut.py") 668]) #[]) ::
  (nat_lit 369, .mk (.type "function") none (.func (.mk (Str.ofString "b_inherits") (Str.ofString "b_inherits") ((by exact fun f _ => f : (f : Arguments) → parAt [38] = f → Arguments) _ (by conv => lhs; whnf)) (.stmts ((by exact fun f _ => f : (f : List Stmt) → bodyAt [38] = f → List Stmt) _ (by conv => lhs; whnf))) ((by exact fun f _ => f : (f : Scope) → scAt [38] = f → Scope) _ (by conv => lhs; whnf)) 3 [] .none .none .none (.str (Str.ofString "vectorcove.attrcalls") 651) none (.ref 368) .none 0)) #[]) ::
  (nat_lit 377, .mk (.type "tuple") none (.seq #[.int 20000 684, .int 40 685]) #[]) ::
  (nat_lit 383, .mk (.type "code") none (.fields #[.str (Str.ofString "__init__") 686, .str (Str.ofString "Evaluator.__init__") 687, .str (Str.ofString "/claim/cut.py") 688, .int 276 0, .int 3 0, .int 0 0, .int 0 0, .int 3 0, .ref 378, .bool true, .int 181 0, .ref 379, .none, .ref 380, .ref 381, .ref 382, .int 692 0, .int 276 0, .str (Str.ofString "/claim/cut.py") 693]) #[]) ::
  (nat_lit 384, .mk (.type "function") none (.func (.mk (Str.ofString "__init__") (Str.ofString "Evaluator.__init__") ((by exact fun f _ => f : (f : Arguments) → parAt [40,0] = f → Arguments) _ (by conv => lhs; whnf)) (.stmts ((by exact fun f _ => f : (f : List Stmt) → bodyAt [40,0] = f → List Stmt) _ (by conv => lhs; whnf))) ((by exact fun f _ => f : (f : Scope) → scAt [40,0] = f → Scope) _ (by conv => lhs; whnf)) 3 [] (.ref 377) .none .none (.str (Str.ofString "vectorcove.evaluator") 670) none (.ref 383) .none 0)) #[]) ::
  (nat_lit 390, .mk (.type "code") none (.fields #[.str (Str.ofString "new_env") 695, .str (Str.ofString "Evaluator.new_env") 696, .str (Str.ofString "/claim/cut.py") 697, .int 297 0, .int 2 0, .int 0 0, .int 0 0, .int 3 0, .ref 385, .bool true, .int 181 0, .ref 386, .none, .ref 387, .ref 388, .ref 389, .int 701 0, .int 297 0, .str (Str.ofString "/claim/cut.py") 702]) #[]) ::
  (nat_lit 391, .mk (.type "function") none (.func (.mk (Str.ofString "new_env") (Str.ofString "Evaluator.new_env") ((by exact fun f _ => f : (f : Arguments) → parAt [40,1] = f → Arguments) _ (by conv => lhs; whnf)) (.stmts ((by exact fun f _ => f : (f : List Stmt) → bodyAt [40,1] = f → List Stmt) _ (by conv => lhs; whnf))) ((by exact fun f _ => f : (f : Scope) → scAt [40,1] = f → Scope) _ (by conv => lhs; whnf)) 3 [] .none .none .none (.str (Str.ofString "vectorcove.evaluator") 670) none (.ref 390) .none 0)) #[]) ::
  (nat_lit 573, .mk (.type "tuple") none (.seq #[.str (Str.ofString "base") 937, .str (Str.ofString "current") 938, .str (Str.ofString "deparser") 939, .str (Str.ofString "dispatcher") 940, .str (Str.ofString "frames") 941, .str (Str.ofString "globals") 942, .str (Str.ofString "handlers") 943, .str (Str.ofString "limit") 944, .str (Str.ofString "most_frames") 945, .str (Str.ofString "next_number") 946, .str (Str.ofString "out") 947, .str (Str.ofString "restarts") 948, .str (Str.ofString "s4") 949, .str (Str.ofString "signaller") 950, .str (Str.ofString "steps") 951, .str (Str.ofString "targets") 952, .str (Str.ofString "visible") 953, .str (Str.ofString "warner") 954, .str (Str.ofString "warnings") 955]) #[]) ::
  (nat_lit 574, .mk (.type "dict") none (.dict #[.mk (PyData.keyHash P (Str.ofString "__module__")) (.str (Str.ofString "__module__") 679) (.str (Str.ofString "vectorcove.evaluator") 670), .mk (PyData.keyHash P (Str.ofString "__firstlineno__")) (.str (Str.ofString "__firstlineno__") 683) (.int 274 682), .mk (PyData.keyHash P (Str.ofString "__init__")) (.str (Str.ofString "__init__") 694) (.ref 384), .mk (PyData.keyHash P (Str.ofString "new_env")) (.str (Str.ofString "new_env") 703) (.ref 391), .mk (PyData.keyHash P (Str.ofString "define")) (.str (Str.ofString "define") 715) (.ref 399), .mk (PyData.keyHash P (Str.ofString "tick")) (.str (Str.ofString "tick") 722) (.ref 406), .mk (PyData.keyHash P (Str.ofString "signal_error")) (.str (Str.ofString "signal_error") 731) (.ref 413), .mk (PyData.keyHash P (Str.ofString "warn_all")) (.str (Str.ofString "warn_all") 740) (.ref 421), .mk (PyData.keyHash P (Str.ofString "running_call")) (.str (Str.ofString "running_call") 747) (.ref 428), .mk (PyData.keyHash P (Str.ofString "eval")) (.str (Str.ofString "eval") 756) (.ref 435), .mk (PyData.keyHash P (Str.ofString "variable")) (.str (Str.ofString "variable") 765) (.ref 442), .mk (PyData.keyHash P (Str.ofString "dots_value")) (.str (Str.ofString "dots_value") 774) (.ref 449), .mk (PyData.keyHash P (Str.ofString "force")) (.str (Str.ofString "force") 782) (.ref 456), .mk (PyData.keyHash P (Str.ofString "find_function")) (.str (Str.ofString "find_function") 792) (.ref 464), .mk (PyData.keyHash P (Str.ofString "function_of")) (.str (Str.ofString "function_of") 801) (.ref 471), .mk (PyData.keyHash P (Str.ofString "eval_call")) (.str (Str.ofString "eval_call") 810) (.ref 478), .mk (PyData.keyHash P (Str.ofString "plain_call")) (.str (Str.ofString "plain_call") 819) (.ref 485), .mk (PyData.keyHash P (Str.ofString "spread_dots")) (.str (Str.ofString "spread_dots") 827) (.ref 492), .mk (PyData.keyHash P (Str.ofString "promise_args")) (.str (Str.ofString "promise_args") 837) (.ref 499), .mk (PyData.keyHash P (Str.ofString "eager_args")) (.str (Str.ofString "eager_args") 849) (.ref 507), .mk (PyData.keyHash P (Str.ofString "empty_arg")) (.str (Str.ofString "empty_arg") 860) (.ref 514), .mk (PyData.keyHash P (Str.ofString "call_special")) (.str (Str.ofString "call_special") 870) (.ref 521), .mk (PyData.keyHash P (Str.ofString "call_builtin")) (.str (Str.ofString "call_builtin") 881) (.ref 528), .mk (PyData.keyHash P (Str.ofString "apply_closure")) (.str (Str.ofString "apply_closure") 893) (.ref 536), .mk (PyData.keyHash P (Str.ofString "leave")) (.str (Str.ofString "leave") 902) (.ref 543), .mk (PyData.keyHash P (Str.ofString "run_exits")) (.str (Str.ofString "run_exits") 910) (.ref 550), .mk (PyData.keyHash P (Str.ofString "shower")) (.str (Str.ofString "shower") 917) (.ref 557), .mk (PyData.keyHash P (Str.ofString "call_value")) (.str (Str.ofString "call_value") 928) (.ref 565), .mk (PyData.keyHash P (Str.ofString "run")) (.str (Str.ofString "run") 936) (.ref 572), .mk (PyData.keyHash P (Str.ofString "__static_attributes__")) (.str (Str.ofString "__static_attributes__") 956) (.ref 573), .mk (PyData.keyHash P (Str.ofString "__dict__")) (.str (Str.ofString "__dict__") 958) (.ref 576), .mk (PyData.keyHash P (Str.ofString "__weakref__")) (.str (Str.ofString "__weakref__") 960) (.ref 577), .mk (PyData.keyHash P (Str.ofString "__doc__")) (.str (Str.ofString "__doc__") 961) .none] 4) #[]) ::
  (nat_lit 575, .mk (.type "type") none (.cls (.mk (Str.ofString "Evaluator") [.type "object"] [.ref 575, .type "object"] 574 (Str.ofString "Evaluator") true [] [] false none false)) #[none, none, some (.str (Str.ofString "Evaluator") 672), some (.str (Str.ofString "Evaluator") 680), some (.builtin "object.__new__"), some (.bool true)]) ::
  (nat_lit 576, .mk (.type "getset_descriptor") none (.fields #[.str (Str.ofString "__dict__") 957, .ref 575, .builtin "function.__dict__", .builtin "function.__dict__#set"]) #[]) ::
  (nat_lit 577, .mk (.type "getset_descriptor") none (.fields #[.str (Str.ofString "__weakref__") 959, .ref 575, .builtin "ExceptionGroup.__weakref__", .none]) #[]) ::
  (nat_lit 592, .mk (.type "code") none (.fields #[.str (Str.ofString "__init__") 978, .str (Str.ofString "S4Class.__init__") 979, .str (Str.ofString "/claim/cut.py") 980, .int 379 0, .int 7 0, .int 0 0, .int 0 0, .int 3 0, .ref 587, .bool true, .int 181 0, .ref 588, .none, .ref 589, .ref 590, .ref 591, .int 988 0, .int 379 0, .str (Str.ofString "/claim/cut.py") 989]) #[]) ::
  (nat_lit 593, .mk (.type "function") none (.func (.mk (Str.ofString "__init__") (Str.ofString "S4Class.__init__") ((by exact fun f _ => f : (f : Arguments) → parAt [42,0] = f → Arguments) _ (by conv => lhs; whnf)) (.stmts ((by exact fun f _ => f : (f : List Stmt) → bodyAt [42,0] = f → List Stmt) _ (by conv => lhs; whnf))) ((by exact fun f _ => f : (f : Scope) → scAt [42,0] = f → Scope) _ (by conv => lhs; whnf)) 3 [] .none .none .none (.str (Str.ofString "vectorcove.s4classes") 964) none (.ref 592) .none 0)) #[]) ::
  (nat_lit 594, .mk (.type "tuple") none (.seq #[.str (Str.ofString "contains") 991, .str (Str.ofString "name") 992, .str (Str.ofString "prototype") 993, .str (Str.ofString "slots") 994, .str (Str.ofString "validity") 995, .str (Str.ofString "virtual") 996]) #[]) ::
  (nat_lit 595, .mk (.type "dict") none (.dict #[.mk (PyData.keyHash P (Str.ofString "__module__")) (.str (Str.ofString "__module__") 973) (.str (Str.ofString "vectorcove.s4classes") 964), .mk (PyData.keyHash P (Str.ofString "__firstlineno__")) (.str (Str.ofString "__firstlineno__") 977) (.int 377 976), .mk (PyData.keyHash P (Str.ofString "__init__")) (.str (Str.ofString "__init__") 990) (.ref 593), .mk (PyData.keyHash P (Str.ofString "__static_attributes__")) (.str (Str.ofString "__static_attributes__") 997) (.ref 594), .mk (PyData.keyHash P (Str.ofString "__dict__")) (.str (Str.ofString "__dict__") 999) (.ref 597), .mk (PyData.keyHash P (Str.ofString "__weakref__")) (.str (Str.ofString "__weakref__") 1001) (.ref 598), .mk (PyData.keyHash P (Str.ofString "__doc__")) (.str (Str.ofString "__doc__") 1002) .none] 4) #[]) ::
  (nat_lit 596, .mk (.type "type") none (.cls (.mk (Str.ofString "S4Class") [.type "object"] [.ref 596, .type "object"] 595 (Str.ofString "S4Class") true [] [] false none false)) #[none, none, some (.str (Str.ofString "S4Class") 966), some (.str (Str.ofString "S4Class") 974), some (.builtin "object.__new__"), some (.bool true)]) ::
  (nat_lit 597, .mk (.type "getset_descriptor") none (.fields #[.str (Str.ofString "__dict__") 998, .ref 596, .builtin "function.__dict__", .builtin "function.__dict__#set"]) #[]) ::
  (nat_lit 598, .mk (.type "getset_descriptor") none (.fields #[.str (Str.ofString "__weakref__") 1000, .ref 596, .builtin "ExceptionGroup.__weakref__", .none]) #[]) ::
  (nat_lit 606, .mk (.type "code") none (.fields #[.str (Str.ofString "data_kinds") 1005, .str (Str.ofString "data_kinds") 1006, .str (Str.ofString "/claim/cut.py") 1007, .int 386 0, .int 0 0, .int 0 0, .int 0 0, .int 3 0, .ref 601, .bool true, .int 181 0, .ref 602, .none, .ref 603, .ref 604, .ref 605, .int 1008 0, .int 386 0, .str (Str.ofString "/claim/cut.py") 1009]) #[]) ::
  (nat_lit 607, .mk (.type "function") none (.func (.mk (Str.ofString "data_kinds") (Str.ofString "data_kinds") ((by exact fun f _ => f : (f : Arguments) → parAt [43] = f → Arguments) _ (by conv => lhs; whnf)) (.stmts ((by exact fun f _ => f : (f : List Stmt) → bodyAt [43] = f → List Stmt) _ (by conv => lhs; whnf))) ((by exact fun f _ => f : (f : Scope) → scAt [43] = f → Scope) _ (by conv => lhs; whnf)) 3 [] .none .none .none (.str (Str.ofString "vectorcove.s4classes") 964) none (.ref 606) .none 0)) #[]) ::
  (nat_lit 613, .mk (.type "code") none (.fields #[.str (Str.ofString "basic_names") 1011, .str (Str.ofString "basic_names") 1012, .str (Str.ofString "/claim/cut.py") 1013, .int 388 0, .int 0 0, .int 0 0, .int 0 0, .int 3 0, .ref 608, .bool true, .int 181 0, .ref 609, .none, .ref 610, .ref 611, .ref 612, .int 1014 0, .int 388 0, .str (Str.ofString "/claim/cut.py") 1015]) #[]) ::
  (nat_lit 614, .mk (.type "function") none (.func (.mk (Str.ofString "basic_names") (Str.ofString "basic_names") ((by exact fun f _ => f : (f : Arguments) → parAt [44] = f → Arguments) _ (by conv => lhs; whnf)) (.stmts ((by exact fun f _ => f : (f : List Stmt) → bodyAt [44] = f → List Stmt) _ (by conv => lhs; whnf))) ((by exact fun f _ => f : (f : Scope) → scAt [44] = f → Scope) _ (by conv => lhs; whnf)) 3 [] .none .none .none (.str (Str.ofString "vectorcove.s4classes") 964) none (.ref 613) .none 0)) #[]) ::
  (nat_lit 620, .mk (.type "code") none (.fields #[.str (Str.ofString "basic_parents") 1017, .str (Str.ofString "basic_parents") 1018, .str (Str.ofString "/claim/cut.py") 1019, .int 390 0, .int 1 0, .int 0 0, .int 0 0, .int 3 0, .ref 615, .bool true, .int 181 0, .ref 616, .none, .ref 617, .ref 618, .ref 619, .int 1021 0, .int 390 0, .str (Str.ofString "/claim/cut.py") 1022]) #[]) ::
  (nat_lit 621, .mk (.type "function") none (.func (.mk (Str.ofString "basic_parents") (Str.ofString "basic_parents") ((by exact fun f _ => f : (f : Arguments) → parAt [45] = f → Arguments) _ (by conv => lhs; whnf)) (.stmts ((by exact fun f _ => f : (f : List Stmt) → bodyAt [45] = f → List Stmt) _ (by conv => lhs; whnf))) ((by exact fun f _ => f : (f : Scope) → scAt [45] = f → Scope) _ (by conv => lhs; whnf)) 3 [] .none .none .none (.str (Str.ofString "vectorcove.s4classes") 964) none (.ref 620) .none 0)) #[]) ::
  (nat_lit 634, .mk (.type "code") none (.fields #[.str (Str.ofString "__init__") 1036, .str (Str.ofString "ClassTable.__init__") 1037, .str (Str.ofString "/claim/cut.py") 1038, .int 408 0, .int 1 0, .int 0 0, .int 0 0, .int 3 0, .ref 629, .bool true, .int 181 0, .ref 630, .none, .ref 631, .ref 632, .ref 633, .int 1040 0, .int 408 0, .str (Str.ofString "/claim/cut.py") 1041]) #[]) ::
  (nat_lit 635, .mk (.type "function") none (.func (.mk (Str.ofString "__init__") (Str.ofString "ClassTable.__init__") ((by exact fun f _ => f : (f : Arguments) → parAt [46,0] = f → Arguments) _ (by conv => lhs; whnf)) (.stmts ((by exact fun f _ => f : (f : List Stmt) → bodyAt [46,0] = f → List Stmt) _ (by conv => lhs; whnf))) ((by exact fun f _ => f : (f : Scope) → scAt [46,0] = f → Scope) _ (by conv => lhs; whnf)) 3 [] .none .none .none (.str (Str.ofString "vectorcove.s4classes") 964) none (.ref 634) .none 0)) #[]) ::
  (nat_lit 641, .mk (.type "code") none (.fields #[.str (Str.ofString "define") 1043, .str (Str.ofString "ClassTable.define") 1044, .str (Str.ofString "/claim/cut.py") 1045, .int 412 0, .int 2 0, .int 0 0, .int 0 0, .int 3 0, .ref 636, .bool true, .int 181 0, .ref 637, .none, .ref 638, .ref 639, .ref 640, .int 1049 0, .int 412 0, .str (Str.ofString "/claim/cut.py") 1050]) #[]) ::
  (nat_lit 642, .mk (.type "function") none (.func (.mk (Str.ofString "define") (Str.ofString "ClassTable.define") ((by exact fun f _ => f : (f : Arguments) → parAt [46,1] = f → Arguments) _ (by conv => lhs; whnf)) (.stmts ((by exact fun f _ => f : (f : List Stmt) → bodyAt [46,1] = f → List Stmt) _ (by conv => lhs; whnf))) ((by exact fun f _ => f : (f : Scope) → scAt [46,1] = f → Scope) _ (by conv => lhs; whnf)) 3 [] .none .none .none (.str (Str.ofString "vectorcove.s4classes") 964) none (.ref 641) .none 0)) #[]) ::
  (nat_lit 655, .mk (.type "code") none (.fields #[.str (Str.ofString "check_open") 1061, .str (Str.ofString "ClassTable.check_open") 1062, .str (Str.ofString "/claim/cut.py") 1063, .int 425 0, .int 2 0, .int 0 0, .int 0 0, .int 3 0, .ref 650, .bool true, .int 181 0, .ref 651, .none, .ref 652, .ref 653, .ref 654, .int 1066 0, .int 425 0, .str (Str.ofString "/claim/cut.py") 1067]) #[]) ::
  (nat_lit 656, .mk (.type "function") none (.func (.mk (Str.ofString "check_open") (Str.ofString "ClassTable.check_open") ((by exact fun f _ => f : (f : Arguments) → parAt [46,3] = f → Arguments) _ (by conv => lhs; whnf)) (.stmts ((by exact fun f _ => f : (f : List Stmt) → bodyAt [46,3] = f → List Stmt) _ (by conv => lhs; whnf))) ((by exact fun f _ => f : (f : Scope) → scAt [46,3] = f → Scope) _ (by conv => lhs; whnf)) 3 [] .none .none .none (.str (Str.ofString "vectorcove.s4classes") 964) none (.ref 655) .none 0)) #[]) ::
  (nat_lit 662, .mk (.type "code") none (.fields #[.str (Str.ofString "get") 1069, .str (Str.ofString "ClassTable.get") 1070, .str (Str.ofString "/claim/cut.py") 1071, .int 429 0, .int 2 0, .int 0 0, .int 0 0, .int 3 0, .ref 657, .bool true, .int 181 0, .ref 658, .none, .ref 659, .ref 660, .ref 661, .int 1074 0, .int 429 0, .str (Str.ofString "/claim/cut.py") 1075]) #[]) ::
  (nat_lit 663, .mk (.type "function") none (.func (.mk (Str.ofString "get") (Str.ofString "ClassTable.get") ((by exact fun f _ => f : (f : Arguments) → parAt [46,4] = f → Arguments) _ (by conv => lhs; whnf)) (.stmts ((by exact fun f _ => f : (f : List Stmt) → bodyAt [46,4] = f → List Stmt) _ (by conv => lhs; whnf))) ((by exact fun f _ => f : (f : Scope) → scAt [46,4] = f → Scope) _ (by conv => lhs; whnf)) 3 [] .none .none .none (.str (Str.ofString "vectorcove.s4classes") 964) none (.ref 662) .none 0)) #[]) ::
  (nat_lit 669, .mk (.type "code") none (.fields #[.str (Str.ofString "basic") 1077, .str (Str.ofString "ClassTable.basic") 1078, .str (Str.ofString "/claim/cut.py") 1079, .int 432 0, .int 2 0, .int 0 0, .int 0 0, .int 3 0, .ref 664, .bool true, .int 181 0, .ref 665, .none, .ref 666, .ref 667, .ref 668, .int 1082 0, .int 432 0, .str (Str.ofString "/claim/cut.py") 1083]) #[]) ::
  (nat_lit 670, .mk (.type "function") none (.func (.mk (Str.ofString "basic") (Str.ofString "ClassTable.basic") ((by exact fun f _ => f : (f : Arguments) → parAt [46,5] = f → Arguments) _ (by conv => lhs; whnf)) (.stmts ((by exact fun f _ => f : (f : List Stmt) → bodyAt [46,5] = f → List Stmt) _ (by conv => lhs; whnf))) ((by exact fun f _ => f : (f : Scope) → scAt [46,5] = f → Scope) _ (by conv => lhs; whnf)) 3 [] .none .none .none (.str (Str.ofString "vectorcove.s4classes") 964) none (.ref 669) .none 0)) #[]) ::
  (nat_lit 676, .mk (.type "code") none (.fields #[.str (Str.ofString "known") 1085, .str (Str.ofString "ClassTable.known") 1086, .str (Str.ofString "/claim/cut.py") 1087, .int 435 0, .int 2 0, .int 0 0, .int 0 0, .int 3 0, .ref 671, .bool true, .int 181 0, .ref 672, .none, .ref 673, .ref 674, .ref 675, .int 1090 0, .int 435 0, .str (Str.ofString "/claim/cut.py") 1091]) #[]) ::
  (nat_lit 677, .mk (.type "function") none (.func (.mk (Str.ofString "known") (Str.ofString "ClassTable.known") ((by exact fun f _ => f : (f : Arguments) → parAt [46,6] = f → Arguments) _ (by conv => lhs; whnf)) (.stmts ((by exact fun f _ => f : (f : List Stmt) → bodyAt [46,6] = f → List Stmt) _ (by conv => lhs; whnf))) ((by exact fun f _ => f : (f : Scope) → scAt [46,6] = f → Scope) _ (by conv => lhs; whnf)) 3 [] .none .none .none (.str (Str.ofString "vectorcove.s4classes") 964) none (.ref 676) .none 0)) #[]) ::
  (nat_lit 683, .mk (.type "code") none (.fields #[.str (Str.ofString "parents") 1093, .str (Str.ofString "ClassTable.parents") 1094, .str (Str.ofString "/claim/cut.py") 1095, .int 438 0, .int 2 0, .int 0 0, .int 0 0, .int 3 0, .ref 678, .bool true, .int 181 0, .ref 679, .none, .ref 680, .ref 681, .ref 682, .int 1100 0, .int 438 0, .str (Str.ofString "/claim/cut.py") 1101]) #[]) ::
  (nat_lit 684, .mk (.type "function") none (.func (.mk (Str.ofString "parents") (Str.ofString "ClassTable.parents") ((by exact fun f _ => f : (f : Arguments) → parAt [46,7] = f → Arguments) _ (by conv => lhs; whnf)) (.stmts ((by exact fun f _ => f : (f : List Stmt) → bodyAt [46,7] = f → List Stmt) _ (by conv => lhs; whnf))) ((by exact fun f _ => f : (f : Scope) → scAt [46,7] = f → Scope) _ (by conv => lhs; whnf)) 3 [] .none .none .none (.str (Str.ofString "vectorcove.s4classes") 964) none (.ref 683) .none 0)) #[]) ::
  (nat_lit 690, .mk (.type "code") none (.fields #[.str (Str.ofString "supers") 1103, .str (Str.ofString "ClassTable.supers") 1104, .str (Str.ofString "/claim/cut.py") 1105, .int 449 0, .int 2 0, .int 0 0, .int 0 0, .int 3 0, .ref 685, .bool true, .int 181 0, .ref 686, .none, .ref 687, .ref 688, .ref 689, .int 1114 0, .int 449 0, .str (Str.ofString "/claim/cut.py") 1115]) #[]) ::
  (nat_lit 691, .mk (.type "function") none (.func (.mk (Str.ofString "supers") (Str.ofString "ClassTable.supers") ((by exact fun f _ => f : (f : Arguments) → parAt [46,8] = f → Arguments) _ (by conv => lhs; whnf)) (.stmts ((by exact fun f _ => f : (f : List Stmt) → bodyAt [46,8] = f → List Stmt) _ (by conv => lhs; whnf))) ((by exact fun f _ => f : (f : Scope) → scAt [46,8] = f → Scope) _ (by conv => lhs; whnf)) 3 [] .none .none .none (.str (Str.ofString "vectorcove.s4classes") 964) none (.ref 690) .none 0)) #[]) ::
  (nat_lit 697, .mk (.type "code") none (.fields #[.str (Str.ofString "distance") 1117, .str (Str.ofString "ClassTable.distance") 1118, .str (Str.ofString "/claim/cut.py") 1119, .int 464 0, .int 3 0, .int 0 0, .int 0 0, .int 3 0, .ref 692, .bool true, .int 181 0, .ref 693, .none, .ref 694, .ref 695, .ref 696, .int 1125 0, .int 464 0, .str (Str.ofString "/claim/cut.py") 1126]) #[]) ::
  (nat_lit 698, .mk (.type "function") none (.func (.mk (Str.ofString "distance") (Str.ofString "ClassTable.distance") ((by exact fun f _ => f : (f : Arguments) → parAt [46,9] = f → Arguments) _ (by conv => lhs; whnf)) (.stmts ((by exact fun f _ => f : (f : List Stmt) → bodyAt [46,9] = f → List Stmt) _ (by conv => lhs; whnf))) ((by exact fun f _ => f : (f : Scope) → scAt [46,9] = f → Scope) _ (by conv => lhs; whnf)) 3 [] .none .none .none (.str (Str.ofString "vectorcove.s4classes") 964) none (.ref 697) .none 0)) #[]) ::
  (nat_lit 704, .mk (.type "code") none (.fields #[.str (Str.ofString "slots_of") 1128, .str (Str.ofString "ClassTable.slots_of") 1129, .str (Str.ofString "/claim/cut.py") 1130, .int 472 0, .int 2 0, .int 0 0, .int 0 0, .int 3 0, .ref 699, .bool true, .int 181 0, .ref 700, .none, .ref 701, .ref 702, .ref 703, .int 1140 0, .int 472 0, .str (Str.ofString "/claim/cut.py") 1141]) #[]) ::
  (nat_lit 705, .mk (.type "function") none (.func (.mk (Str.ofString "slots_of") (Str.ofString "ClassTable.slots_of") ((by exact fun f _ => f : (f : Arguments) → parAt [46,10] = f → Arguments) _ (by conv => lhs; whnf)) (.stmts ((by exact fun f _ => f : (f : List Stmt) → bodyAt [46,10] = f → List Stmt) _ (by conv => lhs; whnf))) ((by exact fun f _ => f : (f : Scope) → scAt [46,10] = f → Scope) _ (by conv => lhs; whnf)) 3 [] .none .none .none (.str (Str.ofString "vectorcove.s4classes") 964) none (.ref 704) .none 0)) #[]) ::
  (nat_lit 706, .mk (.type "tuple") none (.seq #[.str (Str.ofString "classes") 1143, .str (Str.ofString "unions") 1144]) #[]) ::
  (nat_lit 707, .mk (.type "dict") none (.dict #[.mk (PyData.keyHash P (Str.ofString "__module__")) (.str (Str.ofString "__module__") 1031) (.str (Str.ofString "vectorcove.s4classes") 964), .mk (PyData.keyHash P (Str.ofString "__firstlineno__")) (.str (Str.ofString "__firstlineno__") 1035) (.int 406 1034), .mk (PyData.keyHash P (Str.ofString "__init__")) (.str (Str.ofString "__init__") 1042) (.ref 635), .mk (PyData.keyHash P (Str.ofString "define")) (.str (Str.ofString "define") 1051) (.ref 642), .mk (PyData.keyHash P (Str.ofString "set_union")) (.str (Str.ofString "set_union") 1060) (.ref 649), .mk (PyData.keyHash P (Str.ofString "check_open")) (.str (Str.ofString "check_open") 1068) (.ref 656), .mk (PyData.keyHash P (Str.ofString "get")) (.str (Str.ofString "get") 1076) (.ref 663), .mk (PyData.keyHash P (Str.ofString "basic")) (.str (Str.ofString "basic") 1084) (.ref 670), .mk (PyData.keyHash P (Str.ofString "known")) (.str (Str.ofString "known") 1092) (.ref 677), .mk (PyData.keyHash P (Str.ofString "parents")) (.str (Str.ofString "parents") 1102) (.ref 684), .mk (PyData.keyHash P (Str.ofString "supers")) (.str (Str.ofString "supers") 1116) (.ref 691), .mk (PyData.keyHash P (Str.ofString "distance")) (.str (Str.ofString "distance") 1127) (.ref 698), .mk (PyData.keyHash P (Str.ofString "slots_of")) (.str (Str.ofString "slots_of") 1142) (.ref 705), .mk (PyData.keyHash P (Str.ofString "__static_attributes__")) (.str (Str.ofString "__static_attributes__") 1145) (.ref 706), .mk (PyData.keyHash P (Str.ofString "__dict__")) (.str (Str.ofString "__dict__") 1147) (.ref 709), .mk (PyData.keyHash P (Str.ofString "__weakref__")) (.str (Str.ofString "__weakref__") 1149) (.ref 710), .mk (PyData.keyHash P (Str.ofString "__doc__")) (.str (Str.ofString "__doc__") 1150) .none] 4) #[]) ::
  (nat_lit 708, .mk (.type "type") none (.cls (.mk (Str.ofString "ClassTable") [.type "object"] [.ref 708, .type "object"] 707 (Str.ofString "ClassTable") true [] [] false none false)) #[none, none, some (.str (Str.ofString "ClassTable") 1024), some (.str (Str.ofString "ClassTable") 1032), some (.builtin "object.__new__"), some (.bool true)]) ::
  (nat_lit 709, .mk (.type "getset_descriptor") none (.fields #[.str (Str.ofString "__dict__") 1146, .ref 708, .builtin "function.__dict__", .builtin "function.__dict__#set"]) #[]) ::
  (nat_lit 710, .mk (.type "getset_descriptor") none (.fields #[.str (Str.ofString "__weakref__") 1148, .ref 708, .builtin "ExceptionGroup.__weakref__", .none]) #[]) ::
  (nat_lit 718, .mk (.type "code") none (.fields #[.str (Str.ofString "check_slots") 1153, .str (Str.ofString "check_slots") 1154, .str (Str.ofString "/claim/cut.py") 1155, .int 487 0, .int 2 0, .int 0 0, .int 0 0, .int 3 0, .ref 713, .bool true, .int 181 0, .ref 714, .none, .ref 715, .ref 716, .ref 717, .int 1162 0, .int 487 0, .str (Str.ofString "/claim/cut.py") 1163]) #[]) ::
  (nat_lit 719, .mk (.type "function") none (.func (.mk (Str.ofString "check_slots") (Str.ofString "check_slots") ((by exact fun f _ => f : (f : Arguments) → parAt [47] = f → Arguments) _ (by conv => lhs; whnf)) (.stmts ((by exact fun f _ => f : (f : List Stmt) → bodyAt [47] = f → List Stmt) _ (by conv => lhs; whnf))) ((by exact fun f _ => f : (f : Scope) → scAt [47] = f → Scope) _ (by conv => lhs; whnf)) 3 [] .none .none .none (.str (Str.ofString "vectorcove.s4classes") 964) none (.ref 718) .none 0)) #[]) ::
  (nat_lit 732, .mk (.type "code") none (.fields #[.str (Str.ofString "__init__") 1179, .str (Str.ofString "MethodTable.__init__") 1180, .str (Str.ofString "/claim/cut.py") 1181, .int 500 0, .int 1 0, .int 0 0, .int 0 0, .int 3 0, .ref 727, .bool true, .int 181 0, .ref 728, .none, .ref 729, .ref 730, .ref 731, .int 1183 0, .int 500 0, .str (Str.ofString "/claim/cut.py") 1184]) #[]) ::
  (nat_lit 733, .mk (.type "function") none (.func (.mk (Str.ofString "__init__") (Str.ofString "MethodTable.__init__") ((by exact fun f _ => f : (f : Arguments) → parAt [49,0] = f → Arguments) _ (by conv => lhs; whnf)) (.stmts ((by exact fun f _ => f : (f : List Stmt) → bodyAt [49,0] = f → List Stmt) _ (by conv => lhs; whnf))) ((by exact fun f _ => f : (f : Scope) → scAt [49,0] = f → Scope) _ (by conv => lhs; whnf)) 3 [] .none .none .none (.str (Str.ofString "vectorcove.s4methods") 1165) none (.ref 732) .none 0)) #[]) ::
  (nat_lit 790, .mk (.type "tuple") none (.seq #[.str (Str.ofString "generics") 1264]) #[]) ::
  (nat_lit 791, .mk (.type "dict") none (.dict #[.mk (PyData.keyHash P (Str.ofString "__module__")) (.str (Str.ofString "__module__") 1174) (.str (Str.ofString "vectorcove.s4methods") 1165), .mk (PyData.keyHash P (Str.ofString "__firstlineno__")) (.str (Str.ofString "__firstlineno__") 1178) (.int 498 1177), .mk (PyData.keyHash P (Str.ofString "__init__")) (.str (Str.ofString "__init__") 1185) (.ref 733), .mk (PyData.keyHash P (Str.ofString "set_generic")) (.str (Str.ofString "set_generic") 1194) (.ref 740), .mk (PyData.keyHash P (Str.ofString "is_generic")) (.str (Str.ofString "is_generic") 1202) (.ref 747), .mk (PyData.keyHash P (Str.ofString "full_signature")) (.str (Str.ofString "full_signature") 1213) (.ref 754), .mk (PyData.keyHash P (Str.ofString "set_method")) (.str (Str.ofString "set_method") 1223) (.ref 761), .mk (PyData.keyHash P (Str.ofString "exact")) (.str (Str.ofString "exact") 1235) (.ref 768), .mk (PyData.keyHash P (Str.ofString "candidates")) (.str (Str.ofString "candidates") 1244) (.ref 775), .mk (PyData.keyHash P (Str.ofString "select")) (.str (Str.ofString "select") 1253) (.ref 782), .mk (PyData.keyHash P (Str.ofString "next_methods")) (.str (Str.ofString "next_methods") 1263) (.ref 789), .mk (PyData.keyHash P (Str.ofString "__static_attributes__")) (.str (Str.ofString "__static_attributes__") 1265) (.ref 790), .mk (PyData.keyHash P (Str.ofString "__dict__")) (.str (Str.ofString "__dict__") 1267) (.ref 793), .mk (PyData.keyHash P (Str.ofString "__weakref__")) (.str (Str.ofString "__weakref__") 1269) (.ref 794), .mk (PyData.keyHash P (Str.ofString "__doc__")) (.str (Str.ofString "__doc__") 1270) .none] 4) #[]) ::
  (nat_lit 792, .mk (.type "type") none (.cls (.mk (Str.ofString "MethodTable") [.type "object"] [.ref 792, .type "object"] 791 (Str.ofString "MethodTable") true [] [] false none false)) #[none, none, some (.str (Str.ofString "MethodTable") 1167), some (.str (Str.ofString "MethodTable") 1175), some (.builtin "object.__new__"), some (.bool true)]) ::
  (nat_lit 793, .mk (.type "getset_descriptor") none (.fields #[.str (Str.ofString "__dict__") 1266, .ref 792, .builtin "function.__dict__", .builtin "function.__dict__#set"]) #[]) ::
  (nat_lit 794, .mk (.type "getset_descriptor") none (.fields #[.str (Str.ofString "__weakref__") 1268, .ref 792, .builtin "ExceptionGroup.__weakref__", .none]) #[]) ::
  (nat_lit 809, .mk (.type "code") none (.fields #[.str (Str.ofString "__init__") 1287, .str (Str.ofString "S4State.__init__") 1288, .str (Str.ofString "/claim/cut.py") 1289, .int 543 0, .int 1 0, .int 0 0, .int 0 0, .int 3 0, .ref 804, .bool true, .int 181 0, .ref 805, .none, .ref 806, .ref 807, .ref 808, .int 1291 0, .int 543 0, .str (Str.ofString "/claim/cut.py") 1292]) #[]) ::
  (nat_lit 810, .mk (.type "function") none (.func (.mk (Str.ofString "__init__") (Str.ofString "S4State.__init__") ((by exact fun f _ => f : (f : Arguments) → parAt [51,0] = f → Arguments) _ (by conv => lhs; whnf)) (.stmts ((by exact fun f _ => f : (f : List Stmt) → bodyAt [51,0] = f → List Stmt) _ (by conv => lhs; whnf))) ((by exact fun f _ => f : (f : Scope) → scAt [51,0] = f → Scope) _ (by conv => lhs; whnf)) 3 [] .none .none .none (.str (Str.ofString "vectorcove.s4objects") 1273) none (.ref 809) .none 0)) #[]) ::
  (nat_lit 811, .mk (.type "tuple") none (.seq #[.str (Str.ofString "classes") 1294, .str (Str.ofString "methods") 1295, .str (Str.ofString "older") 1296]) #[]) ::
  (nat_lit 812, .mk (.type "dict") none (.dict #[.mk (PyData.keyHash P (Str.ofString "__module__")) (.str (Str.ofString "__module__") 1282) (.str (Str.ofString "vectorcove.s4objects") 1273), .mk (PyData.keyHash P (Str.ofString "__firstlineno__")) (.str (Str.ofString "__firstlineno__") 1286) (.int 541 1285), .mk (PyData.keyHash P (Str.ofString "__init__")) (.str (Str.ofString "__init__") 1293) (.ref 810), .mk (PyData.keyHash P (Str.ofString "__static_attributes__")) (.str (Str.ofString "__static_attributes__") 1297) (.ref 811), .mk (PyData.keyHash P (Str.ofString "__dict__")) (.str (Str.ofString "__dict__") 1299) (.ref 814), .mk (PyData.keyHash P (Str.ofString "__weakref__")) (.str (Str.ofString "__weakref__") 1301) (.ref 815), .mk (PyData.keyHash P (Str.ofString "__doc__")) (.str (Str.ofString "__doc__") 1302) .none] 4) #[]) ::
  (nat_lit 813, .mk (.type "type") none (.cls (.mk (Str.ofString "S4State") [.type "object"] [.ref 813, .type "object"] 812 (Str.ofString "S4State") true [] [] false none false)) #[none, none, some (.str (Str.ofString "S4State") 1275), some (.str (Str.ofString "S4State") 1283), some (.builtin "object.__new__"), some (.bool true)]) ::
  (nat_lit 814, .mk (.type "getset_descriptor") none (.fields #[.str (Str.ofString "__dict__") 1298, .ref 813, .builtin "function.__dict__", .builtin "function.__dict__#set"]) #[]) ::
  (nat_lit 815, .mk (.type "getset_descriptor") none (.fields #[.str (Str.ofString "__weakref__") 1300, .ref 813, .builtin "ExceptionGroup.__weakref__", .none]) #[]) ::
  (nat_lit 823, .mk (.type "code") none (.fields #[.str (Str.ofString "s4_state") 1305, .str (Str.ofString "s4_state") 1306, .str (Str.ofString "/claim/cut.py") 1307, .int 547 0, .int 1 0, .int 0 0, .int 0 0, .int 3 0, .ref 818, .bool true, .int 181 0, .ref 819, .none, .ref 820, .ref 821, .ref 822, .int 1309 0, .int 547 0, .str (Str.ofString "/claim/cut.py") 1310]) #[]) ::
  (nat_lit 824, .mk (.type "function") none (.func (.mk (Str.ofString "s4_state") (Str.ofString "s4_state") ((by exact fun f _ => f : (f : Arguments) → parAt [52] = f → Arguments) _ (by conv => lhs; whnf)) (.stmts ((by exact fun f _ => f : (f : List Stmt) → bodyAt [52] = f → List Stmt) _ (by conv => lhs; whnf))) ((by exact fun f _ => f : (f : Scope) → scAt [52] = f → Scope) _ (by conv => lhs; whnf)) 3 [] .none .none .none (.str (Str.ofString "vectorcove.s4objects") 1273) none (.ref 823) .none 0)) #[]) ::
  (nat_lit 830, .mk (.type "code") none (.fields #[.str (Str.ofString "_law_tap") 1314, .str (Str.ofString "_law_tap") 1315, .str (Str.ofString "/claim/cut.py") 1316, .int 552 0, .int 2 0, .int 0 0, .int 0 0, .int 3 0, .ref 825, .bool true, .int 181 0, .ref 826, .none, .ref 827, .ref 828, .ref 829, .int 1319 0, .int 552 0, .str (Str.ofString "/claim/cut.py") 1320]) #[]) ::
  (nat_lit 831, .mk (.type "function") none (.func (.mk (Str.ofString "_law_tap") (Str.ofString "_law_tap") ((by exact fun f _ => f : (f : Arguments) → parAt [54] = f → Arguments) _ (by conv => lhs; whnf)) (.stmts ((by exact fun f _ => f : (f : List Stmt) → bodyAt [54] = f → List Stmt) _ (by conv => lhs; whnf))) ((by exact fun f _ => f : (f : Scope) → scAt [54] = f → Scope) _ (by conv => lhs; whnf)) 3 [] .none .none .none (.str (Str.ofString "law_pq1424_01") 1312) none (.ref 830) .none 0)) #[]) ::
  (nat_lit 837, .mk (.type "code") none (.fields #[.str (Str.ofString "_law_classes") 1322, .str (Str.ofString "_law_classes") 1323, .str (Str.ofString "/claim/cut.py") 1324, .int 557 0, .int 2 0, .int 0 0, .int 0 0, .int 3 0, .ref 832, .bool true, .int 181 0, .ref 833, .none, .ref 834, .ref 835, .ref 836, .int 1334 0, .int 557 0, .str (Str.ofString "/claim/cut.py") 1335]) #[]) ::
  (nat_lit 838, .mk (.type "function") none (.func (.mk (Str.ofString "_law_classes") (Str.ofString "_law_classes") ((by exact fun f _ => f : (f : Arguments) → parAt [55] = f → Arguments) _ (by conv => lhs; whnf)) (.stmts ((by exact fun f _ => f : (f : List Stmt) → bodyAt [55] = f → List Stmt) _ (by conv => lhs; whnf))) ((by exact fun f _ => f : (f : Scope) → scAt [55] = f → Scope) _ (by conv => lhs; whnf)) 3 [] .none .none .none (.str (Str.ofString "law_pq1424_01") 1312) none (.ref 837) .none 0)) #[]) ::
  (nat_lit 844, .mk (.type "code") none (.fields #[.str (Str.ofString "_law_row") 1337, .str (Str.ofString "_law_row") 1338, .str (Str.ofString "/claim/cut.py") 1339, .int 571 0, .int 2 0, .int 0 0, .int 0 0, .int 3 0, .ref 839, .bool true, .int 181 0, .ref 840, .none, .ref 841, .ref 842, .ref 843, .int 1347 0, .int 571 0, .str (Str.ofString "/claim/cut.py") 1348]) #[]) ::
  (nat_lit 845, .mk (.type "function") none (.func (.mk (Str.ofString "_law_row") (Str.ofString "_law_row") ((by exact fun f _ => f : (f : Arguments) → parAt [56] = f → Arguments) _ (by conv => lhs; whnf)) (.stmts ((by exact fun f _ => f : (f : List Stmt) → bodyAt [56] = f → List Stmt) _ (by conv => lhs; whnf))) ((by exact fun f _ => f : (f : Scope) → scAt [56] = f → Scope) _ (by conv => lhs; whnf)) 3 [] .none .none .none (.str (Str.ofString "law_pq1424_01") 1312) none (.ref 844) .none 0)) #[]) ::
  (nat_lit 849, .mk (.type "code") none (.fields #[.str (Str.ofString "_law_told_right") 1350, .str (Str.ofString "_law_told_right") 1351, .str (Str.ofString "/claim/cut.py") 1352, .int 583 0, .int 4 0, .int 0 0, .int 0 0, .int 3 0, .ref 846, .bool true, .int 181 0, .ref 847, .none, .none, .none, .ref 848, .int 1353 0, .int 583 0, .str (Str.ofString "/claim/cut.py") 1354]) #[]) ::
  (nat_lit 850, .mk (.type "function") none (.func (.mk (Str.ofString "_law_told_right") (Str.ofString "_law_told_right") ((by exact fun f _ => f : (f : Arguments) → parAt [57] = f → Arguments) _ (by conv => lhs; whnf)) (.stmts ((by exact fun f _ => f : (f : List Stmt) → bodyAt [57] = f → List Stmt) _ (by conv => lhs; whnf))) ((by exact fun f _ => f : (f : Scope) → scAt [57] = f → Scope) _ (by conv => lhs; whnf)) 3 [] .none .none .none (.str (Str.ofString "law_pq1424_01") 1312) none (.ref 849) .none 0)) #[]) :: []

end Mine

-- Hl
namespace Mine
open PySem PySem.W PySem.Calls PySem.Spec PyProof.Rows
/-- the top's run on the tree heap, over the library's quick words -/
noncomputable def topRunF (p : Program) (w : World) (n₀ : Nat) (ann : Option Value) (n : Nat) : SharedT → Thread → Option SharedT :=
  @Nat.rec (fun _ => SharedT → Thread → Option SharedT) (fun _ _ => none) (fun _ ih s t => match through t with
    | true => some s
    | false => match PySem.W.Fast.tw6613529449190102663 n₀ ann t with
      | false => none
      | true => match PySem.W.Fast.tw10156331382660048174 (PySem.W.Fast.tw11892475500146522536 PySem.W.Fast.tw14364793385576792824) p w s t with
        | some r => ih r.1 r.2
        | none => none) n
noncomputable def bootT (P : Params) : BT := ((((((((((BT.nil.ins 0 (boot_o_0 P)).ins 1 (boot_o_1 P)).ins 2 (boot_o_2 P)).ins 3 (boot_o_3 P)).ins 4 (boot_o_4 P)).ins 5 (boot_o_5 P)).ins 6 (boot_o_6 P)).ins 7 (boot_o_7 P)).ins 8 (boot_o_8 P)).ins 9 (boot_o_9 P)).ins 10 (boot_o_10 P)
theorem boot_tree (P : Params) : absHeap (bootT P) 11 (boot_heap P).life = boot_heap P := by kernel_rfl
theorem boot_ns (P : Params) : ((boot_heap P).isNs mainGlobals && (Array.mk [] : Array GenState).size == 0) = true := by kernel_rfl
theorem boot_ann (P : Params) : (boot_heap P).nsMap mainGlobals "__annotations__" = some (.ref 6) := by kernel_rfl
theorem boot_size (P : Params) : (boot_heap P).objs.size = 11 := by kernel_rfl
theorem topRunF_of {p : Program} {w : World} {n₀ : Nat} {ann : Option Value} : ∀ {n : Nat} {s s' : SharedT} {t : Thread}, topRunF p w n₀ ann n s t = some s' → topRun treeTable p w n₀ ann n s.abs t = some s'.abs
  | 0, _, _, _, h => nomatch (h : none = some _)
  | n + 1, s, s', t, h => by
    have h : (match through t with
      | true => some s
      | false => match PySem.W.Fast.tw6613529449190102663 n₀ ann t with
        | false => none
        | true => match PySem.W.Fast.tw10156331382660048174 (PySem.W.Fast.tw11892475500146522536 PySem.W.Fast.tw14364793385576792824) p w s t with
          | some r => topRunF p w n₀ ann n r.1 r.2
          | none => none) = some s' := h
    rw [← PySem.W.Fast.te6613529449190102663, ← PySem.W.Fast.te10156331382660048174, ← PySem.W.Fast.te11892475500146522536, ← PySem.W.Fast.te14364793385576792824] at h
    unfold topRun
    cases he : through t with
    | true => rw [he] at h; cases h; rfl
    | false =>
      rw [he] at h
      cases hk : stepOk n₀ ann t with
      | false => rw [hk] at h; cases h
      | true =>
        rw [hk] at h
        cases hs : stepT (denote treeTable) p w s t with
        | none => rw [hs] at h; cases h
        | some r => obtain ⟨s₂, t₂⟩ := r; rw [hs] at h; rw [stepT_spec hs]; exact topRunF_of h
theorem left_of_run {p q : Program} {loose : List Str} {Xt : Shared → Bool} {α : Type} {Yf : Shared → α} {Ya : World → α} {N M : Nat} (e : opening p = plainProg p.main.scope.names) (hN : Nat.ble 600 N = true) (f : ∀ s, fenceModules? p s = some s) (hM : Nat.ble M N = true)
    (run : ∀ (w : World) (os : OsState), (topRunF p w 11 (some (.ref 6)) M ⟨bootT w.params, 11, (boot_heap w.params).life, Array.mk [], boot_drawn, boot_toks, os⟩ (topStub p)).map (fun s => (staticsOk (importedModules p.main.body) (boot_heap w.params) s.abs.heap && namesBound p s.abs.heap && gensDone s.abs && laidKept (boot_heap w.params) s.abs.heap,
      openSeen q loose (importedModules p.main.body) Xt true s.abs, Yf s.abs)) = some (true, openGood q loose, Ya w)) : LeftO p q loose Xt Yf Ya N := fun w => by
  obtain ⟨⟨h, gs, d, k, os⟩, a, a'⟩ := Option.map_eq_some_iff.mp (boot_open (N := N) e hN f w)
  obtain ⟨rfl, rfl, rfl, rfl⟩ : h = boot_heap w.params ∧ gs = Array.mk [] ∧ d = boot_drawn ∧ k = boot_toks := by simpa using a'
  obtain ⟨s', r, l⟩ := Option.map_eq_some_iff.mp (run w os)
  obtain ⟨l1, l2, l3⟩ : _ ∧ _ ∧ _ := by simpa only [Prod.mk.injEq] using l
  have r := topRun_mono (N - M) _ _ _ _ (topRunF_of r)
  rw [show M + (N - M) = N by have := Nat.le_of_ble_eq_true hM; omega] at r
  rw [show SharedT.abs ⟨bootT w.params, 11, (boot_heap w.params).life, Array.mk [], boot_drawn, boot_toks, os⟩ = ⟨boot_heap w.params, Array.mk [], boot_drawn, boot_toks, os⟩ from by unfold SharedT.abs; rw [boot_tree]] at r
  have t : topFrom treeTable p w N ⟨boot_heap w.params, Array.mk [], boot_drawn, boot_toks, os⟩ = some s'.abs := by
    unfold topFrom
    dsimp only
    rw [boot_ns, boot_ann, boot_size, r]
    show (match staticsOk (importedModules p.main.body) (boot_heap w.params) s'.abs.heap && namesBound p s'.abs.heap && gensDone s'.abs && laidKept (boot_heap w.params) s'.abs.heap with | true => _ | false => _) = _
    rw [l1]
  unfold openEnds
  rw [a]
  show (topFrom treeTable p w N _).map _ = _
  rw [t]
  exact congrArg some (Prod.ext l2 l3)
noncomputable def viewQ : Program := { PySem.Challenge.rw_pq1424_01.row.prog with main := { PySem.Challenge.rw_pq1424_01.row.prog.main with body := [
  (by exact fun f _ => f : (f : Stmt) → stAt [0] = f → Stmt) _ (by conv => lhs; whnf),
  (by exact fun f _ => f : (f : Stmt) → stAt [2] = f → Stmt) _ (by conv => lhs; whnf),
  (by exact fun f _ => f : (f : Stmt) → stAt [3] = f → Stmt) _ (by conv => lhs; whnf),
  (by exact fun f _ => f : (f : Stmt) → stAt [4] = f → Stmt) _ (by conv => lhs; whnf),
  (by exact fun f _ => f : (f : Stmt) → stAt [5] = f → Stmt) _ (by conv => lhs; whnf),
  (by exact fun f _ => f : (f : Stmt) → stAt [6] = f → Stmt) _ (by conv => lhs; whnf),
  (by exact fun f _ => f : (f : Stmt) → stAt [7] = f → Stmt) _ (by conv => lhs; whnf),
  (by exact fun f _ => f : (f : Stmt) → stAt [8] = f → Stmt) _ (by conv => lhs; whnf),
  (by exact fun f _ => f : (f : Stmt) → stAt [10] = f → Stmt) _ (by conv => lhs; whnf),
  (by exact fun f _ => f : (f : Stmt) → stAt [11] = f → Stmt) _ (by conv => lhs; whnf),
  (by exact fun f _ => f : (f : Stmt) → stAt [13] = f → Stmt) _ (by conv => lhs; whnf),
  (by exact fun f _ => f : (f : Stmt) → stAt [14] = f → Stmt) _ (by conv => lhs; whnf),
  (by exact fun f _ => f : (f : Stmt) → stAt [15] = f → Stmt) _ (by conv => lhs; whnf),
  (by exact fun f _ => f : (f : Stmt) → stAt [16] = f → Stmt) _ (by conv => lhs; whnf),
  (by exact fun f _ => f : (f : Stmt) → stAt [17] = f → Stmt) _ (by conv => lhs; whnf),
  (by exact fun f _ => f : (f : Stmt) → stAt [18] = f → Stmt) _ (by conv => lhs; whnf),
  (by exact fun f _ => f : (f : Stmt) → stAt [19] = f → Stmt) _ (by conv => lhs; whnf),
  (by exact fun f _ => f : (f : Stmt) → stAt [20] = f → Stmt) _ (by conv => lhs; whnf),
  (by exact fun f _ => f : (f : Stmt) → stAt [22] = f → Stmt) _ (by conv => lhs; whnf),
  (by exact fun f _ => f : (f : Stmt) → stAt [23] = f → Stmt) _ (by conv => lhs; whnf),
  (by exact fun f _ => f : (f : Stmt) → stAt [24] = f → Stmt) _ (by conv => lhs; whnf),
  (by exact fun f _ => f : (f : Stmt) → stAt [25] = f → Stmt) _ (by conv => lhs; whnf),
  (by exact fun f _ => f : (f : Stmt) → stAt [26] = f → Stmt) _ (by conv => lhs; whnf),
  (by exact fun f _ => f : (f : Stmt) → stAt [28] = f → Stmt) _ (by conv => lhs; whnf),
  (by exact fun f _ => f : (f : Stmt) → stAt [31] = f → Stmt) _ (by conv => lhs; whnf),
  (by exact fun f _ => f : (f : Stmt) → stAt [33] = f → Stmt) _ (by conv => lhs; whnf),
  (by exact fun f _ => f : (f : Stmt) → stAt [34] = f → Stmt) _ (by conv => lhs; whnf),
  (by exact fun f _ => f : (f : Stmt) → stAt [35] = f → Stmt) _ (by conv => lhs; whnf),
  (by exact fun f _ => f : (f : Stmt) → stAt [37] = f → Stmt) _ (by conv => lhs; whnf),
  (by exact fun f _ => f : (f : Stmt) → stAt [38] = f → Stmt) _ (by conv => lhs; whnf),
  (by exact fun f _ => f : (f : Stmt) → stAt [40] = f → Stmt) _ (by conv => lhs; whnf),
  (by exact fun f _ => f : (f : Stmt) → stAt [42] = f → Stmt) _ (by conv => lhs; whnf),
  (by exact fun f _ => f : (f : Stmt) → stAt [43] = f → Stmt) _ (by conv => lhs; whnf),
  (by exact fun f _ => f : (f : Stmt) → stAt [44] = f → Stmt) _ (by conv => lhs; whnf),
  (by exact fun f _ => f : (f : Stmt) → stAt [45] = f → Stmt) _ (by conv => lhs; whnf),
  (by exact fun f _ => f : (f : Stmt) → stAt [46] = f → Stmt) _ (by conv => lhs; whnf),
  (by exact fun f _ => f : (f : Stmt) → stAt [47] = f → Stmt) _ (by conv => lhs; whnf),
  (by exact fun f _ => f : (f : Stmt) → stAt [49] = f → Stmt) _ (by conv => lhs; whnf),
  (by exact fun f _ => f : (f : Stmt) → stAt [51] = f → Stmt) _ (by conv => lhs; whnf),
  (by exact fun f _ => f : (f : Stmt) → stAt [52] = f → Stmt) _ (by conv => lhs; whnf),
  (by exact fun f _ => f : (f : Stmt) → stAt [54] = f → Stmt) _ (by conv => lhs; whnf),
  (by exact fun f _ => f : (f : Stmt) → stAt [55] = f → Stmt) _ (by conv => lhs; whnf),
  (by exact fun f _ => f : (f : Stmt) → stAt [56] = f → Stmt) _ (by conv => lhs; whnf),
  (by exact fun f _ => f : (f : Stmt) → stAt [57] = f → Stmt) _ (by conv => lhs; whnf),
  (by exact fun f _ => f : (f : Stmt) → stAt [58] = f → Stmt) _ (by conv => lhs; whnf)] } }
noncomputable abbrev kHk : Hook := kHook kAt [2, 3, 27, 28, 34, 35, 41, 42, 48, 49, 55, 56, 62, 63, 69, 70, 71, 78, 79, 80, 81, 84, 96, 97, 98, 99, 100, 110, 116, 117, 125, 126, 127, 128, 129, 144, 145, 146, 147, 148, 149, 150, 160, 166, 167, 168, 169, 170, 171, 172, 187, 188, 189, 190, 191, 192, 193, 201, 202, 208, 209, 215, 216, 222, 223, 236, 237, 243, 244, 250, 251, 257, 258, 264, 265, 271, 272, 276, 277, 278, 279, 280, 281, 282, 311, 315, 316, 322, 323, 324, 328, 329, 335, 336, 349, 350, 356, 357, 363, 364, 368, 369, 377, 383, 384, 390, 391, 573, 574, 575, 576, 577, 592, 593, 594, 595, 596, 597, 598, 606, 607, 613, 614, 620, 621, 634, 635, 641, 642, 655, 656, 662, 663, 669, 670, 676, 677, 683, 684, 690, 691, 697, 698, 704, 705, 706, 707, 708, 709, 710, 718, 719, 732, 733, 790, 791, 792, 793, 794, 809, 810, 811, 812, 813, 814, 815, 823, 824, 830, 831, 837, 838, 844, 845, 849, 850] (fun _ => by kernel_rfl)
theorem run_1 (w : World) (os : OsState) : (topRunF PySem.Challenge.rw_pq1424_01.row.prog w 11 (some (.ref 6)) 5700 ⟨bootT w.params, 11, (boot_heap w.params).life, Array.mk [], boot_drawn, boot_toks, os⟩ (topStub PySem.Challenge.rw_pq1424_01.row.prog)).map (fun s => ((staticsOk (PySem.W.Fast.tw5923862056798008813 PySem.Challenge.rw_pq1424_01.row.prog.main.body) (boot_heap w.params) s.abs.heap && namesBound PySem.Challenge.rw_pq1424_01.row.prog s.abs.heap && gensDone s.abs && laidKept (boot_heap w.params) s.abs.heap), kHk.obs s.abs)) = some (true, kHk.val w) := by kernel_rfl
theorem run_2 (w : World) (os : OsState) : (topRunF PySem.Challenge.rw_pq1424_01.row.prog w 11 (some (.ref 6)) 5700 ⟨bootT w.params, 11, (boot_heap w.params).life, Array.mk [], boot_drawn, boot_toks, os⟩ (topStub PySem.Challenge.rw_pq1424_01.row.prog)).map (fun s => (PySem.W.Fast.tw5160383126252970620 ((PySem.W.Fast.tw3399658132070893891 viewQ).map (·.name)) (PySem.W.Fast.tw5991557255702980513 viewQ) [] { s.abs with gens := #[] }, s.abs.heap.bltView, PySem.W.Fast.tw479339242167458305 viewQ s.abs, PySem.W.Fast.tw16090120013241838585 viewQ (PySem.W.Fast.tw3247288618530077131 viewQ) s.abs)) = some (expectedOf viewQ, bltViewBooted, true, pinGoodD (drecsOf viewQ)) := by kernel_rfl
theorem run_3 (w : World) (os : OsState) : (topRunF PySem.Challenge.rw_pq1424_01.row.prog w 11 (some (.ref 6)) 5700 ⟨bootT w.params, 11, (boot_heap w.params).life, Array.mk [], boot_drawn, boot_toks, os⟩ (topStub PySem.Challenge.rw_pq1424_01.row.prog)).map (fun s => ((PySem.W.Fast.tw10880121769531294198 s.abs.heap (looseW viewQ [Str.ofString "match_names", Str.ofString "take"]) ((PySem.W.Fast.tw3399658132070893891 viewQ).map (·.name)) ((PySem.W.Fast.tw7409074990110511671 viewQ).map (·.1)) ((PySem.W.Fast.tw13664370479719496447 viewQ (looseW viewQ [Str.ofString "match_names", Str.ofString "take"])).map (·.name)) && PySem.W.Fast.tw14722251495701143533 s.abs.heap (PySem.W.Fast.tw5923862056798008813 PySem.Challenge.rw_pq1424_01.row.prog.main.body) && s.abs.heap.isNs mainGlobals && s.abs.heap.isNs builtinsNs && PySem.W.Fast.tw10994771534591457954 viewQ s.abs.heap && (xlAt viewQ [] s.abs && recOk PySem.Challenge.rw_pq1424_01.row.records s.abs) && (s.abs.gens.size == 0)), PySem.W.Fast.tw7317090234206586261 viewQ s.abs, PySem.W.Fast.tw7369524293546568484 viewQ [Str.ofString "match_names", Str.ofString "take"] s.abs)) = some (true, wideGood viewQ, clsGoodW viewQ [Str.ofString "match_names", Str.ofString "take"]) := by kernel_rfl
theorem run_4 (w : World) (os : OsState) : (topRunF PySem.Challenge.rw_pq1424_01.row.prog w 11 (some (.ref 6)) 5700 ⟨bootT w.params, 11, (boot_heap w.params).life, Array.mk [], boot_drawn, boot_toks, os⟩ (topStub PySem.Challenge.rw_pq1424_01.row.prog)).map (fun s => (PySem.W.Fast.tw2386780881361962483 viewQ (looseW viewQ [Str.ofString "match_names", Str.ofString "take"]) s.abs)) = some (plainGoodE viewQ (looseW viewQ [Str.ofString "match_names", Str.ofString "take"])) := by kernel_rfl
theorem run_5 (w : World) (os : OsState) : (topRunF PySem.Challenge.rw_pq1424_01.row.prog w 11 (some (.ref 6)) 5700 ⟨bootT w.params, 11, (boot_heap w.params).life, Array.mk [], boot_drawn, boot_toks, os⟩ (topStub PySem.Challenge.rw_pq1424_01.row.prog)).map (fun s => (PySem.W.Fast.tw11698064438423848299 viewQ [Str.ofString "match_names", Str.ofString "take"] s.abs)) = some (plainGoodD viewQ [Str.ofString "match_names", Str.ofString "take"]) := by kernel_rfl
theorem leftQ : LeftO PySem.Challenge.rw_pq1424_01.row.prog viewQ [Str.ofString "match_names", Str.ofString "take"] (fun s => xlAt viewQ [] s && recOk PySem.Challenge.rw_pq1424_01.row.records s) kHk.obs kHk.val 11278 :=
  left_of_run (by rfl) (by decide) (fun _ => by rfl) (by decide : Nat.ble 5700 11278 = true) fun w os => by
    obtain ⟨a, e, h1⟩ := Option.map_eq_some_iff.mp (run_1 w os)
    have h2 := run_2 w os
    have h3 := run_3 w os
    have h4 := run_4 w os
    have h5 := run_5 w os
    rw [e] at h2 h3 h4 h5 ⊢
    rw [← PySem.W.Fast.te5923862056798008813] at h1
    rw [← PySem.W.Fast.te5160383126252970620, ← PySem.W.Fast.te3399658132070893891, ← PySem.W.Fast.te5991557255702980513, ← PySem.W.Fast.te479339242167458305, ← PySem.W.Fast.te16090120013241838585, ← PySem.W.Fast.te3247288618530077131] at h2
    rw [← PySem.W.Fast.te10880121769531294198, ← PySem.W.Fast.te3399658132070893891, ← PySem.W.Fast.te7409074990110511671, ← PySem.W.Fast.te13664370479719496447, ← PySem.W.Fast.te14722251495701143533, ← PySem.W.Fast.te5923862056798008813, ← PySem.W.Fast.te10994771534591457954, ← PySem.W.Fast.te7317090234206586261, ← PySem.W.Fast.te7369524293546568484] at h3
    rw [← PySem.W.Fast.te2386780881361962483] at h4
    rw [← PySem.W.Fast.te11698064438423848299] at h5
    obtain ⟨a1, a2⟩ := Prod.mk.inj h1
    obtain ⟨b1, b2⟩ := Prod.mk.inj (Option.some.inj h2)
    obtain ⟨b2, b3⟩ := Prod.mk.inj b2
    obtain ⟨b3, b4⟩ := Prod.mk.inj b3
    obtain ⟨c1, c2⟩ := Prod.mk.inj (Option.some.inj h3)
    obtain ⟨c2, c3⟩ := Prod.mk.inj c2
    exact congrArg some (Prod.ext a1 (Prod.ext (Prod.ext b1 (Prod.ext b2 (Prod.ext c1 (Prod.ext b3 (Prod.ext b4 (Prod.ext (Option.some.inj h4) (Prod.ext (Option.some.inj h5) (Prod.ext c2 c3)))))))) a2))
end Mine

-- Hw
namespace Mine
open PySem PySem.W PySem.Calls PySem.Spec PyProof.Rows
theorem saidF : PySem.W.Fast.tw9446332074065402090 PySem.Challenge.rw_pq1424_01 = true := by kernel_rfl
theorem said : PySem.Challenge.rw_pq1424_01.wellSaid = true := by rw [PySem.W.Fast.te9446332074065402090]; exact saidF
end Mine

-- Base
namespace Mine
open PySem PySem.W PySem.Calls PySem.Spec PyProof.Rows

abbrev Off (a : Nat) (ys : List (Addr × Obj)) : Prop := ∀ y ∈ ys, y.1 ≠ a
def Apart (xs ys : List (Addr × Obj)) : Prop := ∀ x ∈ xs, Off x.1 ys
theorem Apart.nil {ys : List (Addr × Obj)} : Apart [] ys := fun _ h => nomatch h
theorem Apart.cons {a : Addr} {o : Obj} {xs ys : List (Addr × Obj)} (h1 : Off a ys) (h2 : Apart xs ys) : Apart ((a, o) :: xs) ys := fun x hx => by
  rcases List.mem_cons.mp hx with rfl | hx
  · exact h1
  · exact h2 x hx
theorem Apart.app {xs xs' ys : List (Addr × Obj)} (h1 : Apart xs ys) (h2 : Apart xs' ys) : Apart (xs ++ xs') ys := fun x hx => (List.mem_append.mp hx).elim (h1 x) (h2 x)
theorem Apart.symm {xs ys : List (Addr × Obj)} (h : Apart xs ys) : Apart ys xs := fun y hy x hx e => h x hx y hy e.symm
theorem Apart.sub {xs xs' ys ys' : List (Addr × Obj)} (h : Apart xs ys) (h1 : ∀ x ∈ xs', x ∈ xs) (h2 : ∀ y ∈ ys', y ∈ ys) : Apart xs' ys' := fun x hx y hy => h x (h1 x hx) y (h2 y hy)
theorem Apart.off {a : Addr} {o : Obj} {xs ys : List (Addr × Obj)} (h : Apart xs ys) (hm : (a, o) ∈ xs) : Off a ys := h _ hm
theorem Apart.offR {a : Addr} {o : Obj} {xs ys : List (Addr × Obj)} (h : Apart xs ys) (hm : (a, o) ∈ ys) : Off a xs := fun x hx e => h x hx _ hm e.symm
theorem Off.of_lt {a : Nat} {ys news : List (Addr × Obj)} (h : ∀ p ∈ news, p.1 < a) (hs : ∀ y ∈ ys, y ∈ news) : Off a ys := fun y hy => Nat.ne_of_lt (h y (hs y hy))
theorem Off.nil {a : Nat} : Off a [] := fun _ h => nomatch h
theorem Off.cons {a : Nat} {b : Addr} {o : Obj} {ys : List (Addr × Obj)} (h1 : @Ne Nat b a) (h2 : Off a ys) : Off a ((b, o) :: ys) := fun y hy => by
  rcases List.mem_cons.mp hy with rfl | hy
  · exact h1
  · exact h2 y hy
theorem Off.app {a : Nat} {ys ys' : List (Addr × Obj)} (h1 : Off a ys) (h2 : Off a ys') : Off a (ys ++ ys') := fun y hy => (List.mem_append.mp hy).elim (h1 y) (h2 y)
theorem Off.sub {a : Nat} {ys ys' : List (Addr × Obj)} (h : Off a ys) (hs : ∀ y ∈ ys', y ∈ ys) : Off a ys' := fun y hy => h y (hs y hy)
theorem Off.ne {a : Nat} {b : Addr} {o : Obj} {ys : List (Addr × Obj)} (h : Off a ys) (hm : (b, o) ∈ ys) : @Ne Nat b a := h _ hm

/-- what a call of f by these values does, told over a small ledger -/
def Tells1 (prog : Program) (w : World) (K : Frag) (p : Program) (loose : List Str) (mean : ExcName → Option Value) (mg mb : Str → Option Value)
    (f : Addr) (vals : List Value) (kw : List (Str × Value)) (room : Nat) (pre : List (Addr × Obj)) (post : Value → List (Addr × Obj) → Prop) : Prop :=
  ∀ (dp un : Nat) (gd : Option (List Code)) (cn : Str) (cs : Scope) (a : Addr) (ccd : Value) (cl : List (Str × Addr)) (outer : List Env) (A₀ : Around) (base h₀ : Heap) (L : Addr) (m : Str → Option Value) (rest : List (Addr × Obj)) (s : Shared)
    (Q E : Value → Shared → Prop),
    Below A₀ base outer h₀ → Fr h₀ L s.heap m → K.In h₀ → News h₀ L s.heap (pre ++ rest) → Top p loose mean mg mb h₀ → cs.kind = .function →
    Apart pre rest → dp + room < recursionLimit → un + 8 * room < cLine →
    (∀ r out h' tk', Fr h₀ L h' m → News h₀ L h' (out ++ rest) → Apart out rest → post r out → Q r { s with heap := h', toks := tk' }) →
    wpAny (model prog w) (ktrTop dp un gd cn cs L a ccd cl outer) (call (.ref f) vals kw) Q E s

/-- the end of a def's body -/
def Fin (g : Heap) (L : Addr) (s : Shared) (post : Value → List (Addr × Obj) → Prop) (fl : Flow) (s' : Shared) : Prop :=
  ∃ h' tk m' out, s' = { s with heap := h', toks := tk } ∧ Fr g L h' m' ∧ News g L h' out ∧ post (match fl with | .ret v => v | _ => .none) out
theorem Fin.mk {g : Heap} {L : Addr} {s : Shared} {post : Value → List (Addr × Obj) → Prop} {fl : Flow} {h' : Heap} {tk : Nat} {m' : Str → Option Value} {news' : List (Addr × Obj)} (out : List (Addr × Obj))
    (F : Fr g L h' m') (N : News g L h' news') (hs : ∀ x ∈ out, x ∈ news') (hp : post (match fl with | .ret v => v | _ => .none) out) : Fin g L s post fl { s with heap := h', toks := tk } :=
  ⟨h', tk, m', out, rfl, F, fun x hx => N x (hs x hx), hp⟩

section
variable {prog : Program} {w : World} {K : Frag} {p : Program} {loose : List Str} {mean : ExcName → Option Value} {mg mb : Str → Option Value} {f : Addr} {vals : List Value} {kw : List (Str × Value)} {room : Nat} {pre : List (Addr × Obj)} {post : Value → List (Addr × Obj) → Prop}

theorem tells1_enter {name qual : Str} {params : Arguments} {body : List Stmt} {scope : Scope} {dV kV doc pm cdv ct oc : Value} {an od : Option Addr} {osl : Array (Option Value)} {binds : List (Str × Value)}
    (ho : K.lookup f = some ⟨oc, od, .func (fnOf name qual params body scope dV kV doc pm an cdv ct), osl⟩) (hcd : codeIn K cdv qual = true) (hroom : 1 ≤ room)
    (hbind : ∀ (s : Shared), K.In s.heap → BindsTo s (fnOf name qual params body scope dV kV doc pm an cdv ct) ⟨vals, kw⟩ binds) (hloc : ∀ y ∈ binds, scope.names.lookup y.1 = some .local)
    (hco : scope.isCoroutine = false) (hgen : scope.isGenerator = false) (hk : scope.kind = .function)
    (hcell : ∀ x ∈ scope.names, x.2 ≠ .cell)
    (h : ∀ (dp un : Nat) (gd : Option (List Code)) (cn : Str) (cs : Scope) (a : Addr) (ccd : Value) (cl : List (Str × Addr)) (outer : List Env) (base g : Heap) (L L' : Addr) (h₁ : Heap) (s : Shared) (tk : Nat),
      dp + room < recursionLimit → un + 8 * room < cLine → Fr g L' h₁ (fun y => binds.reverse.lookup y) → News g L' h₁ pre →
      Below (ktrTop dp un gd cn cs L a ccd cl outer) base (envX cn cs L a ccd cl :: outer) g → K.In g → Top p loose mean mg mb g →
      wpAny (model prog w) ((ktrTop dp un gd cn cs L a ccd cl outer).deeper (envOf qual scope L' f cdv)) (execs body (envOf qual scope L' f cdv))
        (Fin g L' s post) (fun _ _ => False)
        { s with heap := h₁, toks := tk }) :
    Tells1 prog w K p loose mean mg mb f vals kw room pre post := by
  intro dp un gd cn cs a ccd cl outer A₀ base h₀ L m rest s Q E B F X N T hck off hd hu ret
  have N₁ : News h₀ L s.heap pre := fun x hx => N x (List.mem_append_left _ hx)
  refine wpAny_call ?_
  refine code_defG (A := ktrTop dp un gd cn cs L a ccd cl outer) (env := envX cn cs L a ccd cl) B F X N₁ T rfl rfl hck ho hcd (by show dp < _; omega) (hbind s (X.keeps F.keep)) hloc (fun g L' h₁ FG F' N' B' X' T' G => ?_) hco hgen hk hcell
  refine wpAny_mono (h dp un gd cn cs a ccd cl outer base g L L' h₁ s (s.toks + binds.length) hd hu F' N' B' X' T') (fun fl s' hf => ?_) fun _ _ y => y.elim
  obtain ⟨h', tk, m', out, rfl, F₂, N₂, hp⟩ := hf
  refine ⟨L', m', out, F₂, N₂, fun F₃ N₃ => ret _ out h' tk F₃ (fun x hx => ?_) (fun x hx y hy e => ?_) hp⟩
  · rcases List.mem_append.mp hx with hx | hx
    · exact N₃ x hx
    · have hx0 := N x (List.mem_append_right _ hx)
      refine ⟨F₂.keep _ _ (G _ _ hx0.1 fun hm => ?_), hx0.2⟩
      obtain ⟨q, hq, e⟩ := List.mem_map.mp hm
      exact off q hq x hx e.symm
  · have hy0 := N y (List.mem_append_right _ hy)
    have hy1 : g.get? y.1 = some y.2 := G _ _ hy0.1 fun hm => by
      obtain ⟨q, hq, e⟩ := List.mem_map.mp hm
      exact off q hq y hy e.symm
    have := (N₂ x hx).2.2
    rw [← e, hy1] at this
    cases this

theorem tells1_use {dp un : Nat} {gd : Option (List Code)} {cn : Str} {cs : Scope} {a : Addr} {ccd : Value} {cl : List (Str × Addr)} {outer : List Env} {A₀ : Around} {base h₀ : Heap} {L : Addr} {m : Str → Option Value} {news : List (Addr × Obj)} {s : Shared}
    {Q E : Value → Shared → Prop} (C : Tells1 prog w K p loose mean mg mb f vals kw room pre post) (rest : List (Addr × Obj))
    (B : Below A₀ base outer h₀) (F : Fr h₀ L s.heap m) (X : K.In h₀) (N : News h₀ L s.heap news) (T : Top p loose mean mg mb h₀) (hk : cs.kind = .function)
    (hin : ∀ x ∈ pre ++ rest, x ∈ news) (off : Apart pre rest) (hd : dp + room < recursionLimit) (hu : un + 8 * room < cLine)
    (ret : ∀ r out h' tk', Fr h₀ L h' m → News h₀ L h' (out ++ rest) → Apart out rest → post r out → Q r { s with heap := h', toks := tk' }) :
    wpAny (model prog w) (ktrTop dp un gd cn cs L a ccd cl outer) (call (.ref f) vals kw) Q E s :=
  C _ _ _ _ _ _ _ _ _ _ _ _ _ _ rest _ _ _ B F X (fun x hx => N x (hin x hx)) T hk off hd hu ret
/-- a call at which the walk stops -/
def CallAt (M : Model) (A : Around) (f : Addr) (vals : List Value) (kw : List (Str × Value)) (Q E : Value → Shared → Prop) (s : Shared) : Prop := wpAny M A (call (.ref f) vals kw) Q E s
theorem stop_call {M : Model} {A : Around} (f : Addr) {vals : List Value} {kw : List (Str × Value)} {Q E : Value → Shared → Prop} {s : Shared} (h : CallAt M A f vals kw Q E s) : wpAny M A (call (.ref f) vals kw) Q E s := h
theorem callAt_use {dp un : Nat} {gd : Option (List Code)} {cn : Str} {cs : Scope} {a : Addr} {ccd : Value} {cl : List (Str × Addr)} {outer : List Env} {A₀ : Around} {base h₀ : Heap} {L : Addr} {m : Str → Option Value} {news : List (Addr × Obj)} {s : Shared}
    {Q E : Value → Shared → Prop} (C : Tells1 prog w K p loose mean mg mb f vals kw room pre post) (rest : List (Addr × Obj))
    (B : Below A₀ base outer h₀) (F : Fr h₀ L s.heap m) (X : K.In h₀) (N : News h₀ L s.heap news) (T : Top p loose mean mg mb h₀) (hk : cs.kind = .function)
    (hin : ∀ x ∈ pre ++ rest, x ∈ news) (off : Apart pre rest) (hd : dp + room < recursionLimit) (hu : un + 8 * room < cLine)
    (ret : ∀ r out, post r out → ∀ h' tk', Fr h₀ L h' m → News h₀ L h' (out ++ rest) → Apart out rest → Q r { s with heap := h', toks := tk' }) :
    CallAt (model prog w) (ktrTop dp un gd cn cs L a ccd cl outer) f vals kw Q E s :=
  tells1_use C rest B F X N T hk hin off hd hu fun r out h' tk' F' N' ap hp => ret r out hp h' tk' F' N' ap
end
end Mine

-- Rules
namespace Mine
open PySem PySem.W PySem.Calls PySem.Spec PyProof.Rows
section
variable {prog : Program} {w : World} {A : Around} {E : Value → Shared → Prop} {s : Shared} {h₀ : Heap} {L D : Addr} {m : Str → Option Value} {news news' : List (Addr × Obj)} {its its' : Array Value} {n : Nat} {k : Int} {t : Tok} {v : Value}
theorem list_set {Q : Unit → Shared → Prop} (F : Fr h₀ L s.heap m) (N : News h₀ L s.heap news) (h0 : 0 ≤ k) (hfit : k < 2 ^ 63) (h1 : k < its.size) (e : its.setIfInBounds k.toNat v = its') (U : Upd D (listOf its n) (listOf its' n) news news')
    (h : ∀ h', Fr h₀ L h' m → News h₀ L h' news' → Q () { s with heap := h' }) :
    wpAny (model prog w) A (setItem (.ref D) (.int k t) v) Q E s := by
  obtain ⟨pre, post, rfl, rfl, a, b⟩ := U.split
  have z := N (D, listOf its n) (List.mem_append.mpr (.inr (.head _)))
  refine ki_setAt z.1 h0 hfit h1 (h _ (F.change (Heap.SameBut.update ..) z.2.1 z.2.2) (ki_turn _ N a b e ?_))
  rw [← e]; simp
theorem list_copyM {l : Addr} {Q : Value → Shared → Prop} (F : Fr h₀ L s.heap m) (N : News h₀ L s.heap news) (hm : (l, listOf its n) ∈ news) (hsz : its.size ≤ sizeLine)
    (h : ∀ D c h', Fr h₀ L h' m → News h₀ L h' ((D, listOf its c) :: news) → (∀ q ∈ news, q.1 < D) → Q (.ref D) { s with heap := h' }) :
    wpAny (model prog w) A (call (.type "list") [.ref l]) Q E s := list_copyK F N ⟨_, (N _ hm).1, rfl, n, rfl⟩ h hsz
theorem item_at {value slice : PySem.Expr} {Q : Value → Shared → Prop} {l : Addr} {vs : List Value} (N : News h₀ L s.heap news) (hm : (l, listOf vs.toArray n) ∈ news) (h0 : 0 ≤ k) (hfit : k < 2 ^ 63) (hx : vs[k.toNat]? = some v) (h : Q v s)
    (hs : subscripted slice false (.ref l) (.int k t) = operate [.ref l, .int k t] (getItem (.ref l) (.int k t)) := by with_unfolding_all rfl) :
    wpAny (model prog w) A (subscriptTail value slice (.ref l) (.int k t)) Q E s :=
  have hl : s.heap.IsList l vs.toArray := ⟨_, (N _ hm).1, rfl, n, rfl⟩
  tail_any hl.typeIs slot_list_getitem.lookup (wpAny_getItem_list hl h0 hfit (by simpa using hx) h) hs
theorem len_at {vs : List Value} {l : Addr} {Q : Value → Shared → Prop} (N : News h₀ L s.heap news) (hm : (l, listOf vs.toArray n) ∈ news) (hsz : vs.length ≤ 16777216)
    (h : Q (.int (vs.length : Int) (s.toks + 1)) { s with toks := s.toks + 1 + 1 }) : wpAny (model prog w) A (call (.builtin "len") [.ref l]) Q E s := by
  refine len_list (items := vs.toArray) ⟨_, (N _ hm).1, rfl, n, rfl⟩ ?_ ?_
  · rw [List.size_toArray]; omega
  · rw [List.size_toArray]; exact h
theorem append_at {vs : List Value} {x : Value} {Q : Value → Shared → Prop} (F : Fr h₀ L s.heap m) (N : News h₀ L s.heap news) (U : Upd D (listOf vs.toArray n) (listOf (vs ++ [x]).toArray (n + 1)) news news') (hsz : vs.length ≤ 16777216)
    (h : ∀ h', Fr h₀ L h' m → News h₀ L h' news' → Q .none { s with heap := h' }) : wpAny (model prog w) A (call (.builtin "list.append") [.ref D, x]) Q E s := by
  rw [← List.push_toArray] at U
  exact append_K F N U h (by rw [sizeLine_eq, List.size_toArray]; exact hsz)
theorem name1 {h₀ h : Heap} {L a : Addr} {x : Obj} {r : List (Addr × Obj)} {P : Prop} (_N : News h₀ L h ((a, x) :: r)) (k : ∀ a', a' = a → P) : P := k a rfl
theorem name2 {h₀ h : Heap} {L a b : Addr} {x y : Obj} {r : List (Addr × Obj)} {P : Prop} (_N : News h₀ L h ((a, x) :: (b, y) :: r)) (k : ∀ a' b', a' = a → b' = b → P) : P := k a b rfl rfl
theorem name3 {h₀ h : Heap} {L a b c : Addr} {x y z : Obj} {r : List (Addr × Obj)} {P : Prop} (_N : News h₀ L h ((a, x) :: (b, y) :: (c, z) :: r)) (k : ∀ a' b' c', a' = a → b' = b → c' = c → P) : P := k a b c rfl rfl rfl
theorem name4 {h₀ h : Heap} {L a b c d : Addr} {x y z u : Obj} {r : List (Addr × Obj)} {P : Prop} (_N : News h₀ L h ((a, x) :: (b, y) :: (c, z) :: (d, u) :: r)) (k : ∀ a' b' c' d', a' = a → b' = b → c' = c → d' = d → P) : P := k a b c d rfl rfl rfl rfl
theorem nameI {h₀ h : Heap} {L : Addr} {m : Str → Option Value} (_F : Fr h₀ L h m) (x : Str) {i : Int} {t : Tok} (_hx : m x = some (.int i t)) {P : Prop} (k : ∀ t', t' = t → P) : P := k t rfl
theorem nameO {h₀ h : Heap} {L a : Addr} {x : Obj} {r : List (Addr × Obj)} {P : Prop} (_N : News h₀ L h ((a, x) :: r)) (k : ∀ x', x' = x → P) : P := k x rfl
end
end Mine

-- Plain
namespace Mine
open PySem
/-- the plain law: a queue search and a layer search go the same way -/
def ups (G : List (Str × List Str)) (x : Str) : List Str := ((G.find? fun e => e.1 = x).map (·.2)).getD []
def keys (G : List (Str × List Str)) : List Str := G.map (·.1)
def addOne (ns : List Str) (p : Str) : List Str := if p ∈ ns then ns else ns ++ [p]
def addNew (ns ps : List Str) : List Str := ps.foldl addOne ns
def bfs (G : List (Str × List Str)) : Nat → List Str → Nat → List Str
  | 0, ns, _ => ns
  | f + 1, ns, i => match ns[i]? with
    | none => ns
    | some x => bfs G f (addNew ns (ups G x)) (i + 1)
def rowOf (G : List (Str × List Str)) (x : Str) : List Str := bfs G (keys G).length [x] 0
structure Closed (G : List (Str × List Str)) : Prop where
  nodup : (keys G).Nodup
  within : ∀ x, ∀ p ∈ ups G x, p ∈ keys G

theorem addNew_nil (ns : List Str) : addNew ns [] = ns := rfl
theorem addNew_snoc (ns ps : List Str) (p : Str) : addNew ns (ps ++ [p]) = addOne (addNew ns ps) p := by simp [addNew]
theorem addOne_mem {ns : List Str} {p x : Str} : x ∈ addOne ns p ↔ x ∈ ns ∨ x = p := by
  unfold addOne
  split
  · rename_i h
    constructor
    · exact .inl
    · rintro (h' | rfl)
      · exact h'
      · exact h
  · simp
theorem addOne_nodup {ns : List Str} {p : Str} (h : ns.Nodup) : (addOne ns p).Nodup := by
  unfold addOne
  split
  · exact h
  · rename_i hn
    rw [List.nodup_append]
    refine ⟨h, by simp, ?_⟩
    intro a ha b hb
    rw [List.mem_singleton] at hb
    subst hb
    exact fun e => hn (e ▸ ha)
theorem addOne_prefix (ns : List Str) (p : Str) : ns <+: addOne ns p := by
  unfold addOne
  split
  · exact List.prefix_rfl
  · exact List.prefix_append _ _
theorem addNew_mem {ps : List Str} : ∀ {ns : List Str} {x : Str}, x ∈ addNew ns ps ↔ x ∈ ns ∨ x ∈ ps := by
  induction ps with
  | nil => intro ns x; simp [addNew]
  | cons p r ih =>
    intro ns x
    show x ∈ addNew (addOne ns p) r ↔ _
    rw [ih, addOne_mem, List.mem_cons]
    constructor
    · rintro ((h | h) | h)
      · exact .inl h
      · exact .inr (.inl h)
      · exact .inr (.inr h)
    · rintro (h | h | h)
      · exact .inl (.inl h)
      · exact .inl (.inr h)
      · exact .inr h
theorem addNew_nodup {ps : List Str} : ∀ {ns : List Str}, ns.Nodup → (addNew ns ps).Nodup := by
  induction ps with
  | nil => intro ns h; exact h
  | cons p r ih => intro ns h; exact ih (addOne_nodup h)
theorem addNew_prefix (ps : List Str) : ∀ (ns : List Str), ns <+: addNew ns ps := by
  induction ps with
  | nil => intro ns; exact List.prefix_rfl
  | cons p r ih => intro ns; exact (addOne_prefix ns p).trans (ih _)

theorem addNew_len (ns ps : List Str) : ns.length ≤ (addNew ns ps).length := (addNew_prefix ps ns).length_le

theorem length_le_of_nodup_subset : ∀ {a b : List Str}, a.Nodup → (∀ x ∈ a, x ∈ b) → a.length ≤ b.length := by
  intro a
  induction a with
  | nil => intro b _ _; exact Nat.zero_le _
  | cons x r ih =>
    intro b hn hs
    obtain ⟨hx, hr⟩ := List.nodup_cons.mp hn
    have hb : x ∈ b := hs x (.head _)
    have := ih (b := b.erase x) hr fun y hy => by
      have hyb := hs y (.tail _ hy)
      exact (List.mem_erase_of_ne (fun (e : y = x) => hx (e ▸ hy))).mpr hyb
    rw [List.length_erase_of_mem hb] at this
    have hpos : 0 < b.length := List.length_pos_of_mem hb
    show r.length + 1 ≤ b.length
    omega

theorem bfs_end {G : List (Str × List Str)} {f : Nat} {ns : List Str} {i : Nat} (h : ns.length ≤ i) : bfs G f ns i = ns := by
  cases f with
  | zero => rfl
  | succ f =>
    unfold bfs
    rw [List.getElem?_eq_none h]
theorem bfs_step {G : List (Str × List Str)} {f : Nat} {ns : List Str} {i : Nat} {x : Str} (h : ns[i]? = some x) : bfs G (f + 1) ns i = bfs G f (addNew ns (ups G x)) (i + 1) := by
  show (match ns[i]? with | none => ns | some x => bfs G f (addNew ns (ups G x)) (i + 1)) = _
  rw [h]

/-- where a search stands -/
structure At (G : List (Str × List Str)) (x : Str) (ns : List Str) (i : Nat) : Prop where
  nodup : ns.Nodup
  within : ∀ y ∈ ns, y ∈ keys G
  head : ns.head? = some x
  goes : bfs G ((keys G).length - i) ns i = rowOf G x
theorem At.start {G : List (Str × List Str)} {x : Str} (h : x ∈ keys G) : At G x [x] 0 := ⟨by simp, by simpa using h, rfl, rfl⟩
theorem At.len {G : List (Str × List Str)} {x : Str} {ns : List Str} {i : Nat} (_C : Closed G) (a : At G x ns i) : ns.length ≤ (keys G).length := length_le_of_nodup_subset a.nodup a.within
theorem At.step {G : List (Str × List Str)} {x y : Str} {ns : List Str} {i : Nat} (C : Closed G) (a : At G x ns i) (h : ns[i]? = some y) : At G x (addNew ns (ups G y)) (i + 1) := by
  have hlt : i < ns.length := (List.getElem?_eq_some_iff.mp h).1
  have hle := a.len C
  refine ⟨addNew_nodup a.nodup, fun z hz => ?_, ?_, ?_⟩
  · rcases addNew_mem.mp hz with hz | hz
    · exact a.within z hz
    · exact C.within y z hz
  · obtain ⟨t, ht⟩ := addNew_prefix (ups G y) ns
    rw [← ht, List.head?_append, a.head]; rfl
  · have e : (keys G).length - i = ((keys G).length - (i + 1)) + 1 := by omega
    rw [← a.goes, e, bfs_step h]
theorem At.done {G : List (Str × List Str)} {x : Str} {ns : List Str} {i : Nat} (a : At G x ns i) (h : ns.length ≤ i) : ns = rowOf G x := by
  rw [← a.goes, bfs_end h]

theorem rowOf_exists {G : List (Str × List Str)} {x : Str} (C : Closed G) (hx : x ∈ keys G) : ∃ i, At G x (rowOf G x) i := by
  have go : ∀ (k i : Nat) (ns : List Str), At G x ns i → (keys G).length ≤ i + k → ∃ j, At G x (rowOf G x) j := by
    intro k
    induction k with
    | zero => intro i ns a h; have := a.len C; exact ⟨i, (a.done (by omega)) ▸ a⟩
    | succ k ih =>
      intro i ns a h
      by_cases hi : ns.length ≤ i
      · exact ⟨i, (a.done hi) ▸ a⟩
      · have hlt : i < ns.length := by omega
        exact ih (i + 1) _ (a.step C (List.getElem?_eq_getElem hlt)) (by omega)
  exact go (keys G).length 0 _ (At.start hx) (by omega)
end Mine

-- Loops
namespace Mine
open PySem PySem.W PySem.Calls PySem.Spec PyProof.Rows

/-- the names of `stored` are forgotten -/
def mix (stored : List Str) (u ms : Str → Option Value) : Str → Option Value := fun y => if stored.contains y then u y else ms y
def Mis (stored : List Str) (ms m : Str → Option Value) : Prop := ∀ y, stored.contains y = false → m y = ms y
theorem mix_of {stored : List Str} {ms m : Str → Option Value} (h : Mis stored ms m) : mix stored m ms = m := by
  funext y
  unfold mix
  cases hc : stored.contains y with
  | true => rfl
  | false => exact (h y hc).symm
theorem Mis.rfl' {stored : List Str} {ms : Str → Option Value} : Mis stored ms ms := fun _ _ => rfl


theorem mix_out {stored : List Str} {u ms : Str → Option Value} {y : Str} (h : stored.contains y = false) : mix stored u ms y = ms y := by unfold mix; rw [h]; rfl
theorem out3 {a b c y : Str} (h : ([a, b, c] : List Str).contains y = false) : y ≠ a ∧ y ≠ b ∧ y ≠ c := by
  simp only [List.contains_cons, List.contains_nil, Bool.or_false, Bool.or_eq_false_iff, beq_eq_false_iff_ne, ne_eq] at h
  exact h
theorem in1 {a y : Str} (h : y ≠ a) : ([a] : List Str).contains y = false := by simp [h]
theorem Mis.mix {stored : List Str} {u ms : Str → Option Value} : Mis stored ms (mix stored u ms) := fun y hy => by unfold Mine.mix; rw [hy]; rfl
theorem Mis.put {stored : List Str} {m ms : Str → Option Value} {x : Str} {v : Option Value} (hx : stored.contains x = true) (h : Mis stored ms m) : Mis stored ms (fun y => if y = x then v else m y) := fun y hy => by
  have : y ≠ x := fun e => by rw [e, hx] at hy; cases hy
  show (if y = x then v else m y) = _
  rw [if_neg this]
  exact h y hy

/-- how an iterator walks -/
structure Steps (prog : Program) (w : World) (A : Around) (n : Nat) (V : Nat → Value → Prop) (IO : Nat → Obj → Prop) (Src : Heap → Prop) : Prop where
  item : ∀ I i o (s : Shared) (Q : Option Value → Shared → Prop) (E : Value → Shared → Prop), i < n → IO i o → s.heap.get? I = some o → Src s.heap →
    (∀ v h' tk o', V i v → IO (i + 1) o' → h'.get? I = some o' → Heap.SameBut I s.heap h' → Q (some v) { s with heap := h', toks := tk }) → wpAny (model prog w) A (pyNext (.ref I)) Q E s
  done : ∀ I o (s : Shared) (Q : Option Value → Shared → Prop) (E : Value → Shared → Prop), IO n o → s.heap.get? I = some o → Src s.heap →
    (∀ h' tk, Heap.ExtBut I s.heap h' → Q none { s with heap := h', toks := tk }) → wpAny (model prog w) A (pyNext (.ref I)) Q E s

theorem Steps.list {prog : Program} {w : World} {A : Around} (hh : A.handled = none) (l : Addr) (items : Array Value) :
    Steps prog w A items.size (fun i v => items[i]? = some v) (fun i o => o.cls = .type "list_iterator" ∧ o.data = .fields #[.ref l, .int i 0]) (fun h => h.IsList l items) where
  item := fun I i o s Q E hi hio hI hs hQ => by
    refine wpAny_pyNext_list_item ⟨o, hI, hio⟩ hs (x := items[i]) (by simp [hi]) fun h' hit' hs' => ?_
    obtain ⟨o', ho', hio'⟩ := hit'
    exact hQ _ h' s.toks o' (by simp [hi]) hio' ho' hs'
  done := fun I o s Q E hio hI hs hQ => wpAny_pyNext_list_end hh ⟨o, hI, hio⟩ hs (by simp) fun h' he' => hQ h' s.toks he'

theorem Steps.range {prog : Program} {w : World} {A : Around} (hh : A.handled = none) (a : Int) (n : Nat) :
    Steps prog w A n (fun i v => ∃ t, v = .int (a + i) t) (fun i o => o = { cls := .type "range_iterator", dict := none, data := .fields #[rawInt (a + i), rawInt ((n : Int) - i), rawInt 1], slots := #[] }) (fun _ => True) where
  item := fun I i o s Q E hi hio hI hs hQ => by
    subst hio
    refine wpAny_pyNext_range_item (x := a + i) (left := (n : Int) - i) (step := 1) hI (by omega) fun h' hit' hs' => ?_
    refine hQ _ h' _ _ ⟨_, rfl⟩ ?_ hit' hs'
    have e1 : a + ((i + 1 : Nat) : Int) = a + i + 1 := by omega
    have e2 : (n : Int) - ((i + 1 : Nat) : Int) = (n : Int) - i - 1 := by omega
    rw [e1, e2]
  done := fun I o s Q E hio hI hs hQ => by
    subst hio
    exact wpAny_pyNext_range_end hh (x := a + n) (left := (n : Int) - n) (step := 1) hI (by omega) fun h' he' => hQ h' s.toks he'

/-- what a for-loop is, once its source is known -/
def ForAt (prog : Program) (w : World) (A : Around) (env : Env) (target : Expr) (body : List Stmt) (Q : Flow → Shared → Prop) (E : Value → Shared → Prop) (xv : Value) (s₁ : Shared) : Prop :=
  wpAny (model prog w) A (pyIter xv) (fun it s₂ => codeAny (model prog w) A (.forLoop target it body [] env) (fun r s' => match r with | .ok f => Q f s' | .error e => cameBackBy (model prog w) A env E e s') s₂) E s₁

/-- the end of a turn -/
def TurnEnd {σ : Type} (h₀ : Heap) (L : Addr) (Led : σ → List (Addr × Obj)) (ms : σ → Str → Option Value) (stored : List Str) (P : σ → Prop) (rest : List (Addr × Obj)) (s₁ : Shared) (Q : Flow → Shared → Prop) (f : Flow) (s₂ : Shared) : Prop :=
  match f with
  | .ret v => Q (.ret v) s₂
  | .brk => Q .next s₂
  | _ => ∃ c' h' tk m', s₂ = { s₁ with heap := h', toks := tk } ∧ Fr h₀ L h' m' ∧ Mis stored (ms c') m' ∧ News h₀ L h' (Led c' ++ rest) ∧ Apart (Led c') rest ∧ P c'
theorem TurnEnd.next {σ : Type} {h₀ : Heap} {L : Addr} {Led : σ → List (Addr × Obj)} {ms : σ → Str → Option Value} {stored : List Str} {P : σ → Prop} {rest : List (Addr × Obj)} {s₁ : Shared} {Q : Flow → Shared → Prop} {h' : Heap} {tk : Nat} {m' : Str → Option Value} {news' : List (Addr × Obj)}
    (c' : σ) (F : Fr h₀ L h' m') (hm : Mis stored (ms c') m') (N : News h₀ L h' news') (hs : ∀ x ∈ Led c' ++ rest, x ∈ news') (ap : Apart (Led c') rest) (hp : P c') :
    TurnEnd h₀ L Led ms stored P rest s₁ Q .next { s₁ with heap := h', toks := tk } := ⟨c', h', tk, m', rfl, F, hm, fun x hx => N x (hs x hx), ap, hp⟩

section
variable {prog : Program} {w : World} {A : Around} {s : Shared} {env : Env} {h₀ : Heap} {E : Value → Shared → Prop} {Q : Flow → Shared → Prop} {target : Expr} {body : List Stmt}
theorem for_start {iter : Expr} {pos : Pos} (hs : ∀ x, foldedSetIterable iter env x = pure x)
    (h : wpAny (model prog w) A (eval iter env) (fun xv s₁ => ForAt prog w A env target body Q E xv s₁) E s) : wpAny (model prog w) A (exec (.For target iter body [] pos) env) Q E s :=
  wpAny_For h hs

theorem forLoop_steps {σ : Type} {n : Nat} {V : Nat → Value → Prop} {IO : Nat → Obj → Prop} {Src : Heap → Prop} (S : Steps prog w A n V IO Src) {I : Addr} {o₀ : Obj} {m₀ : Str → Option Value}
    (Led : σ → List (Addr × Obj)) (ms : σ → Str → Option Value) (stored : List Str) (P : Nat → σ → Prop) (rest : List (Addr × Obj)) (c₀ : σ)
    (hE : PassesOwn (model prog w) A env E) (hIL : I ≠ env.locals) (hI0 : h₀.get? I = none) (ho : IO 0 o₀) (hI : s.heap.get? I = some o₀)
    (hgo : ∀ i v o (s' : Shared) (Q' : Unit → Shared → Prop), V i v → s'.heap.get? I = some o → IO (i + 1) o → Q' () s' → wpAny (model prog w) A (letOwnedTupleGo target (.ref I) v) Q' E s')
    (F : Fr h₀ env.locals s.heap m₀) (N : News h₀ env.locals s.heap (Led c₀ ++ rest)) (ap : Apart (Led c₀) rest) (hIn : ∀ x ∈ Led c₀ ++ rest, x.1 ≠ I)
     (hm : Mis stored (ms c₀) m₀) (h0 : P 0 c₀)
    (hsrc' : ∀ c h m, Fr h₀ env.locals h m → News h₀ env.locals h (Led c ++ rest) → Src h)
    (turn : ∀ i v c u oI h tk, i < n → V i v → P i c → Fr h₀ env.locals h (mix stored u (ms c)) → News h₀ env.locals h (Led c ++ (I, oI) :: rest) → Apart (Led c) ((I, oI) :: rest) →
      wpAny (model prog w) A (assign target env v) (fun _ s₂ => wpAny (model prog w) A (execs body env) (TurnEnd h₀ env.locals Led ms stored (P (i + 1)) ((I, oI) :: rest) { s with heap := h, toks := tk } Q) E s₂) E { s with heap := h, toks := tk })
    (done : ∀ c u h tk, P n c → Fr h₀ env.locals h (mix stored u (ms c)) → News h₀ env.locals h (Led c ++ rest) → Apart (Led c) rest → Q .next { s with heap := h, toks := tk }) :
    codeAny (model prog w) A (.forLoop target (.ref I) body [] env) (fun r s' => match r with | .ok f => Q f s' | .error e => cameBackBy (model prog w) A env E e s') s := by
  refine codeAny_forLoop_any
    (fun k s' => ∃ h' tk m' c i o, s' = { s with heap := h', toks := tk } ∧ h'.get? I = some o ∧ IO i o ∧ Fr h₀ env.locals h' m' ∧ Mis stored (ms c) m' ∧ News h₀ env.locals h' (Led c ++ rest) ∧ Apart (Led c) rest ∧ (∀ x ∈ Led c ++ rest, x.1 ≠ I) ∧ P i c ∧ i ≤ n ∧ k = n + 1 - i) ?_ (n + 1)
    ⟨s.heap, s.toks, m₀, c₀, 0, o₀, rfl, hI, ho, F, hm, N, ap, hIn, h0, Nat.zero_le _, rfl⟩
  rintro k s' ⟨h', tk, m', c, i, o, rfl, hI', hio, F', hm', N', ap', hIn', hP, hi, rfl⟩
  by_cases hlt : i < n
  · refine S.item I i o _ _ _ hlt hio hI' (hsrc' c _ _ F' N') fun v h₁ tk₁ o₁ hV hio₁ hI₁ hs₁ => ?_
    have F₁ := F'.change hs₁ hIL hI0
    have N₁ : News h₀ env.locals h₁ (Led c ++ (I, o₁) :: rest) := fun x hx => by
      rcases List.mem_append.mp hx with hx | hx
      · exact ⟨(hs₁.2 _ (hIn' x (List.mem_append_left _ hx))).trans (N' x (List.mem_append_left _ hx)).1, (N' x (List.mem_append_left _ hx)).2⟩
      · rcases List.mem_cons.mp hx with rfl | hx
        · exact ⟨hI₁, hIL, hI0⟩
        · exact ⟨(hs₁.2 _ (hIn' x (List.mem_append_right _ hx))).trans (N' x (List.mem_append_right _ hx)).1, (N' x (List.mem_append_right _ hx)).2⟩
    have ap₁ : Apart (Led c) ((I, o₁) :: rest) := fun x hx y hy => by
      rcases List.mem_cons.mp hy with rfl | hy
      · exact fun e => hIn' x (List.mem_append_left _ hx) e.symm
      · exact ap' x hx y hy
    rw [← mix_of hm'] at F₁
    refine wpAny_passesOwn hE (hgo i v o₁ { s with heap := h₁, toks := tk₁ } _ hV hI₁ hio₁ ?_)
    refine wpAny_mono (turn i v c m' o₁ h₁ tk₁ hlt hV hP F₁ N₁ ap₁) (fun _ s₂ h₂ => wpAny_passesOwn hE (wpAny_mono h₂ (fun f s₃ h₃ => ?_) fun _ _ e => e)) fun e s' he => hE e s' he
    have fin : TurnEnd h₀ env.locals Led ms stored (P (i + 1)) ((I, o₁) :: rest) { s with heap := h₁, toks := tk₁ } Q .next s₃ →
        ∃ m, m < n + 1 - i ∧ ∃ h' tk m' c i o, s₃ = { s with heap := h', toks := tk } ∧ h'.get? I = some o ∧ IO i o ∧ Fr h₀ env.locals h' m' ∧ Mis stored (ms c) m' ∧ News h₀ env.locals h' (Led c ++ rest) ∧ Apart (Led c) rest ∧ (∀ x ∈ Led c ++ rest, x.1 ≠ I) ∧ P i c ∧ i ≤ n ∧ m = n + 1 - i := by
      rintro ⟨c', h₃', tk₃, m₃, rfl, F₃, hm₃, N₃, ap₃, hP₃⟩
      refine ⟨n + 1 - (i + 1), by omega, h₃', tk₃, m₃, c', i + 1, o₁, rfl, (N₃ (I, o₁) (List.mem_append_right _ (.head _))).1, hio₁, F₃, hm₃, fun x hx => ?_, fun x hx y hy => ap₃ x hx y (.tail _ hy), fun x hx => ?_, hP₃, hlt, rfl⟩
      · rcases List.mem_append.mp hx with hx | hx
        · exact N₃ x (List.mem_append_left _ hx)
        · exact N₃ x (List.mem_append_right _ (.tail _ hx))
      · rcases List.mem_append.mp hx with hx | hx
        · exact fun e => ap₃ x hx (I, o₁) (.head _) e.symm
        · exact hIn' x (List.mem_append_right _ hx)
    cases f with
    | ret v => exact h₃
    | brk => exact h₃
    | next => exact fin h₃
    | cont => exact fin h₃
  · have hin : i = n := by omega
    subst hin
    refine S.done I o _ _ _ hio hI' (hsrc' c _ _ F' N') fun h₁ tk₁ he₁ => wpAny_execs_nil ?_
    have F₁ : Fr h₀ env.locals h₁ m' := ⟨F'.ns.at' fun o e => he₁ _ o (Ne.symm hIL) e, fun b o e => he₁ b o (fun q => by rw [q, hI0] at e; cases e) (F'.keep b o e), F'.above⟩
    rw [← mix_of hm'] at F₁
    exact done c m' h₁ tk₁ hP F₁ (fun x hx => ⟨he₁ _ _ (hIn' x hx) (N' x hx).1, (N' x hx).2⟩) ap'

/-- a for over a list that stands still -/
theorem for_list {σ : Type} {l : Addr} {items : Array Value} {nn : Nat} {m₀ : Str → Option Value} {news : List (Addr × Obj)}
    (Led : σ → List (Addr × Obj)) (ms : σ → Str → Option Value) (stored : List Str) (P : Nat → σ → Prop) (rest : List (Addr × Obj)) (c₀ : σ)
    (hh : A.handled = none) (hE : PassesOwn (model prog w) A env E)
    (hgo : (∃ x px, target = .Name x px) ∨ ((∃ es a p, target = .Tuple es a p) ∧ ∀ (i : Nat) (v : Value), items[i]? = some v → ∃ T, v = Value.ref T))
    (F : Fr h₀ env.locals s.heap m₀) (N : News h₀ env.locals s.heap news) (hin : ∀ x ∈ Led c₀ ++ rest, x ∈ news) (ap : Apart (Led c₀) rest)
    (hl : (∃ o, h₀.get? l = some o ∧ o.cls = .type "list" ∧ ∃ k, o.data = .seq items k) ∨ ∀ c, (l, listOf items nn) ∈ Led c ++ rest)
    (hm : Mis stored (ms c₀) m₀) (h0 : P 0 c₀)
    (turn : ∀ i v c u I oI h tk, items[i]? = some v → P i c → Fr h₀ env.locals h (mix stored u (ms c)) → News h₀ env.locals h (Led c ++ (I, oI) :: rest) → Apart (Led c) ((I, oI) :: rest) →
      wpAny (model prog w) A (assign target env v) (fun _ s₂ => wpAny (model prog w) A (execs body env) (TurnEnd h₀ env.locals Led ms stored (P (i + 1)) ((I, oI) :: rest) { s with heap := h, toks := tk } Q) E s₂) E { s with heap := h, toks := tk })
    (done : ∀ c u h tk, P items.size c → Fr h₀ env.locals h (mix stored u (ms c)) → News h₀ env.locals h (Led c ++ rest) → Apart (Led c) rest → Q .next { s with heap := h, toks := tk }) :
    ForAt prog w A env target body Q E (.ref l) s := by
  have N₁ : News h₀ env.locals s.heap (Led c₀ ++ rest) := fun x hx => N x (hin x hx)
  have src : ∀ c h m, Fr h₀ env.locals h m → News h₀ env.locals h (Led c ++ rest) → h.IsList l items := fun c h m F' N' => by
    rcases hl with ⟨o, ho, hc, k, hd⟩ | hl
    · exact ⟨o, F'.keep _ _ ho, hc, k, hd⟩
    · exact ⟨_, (N' _ (hl c)).1, rfl, nn, rfl⟩
  have hls := src c₀ _ _ F N₁
  unfold ForAt
  refine wpAny_pyIter_list hls ?_
  refine forLoop_steps (s := { s with heap := s.heap.push { cls := .type "list_iterator", data := .fields #[.ref l, .int 0 0] } }) (Steps.list hh l items) Led ms stored P rest c₀ hE (Nat.ne_of_gt F.ns.lt) (next_is_new F) ⟨rfl, rfl⟩ (Heap.get?_push_size _ rfl) ?_
    (F.push _) (fun x hx => ⟨Heap.get?_push_of_some _ (N₁ x hx).1, (N₁ x hx).2⟩) ap (fun x hx => Nat.ne_of_lt (Heap.lt_size (N₁ x hx).1)) hm h0 src ?_ done
  · intro i v o s' Q' hV hI hio hq
    rcases hgo with ⟨x, px, rfl⟩ | ⟨⟨es, a, p, rfl⟩, hT⟩
    · exact wpAny_pure hq
    · obtain ⟨T, rfl⟩ := hT i v hV
      exact wpAny_letOwnedTupleGo_listiter ⟨o, hI, hio⟩ hq
  · intro i v c u oI h tk _ hV hP F' N' ap'
    exact turn i v c u _ oI h tk hV hP F' N' ap'

/-- the same, where the turns turn the forgotten names alone -/
theorem for_listC {σ : Type} {l : Addr} {items : Array Value} {nn : Nat} {m₀ : Str → Option Value} {news : List (Addr × Obj)}
    (Led : σ → List (Addr × Obj)) (stored : List Str) (P : Nat → σ → Prop) (rest : List (Addr × Obj)) (c₀ : σ)
    (hh : A.handled = none) (hE : PassesOwn (model prog w) A env E)
    (hgo : (∃ x px, target = .Name x px) ∨ ((∃ es a p, target = .Tuple es a p) ∧ ∀ (i : Nat) (v : Value), items[i]? = some v → ∃ T, v = Value.ref T))
    (F : Fr h₀ env.locals s.heap m₀) (N : News h₀ env.locals s.heap news) (hin : ∀ x ∈ Led c₀ ++ rest, x ∈ news) (ap : Apart (Led c₀) rest)
    (hl : (∃ o, h₀.get? l = some o ∧ o.cls = .type "list" ∧ ∃ k, o.data = .seq items k) ∨ ∀ c, (l, listOf items nn) ∈ Led c ++ rest)
    (h0 : P 0 c₀)
    (turn : ∀ i v c u I oI h tk, items[i]? = some v → P i c → Fr h₀ env.locals h (mix stored u m₀) → News h₀ env.locals h (Led c ++ (I, oI) :: rest) → Apart (Led c) ((I, oI) :: rest) →
      wpAny (model prog w) A (assign target env v) (fun _ s₂ => wpAny (model prog w) A (execs body env) (TurnEnd h₀ env.locals Led (fun _ => m₀) stored (P (i + 1)) ((I, oI) :: rest) { s with heap := h, toks := tk } Q) E s₂) E { s with heap := h, toks := tk })
    (done : ∀ c u h tk, P items.size c → Fr h₀ env.locals h (mix stored u m₀) → News h₀ env.locals h (Led c ++ rest) → Apart (Led c) rest → Q .next { s with heap := h, toks := tk }) :
    ForAt prog w A env target body Q E (.ref l) s :=
  for_list Led (fun _ => m₀) stored P rest c₀ hh hE hgo F N hin ap hl Mis.rfl' h0 turn done

/-- a for over a range by ones -/
theorem for_range {σ : Type} {r : Addr} {a₀ b₀ : Int} {t₀ u₀ v₀ : Tok} {n : Nat} {m₀ : Str → Option Value} {news : List (Addr × Obj)} {x : Str} {px : Pos}
    (Led : σ → List (Addr × Obj)) (ms : σ → Str → Option Value) (stored : List Str) (P : Nat → σ → Prop) (rest : List (Addr × Obj)) (c₀ : σ)
    (hh : A.handled = none) (hE : PassesOwn (model prog w) A env E) (hr : IsRange s.heap r a₀ b₀ 1 t₀ u₀ v₀) (hsmall : Builtin.Range.small a₀ b₀ 1 = true) (hn : Builtin.Range.rangeSize a₀ b₀ 1 = (n : Int))
    (F : Fr h₀ env.locals s.heap m₀) (N : News h₀ env.locals s.heap news) (hin : ∀ x ∈ Led c₀ ++ rest, x ∈ news) (ap : Apart (Led c₀) rest)
    (hm : Mis stored (ms c₀) m₀) (h0 : P 0 c₀)
    (turn : ∀ i t c u I oI h tk, i < n → P i c → Fr h₀ env.locals h (mix stored u (ms c)) → News h₀ env.locals h (Led c ++ (I, oI) :: rest) → Apart (Led c) ((I, oI) :: rest) →
      wpAny (model prog w) A (assign (.Name x px) env (.int (a₀ + (i : Nat)) t)) (fun _ s₂ => wpAny (model prog w) A (execs body env) (TurnEnd h₀ env.locals Led ms stored (P (i + 1)) ((I, oI) :: rest) { s with heap := h, toks := tk } Q) E s₂) E { s with heap := h, toks := tk })
    (done : ∀ c u h tk, P n c → Fr h₀ env.locals h (mix stored u (ms c)) → News h₀ env.locals h (Led c ++ rest) → Apart (Led c) rest → Q .next { s with heap := h, toks := tk }) :
    ForAt prog w A env (.Name x px) body Q E (.ref r) s := by
  have N₁ : News h₀ env.locals s.heap (Led c₀ ++ rest) := fun x hx => N x (hin x hx)
  unfold ForAt
  refine wpAny_pyIter_range hr hsmall ?_
  refine forLoop_steps (s := { s with heap := s.heap.push { cls := .type "range_iterator", data := .fields #[rawInt a₀, rawInt (Builtin.Range.rangeSize a₀ b₀ 1), rawInt 1] } }) (Steps.range hh a₀ n) Led ms stored P rest c₀ hE (Nat.ne_of_gt F.ns.lt) (next_is_new F) (o₀ := { cls := .type "range_iterator", dict := none, data := .fields #[rawInt (a₀ + ((0 : Nat) : Int)), rawInt ((n : Int) - ((0 : Nat) : Int)), rawInt 1], slots := #[] }) rfl ?_ ?_
    (F.push _) (fun x hx => ⟨Heap.get?_push_of_some _ (N₁ x hx).1, (N₁ x hx).2⟩) ap (fun x hx => Nat.ne_of_lt (Heap.lt_size (N₁ x hx).1)) hm h0 (fun _ _ _ _ _ => trivial) ?_ done
  · have e1 : a₀ + ((0 : Nat) : Int) = a₀ := by omega
    have e2 : (n : Int) - ((0 : Nat) : Int) = (n : Int) := by omega
    rw [e1, e2, ← hn]
    exact Heap.get?_push_size _ rfl
  · intro i v o s' Q' hV hI hio hq
    exact wpAny_pure hq
  · rintro i v c u oI h tk hi ⟨t, rfl⟩ hP F' N' ap'
    exact turn i t c u _ oI h tk hi hP F' N' ap'

/-- a for over an empty dict -/
theorem for_nothing {K : Type} [DecidableEq K] {knd : KeyKind prog w K} {d : Addr} {o : Obj} {m₀ : Str → Option Value} {news : List (Addr × Obj)} (hh : A.handled = none) (hE : PassesOwn (model prog w) A env E)
    (F : Fr h₀ env.locals s.heap m₀) (N : News h₀ env.locals s.heap news) (hm : (d, o) ∈ news) (hd : o.IsDictOf knd []) (lo : (d == sysModules) = false)
    (done : ∀ h tk, Fr h₀ env.locals h m₀ → News h₀ env.locals h news → Q .next { s with heap := h, toks := tk }) : ForAt prog w A env target body Q E (.ref d) s := by
  obtain ⟨ep, hD⟩ := Heap.DictOf.dictAt (Heap.dictOf_iff.mpr ⟨o, (N _ hm).1, hd⟩)
  unfold ForAt
  refine wpAny_pyIter_dict lo hD ?_
  refine codeAny_forLoop_any (fun _ s' => s' = { s with heap := s.heap.push { cls := .type "dict_keyiterator", data := .fields #[.ref d, .int 0 0, .int 0 0, .int ep 0] } }) ?_ 0 rfl
  rintro k s' rfl
  refine wpAny_pyNext_dict_end hh (kvs := ([] : List (K × Value))) (i := 0) ⟨_, Heap.get?_push_size _ rfl, rfl, rfl⟩ (hD.push _) (by simp) fun h' he => wpAny_execs_nil ?_
  have hk : ∀ b o, s.heap.get? b = some o → h'.get? b = some o := fun b o e => he b o (Nat.ne_of_lt (Heap.lt_size e)) (Heap.get?_push_of_some _ e)
  exact done h' s.toks (F.keeps hk) (N.grown hk)

/-- a while at which the walk stops -/
def WhileAt (prog : Program) (w : World) (A : Around) (env : Env) (test : Expr) (body : List Stmt) (pos : Pos) (Q : Flow → Shared → Prop) (E : Value → Shared → Prop) (s : Shared) : Prop := wpAny (model prog w) A (exec (.While test body [] pos) env) Q E s
theorem while_start {test : Expr} {pos : Pos} (h : WhileAt prog w A env test body pos Q E s) : wpAny (model prog w) A (exec (.While test body [] pos) env) Q E s := h
theorem while_st {σ : Type} {test : Expr} {pos : Pos} {L : Addr} {m₀ : Str → Option Value} {news : List (Addr × Obj)} (Led : σ → List (Addr × Obj)) (ms : σ → Str → Option Value) (stored : List Str) (P : σ → Prop) (μ : σ → Nat) (rest : List (Addr × Obj)) (c₀ : σ)
    (hE : PassesOwn (model prog w) A env E) (F : Fr h₀ L s.heap m₀) (N : News h₀ L s.heap news) (hin : ∀ x ∈ Led c₀ ++ rest, x ∈ news) (ap : Apart (Led c₀) rest) (hm : Mis stored (ms c₀) m₀) (h0 : P c₀)
    (turn : ∀ c u h tk, P c → Fr h₀ L h (mix stored u (ms c)) → News h₀ L h (Led c ++ rest) → Apart (Led c) rest →
      wpAny (model prog w) A (isTrue test env (eval test env)) (fun b s₂ =>
        if b = true then wpAny (model prog w) A (execs body env) (TurnEnd h₀ L Led ms stored (fun c' => P c' ∧ μ c' < μ c) rest s Q) E s₂ else Q .next s₂) E { s with heap := h, toks := tk }) :
    WhileAt prog w A env test body pos Q E s := by
  unfold WhileAt
  refine While_inv2 (fun n m nx => ∃ c : σ, nx = Led c ++ rest ∧ μ c = n ∧ Mis stored (ms c) m ∧ Apart (Led c) rest ∧ P c) F (fun x hx => N x (hin x hx)) ⟨c₀, rfl, rfl, hm, ap, h0⟩ ?_ hE
  rintro n m₁ nx h tk F₁ N₁ ⟨c, rfl, rfl, hm', ap', hp'⟩
  rw [← mix_of hm'] at F₁
  refine wpAny_mono (turn c m₁ h tk hp' F₁ N₁ ap') (fun b s₂ p => ?_) fun _ _ x => x
  cases b with
  | false => simpa using p
  | true =>
    simp only [if_true] at p ⊢
    refine wpAny_mono p (fun f s₃ q => ?_) fun _ _ x => x
    cases f with
    | ret v => exact q
    | brk => exact q
    | next =>
      obtain ⟨c', h', tk', m', rfl, F', hm9, N', ap9, hp9, hm8⟩ := q
      exact ⟨h', tk', m', _, μ c', rfl, F', N', hm8, c', rfl, rfl, hm9, ap9, hp9⟩
    | cont =>
      obtain ⟨c', h', tk', m', rfl, F', hm9, N', ap9, hp9, hm8⟩ := q
      exact ⟨h', tk', m', _, μ c', rfl, F', N', hm8, c', rfl, rfl, hm9, ap9, hp9⟩
end
end Mine

-- Tabs
namespace Mine
open PySem PySem.W PySem.Calls PySem.Spec PyProof.Rows

abbrev tupOf (vs : List Value) : Obj := { cls := .type "tuple", data := .seq vs.toArray }
/-- a class of the table -/
inductive ClsAt (gl : List (Addr × Obj)) : Value → Str → List Str → Prop where
  | mk {c dc sl u tp pr : Addr} {h1 h2 h3 h4 h5 h6 : Int} {t1 t2 t3 t4 t5 t6 tn ts tq : Tok} {nm : Str} {ns nu : Nat} {its : List Value} {xs : List Str} :
    (c, instObj 596 dc) ∈ gl →
    (dc, dictOf [⟨h1, .str (Str.ofString "name") t1, .str nm tn⟩, ⟨h2, .str (Str.ofString "slots") t2, .ref sl⟩, ⟨h3, .str (Str.ofString "contains") t3, .ref u⟩, ⟨h4, .str (Str.ofString "validity") t4, .none⟩,
      ⟨h5, .str (Str.ofString "virtual") t5, .bool false⟩, ⟨h6, .str (Str.ofString "prototype") t6, .ref pr⟩] 6) ∈ gl →
    (sl, listOf #[.ref tp] ns) ∈ gl → (tp, tupOf [.str (Str.ofString "s") ts, .str (Str.ofString "numeric") tq]) ∈ gl → (u, listOf its.toArray nu) ∈ gl → StrsAre its xs → ClsAt gl (.ref c) nm xs

theorem ClsAt.mono {gl gl' : List (Addr × Obj)} {v : Value} {nm : Str} {xs : List Str} (h : ClsAt gl v nm xs) (hs : ∀ x ∈ gl, x ∈ gl') : ClsAt gl' v nm xs := by
  cases h with
  | mk a b c d e f => exact .mk (hs _ a) (hs _ b) (hs _ c) (hs _ d) (hs _ e) f

inductive Tab (gl : List (Addr × Obj)) : List (Str × Value) → List (Str × List Str) → Prop where
  | nil : Tab gl [] []
  | cons {v : Value} {nm : Str} {xs : List Str} {kvs : List (Str × Value)} {G : List (Str × List Str)} : ClsAt gl v nm xs → Tab gl kvs G → Tab gl ((nm, v) :: kvs) ((nm, xs) :: G)
theorem Tab.mono {gl gl' : List (Addr × Obj)} {kvs : List (Str × Value)} {G : List (Str × List Str)} (h : Tab gl kvs G) (hs : ∀ x ∈ gl, x ∈ gl') : Tab gl' kvs G := by
  induction h with
  | nil => exact .nil
  | cons a _ ih => exact .cons (a.mono hs) ih
theorem Tab.names {gl : List (Addr × Obj)} {kvs : List (Str × Value)} {G : List (Str × List Str)} (h : Tab gl kvs G) : kvs.map (·.1) = keys G := by
  induction h with
  | nil => rfl
  | cons _ _ ih => simp [keys] at ih ⊢; exact ih
theorem Tab.get {gl : List (Addr × Obj)} {kvs : List (Str × Value)} {G : List (Str × List Str)} (h : Tab gl kvs G) {x : Str} (hx : x ∈ keys G) : ∃ v, valueAt kvs x = some v ∧ ClsAt gl v x (ups G x) := by
  induction h with
  | nil => simp [keys] at hx
  | @cons v nm xs kvs G a _ ih =>
    by_cases e : nm = x
    · subst e
      exact ⟨v, by simp [valueAt], by simpa [ups] using a⟩
    · have hx' : x ∈ keys G := by
        rcases List.mem_cons.mp hx with h | h
        · exact absurd h.symm e
        · exact h
      obtain ⟨v', h1, h2⟩ := ih hx'
      exact ⟨v', by simpa [valueAt, e] using h1, by simpa [ups, e] using h2⟩
theorem Tab.none {gl : List (Addr × Obj)} {kvs : List (Str × Value)} {G : List (Str × List Str)} (h : Tab gl kvs G) {x : Str} (hx : x ∉ keys G) : valueAt kvs x = none := by
  induction h with
  | nil => rfl
  | @cons v nm xs kvs G a _ ih =>
    have h1 : nm ≠ x := fun e => hx (by simp [keys, e])
    have h2 : x ∉ keys G := fun hm => hx (List.mem_cons_of_mem _ hm)
    simpa [valueAt, h1] using ih h2
theorem Tab.isSome {gl : List (Addr × Obj)} {kvs : List (Str × Value)} {G : List (Str × List Str)} (h : Tab gl kvs G) (x : Str) : (valueAt kvs x).isSome = decide (x ∈ keys G) := by
  by_cases hx : x ∈ keys G
  · obtain ⟨v, h1, _⟩ := h.get hx
    simp [h1, hx]
  · simp [h.none hx, hx]

/-- rows of a search: pairs of a name and a number -/
inductive RowsAre (tups : List (Addr × Obj)) : List Value → List Str → Prop where
  | nil : RowsAre tups [] []
  | cons {a : Addr} {nm : Str} {k : Int} {t t' : Tok} {its : List Value} {ns : List Str} : (a, tupOf [.str nm t, .int k t']) ∈ tups → RowsAre tups its ns → RowsAre tups (.ref a :: its) (nm :: ns)
theorem RowsAre.mono {tups tups' : List (Addr × Obj)} {its : List Value} {ns : List Str} (h : RowsAre tups its ns) (hs : ∀ x ∈ tups, x ∈ tups') : RowsAre tups' its ns := by
  induction h with
  | nil => exact .nil
  | cons a _ ih => exact .cons (hs _ a) ih
theorem RowsAre.length {tups : List (Addr × Obj)} {its : List Value} {ns : List Str} (h : RowsAre tups its ns) : its.length = ns.length := by
  induction h with
  | nil => rfl
  | cons _ _ ih => simp [ih]
theorem RowsAre.snoc {tups : List (Addr × Obj)} {its : List Value} {ns : List Str} (h : RowsAre tups its ns) {a : Addr} {nm : Str} {k : Int} {t t' : Tok} (hm : (a, tupOf [.str nm t, .int k t']) ∈ tups) : RowsAre tups (its ++ [.ref a]) (ns ++ [nm]) := by
  induction h with
  | nil => exact .cons hm .nil
  | cons a _ ih => exact .cons a ih
theorem RowsAre.get {tups : List (Addr × Obj)} {its : List Value} {ns : List Str} (h : RowsAre tups its ns) : ∀ {i : Nat} {nm : Str}, ns[i]? = some nm → ∃ a k t t', its[i]? = some (.ref a) ∧ (a, tupOf [.str nm t, .int k t']) ∈ tups := by
  induction h with
  | nil => intro i nm h; simp at h
  | cons a _ ih =>
    intro i nm hi
    cases i with
    | zero => simp at hi; subst hi; exact ⟨_, _, _, _, rfl, a⟩
    | succ i => simp at hi; obtain ⟨b, k, t, t', h1, h2⟩ := ih hi; exact ⟨b, k, t, t', by simpa using h1, h2⟩
theorem RowsAre.tail {tups : List (Addr × Obj)} {its : List Value} {ns : List Str} (h : RowsAre tups its ns) : RowsAre tups its.tail ns.tail := by
  cases h with
  | nil => exact .nil
  | cons _ h => exact h

theorem stored_new {kvs : List (Str × Value)} {k : Str} {v : Value} (h : valueAt kvs k = none) : stored kvs k v = kvs ++ [(k, v)] := by
  have : (kvs.any fun kv => kv.1 = k) = false := by
    rw [List.any_eq_false]
    intro x hx
    unfold valueAt at h
    rw [Option.map_eq_none_iff, List.find?_eq_none] at h
    simpa using h x hx
  unfold stored
  rw [this]
  rfl
theorem valueAt_snoc {kvs : List (Str × Value)} {k x : Str} {v : Value} : (valueAt (kvs ++ [(k, v)]) x).isSome = ((valueAt kvs x).isSome || decide (k = x)) := by
  unfold valueAt
  rw [List.find?_append]
  cases h : kvs.find? (fun kv => kv.1 = x) with
  | some y => simp
  | none => by_cases e : k = x <;> simp [e]

theorem RowsAre.drop1 {tups : List (Addr × Obj)} {its : List Value} {ns : List Str} (h : RowsAre tups its ns) {a : Addr} {nm : Str} {k : Int} {t t' : Tok} (hm : (a, tupOf [.str nm t, .int k t']) ∈ tups) (hn : ns ≠ []) :
    RowsAre tups ((its ++ [Value.ref a]).drop 1) (ns.tail ++ [nm]) := by
  have := (h.snoc hm).tail
  rw [List.tail_append_of_ne_nil hn] at this
  rw [List.drop_one]
  exact this
theorem slice1 (its : List Value) : slicePick its.toArray (some 1) none none = (its.drop 1).toArray := slicePick_from' its.toArray 1

/-- where the queue search of supers stands -/
structure SupSt where
  its : List Value
  nr : Nat
  oS : Obj
  kvs : List (Str × Value)
  tups : List (Addr × Obj)
  ns : List Str
  i : Nat
  ti : Tok
structure SupQ (prog : Program) (w : World) (R S : Addr) (c : SupSt) : Prop where
  dict : c.oS.IsDictOf (PySem.strKind prog w) c.kvs
  rows : RowsAre c.tups c.its c.ns
  seen : ∀ x, (valueAt c.kvs x).isSome = decide (x ∈ c.ns ∨ x = Str.ofString "ANY")
  len : c.kvs.length = c.ns.length + 1
  offR : Off R c.tups
  offS : Off S c.tups
structure SupP (prog : Program) (w : World) (G : List (Str × List Str)) (nm : Str) (R S : Addr) (c : SupSt) : Prop where
  q : SupQ prog w R S c
  go : At G nm c.ns c.i
  le : c.i ≤ c.ns.length
theorem seen_step {kvs : List (Str × Value)} {ns : List Str} {y : Str} {v : Value} (hs : ∀ x, (valueAt kvs x).isSome = decide (x ∈ ns ∨ x = Str.ofString "ANY")) (hb : (valueAt kvs y).isSome = false) (x : Str) :
    (valueAt (stored kvs y v) x).isSome = decide (x ∈ ns ++ [y] ∨ x = Str.ofString "ANY") := by
  have h0 : valueAt kvs y = none := by cases h : valueAt kvs y with | none => rfl | some _ => rw [h] at hb; cases hb
  rw [stored_new h0, valueAt_snoc, hs]
  by_cases e : y = x
  · subst e; simp
  · have e' : ¬ x = y := fun h => e h.symm
    simp [e, e']
theorem len_step {kvs : List (Str × Value)} {ns : List Str} {y : Str} {v : Value} (hl : kvs.length = ns.length + 1) (hb : (valueAt kvs y).isSome = false) : (stored kvs y v).length = (ns ++ [y]).length + 1 := by
  have h0 : valueAt kvs y = none := by cases h : valueAt kvs y with | none => rfl | some _ => rw [h] at hb; cases hb
  rw [stored_new h0]
  simp [hl]
theorem ns_same {ns0 ns ps ps' : List Str} {y : Str} (hN : ns = addNew ns0 ps) (hp : ps' = ps ++ [y]) (hy : y ∈ ns) : ns = addNew ns0 ps' := by
  rw [hp, addNew_snoc, ← hN, addOne, if_pos hy]
theorem ns_step {ns0 ns ps ps' : List Str} {y : Str} (hN : ns = addNew ns0 ps) (hp : ps' = ps ++ [y]) (hy : y ∉ ns) : ns ++ [y] = addNew ns0 ps' := by
  rw [hp, addNew_snoc, ← hN, addOne, if_neg hy]
theorem At.mid {G : List (Str × List Str)} {x y : Str} {ns : List Str} {i : Nat} (C : Closed G) (a : At G x ns i) (_h : ns[i]? = some y) (j : Nat) : (addNew ns ((ups G y).take j)).length ≤ (keys G).length := by
  refine length_le_of_nodup_subset (addNew_nodup a.nodup) fun z hz => ?_
  rcases addNew_mem.mp hz with hz | hz
  · exact a.within z hz
  · exact C.within y z (List.mem_of_mem_take hz)

/-- the table of classes -/
abbrev tabLed (t dt D U : Addr) (h1 h2 : Int) (t1 t2 : Tok) (oD oU : Obj) : List (Addr × Obj) :=
  [(t, instObj 708 dt), (dt, dictOf [⟨h1, .str (Str.ofString "classes") t1, .ref D⟩, ⟨h2, .str (Str.ofString "unions") t2, .ref U⟩] 2), (D, oD), (U, oU)]
end Mine

-- Asks
namespace Mine
open PySem PySem.W PySem.Calls PySem.Spec PyProof.Rows
/-- texts, None among them -/
inductive AsksAre : List Value → List (Option Str) → Prop where
  | nil : AsksAre [] []
  | str {x : Str} {t : Tok} {vs : List Value} {as : List (Option Str)} : AsksAre vs as → AsksAre (.str x t :: vs) (some x :: as)
  | non {vs : List Value} {as : List (Option Str)} : AsksAre vs as → AsksAre (.none :: vs) (Option.none :: as)
theorem AsksAre.length {vs : List Value} {as : List (Option Str)} (h : AsksAre vs as) : vs.length = as.length := by
  induction h with
  | nil => rfl
  | str _ ih => simp [ih]
  | non _ ih => simp [ih]
theorem AsksAre.app {vs vs' : List Value} {as as' : List (Option Str)} (h : AsksAre vs as) (h' : AsksAre vs' as') : AsksAre (vs ++ vs') (as ++ as') := by
  induction h with
  | nil => exact h'
  | str _ ih => exact .str ih
  | non _ ih => exact .non ih
theorem AsksAre.ofStrs {vs : List Value} {xs : List Str} (h : StrsAre vs xs) : AsksAre vs (xs.map some) := by
  induction h with
  | nil => exact .nil
  | cons y t _ ih => exact .str ih
theorem AsksAre.get {vs : List Value} {as : List (Option Str)} (h : AsksAre vs as) : ∀ {i : Nat} {v : Value}, vs[i]? = some v → (∃ x t, v = .str x t ∧ as[i]? = some (some x)) ∨ (v = .none ∧ as[i]? = some none) := by
  induction h with
  | nil => intro i v h; simp at h
  | @str x t vs as _ ih =>
    intro i v h
    cases i with
    | zero => simp at h; subst h; exact .inl ⟨x, t, rfl, rfl⟩
    | succ i => simp at h; simpa using ih h
  | @non vs as _ ih =>
    intro i v h
    cases i with
    | zero => simp at h; subst h; exact .inr ⟨rfl, rfl⟩
    | succ i => simp at h; simpa using ih h
theorem eqGives_at {y x : Value} {b : Bool} (h : ∀ A s, SeqAt.EqAt A s y x b) : MeetsSeq.EqGives y x b := fun prog w A E s Q hq => h A s prog w E Q hq

section
variable {prog : Program} {w : World} {A : Around} {E : Value → Shared → Prop} {s : Shared} {h₀ : Heap} {L l : Addr} {m : Str → Option Value} {news : List (Addr × Obj)} {vs : List Value} {xs : List Str} {n : Nat} {x : Str} {t : Tok}
theorem isList_at (N : News h₀ L s.heap news) (hm : (l, listOf vs.toArray n) ∈ news) : s.heap.IsList l vs.toArray := ⟨_, (N _ hm).1, rfl, n, rfl⟩
theorem any_beq (ys : List Str) (x : Str) : ys.any (· == x) = decide (x ∈ ys) := by
  rw [Bool.eq_iff_iff]; simp [List.any_eq_true]
theorem in_strs {Q : Value → Shared → Prop} (N : News h₀ L s.heap news) (hm : (l, listOf vs.toArray n) ∈ news) (hS : StrsAre vs xs) (h : Q (.bool (decide (x ∈ xs))) s) :
    wpAny (model prog w) A (compareOp .In (.str x t) (.ref l)) Q E s := in_list_strs (isList_at N hm) hS (by rw [any_beq]; exact h)
theorem notin_strs {Q : Value → Shared → Prop} (N : News h₀ L s.heap news) (hm : (l, listOf vs.toArray n) ∈ news) (hS : StrsAre vs xs) (h : Q (.bool (!decide (x ∈ xs))) s) :
    wpAny (model prog w) A (compareOp .NotIn (.str x t) (.ref l)) Q E s := notin_list_strs (isList_at N hm) hS (by rw [any_beq]; exact h)
theorem none_in_strs {Q : Value → Shared → Prop} (N : News h₀ L s.heap news) (hm : (l, listOf vs.toArray n) ∈ news) (hS : StrsAre vs xs) (h : Q (.bool false) s) :
    wpAny (model prog w) A (compareOp .In .none (.ref l)) Q E s :=
  SeqInW.in_listW (fun _ => false) (fun y hy => by
    obtain ⟨x, t, rfl⟩ := StrsAre.all hS y (by simpa using hy)
    exact eqGives_at fun _ _ => SeqAt.EqAt.str_none _ _) (isList_at N hm) (by
    have : (vs.toArray.any fun _ => false) = false := by rw [← Array.any_toList]; simp
    rw [this]; exact h)
theorem true_in {bs : List Bool} {Q : Value → Shared → Prop} (N : News h₀ L s.heap news) (hm : (l, listOf vs.toArray n) ∈ news) (hB : LSm.BoolsAre vs bs) (h : Q (.bool (decide (true ∈ bs))) s) :
    wpAny (model prog w) A (compareOp .In (.bool true) (.ref l)) Q E s := by
  refine SeqInW.in_listW (fun v => match v with | .bool b => b | _ => false) (fun y hy => ?_) (isList_at N hm) ?_
  · have : ∃ b, y = .bool b := by
      have hy' : y ∈ vs := by simpa using hy
      clear N hm h hy
      induction hB with
      | nil => cases hy'
      | cons b _ ih =>
        rcases List.mem_cons.mp hy' with rfl | h'
        · exact ⟨b, rfl⟩
        · exact ih h'
    obtain ⟨b, rfl⟩ := this
    have : (b == true) = b := by cases b <;> rfl
    exact eqGives_at fun A s => by simpa [this] using SeqAt.EqAt.bool_bool (A := A) (s := s) b true
  · have : (vs.toArray.any fun v => match v with | .bool b => b | _ => false) = decide (true ∈ bs) := by
      clear N hm h
      rw [← Array.any_toList]
      induction hB with
      | nil => rfl
      | cons b _ ih =>
        simp only [List.any_cons] at ih ⊢
        rw [ih]
        cases b <;> simp
    rw [this]; exact h
theorem index_strs {Q : Value → Shared → Prop} (N : News h₀ L s.heap news) (hm : (l, listOf vs.toArray n) ∈ news) (hS : StrsAre vs xs) (hx : x ∈ xs) (hz : xs.length ≤ 16777216)
    (h : Q (.int (xs.idxOf x : Nat) s.toks) { s with toks := s.toks + 1 }) : wpAny (model prog w) A (call (.builtin "list.index") [.ref l, .str x t]) Q E s := by
  have hl := StrsAre.length hS
  have hlt : xs.idxOf x < xs.length := List.idxOf_lt_length_of_mem hx
  have hat : ∀ (i : Nat) (hi : i < vs.length) (hi' : i < xs.length), isStrOf x vs[i] = (xs[i] == x) := fun i hi hi' => by
    obtain ⟨t, ht⟩ := StrsAre.get hS i xs[i] (List.getElem?_eq_getElem hi')
    rw [List.getElem?_eq_getElem hi] at ht
    rw [Option.some.inj ht]; rfl
  refine call_meets PySem.F.slot_list_index ⟨_, (N _ hm).1, rfl⟩ PySem.F.entry_list_index (PySem.F.args_list_index_2 _ _)
    (MeetsSeq.list_index l vs.toArray n (.str x t) (isStrOf x) (fun y hy => eq_isStrOf x t hS y (by simpa using hy)) (xs.idxOf x) (by simpa [hl] using hlt) (by omega) ?_ fun i hi hlt' => ?_) ⟨(N _ hm).1, h⟩
  · have := hat (xs.idxOf x) (by omega) hlt
    simpa [List.getElem_idxOf hlt] using this
  · have hi' : i < vs.length := by simpa using hi
    have := hat i hi' (by omega)
    rw [show vs.toArray[i] = vs[i] from rfl, this]
    have := List.not_of_lt_findIdx (p := (· == x)) (xs := xs) (i := i) hlt'
    simpa using this
end
end Mine

-- Cells
namespace Mine
open PySem PySem.W PySem.Calls PySem.Spec PyProof.Rows
section
variable {prog : Program} {w : World} {K : Frag} {p : Program} {loose : List Str} {mean : ExcName → Option Value} {mg mb : Str → Option Value} {f : Addr} {vals : List Value} {kw : List (Str × Value)} {room : Nat} {pre : List (Addr × Obj)} {post : Value → List (Addr × Obj) → Prop}

/-- the entry of a def some of whose names a block of its own reads -/
theorem tells1_enterC {name qual : Str} {params : Arguments} {body : List Stmt} {scope : Scope} {dV kV doc pm cdv ct oc : Value} {an od : Option Addr} {osl : Array (Option Value)} {binds : List (Str × Value)}
    (ho : K.lookup f = some ⟨oc, od, .func (fnOf name qual params body scope dV kV doc pm an cdv ct), osl⟩) (hcd : codeIn K cdv qual = true) (hroom : 1 ≤ room)
    (hbind : ∀ (s : Shared), K.In s.heap → BindsTo s (fnOf name qual params body scope dV kV doc pm an cdv ct) ⟨vals, kw⟩ binds)
    (hkind : (binds.all fun y => scope.names.lookup y.1 == some .local || scope.names.lookup y.1 == some .cell) = true) (hnd : ((cellsFrom 0 scope.names []).map (·.1)).Nodup)
    (hco : scope.isCoroutine = false) (hgen : scope.isGenerator = false) (hk : scope.kind = .function)
    (h : ∀ (dp un : Nat) (gd : Option (List Code)) (cn : Str) (cs : Scope) (a : Addr) (ccd : Value) (cl : List (Str × Addr)) (outer : List Env) (base g : Heap) (L L' : Addr) (h₁ : Heap) (s : Shared) (tk : Nat) (cells : List (Addr × Obj)),
      dp + room < recursionLimit → un + 8 * room < cLine → Fr g L' h₁ (bindL (envOfC qual scope L' f cdv).kindOf binds fun _ => none) → News g L' h₁ (cells ++ pre) →
      CellsAre (bindC (envOfC qual scope L' f cdv).kindOf binds fun _ => none) (cellsFrom (L' + 1) scope.names []) cells →
      Below (ktrTop dp un gd cn cs L a ccd cl outer) base (envX cn cs L a ccd cl :: outer) g → K.In g → Top p loose mean mg mb g → (∀ q ∈ pre, q.1 < L') →
      wpAny (model prog w) ((ktrTop dp un gd cn cs L a ccd cl outer).deeper (envOfC qual scope L' f cdv)) (execs body (envOfC qual scope L' f cdv))
        (Fin g L' s post) (fun _ _ => False)
        { s with heap := h₁, toks := tk }) :
    Tells1 prog w K p loose mean mg mb f vals kw room pre post := by
  intro dp un gd cn cs a ccd cl outer A₀ base h₀ L m rest s Q E B F X N T hck off hd hu ret
  have N₁ : News h₀ L s.heap pre := fun x hx => N x (List.mem_append_left _ hx)
  refine wpAny_call ?_
  obtain ⟨FG, BG, st, lv⟩ := groundX (A := ktrTop dp un gd cn cs L a ccd cl outer) (env := envX cn cs L a ccd cl) (R := fun r s' => match r with | .ok (.ret v) => Q v s' | .ok _ => False | .error e => E e s') B F N₁ rfl rfl hck
  have XH := X.keeps F.keep
  refine codeAny_call_function (by show dp < _; omega) (XH _ _ ho) rfl hco hgen rfl (codeRec_of XH hcd) (hbind s XH _ _ _ _ ?_)
  refine wpAny_newFunctionEnv_cells hk (kindsX hkind _) fun env' he s' x => ?_
  subst he
  refine ⟨(T.nolimit.keeps F.keep).keeps x.toInCall.keep, codeAny_func ?_⟩
  obtain ⟨h₁, tk, rfl, _⟩ := x.done
  have hk₁ := x.toInCall.keep
  obtain ⟨cells, NC, Y⟩ := Cl.news (h₀ := s.heap) (Nat.le_refl _) fun n c hm => ⟨x.cell n c (lookup_of_mem_nodup (cellsFrom_names scope.names 0 (s.heap.objs.size + 1) [] [] rfl ▸ hnd) hm), x.above n c hm⟩
  generalize hg : hideAll s.heap (pre.map (·.1)) = g at *
  have F' : Fr g s.heap.objs.size h₁ (bindL (envOfC qual scope s.heap.objs.size f cdv).kindOf binds fun _ => none) :=
    ⟨x.toInCall.ns, fun b o e => hk₁ b o (of_hideAll _ (hg ▸ e)), by rw [← hg]; exact Nat.le_of_eq (hideAll_size _ _)⟩
  have N' : News g s.heap.objs.size h₁ (cells ++ pre) := fun q hq => by
    rcases List.mem_append.mp hq with hq | hq
    · refine ⟨(NC q hq).1, (NC q hq).2.1, ?_⟩
      cases z : g.get? q.1 with
      | none => rfl
      | some o => have := of_hideAll _ (hg ▸ z); rw [(NC q hq).2.2] at this; cases this
    · exact ⟨hk₁ _ _ (N₁ q hq).1, Nat.ne_of_lt (Heap.lt_size (N₁ q hq).1), hg ▸ hideAll_none _ (List.mem_map_of_mem hq)⟩
  refine wpAny_mono (h dp un gd cn cs a ccd cl outer base g L _ h₁ s tk cells hd hu F' N' Y BG (X.keeps st) (T.keeps st) fun q hq => Heap.lt_size (N₁ q hq).1) (fun fl s' hf => lv _ _ ?_) fun _ _ y => y.elim
  obtain ⟨h', tk', m', out, rfl, F₂, N₂, hp⟩ := hf
  have keepRest : ∀ y ∈ rest, g.get? y.1 = some y.2 := fun y hy => by
    rw [← hg]
    refine hideAll_get _ (N y (List.mem_append_right _ hy)).1 fun hm => ?_
    obtain ⟨q, hq, e⟩ := List.mem_map.mp hm
    exact off q hq y hy e.symm
  refine ⟨_, m', out, F₂, N₂, fun F₃ N₃ => ret _ out h' tk' F₃ (fun y hy => ?_) (fun y hy z hz e => ?_) hp⟩
  · rcases List.mem_append.mp hy with hy | hy
    · exact N₃ y hy
    · exact ⟨F₂.keep _ _ (keepRest y hy), (N y (List.mem_append_right _ hy)).2⟩
  · have := (N₂ y hy).2.2
    rw [← e, keepRest z hz] at this
    cases this
end
end Mine

-- More
namespace Mine
open PySem PySem.W PySem.Calls PySem.Spec PyProof.Rows
theorem Mis.mixIn {stored stored2 : List Str} {u m ms : Str → Option Value} (hs : (stored2.all fun y => stored.contains y) = true) (h : Mis stored ms m) : Mis stored ms (Mine.mix stored2 u m) := fun y hy => by
  have : stored2.contains y = false := by
    cases e : stored2.contains y with
    | false => rfl
    | true =>
      have := List.all_eq_true.mp hs y (List.contains_iff_mem.mp e)
      rw [hy] at this; cases this
  rw [mix_out this]
  exact h y hy
theorem Apart.nilR {xs : List (Addr × Obj)} : Apart xs [] := fun _ _ _ h => nomatch h
theorem RowsAre.item {tups : List (Addr × Obj)} {its : List Value} {ns : List Str} (h : RowsAre tups its ns) : ∀ {i : Nat} {v : Value}, its[i]? = some v → ∃ a nm k t t', v = .ref a ∧ ns[i]? = some nm ∧ (a, tupOf [.str nm t, .int k t']) ∈ tups := by
  induction h with
  | nil => intro i v h; simp at h
  | @cons a nm k t t' its ns hm _ ih =>
    intro i v hi
    cases i with
    | zero => simp at hi; subst hi; exact ⟨a, nm, k, t, t', rfl, rfl, hm⟩
    | succ i => simp at hi; simpa using ih hi
theorem RowsAre.allRef {tups : List (Addr × Obj)} {its : List Value} {ns : List Str} (h : RowsAre tups its ns) (i : Nat) (v : Value) (hi : its[i]? = some v) : ∃ T, v = Value.ref T := by
  obtain ⟨a, _, _, _, _, e, _⟩ := h.item hi
  exact ⟨a, e⟩
theorem rowOf_within {G : List (Str × List Str)} {x y : Str} (C : Closed G) (hx : x ∈ keys G) (hy : y ∈ rowOf G x) : y ∈ keys G := by
  obtain ⟨i, a⟩ := rowOf_exists C hx
  exact a.within y hy
theorem rowOf_cons {G : List (Str × List Str)} {x : Str} (C : Closed G) (hx : x ∈ keys G) : rowOf G x = x :: (rowOf G x).tail := by
  obtain ⟨i, a⟩ := rowOf_exists C hx
  have := a.head
  cases h : rowOf G x with
  | nil => rw [h] at this; cases this
  | cons y r => rw [h] at this; cases this; rfl
theorem rowOf_nodup {G : List (Str × List Str)} {x : Str} (C : Closed G) (hx : x ∈ keys G) : (rowOf G x).Nodup := by
  obtain ⟨i, a⟩ := rowOf_exists C hx
  exact a.nodup
theorem rowOf_len {G : List (Str × List Str)} {x : Str} (C : Closed G) (hx : x ∈ keys G) : (rowOf G x).length ≤ (keys G).length := by
  obtain ⟨i, a⟩ := rowOf_exists C hx
  exact a.len C
theorem tail_within {G : List (Str × List Str)} {x y : Str} (C : Closed G) (hx : x ∈ keys G) (hy : y ∈ (rowOf G x).tail ++ [Str.ofString "ANY"]) : y ∈ keys G ∨ y = Str.ofString "ANY" := by
  rcases List.mem_append.mp hy with h | h
  · exact .inl (rowOf_within C hx (List.mem_of_mem_tail h))
  · exact .inr (List.mem_singleton.mp h)
theorem Tab.snoc {gl : List (Addr × Obj)} {kvs : List (Str × Value)} {G : List (Str × List Str)} (h : Tab gl kvs G) {v : Value} {nm : Str} {xs : List Str} (hc : ClsAt gl v nm xs) : Tab gl (kvs ++ [(nm, v)]) (G ++ [(nm, xs)]) := by
  induction h with
  | nil => exact .cons hc .nil
  | cons a _ ih => exact .cons a ih
theorem keys_snoc {G : List (Str × List Str)} {nm : Str} {xs : List Str} : keys (G ++ [(nm, xs)]) = keys G ++ [nm] := by simp [keys]
theorem ups_snoc {G : List (Str × List Str)} {nm x : Str} {xs : List Str} (hn : nm ∉ keys G) : ups (G ++ [(nm, xs)]) x = if x = nm then xs else ups G x := by
  unfold ups
  rw [List.find?_append]
  by_cases e : x = nm
  · subst e
    have : G.find? (fun e => decide (e.1 = x)) = none := by
      rw [List.find?_eq_none]
      intro e he h
      exact hn (List.mem_map.mpr ⟨e, he, of_decide_eq_true h⟩)
    simp [this]
  · have e' : ¬ nm = x := fun h => e h.symm
    rw [if_neg e]
    cases h : G.find? (fun e => decide (e.1 = x)) with
    | some y => simp
    | none => simp [e']
theorem ups_out {G : List (Str × List Str)} {x : Str} (hx : x ∉ keys G) : ups G x = [] := by
  unfold ups
  have : G.find? (fun e => decide (e.1 = x)) = none := by
    rw [List.find?_eq_none]
    intro e he h
    exact hx (List.mem_map.mpr ⟨e, he, of_decide_eq_true h⟩)
  simp [this]
theorem Closed.snoc {G : List (Str × List Str)} {nm : Str} {xs : List Str} (C : Closed G) (hn : nm ∉ keys G) (hx : ∀ p ∈ xs, p ∈ keys G) : Closed (G ++ [(nm, xs)]) := by
  refine ⟨?_, fun x p hp => ?_⟩
  · rw [keys_snoc, List.nodup_append]
    refine ⟨C.nodup, by simp, fun a ha b hb e => ?_⟩
    rw [List.mem_singleton] at hb
    exact hn (hb ▸ e ▸ ha)
  · rw [keys_snoc]
    rw [ups_snoc hn] at hp
    split at hp
    · exact List.mem_append_left _ (hx p hp)
    · exact List.mem_append_left _ (C.within x p hp)
theorem Closed.nil : Closed [] := ⟨by simp [keys], fun x p hp => by simp [ups] at hp⟩

section
variable {prog : Program} {w : World} {A : Around} {E : Value → Shared → Prop} {s : Shared} {h₀ : Heap} {L : Addr} {m : Str → Option Value} {news news' : List (Addr × Obj)}
/-- two lists of the ledger glued -/
theorem add_at {l b : Addr} {vs ws : List Value} {n k : Nat} {Q : Value → Shared → Prop} (F : Fr h₀ L s.heap m) (N : News h₀ L s.heap news) (hl : (l, listOf vs.toArray n) ∈ news) (hb : (b, listOf ws.toArray k) ∈ news) (hz : vs.length + ws.length ≤ 16777216)
    (h : ∀ D h', Fr h₀ L h' m → News h₀ L h' ((D, listOf (vs ++ ws).toArray 0) :: news) → (∀ q ∈ news, q.1 < D) → Q (.ref D) { s with heap := h' }) :
    wpAny (model prog w) A (binaryOp .Add (.ref l) (.ref b)) Q E s :=
  add_arrays F N (isList_at N hl) (isList_at N hb) (fun h' F' N' => h _ h' F' (by simpa using N') fun q hq => Heap.lt_size (N q hq).1) (by rw [sizeLine_eq]; simpa using hz)
end
theorem TurnEnd.mono {σ : Type} {h₀ : Heap} {L : Addr} {Led : σ → List (Addr × Obj)} {ms : σ → Str → Option Value} {stored : List Str} {P P' : σ → Prop} {rest : List (Addr × Obj)} {s₁ : Shared} {Q : Flow → Shared → Prop} {f : Flow} {s₂ : Shared}
    (hP : ∀ c, P c → P' c) (h : TurnEnd h₀ L Led ms stored P rest s₁ Q f s₂) : TurnEnd h₀ L Led ms stored P' rest s₁ Q f s₂ := by
  cases f with
  | ret v => exact h
  | brk => exact h
  | next => obtain ⟨c', h', tk, m', e, F, M, N, ap, p⟩ := h; exact ⟨c', h', tk, m', e, F, M, N, ap, hP _ p⟩
  | cont => obtain ⟨c', h', tk, m', e, F, M, N, ap, p⟩ := h; exact ⟨c', h', tk, m', e, F, M, N, ap, hP _ p⟩
section
variable {prog : Program} {w : World} {A : Around} {s : Shared} {env : Env} {h₀ : Heap} {E : Value → Shared → Prop} {Q : Flow → Shared → Prop} {target : Expr} {body : List Stmt}
/-- a for over a list of one item -/
theorem for_oneC {σ : Type} {l : Addr} {x : Value} {nn : Nat} {m₀ : Str → Option Value} {news : List (Addr × Obj)}
    (Led : σ → List (Addr × Obj)) (stored : List Str) (P : σ → Prop) (rest : List (Addr × Obj)) (c₀ : σ)
    (hh : A.handled = none) (hE : PassesOwn (model prog w) A env E) (hgo : (∃ x px, target = .Name x px) ∨ ((∃ es a p, target = .Tuple es a p) ∧ ∃ T, x = Value.ref T))
    (F : Fr h₀ env.locals s.heap m₀) (N : News h₀ env.locals s.heap news) (hin : ∀ x ∈ Led c₀ ++ rest, x ∈ news) (ap : Apart (Led c₀) rest) (hl : (l, listOf #[x] nn) ∈ rest)
    (turn : ∀ u I oI h tk, Fr h₀ env.locals h (mix stored u m₀) → News h₀ env.locals h (Led c₀ ++ (I, oI) :: rest) → Apart (Led c₀) ((I, oI) :: rest) →
      wpAny (model prog w) A (assign target env x) (fun _ s₂ => wpAny (model prog w) A (execs body env) (TurnEnd h₀ env.locals Led (fun _ => m₀) stored P ((I, oI) :: rest) { s with heap := h, toks := tk } Q) E s₂) E { s with heap := h, toks := tk })
    (done : ∀ c u h tk, P c → Fr h₀ env.locals h (mix stored u m₀) → News h₀ env.locals h (Led c ++ rest) → Apart (Led c) rest → Q .next { s with heap := h, toks := tk }) :
    ForAt prog w A env target body Q E (.ref l) s := by
  refine for_listC (items := #[x]) (nn := nn) Led stored (fun i c => (i = 0 → c = c₀) ∧ (i = 1 → P c)) rest c₀ hh hE (hgo.imp id fun h => ⟨h.1, fun i v hv => ?_⟩) F N hin ap (.inr fun c => List.mem_append_right _ hl) ⟨fun _ => rfl, fun h => nomatch h⟩ ?_ ?_
  · cases i with
    | zero => obtain rfl : x = v := by simpa using hv
              exact h.2
    | succ i => simp at hv
  · intro i v c u I oI h tk hv hP F' N' ap'
    cases i with
    | zero =>
      obtain rfl : x = v := by simpa using hv
      obtain rfl := hP.1 rfl
      exact wpAny_mono (turn u I oI h tk F' N' ap') (fun _ _ h₂ => wpAny_mono h₂ (fun _ _ h₃ => TurnEnd.mono (fun _ p => ⟨fun h => (nomatch h), fun _ => p⟩) h₃) fun _ _ e => e) fun _ _ e => e
    | succ i => simp at hv
  · intro c u h tk hP F' N' ap'
    exact done c u h tk (hP.2 rfl) F' N' ap'
/-- a for over an empty list -/
theorem for_nilC {l : Addr} {nn : Nat} {m₀ : Str → Option Value} {news : List (Addr × Obj)} (stored : List Str)
    (hh : A.handled = none) (hE : PassesOwn (model prog w) A env E) (hgo : (∃ x px, target = .Name x px) ∨ (∃ es a p, target = .Tuple es a p))
    (F : Fr h₀ env.locals s.heap m₀) (N : News h₀ env.locals s.heap news) (hl : (l, listOf #[] nn) ∈ news)
    (done : ∀ u h tk, Fr h₀ env.locals h (mix stored u m₀) → News h₀ env.locals h news → Q .next { s with heap := h, toks := tk }) :
    ForAt prog w A env target body Q E (.ref l) s := by
  refine for_listC (σ := Unit) (items := #[]) (nn := nn) (fun _ => []) stored (fun _ _ => True) news () hh hE (hgo.imp id fun h => ⟨h, fun i v hv => by simp at hv⟩) F N (fun _ h => h) Apart.nil (.inr fun _ => hl) trivial ?_ ?_
  · intro i v c u I oI h tk hv
    simp at hv
  · intro c u h tk _ F' N' _
    exact done u h tk F' N'
end
end Mine

-- More2
namespace Mine
open PySem PySem.W PySem.Calls PySem.Spec PyProof.Rows
theorem datAll_strs {vs : List Value} {xs : List Str} (h : StrsAre vs xs) : DatAll [] vs (xs.map Dat.str) := by
  induction h with
  | nil => exact .nil
  | cons y t _ ih => exact .cons (.str y t) ih
theorem kqdOk_strs {xs : List Str} (h : ∀ x ∈ xs, PyData.strOk x = true) : ∀ d ∈ xs.map Dat.str, kqdOk 8 d = true := by
  intro d hd
  obtain ⟨x, hx, rfl⟩ := List.mem_map.mp hd
  have := h x hx
  simpa [kqdOk] using this
section
variable {prog : Program} {w : World} {A : Around} {E : Value → Shared → Prop} {s : Shared} {h₀ : Heap} {L l b : Addr} {m : Str → Option Value} {news : List (Addr × Obj)} {vs : List Value} {xs : List Str} {n k : Nat} {x : Str} {t : Tok}
theorem ne_nil {q : Bool} {Q : Value → Shared → Prop} (N : News h₀ L s.heap news) (hm : (l, listOf vs.toArray n) ∈ news) (hb : (b, listOf #[] k) ∈ news) (hS : StrsAre vs xs) (hok : ∀ x ∈ xs, PyData.strOk x = true) (hu : A.units + 64 < cLine)
    (hq : (!decide (xs = [])) = q) (h : Q (.bool q) s) : wpAny (model prog w) A (compareOp .NotEq (.ref l) (.ref b)) Q E s := by
  refine kqd_ne (n₁ := []) (n₂ := []) (xs := vs) (ys := []) (ds := xs.map Dat.str) (es := []) N hm rfl rfl (datAll_strs hS) (fun _ h => nomatch h) hb rfl rfl .nil (fun _ h => nomatch h) (kqdOk_strs hok) (fun _ h => nomatch h) hu ?_
  by_cases hx : xs = []
  · subst hx
    have : q = false := by rw [← hq]; simp
    subst this
    simpa using h
  · have : q = true := by rw [← hq]; simp [hx]
    subst this
    simpa [hx] using h
theorem in_strsB {q : Bool} {Q : Value → Shared → Prop} (N : News h₀ L s.heap news) (hm : (l, listOf vs.toArray n) ∈ news) (hS : StrsAre vs xs) (hq : decide (x ∈ xs) = q) (h : Q (.bool q) s) :
    wpAny (model prog w) A (compareOp .In (.str x t) (.ref l)) Q E s := in_strs N hm hS (by rw [hq]; exact h)
theorem notin_strsB {q : Bool} {Q : Value → Shared → Prop} (N : News h₀ L s.heap news) (hm : (l, listOf vs.toArray n) ∈ news) (hS : StrsAre vs xs) (hq : (!decide (x ∈ xs)) = q) (h : Q (.bool q) s) :
    wpAny (model prog w) A (compareOp .NotIn (.str x t) (.ref l)) Q E s := notin_strs N hm hS (by rw [hq]; exact h)
end
/-- the rows of extended names, as the law keeps them -/
inductive AbvAt (gl : List (Addr × Obj)) : Value → List Str → Prop where
  | mk {u : Addr} {nu : Nat} {its : List Value} {xs : List Str} : (u, listOf its.toArray nu) ∈ gl → StrsAre its xs → AbvAt gl (.ref u) xs
inductive Abv (gl : List (Addr × Obj)) : List (Str × Value) → List (Str × List Str) → Prop where
  | nil : Abv gl [] []
  | cons {v : Value} {nm : Str} {xs : List Str} {kvs : List (Str × Value)} {G : List (Str × List Str)} : AbvAt gl v xs → Abv gl kvs G → Abv gl ((nm, v) :: kvs) ((nm, xs) :: G)
theorem AbvAt.mono {gl gl' : List (Addr × Obj)} {v : Value} {xs : List Str} (h : AbvAt gl v xs) (hs : ∀ x ∈ gl, x ∈ gl') : AbvAt gl' v xs := by
  cases h with
  | mk a f => exact .mk (hs _ a) f
theorem Abv.mono {gl gl' : List (Addr × Obj)} {kvs : List (Str × Value)} {G : List (Str × List Str)} (h : Abv gl kvs G) (hs : ∀ x ∈ gl, x ∈ gl') : Abv gl' kvs G := by
  induction h with
  | nil => exact .nil
  | cons a _ ih => exact .cons (a.mono hs) ih
theorem Abv.snoc {gl : List (Addr × Obj)} {kvs : List (Str × Value)} {G : List (Str × List Str)} (h : Abv gl kvs G) {v : Value} {nm : Str} {xs : List Str} (hc : AbvAt gl v xs) : Abv gl (kvs ++ [(nm, v)]) (G ++ [(nm, xs)]) := by
  induction h with
  | nil => exact .cons hc .nil
  | cons a _ ih => exact .cons a ih
theorem Abv.get {gl : List (Addr × Obj)} {kvs : List (Str × Value)} {G : List (Str × List Str)} (h : Abv gl kvs G) {x : Str} (hx : x ∈ keys G) : ∃ v, valueAt kvs x = some v ∧ AbvAt gl v (ups G x) := by
  induction h with
  | nil => simp [keys] at hx
  | @cons v nm xs kvs G a _ ih =>
    by_cases e : nm = x
    · subst e
      exact ⟨v, by simp [valueAt], by simpa [ups] using a⟩
    · have hx' : x ∈ keys G := by
        rcases List.mem_cons.mp hx with h | h
        · exact absurd h.symm e
        · exact h
      obtain ⟨v', h1, h2⟩ := ih hx'
      exact ⟨v', by simpa [valueAt, e] using h1, by simpa [ups, e] using h2⟩
theorem Abv.names {gl : List (Addr × Obj)} {kvs : List (Str × Value)} {G : List (Str × List Str)} (h : Abv gl kvs G) : kvs.map (·.1) = keys G := by
  induction h with
  | nil => rfl
  | cons _ _ ih => simp [keys] at ih ⊢; exact ih
theorem Abv.none {gl : List (Addr × Obj)} {kvs : List (Str × Value)} {G : List (Str × List Str)} (h : Abv gl kvs G) {x : Str} (hx : x ∉ keys G) : valueAt kvs x = none := by
  unfold valueAt
  rw [Option.map_eq_none_iff, List.find?_eq_none]
  intro e he hd
  refine hx ?_
  rw [← h.names, ← of_decide_eq_true hd]
  exact List.mem_map_of_mem he

theorem drop_step {ns0 ns ps ps' : List Str} {y : Str} {n0 : Nat} (hl : n0 ≤ ns.length) (_hN : ns = addNew ns0 ps) (_hp : ps' = ps ++ [y]) : (ns ++ [y]).drop n0 = ns.drop n0 ++ [y] := List.drop_append_of_le_length hl
theorem StrsAre.snoc {vs : List Value} {xs : List Str} (h : StrsAre vs xs) (y : Str) (t : Tok) : StrsAre (vs ++ [.str y t]) (xs ++ [y]) := StrsAre.append' h (.cons y t .nil)
/-- a new list of these texts beside what lay there -/
abbrev RowPost (pre : List (Addr × Obj)) (row : List Str) (r : Value) (out : List (Addr × Obj)) : Prop := ∃ l its n, r = .ref l ∧ out = (l, listOf its.toArray n) :: pre ∧ StrsAre its row
section
variable {prog : Program} {w : World} {K : Frag} {p : Program} {loose : List Str} {mean : ExcName → Option Value} {mg mb : Str → Option Value} {f : Addr} {vals : List Value} {kw : List (Str × Value)} {room : Nat} {pre : List (Addr × Obj)} {post : Value → List (Addr × Obj) → Prop}
/-- a contract over the whole ledger at hand -/
theorem callAt_useN {dp un : Nat} {gd : Option (List Code)} {cn : Str} {cs : Scope} {a : Addr} {ccd : Value} {cl : List (Str × Addr)} {outer : List Env} {A₀ : Around} {base h₀ : Heap} {L : Addr} {m : Str → Option Value} {news : List (Addr × Obj)} {s : Shared}
    {Q E : Value → Shared → Prop} (N : News h₀ L s.heap news) (C : Tells1 prog w K p loose mean mg mb f vals kw room news post)
    (B : Below A₀ base outer h₀) (F : Fr h₀ L s.heap m) (X : K.In h₀) (T : Top p loose mean mg mb h₀) (hk : cs.kind = .function)
    (hd : dp + room < recursionLimit) (hu : un + 8 * room < cLine)
    (ret : ∀ r out, post r out → ∀ h' tk', Fr h₀ L h' m → News h₀ L h' out → Q r { s with heap := h', toks := tk' }) :
    CallAt (model prog w) (ktrTop dp un gd cn cs L a ccd cl outer) f vals kw Q E s :=
  callAt_use C [] B F X N T hk (fun x hx => by simpa using hx) Apart.nilR hd hu fun r out hp h' tk' F' N' _ => ret r out hp h' tk' F' (by simpa using N')
end
theorem putL_len' (x : Str) (hs : Int) (key v : Value) : ∀ es : List DictEntry, (putL x hs key v es).length ≤ es.length + 1
  | [] => Nat.le_refl _
  | e :: r => by
    unfold putL
    split
    · simp
    · have := putL_len' x hs key v r
      simp only [List.length_cons]; omega
theorem putL_len {x : Str} {hs : Int} {key v : Value} {es : List DictEntry} (h : es.length ≤ 100) : (putL x hs key v es).length ≤ 1000 := by
  have := putL_len' x hs key v es; omega
theorem putL_get {x : Str} {hs : Int} {t : Tok} {v w : Value} : ∀ {es : List DictEntry}, getL x es = some (some w) → getL x (putL x hs (.str x t) v es) = some (some v)
  | [], h => by simp [getL] at h
  | e :: r, h => by
    unfold putL
    cases he : e.key.isStr x with
    | true => simp [getL, he]
    | false =>
      have hr : getL x r = some (some w) := by
        unfold getL at h ⊢
        simp only [List.find?_cons, he] at h
        split at h
        · rename_i e' h'
          rw [h']; exact h
        · split at h <;> cases h
      have := putL_get (hs := hs) (t := t) (v := v) hr
      unfold getL at this ⊢
      simp only [Bool.false_eq_true, if_false, List.find?_cons, he]
      split at this
      · rename_i e' h'
        rw [h']; exact this
      · split at this <;> cases this
theorem name9 {h₀ h : Heap} {L a1 a2 a3 a4 a5 a6 a7 a8 a9 : Addr} {x1 x2 x3 x4 x5 x6 x7 x8 x9 : Obj} {r : List (Addr × Obj)} {P : Prop} (_N : News h₀ L h ((a1, x1) :: (a2, x2) :: (a3, x3) :: (a4, x4) :: (a5, x5) :: (a6, x6) :: (a7, x7) :: (a8, x8) :: (a9, x9) :: r)) (k : ∀ a1' a2' a3' a4' a5' a6' a7' a8' a9', a1' = a1 → a2' = a2 → a3' = a3 → a4' = a4 → a5' = a5 → a6' = a6 → a7' = a7 → a8' = a8 → a9' = a9 → P) : P := k a1 a2 a3 a4 a5 a6 a7 a8 a9 rfl rfl rfl rfl rfl rfl rfl rfl rfl
end Mine

-- More3
namespace Mine
open PySem PySem.W PySem.Calls PySem.Spec PyProof.Rows
section
variable {prog : Program} {w : World} {A : Around} {E : Value → Shared → Prop} {s : Shared} {h₀ : Heap} {L l : Addr} {m : Str → Option Value} {news : List (Addr × Obj)} {a b c d : Value} {n : Nat} {Q : Value → Shared → Prop} {t : Tok}
theorem len_0 (N : News h₀ L s.heap news) (hm : (l, listOf #[] n) ∈ news) (h : Q (.int 0 (s.toks + 1)) { s with toks := s.toks + 1 + 1 }) : wpAny (model prog w) A (call (.builtin "len") [.ref l]) Q E s := len_at (vs := []) (n := n) N hm (by simp) h
theorem len_1 (N : News h₀ L s.heap news) (hm : (l, listOf #[a] n) ∈ news) (h : Q (.int 1 (s.toks + 1)) { s with toks := s.toks + 1 + 1 }) : wpAny (model prog w) A (call (.builtin "len") [.ref l]) Q E s := len_at (vs := [a]) (n := n) N hm (by simp) h
theorem len_2 (N : News h₀ L s.heap news) (hm : (l, listOf #[a, b] n) ∈ news) (h : Q (.int 2 (s.toks + 1)) { s with toks := s.toks + 1 + 1 }) : wpAny (model prog w) A (call (.builtin "len") [.ref l]) Q E s := len_at (vs := [a, b]) (n := n) N hm (by simp) h
theorem len_3 (N : News h₀ L s.heap news) (hm : (l, listOf #[a, b, c] n) ∈ news) (h : Q (.int 3 (s.toks + 1)) { s with toks := s.toks + 1 + 1 }) : wpAny (model prog w) A (call (.builtin "len") [.ref l]) Q E s := len_at (vs := [a, b, c]) (n := n) N hm (by simp) h
theorem mul_2 (F : Fr h₀ L s.heap m) (N : News h₀ L s.heap news) (hm : (l, listOf #[a] n) ∈ news) (h : ∀ D h', Fr h₀ L h' m → News h₀ L h' ((D, listOf #[a, a] 0) :: news) → (∀ p ∈ news, p.1 < D) → Q (.ref D) { s with heap := h' }) :
    wpAny (model prog w) A (binaryOp .Mult (.ref l) (.int 2 t)) Q E s := KMa.mul (vs := [a]) (ws := [a, a]) F N (isList_at (vs := [a]) N hm) (by decide) (by decide) (by simp) rfl h
theorem mul_3 (F : Fr h₀ L s.heap m) (N : News h₀ L s.heap news) (hm : (l, listOf #[a] n) ∈ news) (h : ∀ D h', Fr h₀ L h' m → News h₀ L h' ((D, listOf #[a, a, a] 0) :: news) → (∀ p ∈ news, p.1 < D) → Q (.ref D) { s with heap := h' }) :
    wpAny (model prog w) A (binaryOp .Mult (.ref l) (.int 3 t)) Q E s := KMa.mul (vs := [a]) (ws := [a, a, a]) F N (isList_at (vs := [a]) N hm) (by decide) (by decide) (by simp) rfl h
/-- an invariant of a comprehension's turns -/
theorem compInv {env : Env} {elt : PySem.Expr} {x : Str} {scope : Scope} {cl : List (Str × Addr)} {S : List (Addr × Obj) → Prop} {P : Nat → Value → Prop} {Fin : List Value → List (Addr × Obj) → Prop} {n : Nat} (Inv : Nat → List Value → List (Addr × Obj) → Prop)
    (turn : ∀ i ys news, i < n → Inv i ys news → ∀ v I oI C oC D m₂ h tk (E' : Value → Shared → Prop), P i v → LCg.NsObj oC m₂ → m₂ x = some v → Fr h₀ L h m → News h₀ L h ((I, oI) :: (C, oC) :: (D, LCg.lst ys) :: news) → LCg.Off3 I C D news → ((@Ne Nat I C) ∧ (@Ne Nat I D) ∧ (@Ne Nat C D)) →
      wpAny (model prog w) A (eval elt (compEnvC scope cl C env)) (LCg.CompEnd h₀ L m { s with heap := h, toks := tk } I oI C oC D (LCg.lst ys) S (fun y news' => Inv (i + 1) (ys ++ [y]) news')) E' { s with heap := h, toks := tk })
    (fin : ∀ ys news, Inv n ys news → Fin ys news) : ∀ (k i : Nat) (ys : List Value) (news : List (Addr × Obj)), i + k = n → Inv i ys news → LCg.CompRest prog w A h₀ L m env elt x scope cl s S P Fin k i ys news := by
  intro k
  induction k with
  | zero =>
    intro i ys news e hI
    obtain rfl : i = n := by omega
    exact LCg.CompRest.zero (fin ys news hI)
  | succ k ih =>
    intro i ys news e hI
    refine LCg.CompRest.succ ?_
    intro v I oI C oC D m₂ h tk E' hP hC hx F N off ne
    refine wpAny_mono (turn i ys news (by omega) hI v I oI C oC D m₂ h tk E' hP hC hx F N off ne) (fun y s' he => ?_) fun _ _ e => e
    obtain ⟨h', tk', news', rfl, F', N', o', S', r⟩ := he
    exact ⟨h', tk', news', rfl, F', N', o', S', ih (i + 1) _ _ (by omega) r⟩
end
/-- is the asked name one of the row -/
def askIn (row : List Str) : Option Str → Bool
  | some x => decide (x ∈ row)
  | none => false
/-- its place in the row -/
def askAt (row : List Str) : Option Str → Int
  | some x => if x ∈ row then (row.idxOf x : Int) + 1 else 0
  | none => 0
theorem newsPick {h₀ h : Heap} {L : Addr} {news news' : List (Addr × Obj)} (N : News h₀ L h news) (hs : ∀ x ∈ news', x ∈ news) : News h₀ L h news' := fun x hx => N x (hs x hx)
theorem true_inB {prog : Program} {w : World} {A : Around} {E : Value → Shared → Prop} {s : Shared} {h₀ : Heap} {L l : Addr} {news : List (Addr × Obj)} {vs : List Value} {n : Nat} {bs : List Bool} {q : Bool} {Q : Value → Shared → Prop} (N : News h₀ L s.heap news) (hm : (l, listOf vs.toArray n) ∈ news) (hB : LSm.BoolsAre vs bs) (hq : decide (true ∈ bs) = q) (h : Q (.bool q) s) :
    wpAny (model prog w) A (compareOp .In (.bool true) (.ref l)) Q E s := true_in N hm hB (by rw [hq]; exact h)
theorem boolsSnoc {vs : List Value} {bs : List Bool} (h : LSm.BoolsAre vs bs) (b : Bool) : LSm.BoolsAre (vs ++ [.bool b]) (bs ++ [b]) := by
  induction h with
  | nil => exact .cons b .nil
  | cons c _ ih => exact .cons c ih
theorem intsSnoc {vs : List Value} {ns : List Int} (h : IntsAre vs ns) (n : Int) (t : Tok) : IntsAre (vs ++ [.int n t]) (ns ++ [n]) := by
  induction h with
  | nil => exact .cons n t .nil
  | cons c u _ ih => exact .cons c u ih
/-- a comprehension at whose source the walk stops -/
def CompAt (prog : Program) (w : World) (A : Around) (h₀ : Heap) (L : Addr) (m : Str → Option Value) (env : Env) (elt : PySem.Expr) (x : Str) (scope : Scope) (cl : List (Str × Addr)) (Q : Value → Shared → Prop) (xv : Value) (s₁ : Shared) : Prop :=
  LCg.CompSrc prog w A h₀ L m env elt x scope cl (fun s₂ => LCg.FinE h₀ L m s₂ Q) xv s₁
theorem comp_start {prog : Program} {w : World} {A : Around} {E : Value → Shared → Prop} {s : Shared} {h₀ : Heap} {L : Addr} {m : Str → Option Value} {env : Env} {elt iter : PySem.Expr} {x : Str} {px : Pos} {scope : Scope} {cl : List (Str × Addr)} {pos : Pos} {Q : Value → Shared → Prop} (F₀ : Fr h₀ L s.heap m)
    (hclos : closureFor scope env = pure cl) (hcell : ∀ y ∈ scope.names, y.2 ≠ .cell) (hkind : scope.kind = .function)
    (hnames : ∀ y ∈ scope.names, y.2 = .local → scope.names.lookup y.1 = some .local) (hx : scope.names.lookup x = some .local) (hs : ∀ x, foldedSetIterable iter env x = pure x)
    (h : wpAny (model prog w) A (eval iter env) (fun xv s₁ => CompAt prog w A h₀ L m env elt x scope cl Q xv s₁) E s) :
    wpAny (model prog w) A (eval (.ListComp elt [⟨.Name x px, iter, [], 0⟩] scope pos) env) Q E s := LCg.ListComp_U F₀ hclos hcell hkind hnames hx h hs
theorem comp_list {prog : Program} {w : World} {A : Around} {h₀ : Heap} {L : Addr} {m : Str → Option Value} {env : Env} {elt : PySem.Expr} {x : Str} {scope : Scope} {cl : List (Str × Addr)} {Q : Value → Shared → Prop} {ax : Addr} {its : Array Value} {k : Nat} {news : List (Addr × Obj)} {s₁ : Shared}
    (Inv : Nat → List Value → List (Addr × Obj) → Prop) (hh : A.handled = none) (F : Fr h₀ L s₁.heap m) (N : News h₀ L s₁.heap news) (hm : (ax, listOf its k) ∈ news) (hsz : its.size ≤ 16777216) (h0 : Inv 0 [] news)
    (turn : ∀ i ys news, i < its.size → Inv i ys news → ∀ v I oI C oC D m₂ h tk (E' : Value → Shared → Prop), its[i]? = some v → LCg.NsObj oC m₂ → m₂ x = some v → Fr h₀ L h m → News h₀ L h ((I, oI) :: (C, oC) :: (D, LCg.lst ys) :: news) → LCg.Off3 I C D news → ((@Ne Nat I C) ∧ (@Ne Nat I D) ∧ (@Ne Nat C D)) →
      wpAny (model prog w) A (eval elt (compEnvC scope cl C env)) (LCg.CompEnd h₀ L m { s₁ with heap := h, toks := tk } I oI C oC D (LCg.lst ys) (LCg.SrcAt h₀ ax its) (fun y news' => Inv (i + 1) (ys ++ [y]) news')) E' { s₁ with heap := h, toks := tk })
    (fin : ∀ ys news D h tk, Inv its.size ys news → Fr h₀ L h m → News h₀ L h ((D, listOf ys.toArray ys.length) :: news) → Off D news → Q (.ref D) { s₁ with heap := h, toks := tk }) :
    CompAt prog w A h₀ L m env elt x scope cl Q (.ref ax) s₁ := by
  have off1 : ∀ {D : Addr} {news : List (Addr × Obj)}, LCg.Off1 D news → Off D news := by
    intro D news
    induction news with
    | nil => intro _; exact Off.nil
    | cons p r ih =>
      intro h
      obtain ⟨a, o⟩ := p
      exact Off.cons h.1 (ih h.2)
  unfold CompAt
  refine LCg.CompSrc.ledger (k := k) hh F N hm (by rw [sizeLine_eq]; exact hsz) fun g => ?_
  refine compInv (s := { s₁ with heap := g }) Inv ?_ (fun ys news hI D h tk F' N' o1 => fin ys news D h tk hI F' N' (off1 o1)) its.size 0 [] news (by omega) h0
  exact turn
theorem comp_range {prog : Program} {w : World} {A : Around} {h₀ : Heap} {L : Addr} {m : Str → Option Value} {env : Env} {elt : PySem.Expr} {x : Str} {scope : Scope} {cl : List (Str × Addr)} {Q : Value → Shared → Prop} {r : Addr} {a b : Int} {t u v : Tok} {n : Nat} {news : List (Addr × Obj)} {s₁ : Shared}
    (Inv : Nat → List Value → List (Addr × Obj) → Prop) (hh : A.handled = none) (F : Fr h₀ L s₁.heap m) (N : News h₀ L s₁.heap news) (hr : IsRange s₁.heap r a b 1 t u v) (hsm : Builtin.Range.small a b 1 = true) (hn : Builtin.Range.rangeSize a b 1 = ((n : Nat) : Int)) (hsz : n ≤ 16777216) (h0 : Inv 0 [] news)
    (turn : ∀ i ys news, i < n → Inv i ys news → ∀ v I oI C oC D m₂ h tk (E' : Value → Shared → Prop), (∃ t, v = .int (a + (i : Int)) t) → LCg.NsObj oC m₂ → m₂ x = some v → Fr h₀ L h m → News h₀ L h ((I, oI) :: (C, oC) :: (D, LCg.lst ys) :: news) → LCg.Off3 I C D news → ((@Ne Nat I C) ∧ (@Ne Nat I D) ∧ (@Ne Nat C D)) →
      wpAny (model prog w) A (eval elt (compEnvC scope cl C env)) (LCg.CompEnd h₀ L m { s₁ with heap := h, toks := tk } I oI C oC D (LCg.lst ys) (fun _ => True) (fun y news' => Inv (i + 1) (ys ++ [y]) news')) E' { s₁ with heap := h, toks := tk })
    (fin : ∀ ys news D h tk, Inv n ys news → Fr h₀ L h m → News h₀ L h ((D, listOf ys.toArray ys.length) :: news) → Off D news → Q (.ref D) { s₁ with heap := h, toks := tk }) :
    CompAt prog w A h₀ L m env elt x scope cl Q (.ref r) s₁ := by
  have off1 : ∀ {D : Addr} {news : List (Addr × Obj)}, LCg.Off1 D news → Off D news := by
    intro D news
    induction news with
    | nil => intro _; exact Off.nil
    | cons p r ih =>
      intro h
      obtain ⟨a, o⟩ := p
      exact Off.cons h.1 (ih h.2)
  unfold CompAt
  refine LCg.CompSrc.range (n := n) hh F N hr hsm hn (by rw [sizeLine_eq]; exact hsz) fun g => ?_
  refine compInv (s := { s₁ with heap := g }) Inv ?_ (fun ys news hI D h tk F' N' o1 => fin ys news D h tk hI F' N' (off1 o1)) n 0 [] news (by omega) h0
  exact turn
theorem off3_of {I C D : Addr} {news : List (Addr × Obj)} (h1 : Off I news) (h2 : Off C news) (h3 : Off D news) : LCg.Off3 I C D news := LCg.Off3.of fun p hp => ⟨h1 p hp, h2 p hp, h3 p hp⟩
/-- the dict of a Matching -/
abbrev matD (h1 h2 h3 h4 : Int) (t1 t2 t3 t4 : Tok) (fl tl ul pd : Addr) : Obj :=
  dictOf [⟨h1, .str (Str.ofString "formals") t1, .ref fl⟩, ⟨h2, .str (Str.ofString "tags") t2, .ref tl⟩, ⟨h3, .str (Str.ofString "used") t3, .ref ul⟩, ⟨h4, .str (Str.ofString "places") t4, .ref pd⟩] 4
abbrev formals (tx tw ti : Tok) (nf : Nat) : Obj := listOf #[.str (Str.ofString "x") tx, .str (Str.ofString "what") tw, .str (Str.ofString "which") ti] nf
theorem formals_item {tx tw ti : Tok} {j : Nat} {v : Value} (h : (#[Value.str (Str.ofString "x") tx, .str (Str.ofString "what") tw, .str (Str.ofString "which") ti] : Array Value)[j]? = some v) : ∃ nm t, v = .str nm t ∧ (nm != Str.ofString "...") = true := by
  rcases j with _ | _ | _ | j
  · simp at h; subst h; exact ⟨_, _, rfl, by decide⟩
  · simp at h; subst h; exact ⟨_, _, rfl, by decide⟩
  · simp at h; subst h; exact ⟨_, _, rfl, by decide⟩
  · simp at h
end Mine

-- More4
namespace Mine
open PySem PySem.W PySem.Calls PySem.Spec PyProof.Rows
theorem small0 {n : Nat} (h : n ≤ 1000) : Builtin.Range.small 0 (n : Int) 1 = true := small_one (by omega) (by omega) (by omega) (by omega)
theorem size0 (n : Nat) : Builtin.Range.rangeSize 0 (n : Int) 1 = ((n : Nat) : Int) := by rw [rangeSize_nat]; simp
section
variable {prog : Program} {w : World} {A : Around} {E : Value → Shared → Prop} {s : Shared} {h₀ : Heap} {L l : Addr} {m : Str → Option Value} {news : List (Addr × Obj)}
theorem compInvT {env : Env} {ct elt : PySem.Expr} {x : Str} {scope : Scope} {cl : List (Str × Addr)} {S : List (Addr × Obj) → Prop} {P : Nat → Value → Prop} {Fin : List Value → List (Addr × Obj) → Prop} {n : Nat} (Inv : Nat → List Value → List (Addr × Obj) → Prop)
    (turn : ∀ i ys news, i < n → Inv i ys news → ∀ v I oI C oC D m₂ h tk (E' : Value → Shared → Prop), P i v → LCg.NsObj oC m₂ → m₂ x = some v → Fr h₀ L h m → News h₀ L h ((I, oI) :: (C, oC) :: (D, LCg.lst ys) :: news) → LCg.Off3 I C D news → ((@Ne Nat I C) ∧ (@Ne Nat I D) ∧ (@Ne Nat C D)) →
      wpAny (model prog w) A (isTrue ct (compEnvC scope cl C env) (eval ct (compEnvC scope cl C env))) (fun ok s' => if ok = true then
        wpAny (model prog w) A (eval elt (compEnvC scope cl C env)) (LCg.CompEnd h₀ L m { s with heap := h, toks := tk } I oI C oC D (LCg.lst ys) S (fun y news' => Inv (i + 1) (ys ++ [y]) news')) E' s'
        else LCg.CompEnd h₀ L m { s with heap := h, toks := tk } I oI C oC D (LCg.lst ys) S (fun _ news' => Inv (i + 1) ys news') Value.none s') E' { s with heap := h, toks := tk })
    (fin : ∀ ys news, Inv n ys news → Fin ys news) : ∀ (k i : Nat) (ys : List Value) (news : List (Addr × Obj)), i + k = n → Inv i ys news → LCt.CompRestT prog w A h₀ L m env ct elt x scope cl s S P Fin k i ys news := by
  intro k
  induction k with
  | zero =>
    intro i ys news e hI
    obtain rfl : i = n := by omega
    exact LCt.CompRestT.zero (fin ys news hI)
  | succ k ih =>
    intro i ys news e hI
    refine LCt.CompRestT.succ ?_
    intro v I oI C oC D m₂ h tk E' hP hC hx F N off ne
    refine wpAny_mono (turn i ys news (by omega) hI v I oI C oC D m₂ h tk E' hP hC hx F N off ne) (fun ok s' he => ?_) fun _ _ e => e
    cases ok with
    | true =>
      simp only [if_true] at he ⊢
      refine wpAny_mono he (fun y s' he => ?_) fun _ _ e => e
      obtain ⟨h', tk', news', rfl, F', N', o', S', r⟩ := he
      exact ⟨h', tk', news', rfl, F', N', o', S', ih (i + 1) _ _ (by omega) r⟩
    | false =>
      simp only [Bool.false_eq_true, if_false] at he ⊢
      obtain ⟨h', tk', news', rfl, F', N', o', S', r⟩ := he
      exact ⟨h', tk', news', rfl, F', N', o', S', ih (i + 1) _ _ (by omega) r⟩
/-- a comprehension with a test -/
def CompAtT (prog : Program) (w : World) (A : Around) (h₀ : Heap) (L : Addr) (m : Str → Option Value) (env : Env) (ct elt : PySem.Expr) (x : Str) (scope : Scope) (cl : List (Str × Addr)) (Q : Value → Shared → Prop) (xv : Value) (s₁ : Shared) : Prop :=
  LCt.CompSrcT prog w A h₀ L m env ct elt x scope cl (fun s₂ => LCg.FinE h₀ L m s₂ Q) xv s₁
theorem compT_start {env : Env} {ct elt iter : PySem.Expr} {x : Str} {px : Pos} {scope : Scope} {cl : List (Str × Addr)} {pos : Pos} {Q : Value → Shared → Prop} (F₀ : Fr h₀ L s.heap m)
    (hclos : closureFor scope env = pure cl) (hcell : ∀ y ∈ scope.names, y.2 ≠ .cell) (hkind : scope.kind = .function)
    (hnames : ∀ y ∈ scope.names, y.2 = .local → scope.names.lookup y.1 = some .local) (hx : scope.names.lookup x = some .local) (hs : ∀ x, foldedSetIterable iter env x = pure x)
    (h : wpAny (model prog w) A (eval iter env) (fun xv s₁ => CompAtT prog w A h₀ L m env ct elt x scope cl Q xv s₁) E s) :
    wpAny (model prog w) A (eval (.ListComp elt [⟨.Name x px, iter, [ct], 0⟩] scope pos) env) Q E s := LCt.ListComp_T F₀ hclos hcell hkind hnames hx h hs
theorem compT_range {env : Env} {ct elt : PySem.Expr} {x : Str} {scope : Scope} {cl : List (Str × Addr)} {Q : Value → Shared → Prop} {r : Addr} {a b : Int} {t u v : Tok} {n : Nat} {s₁ : Shared}
    (Inv : Nat → List Value → List (Addr × Obj) → Prop) (hh : A.handled = none) (F : Fr h₀ L s₁.heap m) (N : News h₀ L s₁.heap news) (hr : IsRange s₁.heap r a b 1 t u v) (hsm : Builtin.Range.small a b 1 = true) (hn : Builtin.Range.rangeSize a b 1 = ((n : Nat) : Int)) (hsz : n ≤ 16777216) (h0 : Inv 0 [] news)
    (turn : ∀ i ys news, i < n → Inv i ys news → ∀ v I oI C oC D m₂ h tk (E' : Value → Shared → Prop), (∃ t, v = .int (a + (i : Int)) t) → LCg.NsObj oC m₂ → m₂ x = some v → Fr h₀ L h m → News h₀ L h ((I, oI) :: (C, oC) :: (D, LCg.lst ys) :: news) → LCg.Off3 I C D news → ((@Ne Nat I C) ∧ (@Ne Nat I D) ∧ (@Ne Nat C D)) →
      wpAny (model prog w) A (isTrue ct (compEnvC scope cl C env) (eval ct (compEnvC scope cl C env))) (fun ok s' => if ok = true then
        wpAny (model prog w) A (eval elt (compEnvC scope cl C env)) (LCg.CompEnd h₀ L m { s₁ with heap := h, toks := tk } I oI C oC D (LCg.lst ys) (fun _ => True) (fun y news' => Inv (i + 1) (ys ++ [y]) news')) E' s'
        else LCg.CompEnd h₀ L m { s₁ with heap := h, toks := tk } I oI C oC D (LCg.lst ys) (fun _ => True) (fun _ news' => Inv (i + 1) ys news') Value.none s') E' { s₁ with heap := h, toks := tk })
    (fin : ∀ ys news D h tk, Inv n ys news → Fr h₀ L h m → News h₀ L h ((D, listOf ys.toArray ys.length) :: news) → Off D news → Q (.ref D) { s₁ with heap := h, toks := tk }) :
    CompAtT prog w A h₀ L m env ct elt x scope cl Q (.ref r) s₁ := by
  have off1 : ∀ {D : Addr} {news : List (Addr × Obj)}, LCg.Off1 D news → Off D news := by
    intro D news
    induction news with
    | nil => intro _; exact Off.nil
    | cons p r ih =>
      intro h
      obtain ⟨a, o⟩ := p
      exact Off.cons h.1 (ih h.2)
  unfold CompAtT
  refine LCt.CompSrcT.range (n := n) hh F N hr hsm hn (by rw [sizeLine_eq]; exact hsz) fun g => ?_
  refine compInvT (s := { s₁ with heap := g }) Inv ?_ (fun ys news hI D h tk F' N' o1 => fin ys news D h tk hI F' N' (off1 o1)) n 0 [] news (by omega) h0
  exact turn
end
/-- tags and marks of a Matching that asks no inexact match -/
def Blank (tvs uvs : List Value) : Prop := ∀ i, i < tvs.length → ∃ tv u t, tvs[i]? = some tv ∧ uvs[i]? = some (.int u t) ∧ ((u = 0 ∧ tv = .none) ∨ u = 2)
theorem Blank.two {t1 t2 : Tok} : Blank [.none, .none] [.int 0 t1, .int 0 t2] := fun i hi => by
  rcases i with _ | _ | i
  · exact ⟨_, _, _, rfl, rfl, .inl ⟨rfl, rfl⟩⟩
  · exact ⟨_, _, _, rfl, rfl, .inl ⟨rfl, rfl⟩⟩
  · simp at hi; omega
theorem Blank.three {v : Value} {t1 t2 t3 : Tok} : Blank [.none, .none, v] [.int 0 t1, .int 0 t2, .int 2 t3] := fun i hi => by
  rcases i with _ | _ | _ | i
  · exact ⟨_, _, _, rfl, rfl, .inl ⟨rfl, rfl⟩⟩
  · exact ⟨_, _, _, rfl, rfl, .inl ⟨rfl, rfl⟩⟩
  · exact ⟨_, _, _, rfl, rfl, .inr rfl⟩
  · simp at hi; omega
theorem formals_item2 {tx tw ti : Tok} {j : Nat} {v : Value} (h : (#[Value.str (Str.ofString "x") tx, .str (Str.ofString "what") tw, .str (Str.ofString "which") ti] : Array Value)[j]? = some v) :
    ∃ nm t, v = .str nm t ∧ (nm != Str.ofString "...") = true ∧ (nm = Str.ofString "which" ↔ j = 2) := by
  rcases j with _ | _ | _ | j
  · simp at h; subst h; exact ⟨_, _, rfl, by decide, by decide⟩
  · simp at h; subst h; exact ⟨_, _, rfl, by decide, by decide⟩
  · simp at h; subst h; exact ⟨_, _, rfl, by decide, by decide⟩
  · simp at h
structure XSt where
  us : List Value
  oP : Obj
  kvs : List (Str × Value)
structure PSt where
  pl : Int
  tp : Tok
  us : List Value
  oP : Obj
  kvs : List (Str × Value)
theorem mixNil {u m : Str → Option Value} : mix [] u m = m := rfl
theorem name6 {h₀ h : Heap} {L a1 a2 a3 a4 a5 a6 : Addr} {x1 x2 x3 x4 x5 x6 : Obj} {r : List (Addr × Obj)} {P : Prop} (_N : News h₀ L h ((a1, x1) :: (a2, x2) :: (a3, x3) :: (a4, x4) :: (a5, x5) :: (a6, x6) :: r)) (k : ∀ a1' a2' a3' a4' a5' a6', a1' = a1 → a2' = a2 → a3' = a3 → a4' = a4 → a5' = a5 → a6' = a6 → P) : P := k a1 a2 a3 a4 a5 a6 rfl rfl rfl rfl rfl rfl
theorem twos2 {t7 t8 : Tok} : ∀ i, i < ([Value.none, .none] : List Value).length → ∃ t, ([.int 2 t7, .int 2 t8] : List Value)[i]? = some (.int 2 t) := fun i hi => by
  rcases i with _ | _ | i
  · exact ⟨_, rfl⟩
  · exact ⟨_, rfl⟩
  · simp at hi; omega
theorem twos3 {v : Value} {t7 t8 t9 : Tok} : ∀ i, i < ([Value.none, .none, v] : List Value).length → ∃ t, ([.int 2 t7, .int 2 t8, .int 2 t9] : List Value)[i]? = some (.int 2 t) := fun i hi => by
  rcases i with _ | _ | _ | i
  · exact ⟨_, rfl⟩
  · exact ⟨_, rfl⟩
  · exact ⟨_, rfl⟩
  · simp at hi; omega
theorem repackM {h₀ h : Heap} {L dm fl tl ul pd u0 : Addr} {p1 p3 p4 : Addr × Obj} {r : List (Addr × Obj)} {h1 h2 h3 h4 : Int} {t1 t2 t3 t4 t5 t6 : Tok} {k : Nat} {P : Prop} (N : News h₀ L h (p1 :: (u0, listOf #[.int 0 t5, .int 0 t6] k) :: p3 :: p4 :: (dm, matD h1 h2 h3 h4 t1 t2 t3 t4 fl tl ul pd) :: r))
    (go : ∀ h1 h2 h3 h4 t1 t2 t3 t4 t5 t6, News h₀ L h (p1 :: (u0, listOf #[.int 0 t5, .int 0 t6] k) :: p3 :: p4 :: (dm, matD h1 h2 h3 h4 t1 t2 t3 t4 fl tl ul pd) :: r) → P) : P := go _ _ _ _ _ _ _ _ _ _ N
theorem repackM3 {h₀ h : Heap} {L dm fl tl ul pd u0 : Addr} {p1 p3 p4 : Addr × Obj} {r : List (Addr × Obj)} {h1 h2 h3 h4 : Int} {t1 t2 t3 t4 t5 t6 t7 : Tok} {k : Nat} {P : Prop} (N : News h₀ L h (p1 :: (u0, listOf #[.int 0 t5, .int 0 t6, .int 0 t7] k) :: p3 :: p4 :: (dm, matD h1 h2 h3 h4 t1 t2 t3 t4 fl tl ul pd) :: r))
    (go : ∀ h1 h2 h3 h4 t1 t2 t3 t4 t5 t6 t7, News h₀ L h (p1 :: (u0, listOf #[.int 0 t5, .int 0 t6, .int 0 t7] k) :: p3 :: p4 :: (dm, matD h1 h2 h3 h4 t1 t2 t3 t4 fl tl ul pd) :: r) → P) : P := go _ _ _ _ _ _ _ _ _ _ _ N
theorem nameC {h₀ h : Heap} {L c : Addr} {p1 : Addr × Obj} {x : Obj} {r : List (Addr × Obj)} {P : Prop} (_N : News h₀ L h (p1 :: (c, x) :: r)) (k : ∀ x', x' = x → P) : P := k x rfl
end Mine

-- More5
namespace Mine
open PySem PySem.W PySem.Calls PySem.Spec PyProof.Rows
section
variable {prog : Program} {w : World} {K : Frag} {p : Program} {loose : List Str} {mean : ExcName → Option Value} {mg mb : Str → Option Value} {f : Addr} {vals : List Value} {kw : List (Str × Value)} {room : Nat} {pre : List (Addr × Obj)}
/-- what lies apart stays as it is -/
theorem tells1_row {row : List Str} {extra : List (Addr × Obj)} (C : Tells1 prog w K p loose mean mg mb f vals kw room pre (RowPost pre row)) (ap : Apart pre extra) :
    Tells1 prog w K p loose mean mg mb f vals kw room (pre ++ extra) (RowPost (pre ++ extra) row) := by
  intro dp un gd cn cs a ccd cl outer A₀ base h₀ L m rest s Q E B F X N T hck off hd hu ret
  refine C dp un gd cn cs a ccd cl outer A₀ base h₀ L m (extra ++ rest) s Q E B F X (by rw [← List.append_assoc]; exact N) T hck (fun x hx y hy => ?_) hd hu fun r out h' tk' F' N' ap' hp => ?_
  · rcases List.mem_append.mp hy with hy | hy
    · exact ap x hx y hy
    · exact off x (List.mem_append_left _ hx) y hy
  · obtain ⟨l, its, n, rfl, rfl, hS⟩ := hp
    refine ret _ ((l, listOf its.toArray n) :: (pre ++ extra)) h' tk' F' (fun x hx => N' x (by simpa [List.append_assoc] using hx)) (fun x hx y hy => ?_) ⟨l, its, n, rfl, rfl, hS⟩
    rw [← List.cons_append] at hx
    rcases List.mem_append.mp hx with hx | hx
    · exact ap' x hx y (List.mem_append_right _ hy)
    · exact off x (List.mem_append_right _ hx) y hy
end
section
variable {prog : Program} {w : World} {A : Around} {E : Value → Shared → Prop} {s : Shared} {h₀ : Heap} {L l b : Addr} {news : List (Addr × Obj)} {vs us : List Value} {ns ms : List Int} {n k : Nat}
theorem ints_ne {q : Bool} {Q : Value → Shared → Prop} (N : News h₀ L s.heap news) (hm : (l, listOf vs.toArray n) ∈ news) (hb : (b, listOf us.toArray k) ∈ news) (hi : IntsAre vs ns) (hj : IntsAre us ms) (hu : A.units + 64 < cLine) (hq : (!decide (ns = ms)) = q)
    (h : Q (.bool q) s) : wpAny (model prog w) A (compareOp .NotEq (.ref l) (.ref b)) Q E s := ke_ne_ints (isList_at N hm) (isList_at N hb) hi hj hu (by rw [hq]; exact h)
theorem ints_eq {q : Bool} {Q : Value → Shared → Prop} (N : News h₀ L s.heap news) (hm : (l, listOf vs.toArray n) ∈ news) (hb : (b, listOf us.toArray k) ∈ news) (hi : IntsAre vs ns) (hj : IntsAre us ms) (hu : A.units + 64 < cLine) (hq : decide (ns = ms) = q)
    (h : Q (.bool q) s) : wpAny (model prog w) A (compareOp .Eq (.ref l) (.ref b)) Q E s := ke_eq_ints (isList_at N hm) (isList_at N hb) hi hj hu (by rw [hq]; exact h)
end
theorem ifexp_10 {M : Model} {A : Around} {E : Value → Shared → Prop} {s : Shared} {env : Env} {test : PySem.Expr} {k k' : Nat} {p1 p2 pos : Pos} {Q : Value → Shared → Prop}
    (h : wpAny M A (isTrue test env (eval test env)) (fun b s₁ => Q (.int (if b = true then 1 else 0) s₁.toks) { s₁ with toks := s₁.toks + 1 }) E s) :
    wpAny M A (eval (.IfExp test (.Constant (.int 1) k p1) (.Constant (.int 0) k' p2) pos) env) Q E s := by
  refine IfExp_ (wpAny_mono h (fun b s₁ h₁ => ?_) fun _ _ e => e)
  cases b with
  | true => simpa using wpAny_Constant_int h₁
  | false => simpa using wpAny_Constant_int h₁
section
variable {h₀ h : Heap} {L : Addr} {r : List (Addr × Obj)} {P : Prop}
/-- the fields of a vector, told by what is read of them -/
theorem repackV {p1 p2 p3 p4 : Addr × Obj} {dV : Addr} {es : List DictEntry} {n : Nat} {kv iv : Value} (N : News h₀ L h (p1 :: p2 :: p3 :: p4 :: (dV, dictOf es n) :: r)) (hk : getL (Str.ofString "kind") es = some (some kv)) (hi : getL (Str.ofString "items") es = some (some iv))
    (go : ∀ es', getL (Str.ofString "kind") es' = some (some kv) → getL (Str.ofString "items") es' = some (some iv) → News h₀ L h (p1 :: p2 :: p3 :: p4 :: (dV, dictOf es' n) :: r) → P) : P := go es hk hi N
theorem repackV1 {p1 : Addr × Obj} {dV : Addr} {es : List DictEntry} {n : Nat} {kv iv : Value} (N : News h₀ L h (p1 :: (dV, dictOf es n) :: r)) (hk : getL (Str.ofString "kind") es = some (some kv)) (hi : getL (Str.ofString "items") es = some (some iv))
    (go : ∀ es', getL (Str.ofString "kind") es' = some (some kv) → getL (Str.ofString "items") es' = some (some iv) → News h₀ L h (p1 :: (dV, dictOf es' n) :: r) → P) : P := go es hk hi N
theorem name5 {a1 a2 a3 a4 a5 : Addr} {x1 x2 x3 x4 x5 : Obj} (_N : News h₀ L h ((a1, x1) :: (a2, x2) :: (a3, x3) :: (a4, x4) :: (a5, x5) :: r)) (k : ∀ a1' a2' a3' a4' a5', a1' = a1 → a2' = a2 → a3' = a3 → a4' = a4 → a5' = a5 → P) : P := k _ _ _ _ _ rfl rfl rfl rfl rfl
end
theorem repackV3 {h₀ h : Heap} {L : Addr} {r : List (Addr × Obj)} {P : Prop} {p1 p2 p3 : Addr × Obj} {dV : Addr} {es : List DictEntry} {n : Nat} {kv iv : Value} (N : News h₀ L h (p1 :: p2 :: p3 :: (dV, dictOf es n) :: r)) (hk : getL (Str.ofString "kind") es = some (some kv)) (hi : getL (Str.ofString "items") es = some (some iv))
    (go : ∀ es', getL (Str.ofString "kind") es' = some (some kv) → getL (Str.ofString "items") es' = some (some iv) → News h₀ L h (p1 :: p2 :: p3 :: (dV, dictOf es' n) :: r) → P) : P := go es hk hi N
section
variable {M : Model} {A : Around} {E : Value → Shared → Prop} {s : Shared} {Q : Value → Shared → Prop}
/-- an expression at which the walk stops -/
def EvalAt (M : Model) (A : Around) (e : PySem.Expr) (env : Env) (Q E : Value → Shared → Prop) (s : Shared) : Prop := wpAny M A (eval e env) Q E s
theorem stop_eval {e : PySem.Expr} {env : Env} (h : EvalAt M A e env Q E s) : wpAny M A (eval e env) Q E s := h
theorem eval_join {e : PySem.Expr} {env : Env} (J : Value → Shared → Prop) (h : wpAny M A (eval e env) J E s) (k : ∀ v s', J v s' → Q v s') : EvalAt M A e env Q E s := wpAny_mono h k fun _ _ x => x
theorem call_join {f : Addr} {vals : List Value} {kw : List (Str × Value)} (J : Value → Shared → Prop) (h : CallAt M A f vals kw J E s) (k : ∀ v s', J v s' → Q v s') : CallAt M A f vals kw Q E s := wpAny_mono h k fun _ _ x => x
end
theorem small1 {a : Int} {b : Int} (h0 : 0 ≤ a) (h1 : a ≤ 1000) (h2 : 0 ≤ b) (h3 : b ≤ 1000) : Builtin.Range.small a b 1 = true := small_one (by omega) (by omega) (by omega) (by omega)
/-- the law's names of classes -/
def kns : List Str := ["Ka", "Kb", "Kc", "Kd", "Ke", "Kf"].map Str.ofString
def kn (i : Nat) : Str := kns.getD i (Str.ofString "")
theorem Off.cons2 {a x y : Addr} {ox oy : Obj} (h : Off a [(x, ox), (y, oy)]) (o o' : Obj) : Off a [(x, o), (y, o')] := Off.cons (h.ne (.head _)) (Off.cons (h.ne (.tail _ (.head _))) Off.nil)
theorem capture {h₀ h : Heap} {L : Addr} {m : Str → Option Value} (_F : Fr h₀ L h m) : ∃ m0, m0 = m := ⟨m, rfl⟩
/-- a fact that the walk leaves alone -/
def Hold (P : Prop) : Prop := P
theorem Hold.mk {P : Prop} (h : P) : Hold P := h
theorem Hold.out {P : Prop} (h : Hold P) : P := h
theorem Apart.retype {a b c : Addr} {o1 o2 o3 o1' o2' o3' : Obj} {ys : List (Addr × Obj)} (h : Apart [(a, o1), (b, o2), (c, o3)] ys) : Apart [(a, o1'), (b, o2'), (c, o3')] ys :=
  Apart.cons (h.off (.head _)) (Apart.cons (h.off (.tail _ (.head _))) (Apart.cons (h.off (.tail _ (.tail _ (.head _)))) Apart.nil))
theorem kn_eq : ∀ {i : Nat}, i < 6 → (Str.ofString "K" ++ Txt.item (Str.ofString "abcdef") (i : Int)) = kn i
  | 0, _ => by decide +kernel
  | 1, _ => by decide +kernel
  | 2, _ => by decide +kernel
  | 3, _ => by decide +kernel
  | 4, _ => by decide +kernel
  | 5, _ => by decide +kernel
  | i + 6, h => absurd h (by omega)
theorem kn_fresh : ∀ {i : Nat}, i < 6 → kn i ∉ kns.take i
  | 0, _ => by decide +kernel
  | 1, _ => by decide +kernel
  | 2, _ => by decide +kernel
  | 3, _ => by decide +kernel
  | 4, _ => by decide +kernel
  | 5, _ => by decide +kernel
  | i + 6, h => absurd h (by omega)
theorem kn_mem : ∀ {i : Nat}, i < 6 → kn i ∈ kns
  | 0, _ => by decide +kernel
  | 1, _ => by decide +kernel
  | 2, _ => by decide +kernel
  | 3, _ => by decide +kernel
  | 4, _ => by decide +kernel
  | 5, _ => by decide +kernel
  | i + 6, h => absurd h (by omega)
theorem kn_take : ∀ {i : Nat}, i < 6 → kns.take i ++ [kn i] = kns.take (i + 1)
  | 0, _ => by decide +kernel
  | 1, _ => by decide +kernel
  | 2, _ => by decide +kernel
  | 3, _ => by decide +kernel
  | 4, _ => by decide +kernel
  | 5, _ => by decide +kernel
  | i + 6, h => absurd h (by omega)
theorem kns_any : ∀ x ∈ kns, x ≠ Str.ofString "ANY" := by decide +kernel
theorem kns_ok : ∀ x ∈ kns, PyData.strOk x = true := by decide +kernel
theorem kns_len : kns.length = 6 := rfl
theorem keys_nil {G : List (Str × List Str)} (h : keys G = []) : G = [] := by
  cases G with
  | nil => rfl
  | cons _ _ => cases h
theorem Off.six {a x1 x2 x3 x4 x5 x6 : Addr} {o o1 o2 o3 o4 o5 o6 : Obj} (h : Off a [(x1, o), (x2, o), (x3, o), (x4, o), (x5, o), (x6, o)]) : Off a [(x1, o1), (x2, o2), (x3, o3), (x4, o4), (x5, o5), (x6, o6)] :=
  Off.cons (h.ne (.head _)) (Off.cons (h.ne (.tail _ (.head _))) (Off.cons (h.ne (.tail _ (.tail _ (.head _)))) (Off.cons (h.ne (.tail _ (.tail _ (.tail _ (.head _))))) (Off.cons (h.ne (.tail _ (.tail _ (.tail _ (.tail _ (.head _)))))) (Off.cons (h.ne (.tail _ (.tail _ (.tail _ (.tail _ (.tail _ (.head _))))))) Off.nil)))))
/-- a class's fields -/
abbrev clsD (h1 h2 h3 h4 h5 h6 : Int) (t1 t2 t3 t4 t5 t6 tn : Tok) (nm : Str) (sl u pr : Addr) : Obj :=
  dictOf [⟨h1, .str (Str.ofString "name") t1, .str nm tn⟩, ⟨h2, .str (Str.ofString "slots") t2, .ref sl⟩, ⟨h3, .str (Str.ofString "contains") t3, .ref u⟩, ⟨h4, .str (Str.ofString "validity") t4, .none⟩,
      ⟨h5, .str (Str.ofString "virtual") t5, .bool false⟩, ⟨h6, .str (Str.ofString "prototype") t6, .ref pr⟩] 6
theorem repackC {h₀ h : Heap} {L dc sl u pr tp : Addr} {p1 p3 p4 : Addr × Obj} {r : List (Addr × Obj)} {P : Prop} {h1 h2 h3 h4 h5 h6 : Int} {t1 t2 t3 t4 t5 t6 tn ts tq : Tok} {nm : Str} (N : News h₀ L h (p1 :: (dc, clsD h1 h2 h3 h4 h5 h6 t1 t2 t3 t4 t5 t6 tn nm sl u pr) :: p3 :: p4 :: (tp, tupOf [.str (Str.ofString "s") ts, .str (Str.ofString "numeric") tq]) :: r))
    (go : ∀ h1 h2 h3 h4 h5 h6 t1 t2 t3 t4 t5 t6 tn ts tq, News h₀ L h (p1 :: (dc, clsD h1 h2 h3 h4 h5 h6 t1 t2 t3 t4 t5 t6 tn nm sl u pr) :: p3 :: p4 :: (tp, tupOf [.str (Str.ofString "s") ts, .str (Str.ofString "numeric") tq]) :: r) → P) : P := go _ _ _ _ _ _ _ _ _ _ _ _ _ _ _ N
theorem offGrow4 {a t dt D U c dc sl tp u : Addr} {o o3 o4 o5 o6 : Obj} {gl : List (Addr × Obj)} (ho : Off a [(t, o), (dt, o), (D, o), (U, o)]) (hg : Off a gl) (h1 : @Ne Nat c a) (h2 : @Ne Nat dc a) (h3 : @Ne Nat sl a) (h4 : @Ne Nat tp a) (h5 : @Ne Nat u a)
    (q1 q2 q3 q4 q5 : Obj) : Off a ((t, o3) :: (dt, o4) :: (D, o5) :: (U, o6) :: (c, q1) :: (dc, q2) :: (sl, q3) :: (tp, q4) :: (u, q5) :: gl) :=
  Off.cons (ho.ne (.head _)) (Off.cons (ho.ne (.tail _ (.head _))) (Off.cons (ho.ne (.tail _ (.tail _ (.head _)))) (Off.cons (ho.ne (.tail _ (.tail _ (.tail _ (.head _))))) (Off.cons h1 (Off.cons h2 (Off.cons h3 (Off.cons h4 (Off.cons h5 hg))))))))
theorem offGrow {a S dS t dt D U c dc sl tp u : Addr} {o1 o2 o3 o4 o5 o6 p1 p2 p3 p4 p5 p6 : Obj} {gl : List (Addr × Obj)} (ho : Off a ((S, o1) :: (dS, o2) :: (t, o3) :: (dt, o4) :: (D, o5) :: (U, o6) :: gl)) (h1 : @Ne Nat c a) (h2 : @Ne Nat dc a) (h3 : @Ne Nat sl a) (h4 : @Ne Nat tp a) (h5 : @Ne Nat u a)
    (q1 q2 q3 q4 q5 : Obj) : Off a ((S, p1) :: (dS, p2) :: (t, p3) :: (dt, p4) :: (D, p5) :: (U, p6) :: (c, q1) :: (dc, q2) :: (sl, q3) :: (tp, q4) :: (u, q5) :: gl) :=
  Off.cons (ho.ne (.head _)) (Off.cons (ho.ne (.tail _ (.head _))) (Off.cons (ho.ne (.tail _ (.tail _ (.head _)))) (Off.cons (ho.ne (.tail _ (.tail _ (.tail _ (.head _))))) (Off.cons (ho.ne (.tail _ (.tail _ (.tail _ (.tail _ (.head _)))))) (Off.cons (ho.ne (.tail _ (.tail _ (.tail _ (.tail _ (.tail _ (.head _)))))))
    (Off.cons h1 (Off.cons h2 (Off.cons h3 (Off.cons h4 (Off.cons h5 (ho.sub fun _ h => .tail _ (.tail _ (.tail _ (.tail _ (.tail _ (.tail _ h))))))))))))))))
theorem callNames {M : Model} {A : Around} {E : Value → Shared → Prop} {s : Shared} {Q : Value → Shared → Prop} {f a1 a2 : Addr} {kw : List (Str × Value)} (h : ∀ x y, x = a1 → y = a2 → CallAt M A f [.ref x, .ref y] kw Q E s) : CallAt M A f [.ref a1, .ref a2] kw Q E s := h _ _ rfl rfl
theorem lenLe {n : Nat} (h : ¬ ((63 : Nat) : Int) < (n : Int)) : n ≤ 63 := by omega
theorem lawPick {h₀ h : Heap} {L b it : Addr} {m : Str → Option Value} {news : List (Addr × Obj)} {P : Prop} {l di : Addr} {tcb : Tok} {nb nl nI : Nat} {its : List Value} {ns : List Int} {esI : List DictEntry} {oB oN : Obj} {vN : Option Value}
    {A₀ : Around} (B : Below A₀ h₀ [] h₀) (F : Fr h₀ L h m) (N : News h₀ L h news) (hs : ∀ x ∈ [(b, listOf #[.ref l, .int 0 tcb] nb), (l, listOf its.toArray nl), (it, instObj 575 di), (di, dictOf esI nI), (L + 1, oB), (L + 1 + 1, oN)], x ∈ news)
    (hs4 : getL (Str.ofString "s4") esI = some (some .none)) (hlen : esI.length ≤ 100) (hI : IntsAre its ns) (hn : ns.length ≤ 63) (hB : oB.data = .cell (some (.ref b))) (hN : oN.data = .cell vN)
    (d1 : @Ne Nat b l) (d2 : @Ne Nat b it) (d3 : @Ne Nat b di) (d4 : @Ne Nat l it) (d5 : @Ne Nat l di) (d6 : @Ne Nat it di) (d7 : @LT.lt Nat _ (L + 1 + 1) b) (d8 : @LT.lt Nat _ (L + 1 + 1) l) (d9 : @LT.lt Nat _ (L + 1 + 1) it) (d10 : @LT.lt Nat _ (L + 1 + 1) di)
    (go : ∀ l di tcb nb nl nI its ns esI oB oN vN, getL (Str.ofString "s4") esI = some (some .none) → esI.length ≤ 100 → IntsAre its ns → ns.length ≤ 63 → oB.data = .cell (some (.ref b)) → oN.data = .cell vN →
      @Ne Nat b l → @Ne Nat b it → @Ne Nat b di → @Ne Nat l it → @Ne Nat l di → @Ne Nat it di → @LT.lt Nat _ (L + 1 + 1) b → @LT.lt Nat _ (L + 1 + 1) l → @LT.lt Nat _ (L + 1 + 1) it → @LT.lt Nat _ (L + 1 + 1) di →
      Below A₀ h₀ [] h₀ → Fr h₀ L h m → News h₀ L h [(b, listOf #[.ref l, .int 0 tcb] nb), (l, listOf its.toArray nl), (it, instObj 575 di), (di, dictOf esI nI), (L + 1, oB), (L + 1 + 1, oN)] → P) : P :=
  go l di tcb nb nl nI its ns esI oB oN vN hs4 hlen hI hn hB hN d1 d2 d3 d4 d5 d6 d7 d8 d9 d10 B F (newsPick N hs)
theorem take60 (ns : List Int) : (ns.take 60).length ≤ 63 := by rw [List.length_take]; omega
section
variable {prog : Program} {w : World} {A : Around} {E : Value → Shared → Prop} {s : Shared} {h₀ : Heap} {L : Addr} {m : Str → Option Value} {env : Env} {news : List (Addr × Obj)}
theorem last_at {value slice : PySem.Expr} {Q : Value → Shared → Prop} {l : Addr} {vs : List Value} {n : Nat} {v : Value} {t : Tok} (N : News h₀ L s.heap news) (hm : (l, listOf vs.toArray n) ∈ news) (hx : vs[vs.length - 1]? = some v) (h : Q v s)
    (hs : subscripted slice false (.ref l) (.int (-1) t) = operate [.ref l, .int (-1) t] (getItem (.ref l) (.int (-1) t)) := by with_unfolding_all rfl) :
    wpAny (model prog w) A (subscriptTail value slice (.ref l) (.int (-1) t)) Q E s :=
  have hl : s.heap.IsList l vs.toArray := ⟨_, (N _ hm).1, rfl, n, rfl⟩
  have hlt : vs.length - 1 < vs.length := (List.getElem?_eq_some_iff.mp hx).1
  tail_any hl.typeIs slot_list_getitem.lookup (wpAny_getItem_list_neg hl (by omega) (by rw [List.size_toArray]; omega) (by omega) (by
    have e : ((-1 : Int) + (vs.toArray.size : Int)).toNat = vs.length - 1 := by rw [List.size_toArray]; omega
    rw [e, List.getElem?_toArray]; exact hx) h) hs
/-- an assigned comprehension over a range -/
def CompAtA (prog : Program) (w : World) (A : Around) (h₀ : Heap) (L : Addr) (m : Str → Option Value) (env : Env) (elt : PySem.Expr) (x : Str) (scope : Scope) (cl : List (Str × Addr)) (y : Str) (Q : Flow → Shared → Prop) (xv : Value) (s₁ : Shared) : Prop :=
  LCg.CompSrc prog w A h₀ L m env elt x scope cl (fun s₂ => LCg.FinA h₀ L m s₂ y Q) xv s₁
theorem compA_start {elt iter : PySem.Expr} {x y : Str} {px py : Pos} {scope : Scope} {cl : List (Str × Addr)} {pos spos : Pos} {Q : Flow → Shared → Prop} (F₀ : Fr h₀ L s.heap m) (hLe : env.locals = L)
    (hsw : swapsWith (.ListComp elt [⟨.Name x px, iter, [], 0⟩] scope pos) (some (.Name y py)) spos.line env = pure true)
    (hclos : closureFor scope env = pure cl) (hcell : ∀ z ∈ scope.names, z.2 ≠ .cell) (hkind : scope.kind = .function)
    (hnames : ∀ z ∈ scope.names, z.2 = .local → scope.names.lookup z.1 = some .local) (hx : scope.names.lookup x = some .local)
    (hy : env.kindOf y = some .local) (hp : (env.scope.kind == .class || (env.scope.kind == .module && env.locals != env.globals)) = false) (hs : ∀ x, foldedSetIterable iter env x = pure x)
    (h : wpAny (model prog w) A (eval iter env) (fun xv s₁ => CompAtA prog w A h₀ L m env elt x scope cl y Q xv s₁) E s) :
    wpAny (model prog w) A (exec (.Assign [.Name y py] (.ListComp elt [⟨.Name x px, iter, [], 0⟩] scope pos) spos) env) Q E s := LCg.Assign_ListComp_U F₀ hLe hsw hclos hcell hkind hnames hx hy hp h hs
theorem compA_range {elt : PySem.Expr} {x y : Str} {scope : Scope} {cl : List (Str × Addr)} {Q : Flow → Shared → Prop} {r : Addr} {a b : Int} {t u v : Tok} {n : Nat} {s₁ : Shared}
    (Inv : Nat → List Value → List (Addr × Obj) → Prop) (hh : A.handled = none) (F : Fr h₀ L s₁.heap m) (N : News h₀ L s₁.heap news) (hr : IsRange s₁.heap r a b 1 t u v) (hsm : Builtin.Range.small a b 1 = true) (hn : Builtin.Range.rangeSize a b 1 = ((n : Nat) : Int)) (hsz : n ≤ 16777216) (h0 : Inv 0 [] news)
    (turn : ∀ i ys news, i < n → Inv i ys news → ∀ v I oI C oC D m₂ h tk (E' : Value → Shared → Prop), (∃ t, v = .int (a + (i : Int)) t) → LCg.NsObj oC m₂ → m₂ x = some v → Fr h₀ L h m → News h₀ L h ((I, oI) :: (C, oC) :: (D, LCg.lst ys) :: news) → LCg.Off3 I C D news → ((@Ne Nat I C) ∧ (@Ne Nat I D) ∧ (@Ne Nat C D)) →
      wpAny (model prog w) A (eval elt (compEnvC scope cl C env)) (LCg.CompEnd h₀ L m { s₁ with heap := h, toks := tk } I oI C oC D (LCg.lst ys) (fun _ => True) (fun y news' => Inv (i + 1) (ys ++ [y]) news')) E' { s₁ with heap := h, toks := tk })
    (fin : ∀ ys news D h tk, Inv n ys news → Fr h₀ L h (fun z => if z = y then some (.ref D) else m z) → News h₀ L h ((D, listOf ys.toArray ys.length) :: news) → Off D news → Q .next { s₁ with heap := h, toks := tk }) :
    CompAtA prog w A h₀ L m env elt x scope cl y Q (.ref r) s₁ := by
  have off1 : ∀ {D : Addr} {news : List (Addr × Obj)}, LCg.Off1 D news → Off D news := by
    intro D news
    induction news with
    | nil => intro _; exact Off.nil
    | cons p r ih =>
      intro h
      obtain ⟨a, o⟩ := p
      exact Off.cons h.1 (ih h.2)
  unfold CompAtA
  refine LCg.CompSrc.range (n := n) hh F N hr hsm hn (by rw [sizeLine_eq]; exact hsz) fun g => ?_
  refine compInv (s := { s₁ with heap := g }) Inv ?_ (fun ys news hI D h tk F' N' o1 => fin ys news D h tk hI F' N' (off1 o1)) n 0 [] news (by omega) h0
  exact turn
end
theorem Off.of_lt2 {a d : Nat} {ys : List (Addr × Obj)} (h : ∀ p ∈ ys, p.1 < d) (h2 : d < a) : Off a ys := fun y hy => Nat.ne_of_lt (Nat.lt_trans (h y hy) h2)
section
variable {prog : Program} {w : World} {K : Frag} {p : Program} {loose : List Str} {mean : ExcName → Option Value} {mg mb : Str → Option Value} {f : Addr} {vals : List Value} {kw : List (Str × Value)} {room : Nat} {pre : List (Addr × Obj)} {post : Value → List (Addr × Obj) → Prop}
/-- a contract that asks nothing of the ledger -/
theorem callAt_useE {dp un : Nat} {gd : Option (List Code)} {cn : Str} {cs : Scope} {a : Addr} {ccd : Value} {cl : List (Str × Addr)} {outer : List Env} {A₀ : Around} {base h₀ : Heap} {L : Addr} {m : Str → Option Value} {news : List (Addr × Obj)} {s : Shared}
    {Q E : Value → Shared → Prop} (N : News h₀ L s.heap news) (C : Tells1 prog w K p loose mean mg mb f vals kw room [] post)
    (B : Below A₀ base outer h₀) (F : Fr h₀ L s.heap m) (X : K.In h₀) (T : Top p loose mean mg mb h₀) (hk : cs.kind = .function)
    (hd : dp + room < recursionLimit) (hu : un + 8 * room < cLine)
    (ret : ∀ r out, post r out → ∀ h' tk', Fr h₀ L h' m → News h₀ L h' (out ++ news) → Apart out news → Q r { s with heap := h', toks := tk' }) :
    CallAt (model prog w) (ktrTop dp un gd cn cs L a ccd cl outer) f vals kw Q E s :=
  callAt_use C news B F X N T hk (fun x hx => by simpa using hx) Apart.nil hd hu ret
/-- the two cells stand ahead -/
theorem callAt_useC {dp un : Nat} {gd : Option (List Code)} {cn : Str} {cs : Scope} {a : Addr} {ccd : Value} {cl : List (Str × Addr)} {outer : List Env} {A₀ : Around} {base h₀ : Heap} {L : Addr} {m : Str → Option Value} {c1 c2 : Addr × Obj} {tl : List (Addr × Obj)} {s : Shared}
    {Q E : Value → Shared → Prop} (N : News h₀ L s.heap (c1 :: c2 :: tl)) (C : Tells1 prog w K p loose mean mg mb f vals kw room pre post) (rest : List (Addr × Obj))
    (B : Below A₀ base outer h₀) (F : Fr h₀ L s.heap m) (X : K.In h₀) (T : Top p loose mean mg mb h₀) (hk : cs.kind = .function)
    (hin : ∀ x ∈ pre ++ rest, x ∈ tl) (o1 : Off c1.1 pre) (o2 : Off c2.1 pre) (off : Apart pre rest) (hd : dp + room < recursionLimit) (hu : un + 8 * room < cLine)
    (ret : ∀ r out, post r out → ∀ h' tk', Fr h₀ L h' m → News h₀ L h' (c1 :: c2 :: (out ++ rest)) → Off c1.1 out → Off c2.1 out → Apart out rest → Q r { s with heap := h', toks := tk' }) :
    CallAt (model prog w) (ktrTop dp un gd cn cs L a ccd cl outer) f vals kw Q E s :=
  callAt_use C (c1 :: c2 :: rest) B F X N T hk (fun x hx => by
    rcases List.mem_append.mp hx with h | h
    · exact .tail _ (.tail _ (hin x (List.mem_append_left _ h)))
    · rcases List.mem_cons.mp h with rfl | h
      · exact .head _
      · rcases List.mem_cons.mp h with rfl | h
        · exact .tail _ (.head _)
        · exact .tail _ (.tail _ (hin x (List.mem_append_right _ h))))
    (Apart.symm (Apart.cons o1 (Apart.cons o2 off.symm))) hd hu fun r out hp h' tk' F' N' ap => ret r out hp h' tk' F' (newsPick N' fun x hx => by
      rcases List.mem_cons.mp hx with rfl | hx
      · exact List.mem_append_right _ (.head _)
      · rcases List.mem_cons.mp hx with rfl | hx
        · exact List.mem_append_right _ (.tail _ (.head _))
        · rcases List.mem_append.mp hx with hx | hx
          · exact List.mem_append_left _ hx
          · exact List.mem_append_right _ (.tail _ (.tail _ hx))) (ap.symm.off (.head _)) (ap.symm.off (.tail _ (.head _))) (ap.sub (fun _ h => h) fun _ h => .tail _ (.tail _ h))
end
theorem newsRot {h₀ h : Heap} {L : Addr} {p1 p2 p3 p4 c1 c2 : Addr × Obj} (N : News h₀ L h [p1, p2, p3, p4, c1, c2]) : News h₀ L h [c1, c2, p3, p4, p1, p2] := newsPick N fun x hx => by
  simp only [List.mem_cons, List.not_mem_nil, or_false] at hx ⊢
  rcases hx with h | h | h | h | h | h <;> simp [h]
theorem repackS {h₀ h : Heap} {L v dv : Addr} {r : List (Addr × Obj)} {P : Prop} {p1 c1 c2 : Addr × Obj} {ov : Obj} {es : List DictEntry} {n : Nat} {kv nv av : Value} (N : News h₀ L h (p1 :: (v, ov) :: (dv, dictOf es n) :: c1 :: c2 :: r)) (hk : getL (Str.ofString "kind") es = some (some kv)) (hn : getL (Str.ofString "name") es = some (some nv)) (ha : getL (Str.ofString "attrs") es = some (some av))
    (go : ∀ es', getL (Str.ofString "kind") es' = some (some kv) → getL (Str.ofString "name") es' = some (some nv) → getL (Str.ofString "attrs") es' = some (some av) → News h₀ L h (c1 :: c2 :: (v, ov) :: (dv, dictOf es' n) :: r) → P) : P := go es hk hn ha (newsPick N fun x hx => by
      rcases List.mem_cons.mp hx with rfl | hx
      · exact .tail _ (.tail _ (.tail _ (.head _)))
      · rcases List.mem_cons.mp hx with rfl | hx
        · exact .tail _ (.tail _ (.tail _ (.tail _ (.head _))))
        · rcases List.mem_cons.mp hx with rfl | hx
          · exact .tail _ (.head _)
          · rcases List.mem_cons.mp hx with rfl | hx
            · exact .tail _ (.tail _ (.head _))
            · exact .tail _ (.tail _ (.tail _ (.tail _ (.tail _ hx)))))
section
variable {prog : Program} {w : World} {K : Frag} {p : Program} {loose : List Str} {mean : ExcName → Option Value} {mg mb : Str → Option Value} {f : Addr} {vals : List Value} {kw : List (Str × Value)} {room : Nat} {pre : List (Addr × Obj)} {post : Value → List (Addr × Obj) → Prop}
theorem tells1_perm {pre' : List (Addr × Obj)} {row : List Str} (C : Tells1 prog w K p loose mean mg mb f vals kw room pre (RowPost pre row)) (h1 : ∀ x ∈ pre, x ∈ pre') (h2 : ∀ x ∈ pre', x ∈ pre) : Tells1 prog w K p loose mean mg mb f vals kw room pre' (RowPost pre' row) := by
  intro dp un gd cn cs a ccd cl outer A₀ base h₀ L m rest s Q E B F X N T hck off hd hu ret
  refine C dp un gd cn cs a ccd cl outer A₀ base h₀ L m rest s Q E B F X (fun x hx => ?_) T hck (fun x hx y hy => off x (h1 x hx) y hy) hd hu fun r out h' tk' F' N' ap' hp => ?_
  · rcases List.mem_append.mp hx with h | h
    · exact N x (List.mem_append_left _ (h1 x h))
    · exact N x (List.mem_append_right _ h)
  · obtain ⟨l, its, n, rfl, rfl, hS⟩ := hp
    refine ret _ ((l, listOf its.toArray n) :: pre') h' tk' F' (fun x hx => ?_) (fun x hx y hy => ?_) ⟨l, its, n, rfl, rfl, hS⟩
    · rcases List.mem_append.mp hx with h | h
      · rcases List.mem_cons.mp h with rfl | h
        · exact N' _ (List.mem_append_left _ (.head _))
        · exact N' x (List.mem_append_left _ (.tail _ (h2 x h)))
      · exact N' x (List.mem_append_right _ h)
    · rcases List.mem_cons.mp hx with rfl | h
      · exact ap' _ (.head _) y hy
      · exact ap' x (.tail _ (h2 x h)) y hy
theorem callAt_use7 {dp un : Nat} {gd : Option (List Code)} {cn : Str} {cs : Scope} {a : Addr} {ccd : Value} {cl : List (Str × Addr)} {outer : List Env} {A₀ : Around} {base h₀ : Heap} {L : Addr} {m : Str → Option Value} {p1 p2 p3 p4 p5 p6 p7 q1 q2 : Addr × Obj} {back : List (Addr × Obj)} {s : Shared}
    {Q E : Value → Shared → Prop} (N : News h₀ L s.heap (p1 :: p2 :: p3 :: p4 :: p5 :: p6 :: p7 :: q1 :: q2 :: back)) (C : Tells1 prog w K p loose mean mg mb f vals kw room [q1, q2] post)
    (B : Below A₀ base outer h₀) (F : Fr h₀ L s.heap m) (X : K.In h₀) (T : Top p loose mean mg mb h₀) (hk : cs.kind = .function)
    (o1 : Off q1.1 (p1 :: p2 :: p3 :: p4 :: p5 :: p6 :: p7 :: back)) (o2 : Off q2.1 (p1 :: p2 :: p3 :: p4 :: p5 :: p6 :: p7 :: back)) (hd : dp + room < recursionLimit) (hu : un + 8 * room < cLine)
    (ret : ∀ r out, post r out → ∀ h' tk', Fr h₀ L h' m → News h₀ L h' (p1 :: p2 :: p3 :: p4 :: p5 :: p6 :: p7 :: (out ++ back)) → Q r { s with heap := h', toks := tk' }) :
    CallAt (model prog w) (ktrTop dp un gd cn cs L a ccd cl outer) f vals kw Q E s :=
  callAt_use C (p1 :: p2 :: p3 :: p4 :: p5 :: p6 :: p7 :: back) B F X N T hk (fun x hx => by
      simp only [List.cons_append, List.nil_append, List.mem_cons] at hx ⊢
      rcases hx with h | h | h | h | h | h | h | h | h | h <;> simp [h])
    (Apart.cons o1 (Apart.cons o2 Apart.nil)) hd hu fun r out hp h' tk' F' N' _ => ret r out hp h' tk' F' (newsPick N' fun x hx => by
      simp only [List.mem_cons, List.mem_append] at hx ⊢
      rcases hx with h | h | h | h | h | h | h | h | h <;> simp [h])
end
theorem AsksAre.at {vs : List Value} {as : List (Option Str)} (h : AsksAre vs as) : ∀ {i : Nat}, i < vs.length → ∃ v a, vs[i]? = some v ∧ AsksAre [v] [a] := by
  induction h with
  | nil => intro i h; simp at h
  | @str x t vs as _ ih =>
    intro i hi
    cases i with
    | zero => exact ⟨_, _, rfl, .str .nil⟩
    | succ i => simpa using ih (by simpa using hi)
  | @non vs as _ ih =>
    intro i hi
    cases i with
    | zero => exact ⟨_, _, rfl, .non .nil⟩
    | succ i => simpa using ih (by simpa using hi)
end Mine

-- More6
namespace Mine
open PySem PySem.W PySem.Calls PySem.Spec PyProof.Rows
theorem off3_retype {I C D : Addr} : ∀ {xs ys : List (Addr × Obj)}, LCg.Off3 I C D xs → ys.map Prod.fst = xs.map Prod.fst → LCg.Off3 I C D ys
  | [], [], _, _ => trivial
  | [], _ :: _, _, e => nomatch e
  | _ :: _, [], _, e => nomatch e
  | x :: xs, y :: ys, h, e => by
    obtain ⟨e1, e2⟩ := List.cons.inj e
    refine ⟨?_, off3_retype h.2 e2⟩
    have h1 := h.1
    rw [e1]; exact h1
theorem off3_off {I C D : Addr} : ∀ {xs : List (Addr × Obj)}, LCg.Off3 I C D xs → Off I xs ∧ Off C xs ∧ Off D xs
  | [], _ => ⟨Off.nil, Off.nil, Off.nil⟩
  | (_, _) :: _, h => ⟨Off.cons h.1.1 (off3_off h.2).1, Off.cons h.1.2.1 (off3_off h.2).2.1, Off.cons h.1.2.2 (off3_off h.2).2.2⟩
/-- the fields of an object with slots, told by what is read of them; the slots go, the cells come ahead -/
theorem repackS2 {h₀ h : Heap} {L v dv : Addr} {r : List (Addr × Obj)} {P : Prop} {p1 c1 c2 pT : Addr × Obj} {ov : Obj} {es : List DictEntry} {n : Nat} {kv nv av : Value} (N : News h₀ L h (p1 :: (v, ov) :: (dv, dictOf es n) :: c1 :: c2 :: pT :: r)) (hk : getL (Str.ofString "kind") es = some (some kv)) (hn : getL (Str.ofString "name") es = some (some nv)) (ha : getL (Str.ofString "attrs") es = some (some av))
    (go : ∀ es', getL (Str.ofString "kind") es' = some (some kv) → getL (Str.ofString "name") es' = some (some nv) → getL (Str.ofString "attrs") es' = some (some av) → News h₀ L h (c1 :: c2 :: (v, ov) :: (dv, dictOf es' n) :: r) → P) : P := go es hk hn ha (newsPick N fun x hx => by
      simp only [List.mem_cons] at hx ⊢
      rcases hx with h | h | h | h | h <;> simp [h])
theorem tokOther {h₀ h : Heap} {L a : Addr} {r : List (Addr × Obj)} {P : Prop} {vs : List Value} {x : Str} {t : Tok} {n : Nat} (N : News h₀ L h ((a, listOf (vs ++ [Value.str x t, Value.none]).toArray n) :: r))
    (go : ∀ t' : Tok, News h₀ L h ((a, listOf (vs ++ [Value.str x t', Value.none]).toArray n) :: r) → P) : P := go t N
end Mine

-- More7
namespace Mine
open PySem PySem.W PySem.Calls PySem.Spec PyProof.Rows
theorem slice_at {prog : Program} {w : World} {A : Around} {E : Value → Shared → Prop} {s : Shared} {h₀ : Heap} {L : Addr} {m : Str → Option Value} {news : List (Addr × Obj)} {value slice : PySem.Expr} {Q : Value → Shared → Prop} {l : Addr} {vs : List Value} {n : Nat} {r : Int} {tr : Tok} (F : Fr h₀ L s.heap m) (N : News h₀ L s.heap news) (hm : (l, listOf vs.toArray n) ∈ news) (h0 : 0 ≤ r) (hz : vs.length ≤ 1000)
    (h : ∀ D h', Fr h₀ L h' m → News h₀ L h' ((D, listOf (vs.take r.toNat).toArray 0) :: news) → (∀ p ∈ news, p.1 < D) → Q (.ref D) { s with heap := h' })
    (hs : subscripted slice false (.ref l) (.ref s.heap.objs.size) = operate [.ref s.heap.objs.size, .ref l] (getItem (.ref l) (.ref s.heap.objs.size))) (ht : ∀ r, letTemporaryGo value (.ref l) r = pure ()) :
    wpAny (model prog w) A (subscriptTail value slice (.ref l) (.ref s.heap.objs.size)) Q E { s with heap := s.heap.push { cls := .type "slice", data := .fields #[.none, .int r tr, .none] } } := by
  refine kmk_slice F N ⟨_, (N _ hm).1, rfl, n, rfl⟩ .none (.int _ _) (fun D h' F' N' l1 => h D h' F' ?_ l1) hs ht ?_
  · have e : slicePick vs.toArray none (some r) none = (vs.take r.toNat).toArray := by
      have e1 : r = (r.toNat : Int) := by omega
      rw [e1, slicePick_upto']
      rfl
    rw [e] at N'
    exact N'
  · rw [sizeLine_eq, List.size_toArray]; omega
theorem slice_strs {prog : Program} {w : World} {A : Around} {E : Value → Shared → Prop} {s : Shared} {h₀ : Heap} {L : Addr} {m : Str → Option Value} {news : List (Addr × Obj)} {value slice : PySem.Expr} {Q : Value → Shared → Prop} {l : Addr} {vs : List Value} {xs : List Str} {n : Nat} {r : Int} {tr : Tok} (F : Fr h₀ L s.heap m) (N : News h₀ L s.heap news) (hm : (l, listOf vs.toArray n) ∈ news) (hS : StrsAre vs xs) (hok : ∀ x ∈ xs, PyData.strOk x = true) (h0 : 0 ≤ r) (hz : xs.length ≤ 3)
    (yes : ∀ D ws row h', Fr h₀ L h' m → News h₀ L h' ((D, listOf (List.toArray ws) 0) :: news) → (∀ p ∈ news, p.1 < D) → StrsAre ws row → (∀ x ∈ row, PyData.strOk x = true) → row.length ≤ 3 → 0 < ws.length → (!decide (row = [])) = true → Q (.ref D) { s with heap := h' })
    (no : ∀ D ws row h', Fr h₀ L h' m → News h₀ L h' ((D, listOf (List.toArray ws) 0) :: news) → (∀ p ∈ news, p.1 < D) → StrsAre ws row → (∀ x ∈ row, PyData.strOk x = true) → row.length ≤ 3 → ws.length = 0 → (!decide (row = [])) = false → Q (.ref D) { s with heap := h' })
    (hs : subscripted slice false (.ref l) (.ref s.heap.objs.size) = operate [.ref s.heap.objs.size, .ref l] (getItem (.ref l) (.ref s.heap.objs.size))) :
    wpAny (model prog w) A (subscriptTail value slice (.ref l) (.ref s.heap.objs.size)) Q E { s with heap := s.heap.push { cls := .type "slice", data := .fields #[.none, .int r tr, .none] } } := by
  have hT : StrsAre (vs.take r.toNat) (xs.take r.toNat) := hS.take' r.toNat
  have hl := hT.length
  have hle : (xs.take r.toNat).length ≤ 3 := by rw [List.length_take]; omega
  have hok2 : ∀ x ∈ xs.take r.toNat, PyData.strOk x = true := fun x hx => hok x (List.mem_of_mem_take hx)
  refine kba_turn (value' := PySem.Expr.Name (PySem.Str.ofString "_") ⟨0, 0, 0, 0⟩) (fun _ => rfl) ?_
  refine slice_at F N hm h0 (by rw [hS.length]; omega) (fun D h' F' N' l1 => ?_) hs (fun _ => rfl)
  by_cases hx : xs.take r.toNat = []
  · exact no D _ _ h' F' N' l1 hT hok2 hle (by rw [hl, hx]; rfl) (by simp [hx])
  · refine yes D _ _ h' F' N' l1 hT hok2 hle ?_ (by simp [hx])
    rw [hl]
    exact List.length_pos_iff.mpr hx
theorem ltTail {p : Addr × Obj} {led : List (Addr × Obj)} {d : Nat} (h : ∀ q ∈ p :: led, q.1 < d) : ∀ q ∈ led, q.1 < d := fun q hq => h q (.tail _ hq)
theorem repackT {h₀ h : Heap} {L : Addr} {p1 p2 x1 x2 x3 x4 x5 x6 pa C1 C2 pb pl : Addr × Obj} {r : List (Addr × Obj)} (N : News h₀ L h (p1 :: p2 :: x1 :: x2 :: x3 :: x4 :: x5 :: x6 :: pa :: C1 :: C2 :: pb :: pl :: r)) : News h₀ L h [C1, C2, p1, p2, pa, pb, pl] := newsPick N fun x hx => by
  simp only [List.mem_cons, List.not_mem_nil, or_false] at hx ⊢
  rcases hx with h | h | h | h | h | h | h <;> simp [h]
theorem repackW {h₀ h : Heap} {L : Addr} {W C1 C2 : Addr × Obj} {r : List (Addr × Obj)} (N : News h₀ L h (W :: C1 :: C2 :: r)) : News h₀ L h (C1 :: C2 :: W :: r) := newsPick N fun x hx => by
  simp only [List.mem_cons] at hx ⊢
  rcases hx with h | h | h | h <;> simp [h]
theorem lenPos {ws : List Value} {row : List Str} (_h : StrsAre ws row) (p : 0 < ws.length) : 0 < ws.length := p
theorem lenLe3 {ws : List Value} {row : List Str} (_h : StrsAre ws row) (p : row.length ≤ 3) : row.length ≤ 3 := p
theorem isStr_two {v : Value} {x k : Str} (h1 : v.isStr x = true) (h2 : v.isStr k = true) : x = k := by
  cases v <;> simp [Value.isStr] at h1 h2
  exact h1.symm.trans h2
theorem putL_other {x k : Str} {hs : Int} {t : Tok} {v w : Value} (hkx : k ≠ x) : ∀ {es : List DictEntry}, getL k es = some (some w) → getL k (putL x hs (.str x t) v es) = some (some w)
  | [], h => by simp [getL] at h
  | e :: r, h => by
    unfold putL
    cases he : e.key.isStr x with
    | true =>
      have hn : e.key.isStr k = false := by
        cases h2 : e.key.isStr k with
        | false => rfl
        | true => exact absurd (isStr_two h2 he) hkx
      unfold getL at h ⊢
      simp only [List.find?_cons, hn, if_true] at h ⊢
      split at h
      · rename_i e' h'
        first | exact h | (rw [h']; exact h)
      · rename_i h'
        exfalso
        revert h
        split <;> simp
    | false =>
      simp only [Bool.false_eq_true, if_false]
      cases h2 : e.key.isStr k with
      | true =>
        unfold getL at h ⊢
        simp only [List.find?_cons, h2] at h ⊢
        exact h
      | false =>
        have hr : getL k r = some (some w) := by
          unfold getL at h ⊢
          simp only [List.find?_cons, h2] at h
          split at h
          · rename_i e' h'
            first | exact h | (rw [h']; exact h)
          · rename_i h'
            exfalso
            revert h
            split <;> simp
        have ih := putL_other (hs := hs) (t := t) (v := v) hkx hr
        unfold getL at ih ⊢
        simp only [List.find?_cons, h2]
        split at ih
        · rename_i e' h'
          first | exact ih | (rw [h']; exact ih)
        · rename_i h'
          exfalso
          revert ih
          split <;> simp
end Mine

-- More8
namespace Mine
open PySem PySem.W PySem.Calls PySem.Spec PyProof.Rows
/-! short proofs for what every walk asks -/
/-- the functions that have a contract -/
def stops : List Nat := [691, 70, 698, 705, 642, 824, 831, 656, 719, 329, 364, 244, 251, 265, 277, 258, 316, 369, 838, 845, 850]
theorem stop_any {M : Model} {A : Around} {f : Nat} {vals : List Value} {kw : List (Str × Value)} {Q E : Value → Shared → Prop} {s : Shared} (_hs : stops.elem f = true) (h : CallAt M A f vals kw Q E s) : wpAny M A (call (.ref f) vals kw) Q E s := h
theorem wpAny_tok {α : Type} {M : Model} {A : Around} {e : Sem α} {Q : α → Shared → Prop} {E : Value → Shared → Prop} {h : Heap} {gs : Array GenState} {dr : Drawn} {os : OsState} {x : Nat}
    (H : ∀ tk, wpAny M A e Q E ⟨h, gs, dr, tk, os⟩) : wpAny M A e Q E ⟨h, gs, dr, x + 1, os⟩ := H _
theorem roomS {d m L : Nat} (n : Nat) (h : d + m < L) (e : Nat.ble n m = true) : d + n < L := Nat.lt_of_le_of_lt (Nat.add_le_add_left (Nat.le_of_ble_eq_true e) d) h
theorem unitS {u m L : Nat} (a : Nat) {r : Nat} (h : u + 8 * m < L) (e : Nat.ble (a + 8 * r) (8 * m) = true) : u + a + 8 * r < L := by
  have := Nat.le_of_ble_eq_true e
  omega
section
variable {x a b c d : Addr × Obj} {as xs ys : List (Addr × Obj)}
theorem mem0 : x ∈ x :: as := .head _
theorem mem1 : x ∈ a :: x :: as := .tail _ (.head _)
theorem mem2 : x ∈ a :: b :: x :: as := .tail _ (.tail _ (.head _))
theorem mem3 : x ∈ a :: b :: c :: x :: as := .tail _ (.tail _ (.tail _ (.head _)))
theorem mem4 (h : x ∈ as) : x ∈ a :: b :: c :: d :: as := .tail _ (.tail _ (.tail _ (.tail _ h)))
theorem subKeep (h : ∀ x ∈ xs, x ∈ ys) : ∀ x ∈ a :: xs, x ∈ a :: ys := fun x hx => by
  rcases List.mem_cons.mp hx with rfl | hx
  · exact .head _
  · exact .tail _ (h x hx)
theorem subDK (h : ∀ x ∈ xs, x ∈ ys) : ∀ x ∈ a :: xs, x ∈ b :: a :: ys := fun x hx => .tail _ (subKeep h x hx)
theorem subDDK (h : ∀ x ∈ xs, x ∈ ys) : ∀ x ∈ a :: xs, x ∈ b :: c :: a :: ys := fun x hx => .tail _ (.tail _ (subKeep h x hx))
theorem subMem (m : a ∈ ys) (h : ∀ x ∈ xs, x ∈ ys) : ∀ x ∈ a :: xs, x ∈ ys := fun x hx => by
  rcases List.mem_cons.mp hx with rfl | hx
  · exact m
  · exact h x hx
theorem subDrop (h : ∀ x ∈ xs, x ∈ ys) : ∀ x ∈ xs, x ∈ b :: ys := fun x hx => .tail _ (h x hx)
theorem subSelf : ∀ x ∈ xs, x ∈ xs := fun _ h => h
end
theorem ltNe {a d : Nat} {o : Obj} {news : List (Addr × Obj)} (h : ∀ p ∈ news, p.1 < d) (m : (a, o) ∈ news) : @Ne Nat a d := Nat.ne_of_lt (h _ m)
theorem gtNe {a d : Nat} {o : Obj} {news : List (Addr × Obj)} (h : ∀ p ∈ news, p.1 < d) (m : (a, o) ∈ news) : @Ne Nat d a := Nat.ne_of_gt (h _ m)
theorem ltOf {a d : Nat} {o : Obj} {news : List (Addr × Obj)} (h : ∀ p ∈ news, p.1 < d) (m : (a, o) ∈ news) : @LT.lt Nat _ a d := h _ m
theorem ltNe2 {a d x : Nat} {o : Obj} {news : List (Addr × Obj)} (l : @LT.lt Nat _ d x) (h : ∀ p ∈ news, p.1 < d) (m : (a, o) ∈ news) : @Ne Nat a x := Nat.ne_of_lt (Nat.lt_trans (h _ m) l)
theorem gtNe2 {a d x : Nat} {o : Obj} {news : List (Addr × Obj)} (l : @LT.lt Nat _ d x) (h : ∀ p ∈ news, p.1 < d) (m : (a, o) ∈ news) : @Ne Nat x a := Nat.ne_of_gt (Nat.lt_trans (h _ m) l)
theorem ltOf2 {a d x : Nat} {o : Obj} {news : List (Addr × Obj)} (l : @LT.lt Nat _ d x) (h : ∀ p ∈ news, p.1 < d) (m : (a, o) ∈ news) : @LT.lt Nat _ a x := Nat.lt_trans (h _ m) l
theorem offLt2 {x d : Nat} {ys news : List (Addr × Obj)} (l : @LT.lt Nat _ d x) (h : ∀ p ∈ news, p.1 < d) (hs : ∀ y ∈ ys, y ∈ news) : Off x ys := fun y hy => Nat.ne_of_lt (Nat.lt_trans (h y (hs y hy)) l)
/-! what a call gives back, told to what follows it -/
theorem el0  {C : Value → List (Addr × Obj) → Prop} {X : Value} {Y : List (Addr × Obj)} (h : C (X) (Y)) : ∀ r out, (r = X ∧ out = Y) → C r out := by
  rintro _ _ ⟨rfl, rfl⟩
  exact h
theorem el2 {α0 : Sort u0} {α1 : Sort u1} {C : Value → List (Addr × Obj) → Prop} {X : α0 → α1 → Value} {Y : α0 → α1 → List (Addr × Obj)} (h : ∀ a0 a1, C (X a0 a1) (Y a0 a1)) : ∀ r out, (∃ a0 a1, r = X a0 a1 ∧ out = Y a0 a1) → C r out := by
  rintro _ _ ⟨a0, a1, rfl, rfl⟩
  exact h a0 a1
theorem el5 {α0 : Sort u0} {α1 : Sort u1} {α2 : Sort u2} {α3 : Sort u3} {α4 : Sort u4} {C : Value → List (Addr × Obj) → Prop} {X : α0 → α1 → α2 → α3 → α4 → Value} {Y : α0 → α1 → α2 → α3 → α4 → List (Addr × Obj)} (h : ∀ a0 a1 a2 a3 a4, C (X a0 a1 a2 a3 a4) (Y a0 a1 a2 a3 a4)) : ∀ r out, (∃ a0 a1 a2 a3 a4, r = X a0 a1 a2 a3 a4 ∧ out = Y a0 a1 a2 a3 a4) → C r out := by
  rintro _ _ ⟨a0, a1, a2, a3, a4, rfl, rfl⟩
  exact h a0 a1 a2 a3 a4
theorem el3R {α0 : Sort u0} {α1 : Sort u1} {α2 : Sort u2} {C : Value → List (Addr × Obj) → Prop} {X : α0 → α1 → α2 → Value} {Y : α0 → α1 → α2 → List (Addr × Obj)} {R : α0 → α1 → α2 → Prop} (h : ∀ a0 a1 a2, R a0 a1 a2 → C (X a0 a1 a2) (Y a0 a1 a2)) : ∀ r out, (∃ a0 a1 a2, r = X a0 a1 a2 ∧ out = Y a0 a1 a2 ∧ R a0 a1 a2) → C r out := by
  rintro _ _ ⟨a0, a1, a2, rfl, rfl, hR⟩
  exact h a0 a1 a2 hR
theorem el4R {α0 : Sort u0} {α1 : Sort u1} {α2 : Sort u2} {α3 : Sort u3} {C : Value → List (Addr × Obj) → Prop} {X : α0 → α1 → α2 → α3 → Value} {Y : α0 → α1 → α2 → α3 → List (Addr × Obj)} {R : α0 → α1 → α2 → α3 → Prop} (h : ∀ a0 a1 a2 a3, R a0 a1 a2 a3 → C (X a0 a1 a2 a3) (Y a0 a1 a2 a3)) : ∀ r out, (∃ a0 a1 a2 a3, r = X a0 a1 a2 a3 ∧ out = Y a0 a1 a2 a3 ∧ R a0 a1 a2 a3) → C r out := by
  rintro _ _ ⟨a0, a1, a2, a3, rfl, rfl, hR⟩
  exact h a0 a1 a2 a3 hR
theorem el5R {α0 : Sort u0} {α1 : Sort u1} {α2 : Sort u2} {α3 : Sort u3} {α4 : Sort u4} {C : Value → List (Addr × Obj) → Prop} {X : α0 → α1 → α2 → α3 → α4 → Value} {Y : α0 → α1 → α2 → α3 → α4 → List (Addr × Obj)} {R : α0 → α1 → α2 → α3 → α4 → Prop} (h : ∀ a0 a1 a2 a3 a4, R a0 a1 a2 a3 a4 → C (X a0 a1 a2 a3 a4) (Y a0 a1 a2 a3 a4)) : ∀ r out, (∃ a0 a1 a2 a3 a4, r = X a0 a1 a2 a3 a4 ∧ out = Y a0 a1 a2 a3 a4 ∧ R a0 a1 a2 a3 a4) → C r out := by
  rintro _ _ ⟨a0, a1, a2, a3, a4, rfl, rfl, hR⟩
  exact h a0 a1 a2 a3 a4 hR
theorem el6R {α0 : Sort u0} {α1 : Sort u1} {α2 : Sort u2} {α3 : Sort u3} {α4 : Sort u4} {α5 : Sort u5} {C : Value → List (Addr × Obj) → Prop} {X : α0 → α1 → α2 → α3 → α4 → α5 → Value} {Y : α0 → α1 → α2 → α3 → α4 → α5 → List (Addr × Obj)} {R : α0 → α1 → α2 → α3 → α4 → α5 → Prop} (h : ∀ a0 a1 a2 a3 a4 a5, R a0 a1 a2 a3 a4 a5 → C (X a0 a1 a2 a3 a4 a5) (Y a0 a1 a2 a3 a4 a5)) : ∀ r out, (∃ a0 a1 a2 a3 a4 a5, r = X a0 a1 a2 a3 a4 a5 ∧ out = Y a0 a1 a2 a3 a4 a5 ∧ R a0 a1 a2 a3 a4 a5) → C r out := by
  rintro _ _ ⟨a0, a1, a2, a3, a4, a5, rfl, rfl, hR⟩
  exact h a0 a1 a2 a3 a4 a5 hR
theorem el7R {α0 : Sort u0} {α1 : Sort u1} {α2 : Sort u2} {α3 : Sort u3} {α4 : Sort u4} {α5 : Sort u5} {α6 : Sort u6} {C : Value → List (Addr × Obj) → Prop} {X : α0 → α1 → α2 → α3 → α4 → α5 → α6 → Value} {Y : α0 → α1 → α2 → α3 → α4 → α5 → α6 → List (Addr × Obj)} {R : α0 → α1 → α2 → α3 → α4 → α5 → α6 → Prop} (h : ∀ a0 a1 a2 a3 a4 a5 a6, R a0 a1 a2 a3 a4 a5 a6 → C (X a0 a1 a2 a3 a4 a5 a6) (Y a0 a1 a2 a3 a4 a5 a6)) : ∀ r out, (∃ a0 a1 a2 a3 a4 a5 a6, r = X a0 a1 a2 a3 a4 a5 a6 ∧ out = Y a0 a1 a2 a3 a4 a5 a6 ∧ R a0 a1 a2 a3 a4 a5 a6) → C r out := by
  rintro _ _ ⟨a0, a1, a2, a3, a4, a5, a6, rfl, rfl, hR⟩
  exact h a0 a1 a2 a3 a4 a5 a6 hR
theorem el16R {α0 : Sort u0} {α1 : Sort u1} {α2 : Sort u2} {α3 : Sort u3} {α4 : Sort u4} {α5 : Sort u5} {α6 : Sort u6} {α7 : Sort u7} {α8 : Sort u8} {α9 : Sort u9} {α10 : Sort u10} {α11 : Sort u11} {α12 : Sort u12} {α13 : Sort u13} {α14 : Sort u14} {α15 : Sort u15} {C : Value → List (Addr × Obj) → Prop} {X : α0 → α1 → α2 → α3 → α4 → α5 → α6 → α7 → α8 → α9 → α10 → α11 → α12 → α13 → α14 → α15 → Value} {Y : α0 → α1 → α2 → α3 → α4 → α5 → α6 → α7 → α8 → α9 → α10 → α11 → α12 → α13 → α14 → α15 → List (Addr × Obj)} {R : α0 → α1 → α2 → α3 → α4 → α5 → α6 → α7 → α8 → α9 → α10 → α11 → α12 → α13 → α14 → α15 → Prop} (h : ∀ a0 a1 a2 a3 a4 a5 a6 a7 a8 a9 a10 a11 a12 a13 a14 a15, R a0 a1 a2 a3 a4 a5 a6 a7 a8 a9 a10 a11 a12 a13 a14 a15 → C (X a0 a1 a2 a3 a4 a5 a6 a7 a8 a9 a10 a11 a12 a13 a14 a15) (Y a0 a1 a2 a3 a4 a5 a6 a7 a8 a9 a10 a11 a12 a13 a14 a15)) : ∀ r out, (∃ a0 a1 a2 a3 a4 a5 a6 a7 a8 a9 a10 a11 a12 a13 a14 a15, r = X a0 a1 a2 a3 a4 a5 a6 a7 a8 a9 a10 a11 a12 a13 a14 a15 ∧ out = Y a0 a1 a2 a3 a4 a5 a6 a7 a8 a9 a10 a11 a12 a13 a14 a15 ∧ R a0 a1 a2 a3 a4 a5 a6 a7 a8 a9 a10 a11 a12 a13 a14 a15) → C r out := by
  rintro _ _ ⟨a0, a1, a2, a3, a4, a5, a6, a7, a8, a9, a10, a11, a12, a13, a14, a15, rfl, rfl, hR⟩
  exact h a0 a1 a2 a3 a4 a5 a6 a7 a8 a9 a10 a11 a12 a13 a14 a15 hR
theorem elN1 {α0 : Sort u0} {C : Value → List (Addr × Obj) → Prop} {X : Value} {Y : α0 → List (Addr × Obj)} {R : α0 → Prop} (h : ∀ a0, R a0 → C X (Y a0)) : ∀ r out, (r = X ∧ ∃ a0, R a0 ∧ out = Y a0) → C r out := by
  rintro _ _ ⟨rfl, a0, hR, rfl⟩
  exact h a0 hR
theorem elN3 {α0 : Sort u0} {α1 : Sort u1} {α2 : Sort u2} {C : Value → List (Addr × Obj) → Prop} {X : Value} {Y : α0 → α1 → α2 → List (Addr × Obj)} {R : α0 → α1 → α2 → Prop} (h : ∀ a0 a1 a2, R a0 a1 a2 → C X (Y a0 a1 a2)) : ∀ r out, (r = X ∧ ∃ a0 a1 a2, R a0 a1 a2 ∧ out = Y a0 a1 a2) → C r out := by
  rintro _ _ ⟨rfl, a0, a1, a2, hR, rfl⟩
  exact h a0 a1 a2 hR
theorem elN5 {α0 : Sort u0} {α1 : Sort u1} {α2 : Sort u2} {α3 : Sort u3} {α4 : Sort u4} {C : Value → List (Addr × Obj) → Prop} {X : Value} {Y : α0 → α1 → α2 → α3 → α4 → List (Addr × Obj)} {R : α0 → α1 → α2 → α3 → α4 → Prop} (h : ∀ a0 a1 a2 a3 a4, R a0 a1 a2 a3 a4 → C X (Y a0 a1 a2 a3 a4)) : ∀ r out, (r = X ∧ ∃ a0 a1 a2 a3 a4, R a0 a1 a2 a3 a4 ∧ out = Y a0 a1 a2 a3 a4) → C r out := by
  rintro _ _ ⟨rfl, a0, a1, a2, a3, a4, hR, rfl⟩
  exact h a0 a1 a2 a3 a4 hR
theorem elT {α0 : Sort u0} {α1 : Sort u1} {α2 : Sort u2} {C : Value → List (Addr × Obj) → Prop} {X : α0 → α1 → α2 → Value} {Y : α0 → α1 → α2 → List (Addr × Obj)} {R S : α0 → α1 → α2 → Prop} (h : ∀ a0 a1 a2, R a0 a1 a2 → S a0 a1 a2 → C (X a0 a1 a2) (Y a0 a1 a2)) : ∀ r out, (∃ a0 a1 a2, r = X a0 a1 a2 ∧ R a0 a1 a2 ∧ S a0 a1 a2 ∧ out = Y a0 a1 a2) → C r out := by
  rintro _ _ ⟨a0, a1, a2, rfl, hR, hS, rfl⟩
  exact h a0 a1 a2 hR hS
theorem elD {α0 : Sort u0} {C : Value → List (Addr × Obj) → Prop} {X : α0 → Value} {Y : List (Addr × Obj)} (h : ∀ a0, C (X a0) Y) : ∀ r out, ((∃ a0, r = X a0) ∧ out = Y) → C r out := by
  rintro _ _ ⟨⟨a0, rfl⟩, rfl⟩
  exact h a0
end Mine

open PySem PySem.W PySem.Calls PySem.Spec PyProof.Rows
namespace Mine
section
local macro_rules | `(tactic| k_units) => `(tactic| ((have hcL9 := cLine_is); (try simp (config := { zetaDelta := true }) only [units_in1, units_deeper, Around.mark_units, units_caller]); (try dsimp only [ktrTop]); omega))
local macro_rules | `(tactic| walk_at "omg") => `(tactic| ((try dsimp only); (repeat (rename (∀ p ∈ _, p.1 < _) => kA; replace kA := allLt_of kA; simp only [AllLt, and_true] at kA)); omega))
local macro_rules | `(tactic| k_lt $h:ident) => `(tactic| skip)
local macro_rules | `(tactic| walk_at "call builtin:list.append") => `(tactic| (k_here; (with_reducible show wpAny _ _ (call (Value.builtin _) [Value.ref _, _]) _ _ _); k_dflt (refine' append_at ?k1 ?k2 ?k3 ?z ?_; (case k1 => k_asm); (case k2 => k_asm); (case k3 => k_upd); (case z => first | omega | ((try simp only [List.length_append, List.length_cons, List.length_nil]); omega)); k_whole); intro h' F' N'; (try k_sweep)))
local macro_rules | `(tactic| walk_at "setItem ref str") => `(tactic| (k_here; k_dflt (refine' kda_set (knd := PySem.strKind _ _) ?F ?N ?U ?d (strKind_is _ _ _ _) ?z ?_; (case F => k_asm); (case N => k_asm); (case U => k_updF); (case d => k_asm); (case z => (rw [sizeLine_eq]; omega))); intro h' o' F' N' hd'; (try dsimp only at N')))
local macro_rules | `(tactic| walk_at "sub0") => `(tactic| (repeat' (first | exact List.forall_mem_nil _ | (refine List.forall_mem_cons.mpr ⟨?_, ?_⟩) | (refine List.forall_mem_append.mpr ⟨?_, ?_⟩) | k_mem | (intro x hx; k_mem))))
local macro_rules | `(tactic| walk_at "setAttr ref") => `(tactic| (k_here; k_dflt (refine' set_dict (by k_asm) (by k_asm) (by k_asm) (by k_inst) rfl (by k_is) (by k_is) (by k_is) (by k_is) (by k_get) (by k_put) (by k_upd) (Nat.le_of_ble_eq_true rfl) ?_; k_whole; intro h' F' N'; (try dsimp only at N'); (try k_sweep))))
local macro_rules | `(tactic| walk_at "for0") => `(tactic| (k_here; refine for_start (by intro _; with_unfolding_all rfl) ?_))
set_option hygiene false
local macro_rules | `(tactic| k_in) => `(tactic| first | with_reducible assumption | exact Frag.In.keeps (by with_reducible assumption) (Fr.keep (by with_reducible assumption)))
local macro_rules | `(tactic| k_room) => `(tactic| ((try simp (config := { zetaDelta := true }) only [depth_under_make, depth_under_kw, depth_in1, depth_deeper, depth_caller]); (try dsimp only [ktrTop]); omega))
local macro_rules | `(tactic| k_room) => `(tactic| first | exact roomS 1 (by assumption) rfl | exact roomS 2 (by assumption) rfl | exact roomS 3 (by assumption) rfl | exact roomS 4 (by assumption) rfl | exact roomS 5 (by assumption) rfl | exact roomS 6 (by assumption) rfl | exact roomS 7 (by assumption) rfl | exact roomS 8 (by assumption) rfl | exact roomS 9 (by assumption) rfl | exact roomS 10 (by assumption) rfl)
local macro_rules | `(tactic| k_units) => `(tactic| first | exact unitS 3 (by assumption) rfl | exact unitS 6 (by assumption) rfl | exact unitS 9 (by assumption) rfl)
local macro_rules | `(tactic| k_all) => `(tactic| assumption)
local macro_rules | `(tactic| walk_at "sT9ff8") => `(tactic| (k_here; (with_reducible show wpAny _ _ (subscriptTail _ _ (Value.ref _) (Value.str _ _)) _ _ _); k_dflt (refine kdt_tail (knd := PySem.strKind _ _) (by k_asm) (by k_mem) (by k_asm) ?_)))
local macro_rules | `(tactic| walk_at "subscriptTail") => `(tactic| walk_at "sT9ff8")
local macro_rules | `(tactic| walk_at "subscriptTail Name") => `(tactic| walk_at "sT9ff8")
local macro_rules | `(tactic| walk_at "subscriptTail Attribute") => `(tactic| walk_at "sT9ff8")
local macro_rules | `(tactic| walk_at "subscriptTail Subscript") => `(tactic| walk_at "sT9ff8")
local macro_rules | `(tactic| walk_at "subscriptTail Name Name ref int") => `(tactic| walk_at "sT9ff8")
local macro_rules | `(tactic| walk_at "subscriptTail Name BinOp ref int") => `(tactic| walk_at "sT9ff8")
local macro_rules | `(tactic| walk_at "mq") => `(tactic| first | exact mem0 | exact mem1 | exact mem2 | exact mem3 | ((first | refine' mem4 ?_ | refine' List.Mem.tail _ ?_); walk_at "mq") | (refine List.mem_append.mpr (Or.inl ?_); walk_at "mq") | (refine List.mem_append.mpr (Or.inr ?_); walk_at "mq"))
local macro_rules | `(tactic| k_mem) => `(tactic| first | exact mem0 | exact mem1 | exact mem2 | exact mem3 | ((first | refine' mem4 ?_ | refine' List.Mem.tail _ ?_); k_mem) | ((fail_if_success refine List.Mem.tail _ ?_); first | with_reducible assumption | assumption) | (refine List.mem_append.mpr (Or.inl ?_); k_mem) | (refine List.mem_append.mpr (Or.inr ?_); k_mem))
local macro_rules | `(tactic| walk_at "sub1") => `(tactic| ((repeat (first | exact List.forall_mem_nil _ | exact subSelf | with_reducible (first | refine subKeep ?_ | refine subDK ?_ | refine subDDK ?_ | refine subDrop ?_))); done))
local macro_rules | `(tactic| k_all) => `(tactic| first | exact Off.nil | with_reducible assumption | (refine Off.of_lt (by with_reducible assumption) ?_; walk_at "sub1") | (refine offLt2 (by with_reducible assumption) (by with_reducible assumption) ?_; walk_at "sub1") | (refine Off.cons ?_ ?_; (focus (k_ne)); k_all) | (refine Off.app ?_ ?_ <;> k_all) | assumption)
local macro_rules | `(tactic| k_ne) => `(tactic| first | with_reducible assumption | (refine Ne.symm ?_; with_reducible assumption) | exact ltNe (by with_reducible assumption) (by walk_at "mq") | exact gtNe (by with_reducible assumption) (by walk_at "mq") | exact Nat.ne_of_lt (by with_reducible assumption) | exact Nat.ne_of_gt (by with_reducible assumption) | exact ltNe2 (by with_reducible assumption) (by with_reducible assumption) (by walk_at "mq") | exact gtNe2 (by with_reducible assumption) (by with_reducible assumption) (by walk_at "mq") | walk_at "omg")
local macro_rules | `(tactic| walk_at "om") => `(tactic| first | with_reducible assumption | ((with_reducible show @Ne Nat _ _); k_ne) | exact ltOf (by with_reducible assumption) (by walk_at "mq") | exact ltOf2 (by with_reducible assumption) (by with_reducible assumption) (by walk_at "mq") | omega | walk_at "omg")
local macro_rules | `(tactic| walk_at "sT7ab8") => `(tactic| (k_here; (with_reducible show wpAny _ _ (subscriptTail _ _ (Value.ref _) (Value.int _ _)) _ _ _); k_dflt (refine' item_at ?k1 ?k2 ?k3 ?k4 ?k5 ?_; (case k1 => k_asm); (case k2 => k_mem); (case k5 => assumption); (case k3 => omega); (case k4 => omega))))
local macro_rules | `(tactic| walk_at "subscriptTail") => `(tactic| walk_at "sT7ab8")
local macro_rules | `(tactic| walk_at "subscriptTail Name") => `(tactic| walk_at "sT7ab8")
local macro_rules | `(tactic| walk_at "subscriptTail Attribute") => `(tactic| walk_at "sT7ab8")
local macro_rules | `(tactic| walk_at "subscriptTail Subscript") => `(tactic| walk_at "sT7ab8")
local macro_rules | `(tactic| walk_at "subscriptTail Name Name ref int") => `(tactic| walk_at "sT7ab8")
local macro_rules | `(tactic| walk_at "subscriptTail Name BinOp ref int") => `(tactic| walk_at "sT7ab8")
local macro_rules | `(tactic| walk_at "call builtin:len") => `(tactic| (k_here; (with_reducible show wpAny _ _ (call (Value.builtin "len") [Value.ref _]) _ _ _); k_dflt (refine' len_at ?k1 ?k2 ?k3 ?_; (case k1 => k_asm); (case k2 => k_mem); (case k3 => first | omega | ((try simp only [List.length_append, List.length_cons, List.length_nil]); omega)))))
local macro_rules | `(tactic| walk_at "sub") => `(tactic| first | ((repeat (first | exact List.forall_mem_nil _ | exact subSelf | (refine subKeep ?_) | (refine subDK ?_) | (refine subDDK ?_) | (refine' subMem ?sm ?_; (case sm => k_mem)) | (refine subDrop ?_))); done) | ((repeat (first | exact List.forall_mem_nil _ | exact subSelf | (refine subKeep ?_) | (refine' subMem ?sm ?_; (case sm => k_mem)) | (refine subDrop ?_))); done) | walk_at "sub0")
local macro_rules | `(tactic| walk_at "call ref") => `(tactic| (k_here; refine stop_any rfl ?_))
set_option hygiene true

-- C_tap
section
set_option maxHeartbeats 8000000 in
theorem c_tap (w : World) {mean : ExcName → Option Value} {mg mb : Str → Option Value} (b l : Addr) (its : List Value) (ns : List Int) (nb nl : Nat) (c : Int) (tc : Tok) (lim : Int) (tl : Tok)
  (hI : IntsAre its ns) (hlen : ns.length ≤ 63) (h0 : 0 ≤ c) (hlim : 0 < lim) (hbl : @Ne Nat b l) :
  Tells1 PySem.Challenge.rw_pq1424_01.row.prog w (Mine.kAt w.params) Mine.viewQ (looseW Mine.viewQ [Str.ofString "match_names", Str.ofString "take"]) mean mg mb 831 [.ref b, .int lim tl] [] 3
   [(b, listOf #[.ref l, .int c tc] nb), (l, listOf its.toArray nl)]
   (fun r out => ∃ r' t tc', r = .int r' t ∧ 0 ≤ r' ∧ r' < lim ∧ out = [(b, listOf #[.ref l, .int (c+1) tc'] nb), (l, listOf its.toArray nl)]) := by
  k_fill
  refine' tells1_enter (binds := [(Str.ofString "barrel", .ref b), (Str.ofString "limit", .int lim tl)]) ?k6 ?k7 ?kr ?k9 ?kB ?c2 ?c3 ?c4 ?c5 ?_
  (case k6 => k_is)
  (case k7 => k_is)
  (case kr => decide)
  (case k9 => intro s hX; first | exact BindsTo.of_eq rfl | exact binds_K (by k_in) rfl (by k_is) rfl rfl rfl)
  (case kB => exact locs rfl)
  (case c2 => exact rfl)
  (case c3 => exact rfl)
  (case c4 => exact rfl)
  (case c5 => decide)
  intro dp un gd cn cs a ccd cl outer base g L L' h₁ s tk hd hu F' N' B' X' T'
  (try dsimp only)
  (try k_fold)
  refine (let A1 := _; (?_ : wpAny _ A1 _ _ _ _))
  repeat' (first | ((fail_if_success (fail_if_success k_unfold)); first | refine (?_ : wpAny _ _ (execs _ _) _ _ _) | (k_unfold; (try dsimp only))) | ((first | (with_reducible show wpAny _ _ (execs _ _) _ _ _) | (with_reducible show wpAny _ _ (exec _ _) _ _ _)); first | ((fail_if_success k_fold); refine wpAny_tok ?_; intro tk0) | ((fail_if_success (fail_if_success k_fold)); refine (let q0 := _; (?_ : wpAny _ _ _ q0 _ _)))) | ((with_reducible show wpAny _ _ (setItem (Value.ref _) (Value.int _ _) _) _ _ _); k_dflt (refine' list_set ?k1 ?k2 ?k3 ?k4 ?k5 ?k6 ?k7 ?_; (case k1 => k_asm); (case k2 => k_asm); (case k3 => decide); (case k4 => decide); (case k6 => exact rfl); (case k7 => k_upd); (case k5 => decide)); intro _ F' N'; (try k_sweep)) | walk1 | (dsimp only; first | (k_unfold; (try dsimp only)) | walk1) | (leave1; (try dsimp only)) | fail "no step")
  all_goals (refine Fin.mk _ (by assumption) (by assumption) (fun _ h => h) ?_)
  · exact ⟨_, _, _, rfl, by decide, by omega, rfl⟩
  · refine ⟨_, _, _, rfl, ?_, ?_, rfl⟩
    · exact Int.fmod_nonneg_of_pos _ hlim
    · exact Int.fmod_lt_of_pos _ hlim
end

-- C_parents
section
local macro_rules | `(tactic| walk_at "pad0") => `(tactic| fail "pad")
set_option maxHeartbeats 8000000 in
theorem c_parents (w : World) {mean : ExcName → Option Value} {mg mb : Str → Option Value} (t dt D U : Addr) (h1 h2 : Int) (t1 t2 : Tok) (oD oU : Obj) (kvs : List (Str × Value)) (gl : List (Addr × Obj)) (nm nm' : Str) (tn : Tok) (v : Value) (xs : List Str)
  (hD : oD.IsDictOf (PySem.strKind PySem.Challenge.rw_pq1424_01.row.prog w) kvs) (hU : oU.IsDictOf (PySem.strKind PySem.Challenge.rw_pq1424_01.row.prog w) []) (lD : (D == sysModules) = false) (lU : (U == sysModules) = false)
  (hv : valueAt kvs nm = some v) (hb : (valueAt kvs nm).isSome = true) (hc : ClsAt gl v nm' xs) (hx : xs.length ≤ 64) :
  Tells1 PySem.Challenge.rw_pq1424_01.row.prog w (Mine.kAt w.params) Mine.viewQ (looseW Mine.viewQ [Str.ofString "match_names", Str.ofString "take"]) mean mg mb 684 [.ref t, .str nm tn] [] 3 (tabLed t dt D U h1 h2 t1 t2 oD oU ++ gl)
   (fun r out => ∃ l its n, r = .ref l ∧ out = (l, listOf its.toArray n) :: (tabLed t dt D U h1 h2 t1 t2 oD oU ++ gl) ∧ StrsAre its xs) := by
  cases hc with
  | mk m1 m2 m3 m4 m5 hS =>
  have hz := hS.length
  k_fill
  refine' tells1_enter (binds := [(Str.ofString "self", .ref t), (Str.ofString "name", .str nm tn)]) ?k6 ?k7 ?kr ?k9 ?kB ?c2 ?c3 ?c4 ?c5 ?_
  (case k6 => k_is)
  (case k7 => k_is)
  (case kr => decide)
  (case k9 => intro s hX; first | exact BindsTo.of_eq rfl | exact binds_K (by k_in) rfl (by k_is) rfl rfl rfl)
  (case kB => exact locs rfl)
  (case c2 => exact rfl)
  (case c3 => exact rfl)
  (case c4 => exact rfl)
  (case c5 => decide)
  intro dp un gd cn cs a ccd cl outer base g L L' h₁ s tk hd hu F' N' B' X' T'
  (try dsimp only)
  (try k_fold)
  refine (let A1 := _; (?_ : wpAny _ A1 _ _ _ _))
  simp only [List.cons_append, List.nil_append] at N'
  repeat' (first | ((fail_if_success (fail_if_success k_unfold)); first | refine (?_ : wpAny _ _ (execs _ _) _ _ _) | (k_unfold; (try dsimp only))) | ((first | (with_reducible show wpAny _ _ (execs _ _) _ _ _) | (with_reducible show wpAny _ _ (exec _ _) _ _ _)); first | ((fail_if_success k_fold); refine wpAny_tok ?_; intro tk0) | ((fail_if_success (fail_if_success k_fold)); refine (let q0 := _; (?_ : wpAny _ _ _ q0 _ _)))) | ((with_reducible show wpAny _ _ (exec (Stmt.For (PySem.Expr.Name ..) (PySem.Expr.Attribute ..) _ [] _) _) _ _ _); walk_at "for0") | ((with_reducible show wpAny _ _ (call (Value.type _) [Value.ref _]) _ _ _); k_dflt (refine' list_copyM ?k1 ?k2 ?k3 ?z ?_; (case k1 => k_asm); (case k2 => k_asm); (case k3 => k_mem); (case z => (rw [sizeLine_eq]; (try simp only [List.size_toArray]); omega))); intro _ _ _ F' N' l1; (try k_lt l1); (try k_sweep)) | ((with_reducible show wpAny _ _ (getItem (Value.ref _) (Value.str _ _)) _ _ _); (k_dflt (refine kdt_getItem (knd := PySem.strKind _ _) (by k_asm) (by k_mem) (by k_asm) (strKind_is _ _ _ _) (by assumption) ?_))) | ((with_reducible show wpAny _ _ (compareOp CmpOp.In (Value.str _ _) (Value.ref _)) _ _ _); (k_dflt (refine kda_in (knd := PySem.strKind _ _) (by k_asm) (by k_mem) (by k_asm) (by k_asm) (strKind_is _ _ _ _) _ (by assumption) ?_))) | walk1 | (dsimp only; first | (k_unfold; (try dsimp only)) | walk1) | (leave1; (try dsimp only)) | fail "no step")
  refine for_nothing rfl PassesOwn.never (by k_asm) (by k_asm) (by k_mem) hU lU ?_
  intro h3 tk3 F3 N3
  repeat' (first | ((fail_if_success (fail_if_success k_unfold)); first | refine (?_ : wpAny _ _ (execs _ _) _ _ _) | (k_unfold; (try dsimp only))) | ((first | (with_reducible show wpAny _ _ (execs _ _) _ _ _) | (with_reducible show wpAny _ _ (exec _ _) _ _ _)); first | ((fail_if_success k_fold); refine wpAny_tok ?_; intro tk0) | ((fail_if_success (fail_if_success k_fold)); refine (let q0 := _; (?_ : wpAny _ _ _ q0 _ _)))) | ((with_reducible show wpAny _ _ (exec (Stmt.For (PySem.Expr.Name ..) (PySem.Expr.Attribute ..) _ [] _) _) _ _ _); walk_at "for0") | ((with_reducible show wpAny _ _ (call (Value.type _) [Value.ref _]) _ _ _); k_dflt (refine' list_copyM ?k1 ?k2 ?k3 ?z ?_; (case k1 => k_asm); (case k2 => k_asm); (case k3 => k_mem); (case z => (rw [sizeLine_eq]; (try simp only [List.size_toArray]); omega))); intro _ _ _ F' N' l1; (try k_lt l1); (try k_sweep)) | ((with_reducible show wpAny _ _ (getItem (Value.ref _) (Value.str _ _)) _ _ _); (k_dflt (refine kdt_getItem (knd := PySem.strKind _ _) (by k_asm) (by k_mem) (by k_asm) (strKind_is _ _ _ _) (by assumption) ?_))) | ((with_reducible show wpAny _ _ (compareOp CmpOp.In (Value.str _ _) (Value.ref _)) _ _ _); (k_dflt (refine kda_in (knd := PySem.strKind _ _) (by k_asm) (by k_mem) (by k_asm) (by k_asm) (strKind_is _ _ _ _) _ (by assumption) ?_))) | walk1 | (dsimp only; first | (k_unfold; (try dsimp only)) | walk1) | (leave1; (try dsimp only)) | fail "no step")
  refine' Fin.mk ?o (by assumption) (by assumption) ?sub ⟨?l, ?its, ?n, rfl, rfl, hS⟩
  (case sub => (walk_at "sub"))
end

-- C_supers
section
local macro_rules | `(tactic| walk_at "pad0") => `(tactic| fail "pad")
local macro_rules | `(tactic| walk_at "KdnMade") => `(tactic| (k_here; k_dflt (refine' kdn_made_str ?F ?N ?U ?d ?k ?n ?_; (case F => k_asm); (case N => k_asm); (case U => k_updF); (case d => k_asm); (case k => rfl); (case n => first | (with_unfolding_all assumption) | exact of_decide_eq_true (by first | rfl | kernel_rfl!)); intro h' o' F' N' hd'); (try dsimp only at N')))

set_option maxHeartbeats 8000000 in
theorem c_supers (w : World) {mean : ExcName → Option Value} {mg mb : Str → Option Value} (t dt D U : Addr) (h1 h2 : Int) (t1 t2 : Tok) (oD oU : Obj) (kvs : List (Str × Value)) (gl : List (Addr × Obj)) (nm : Str) (tn : Tok) (G : List (Str × List Str))
  (hD : oD.IsDictOf (PySem.strKind PySem.Challenge.rw_pq1424_01.row.prog w) kvs) (hU : oU.IsDictOf (PySem.strKind PySem.Challenge.rw_pq1424_01.row.prog w) []) (lD : (D == sysModules) = false) (lU : (U == sysModules) = false)
  (hT : Tab gl kvs G) (C : Closed G) (hk : (keys G).length ≤ 6) (hA : Str.ofString "ANY" ∉ keys G) (hup : ∀ x, (ups G x).length ≤ 64) (hx : nm ∈ keys G) :
  Tells1 PySem.Challenge.rw_pq1424_01.row.prog w (Mine.kAt w.params) Mine.viewQ (looseW Mine.viewQ [Str.ofString "match_names", Str.ofString "take"]) mean mg mb 691 [.ref t, .str nm tn] [] 5 (tabLed t dt D U h1 h2 t1 t2 oD oU ++ gl)
   (fun r out => ∃ l its n tups, r = .ref l ∧ out = (l, listOf its.toArray n) :: (tups ++ (tabLed t dt D U h1 h2 t1 t2 oD oU ++ gl)) ∧ RowsAre tups its ((rowOf G nm).tail ++ [Str.ofString "ANY"])) := by
  have hne : nm ≠ Str.ofString "ANY" := fun e => hA (e ▸ hx)
  have hneb : (nm != Str.ofString "ANY") = true := by simp [hne]
  have hnd : [nm, Str.ofString "ANY"].Nodup := by simp [hne]
  k_fill
  refine' tells1_enter (binds := [(Str.ofString "self", .ref t), (Str.ofString "name", .str nm tn)]) ?k6 ?k7 ?kr ?k9 ?kB ?c2 ?c3 ?c4 ?c5 ?_
  (case k6 => k_is)
  (case k7 => k_is)
  (case kr => decide)
  (case k9 => intro s hX; first | exact BindsTo.of_eq rfl | exact binds_K (by k_in) rfl (by k_is) rfl rfl rfl)
  (case kB => exact locs rfl)
  (case c2 => exact rfl)
  (case c3 => exact rfl)
  (case c4 => exact rfl)
  (case c5 => decide)
  intro dp un gd cn cs a ccd cl outer base g L L' h₁ s tk hd hu F' N' B' X' T'
  (try dsimp only)
  (try k_fold)
  refine (let A1 := _; (?_ : wpAny _ A1 _ _ _ _))
  simp only [List.cons_append, List.nil_append] at N'
  repeat' (first | ((fail_if_success (fail_if_success k_unfold)); first | refine (?_ : wpAny _ _ (execs _ _) _ _ _) | (k_unfold; (try dsimp only))) | ((first | (with_reducible show wpAny _ _ (execs _ _) _ _ _) | (with_reducible show wpAny _ _ (exec _ _) _ _ _)); first | ((fail_if_success k_fold); refine wpAny_tok ?_; intro tk0) | ((fail_if_success (fail_if_success k_fold)); refine (let q0 := _; (?_ : wpAny _ _ _ q0 _ _)))) | ((with_reducible show wpAny _ _ (call (Value.ref _) _ _) _ _ _); (refine stop_call 684 ?_)) | ((with_reducible show wpAny _ _ (eval (PySem.Expr.Dict ..) _) _ _ _); (k_dflt (refine' kdn_eval (knd := PySem.strKind _ _) ?F ?N ?b ?a ?l ?e ?n ?_; (case F => k_asm); (case N => k_asm); (case b => exact Top.nolimit (by k_asm)); (case a => rfl); (case l => rfl); (case e => exact List.cons_ne_nil _ _); (case n => exact Nat.le_of_ble_eq_true rfl)); intro _ _ _ F' N' l1 _ _; (try k_lt l1))) | ((with_reducible show wpAny _ _ (exec _ _) _ _ _); first | ((with_reducible show wpAny _ _ (exec (Stmt.While (PySem.Expr.Compare ..) _ _ _) _) _ _ _); (refine while_start ?_)) | ((with_reducible show wpAny _ _ (exec (Stmt.For (PySem.Expr.Name ..) (PySem.Expr.Call ..) _ [] _) _) _ _ _); walk_at "for0")) | ((with_reducible show wpAny _ _ (compareOp CmpOp.NotIn (Value.str _ _) (Value.ref _)) _ _ _); (k_dflt (refine kdg_notin (knd := PySem.strKind _ _) (by k_asm) (by k_mem) (by k_asm) (by k_asm) (strKind_is _ _ _ _) _ (by assumption) ?_); (try dsimp only [Bool.not_true, Bool.not_false]))) | walk1 | (dsimp only; first | (k_unfold; (try dsimp only)) | walk1) | (leave1; (try dsimp only)) | fail "no step")
  rename News _ _ _ _ => N1
  rename_i T0 _ _ R _ _ _ _ _ S _ _ _ _ _ _ _ _ _ _ _ _
  rename_i oS _ _ _ _ _ _
  rename Fr _ _ _ _ => F1
  refine nameI F1 (Str.ofString "at") rfl fun ti0 eti => ?_
  rename (S == sysModules) = false => lS
  rename Obj.IsDictOf _ oS _ => hS0
  have hRS : @Ne Nat R S := by walk_at "om"
  have hTR : @Ne Nat T0 R := by walk_at "om"
  have hTS : @Ne Nat T0 S := by walk_at "om"
  refine' while_st (σ := SupSt) (fun c => (S, c.oS) :: (R, listOf c.its.toArray c.nr) :: c.tups)
    (fun c y => if y = Str.ofString "at" then some (.int c.i c.ti) else if y = Str.ofString "seen" then some (.ref S) else if y = Str.ofString "rows" then some (.ref R) else List.lookup y [(Str.ofString "self", .ref t), (Str.ofString "name", .str nm tn)].reverse)
    [Str.ofString "one", Str.ofString "steps", Str.ofString "parent"] (SupP PySem.Challenge.rw_pq1424_01.row.prog w G nm R S) (fun c => (keys G).length - c.i) (tabLed t dt D U h1 h2 t1 t2 oD oU ++ gl)
    ⟨[.ref T0], 0, oS, [(nm, Value.bool true), (Str.ofString "ANY", Value.bool true)], [(T0, ?oT0)], [nm], 0, ti0⟩ PassesOwn.never F1 N1 ?hin ?ap ?hm ?h0 ?_
  (case hin => (walk_at "sub"))
  (case ap => (repeat' (first | assumption | exact Apart.nil | exact Apart.nilR | (refine Apart.cons ?_ ?_) | (refine Apart.app ?_ ?_) | (refine Apart.symm ?_; assumption) | ((refine Off.of_lt (by assumption) ?_; (walk_at "sub")); done) | k_all)))
  (case hm => intro y _; subst eti; rfl)
  (case h0 =>
    refine ⟨⟨hS0, .cons (.head _) .nil, ?_, rfl, ?_, ?_⟩, At.start hx, Nat.zero_le _⟩
    · intro x
      show (valueAt [(nm, Value.bool true), (Str.ofString "ANY", Value.bool true)] x).isSome = _
      by_cases e1 : nm = x
      · simp [valueAt, e1]
      · by_cases e2 : Str.ofString "ANY" = x
        · subst e2; simp [valueAt, e1]
        · simp [valueAt, e1, e2, Ne.symm e1, Ne.symm e2]
    · exact Off.cons hTR Off.nil
    · exact Off.cons hTS Off.nil)
  clear N1 F1 eti
  intro c u h tk2 hP F2 N2 ap2
  obtain ⟨its, nr, oS2, kvs2, tups, ns, i, ti⟩ := c
  obtain ⟨⟨dD, dR, dS, dL, oR, oS3⟩, dA, dI⟩ := hP
  dsimp only at *
  simp only [List.cons_append] at N2
  have oR1 := ap2.off (.tail _ (.head _))
  have oS1 := ap2.off (.head _)
  have oT1 : Apart tups (tabLed t dt D U h1 h2 t1 t2 oD oU ++ gl) := ap2.sub (fun x hx => .tail _ (.tail _ hx)) (fun _ h => h)
  have hlen := dR.length
  have hle := dA.len C
  rcases Nat.lt_or_ge i ns.length with hi | hi
  · obtain ⟨a1, k1, s1, s2, g1, g2⟩ := dR.get (List.getElem?_eq_getElem hi)
    have g1' : its[((i : Nat) : Int).toNat]? = some (.ref a1) := by simpa using g1
    have hy : ns[i] ∈ keys G := dA.within _ (List.getElem_mem hi)
    obtain ⟨v, hv, hcA⟩ := hT.get hy
    repeat' (first | ((fail_if_success (fail_if_success k_unfold)); first | refine (?_ : wpAny _ _ (execs _ _) _ _ _) | (k_unfold; (try dsimp only))) | ((first | (with_reducible show wpAny _ _ (execs _ _) _ _ _) | (with_reducible show wpAny _ _ (exec _ _) _ _ _)); first | ((fail_if_success k_fold); refine wpAny_tok ?_; intro tk0) | ((fail_if_success (fail_if_success k_fold)); refine (let q0 := _; (?_ : wpAny _ _ _ q0 _ _)))) | ((with_reducible show wpAny _ _ (call (Value.ref _) _ _) _ _ _); (refine stop_call 684 ?_)) | ((with_reducible show wpAny _ _ (eval (PySem.Expr.Dict ..) _) _ _ _); (k_dflt (refine' kdn_eval (knd := PySem.strKind _ _) ?F ?N ?b ?a ?l ?e ?n ?_; (case F => k_asm); (case N => k_asm); (case b => exact Top.nolimit (by k_asm)); (case a => rfl); (case l => rfl); (case e => exact List.cons_ne_nil _ _); (case n => exact Nat.le_of_ble_eq_true rfl)); intro _ _ _ F' N' l1 _ _; (try k_lt l1))) | ((with_reducible show wpAny _ _ (exec _ _) _ _ _); first | ((with_reducible show wpAny _ _ (exec (Stmt.While (PySem.Expr.Compare ..) _ _ _) _) _ _ _); (refine while_start ?_)) | ((with_reducible show wpAny _ _ (exec (Stmt.For (PySem.Expr.Name ..) (PySem.Expr.Call ..) _ [] _) _) _ _ _); walk_at "for0")) | ((with_reducible show wpAny _ _ (compareOp CmpOp.NotIn (Value.str _ _) (Value.ref _)) _ _ _); (k_dflt (refine kdg_notin (knd := PySem.strKind _ _) (by k_asm) (by k_mem) (by k_asm) (by k_asm) (strKind_is _ _ _ _) _ (by assumption) ?_); (try dsimp only [Bool.not_true, Bool.not_false]))) | walk1 | (dsimp only; first | (k_unfold; (try dsimp only)) | walk1) | (leave1; (try dsimp only)) | fail "no step")
    (refine' callAt_use (c_parents w t dt D U h1 h2 t1 t2 oD oU kvs gl ns[i] ns[i] s1 v (ups G ns[i]) hD hU lD lU hv (by rw [hv]; rfl) hcA (hup _)) ((S, oS2) :: (R, listOf its.toArray nr) :: tups) ?B ?F ?X ?N ?T ?hk ?hin ?off ?hd ?hu ?_; (case B => k_asm); (case F => k_asm); (case X => k_asm); (case N => k_asm); (case T => k_asm); (case hk => exact rfl); (case hin => (walk_at "sub")); (case off => exact (Apart.cons oS1 (Apart.cons oR1 oT1)).symm); (case hd => k_room); (case hu => k_units))
    refine el3R ?_
    intro l its3 nl hS3 h3 tk3 F3 N3 ap3
    dsimp only
    have hl3 := hS3.length
    refine' for_listC (σ := SupSt) (nn := nl) (fun c => (S, c.oS) :: (R, listOf c.its.toArray c.nr) :: c.tups) [Str.ofString "parent"] (fun j c => SupQ PySem.Challenge.rw_pq1424_01.row.prog w R S c ∧ c.ns = addNew ns ((ups G ns[i]).take j))
      ((l, listOf its3.toArray nl) :: (tabLed t dt D U h1 h2 t1 t2 oD oU ++ gl)) ⟨its, nr, oS2, kvs2, tups, ns, i, ti⟩ rfl PassesOwn.never (.inl ⟨_, _, rfl⟩) F3 N3 ?hin ?ap (.inr fun c => ?hl) ?h0 ?turn ?done
    (case hin => (walk_at "sub"))
    (case ap => exact ap3.symm)
    (case hl => exact List.mem_append_right _ (.head _))
    (case h0 => exact ⟨⟨dD, dR, dS, dL, oR, oS3⟩, rfl⟩)
    (case turn =>
      intro j v c u4 I oI h4 tk4 hj hP F4 N4 ap4
      (try refine (let q0 := _; (?_ : wpAny _ _ _ q0 _ _)))
      obtain ⟨its4, nr4, oS4, kvs4, tups4, ns4, i4, ti4⟩ := c
      obtain ⟨⟨dD4, dR4, dS4, dL4, oR4, oS5⟩, hN4⟩ := hP
      dsimp only at *
      simp only [List.cons_append] at N4
      rw [List.getElem?_toArray] at hj
      obtain ⟨y, ty, rfl, hy4⟩ := hS3.item j v hj
      have hyk : y ∈ keys G := C.within _ _ (List.mem_of_getElem? hy4)
      have hyA : y ≠ Str.ofString "ANY" := fun e => hA (e ▸ hyk)
      have hlen4 := dR4.length
      have hmid := dA.mid C (List.getElem?_eq_getElem hi) j
      rw [← hN4] at hmid
      have oI4 : Off S ((I, oI) :: (l, listOf its3.toArray nl) :: (tabLed t dt D U h1 h2 t1 t2 oD oU ++ gl)) := ap4.off (.head _)
      have oI5 : Off R ((I, oI) :: (l, listOf its3.toArray nl) :: (tabLed t dt D U h1 h2 t1 t2 oD oU ++ gl)) := ap4.off (.tail _ (.head _))
      have hstep : (ups G ns[i]).take (j + 1) = (ups G ns[i]).take j ++ [y] := by rw [List.take_add_one, hy4]; rfl
      have oT4 : Apart tups4 ((I, oI) :: (l, listOf its3.toArray nl) :: (tabLed t dt D U h1 h2 t1 t2 oD oU ++ gl)) := ap4.sub (fun x hx => .tail _ (.tail _ hx)) (fun _ h => h)
      by_cases hyn : y ∈ ns4
      · have hb : (valueAt kvs4 y).isSome = true := by rw [dS4]; simp [hyn]
        repeat' (first | ((fail_if_success (fail_if_success k_unfold)); first | refine (?_ : wpAny _ _ (execs _ _) _ _ _) | (k_unfold; (try dsimp only))) | ((first | (with_reducible show wpAny _ _ (execs _ _) _ _ _) | (with_reducible show wpAny _ _ (exec _ _) _ _ _)); first | ((fail_if_success k_fold); refine wpAny_tok ?_; intro tk0) | ((fail_if_success (fail_if_success k_fold)); refine (let q0 := _; (?_ : wpAny _ _ _ q0 _ _)))) | ((with_reducible show wpAny _ _ (call (Value.ref _) _ _) _ _ _); (refine stop_call 684 ?_)) | ((with_reducible show wpAny _ _ (eval (PySem.Expr.Dict ..) _) _ _ _); (k_dflt (refine' kdn_eval (knd := PySem.strKind _ _) ?F ?N ?b ?a ?l ?e ?n ?_; (case F => k_asm); (case N => k_asm); (case b => exact Top.nolimit (by k_asm)); (case a => rfl); (case l => rfl); (case e => exact List.cons_ne_nil _ _); (case n => exact Nat.le_of_ble_eq_true rfl)); intro _ _ _ F' N' l1 _ _; (try k_lt l1))) | ((with_reducible show wpAny _ _ (exec _ _) _ _ _); first | ((with_reducible show wpAny _ _ (exec (Stmt.While (PySem.Expr.Compare ..) _ _ _) _) _ _ _); (refine while_start ?_)) | ((with_reducible show wpAny _ _ (exec (Stmt.For (PySem.Expr.Name ..) (PySem.Expr.Call ..) _ [] _) _) _ _ _); walk_at "for0")) | ((with_reducible show wpAny _ _ (compareOp CmpOp.NotIn (Value.str _ _) (Value.ref _)) _ _ _); (k_dflt (refine kdg_notin (knd := PySem.strKind _ _) (by k_asm) (by k_mem) (by k_asm) (by k_asm) (strKind_is _ _ _ _) _ (by assumption) ?_); (try dsimp only [Bool.not_true, Bool.not_false]))) | walk1 | (dsimp only; first | (k_unfold; (try dsimp only)) | walk1) | (leave1; (try dsimp only)) | fail "no step")
        refine TurnEnd.next ⟨its4, nr4, oS4, kvs4, tups4, ns4, i4, ti4⟩ (by assumption) ?mis (by assumption) ?sub ap4 ⟨⟨dD4, dR4, dS4, dL4, oR4, oS5⟩, ns_same hN4 hstep hyn⟩
        (case mis => (repeat' (first | exact Mis.mix | (refine Mis.put rfl ?_) | (refine Mis.mixIn rfl ?_) | exact Mis.rfl')))
        (case sub => (walk_at "sub"))
      · have hb : (valueAt kvs4 y).isSome = false := by rw [dS4]; simp [hyn, hyA]
        repeat' (first | ((fail_if_success (fail_if_success k_unfold)); first | refine (?_ : wpAny _ _ (execs _ _) _ _ _) | (k_unfold; (try dsimp only))) | ((first | (with_reducible show wpAny _ _ (execs _ _) _ _ _) | (with_reducible show wpAny _ _ (exec _ _) _ _ _)); first | ((fail_if_success k_fold); refine wpAny_tok ?_; intro tk0) | ((fail_if_success (fail_if_success k_fold)); refine (let q0 := _; (?_ : wpAny _ _ _ q0 _ _)))) | ((with_reducible show wpAny _ _ (call (Value.ref _) _ _) _ _ _); (refine stop_call 684 ?_)) | ((with_reducible show wpAny _ _ (eval (PySem.Expr.Dict ..) _) _ _ _); (k_dflt (refine' kdn_eval (knd := PySem.strKind _ _) ?F ?N ?b ?a ?l ?e ?n ?_; (case F => k_asm); (case N => k_asm); (case b => exact Top.nolimit (by k_asm)); (case a => rfl); (case l => rfl); (case e => exact List.cons_ne_nil _ _); (case n => exact Nat.le_of_ble_eq_true rfl)); intro _ _ _ F' N' l1 _ _; (try k_lt l1))) | ((with_reducible show wpAny _ _ (exec _ _) _ _ _); first | ((with_reducible show wpAny _ _ (exec (Stmt.While (PySem.Expr.Compare ..) _ _ _) _) _ _ _); (refine while_start ?_)) | ((with_reducible show wpAny _ _ (exec (Stmt.For (PySem.Expr.Name ..) (PySem.Expr.Call ..) _ [] _) _) _ _ _); walk_at "for0")) | ((with_reducible show wpAny _ _ (compareOp CmpOp.NotIn (Value.str _ _) (Value.ref _)) _ _ _); (k_dflt (refine kdg_notin (knd := PySem.strKind _ _) (by k_asm) (by k_mem) (by k_asm) (by k_asm) (strKind_is _ _ _ _) _ (by assumption) ?_); (try dsimp only [Bool.not_true, Bool.not_false]))) | walk1 | (dsimp only; first | (k_unfold; (try dsimp only)) | walk1) | (leave1; (try dsimp only)) | fail "no step")
        rename News _ _ _ _ => N5
        rename_i T5 _ _ _ _
        rename Obj.IsDictOf _ _ (stored _ _ _) => hd5
        have h5R : @Ne Nat T5 R := by walk_at "om"
        have h5S : @Ne Nat T5 S := by walk_at "om"
        refine' TurnEnd.next ⟨its4 ++ [.ref T5], nr4 + 1, _, stored kvs4 y (.bool true), (T5, ?o6) :: tups4, ns4 ++ [y], i4, ti4⟩ (by assumption) ?mis N5 ?sub ?ap ⟨⟨hd5, (dR4.mono fun x h => .tail _ h).snoc (.head _), seen_step dS4 hb, len_step dL4 hb, Off.cons h5R oR4, Off.cons h5S oS5⟩, ns_step hN4 hstep hyn⟩
        (case mis => (repeat' (first | exact Mis.mix | (refine Mis.put rfl ?_) | (refine Mis.mixIn rfl ?_) | exact Mis.rfl')))
        (case sub => (walk_at "sub"))
        (case ap => exact Apart.cons oI4 (Apart.cons oI5 (Apart.cons (Off.of_lt (by assumption) (by (walk_at "sub"))) oT4))))
    (case done =>
      intro c u5 h5 tk5 hP5 F5 N5 ap5
      obtain ⟨its5, nr5, oS5, kvs5, tups5, ns5, i5, ti5⟩ := c
      obtain ⟨⟨dD5, dR5, dS5, dL5, oR5, oS6⟩, hN5⟩ := hP5
      dsimp only at *
      simp only [List.cons_append] at N5
      repeat' (first | ((fail_if_success (fail_if_success k_unfold)); first | refine (?_ : wpAny _ _ (execs _ _) _ _ _) | (k_unfold; (try dsimp only))) | ((first | (with_reducible show wpAny _ _ (execs _ _) _ _ _) | (with_reducible show wpAny _ _ (exec _ _) _ _ _)); first | ((fail_if_success k_fold); refine wpAny_tok ?_; intro tk0) | ((fail_if_success (fail_if_success k_fold)); refine (let q0 := _; (?_ : wpAny _ _ _ q0 _ _)))) | ((with_reducible show wpAny _ _ (call (Value.ref _) _ _) _ _ _); (refine stop_call 684 ?_)) | ((with_reducible show wpAny _ _ (eval (PySem.Expr.Dict ..) _) _ _ _); (k_dflt (refine' kdn_eval (knd := PySem.strKind _ _) ?F ?N ?b ?a ?l ?e ?n ?_; (case F => k_asm); (case N => k_asm); (case b => exact Top.nolimit (by k_asm)); (case a => rfl); (case l => rfl); (case e => exact List.cons_ne_nil _ _); (case n => exact Nat.le_of_ble_eq_true rfl)); intro _ _ _ F' N' l1 _ _; (try k_lt l1))) | ((with_reducible show wpAny _ _ (exec _ _) _ _ _); first | ((with_reducible show wpAny _ _ (exec (Stmt.While (PySem.Expr.Compare ..) _ _ _) _) _ _ _); (refine while_start ?_)) | ((with_reducible show wpAny _ _ (exec (Stmt.For (PySem.Expr.Name ..) (PySem.Expr.Call ..) _ [] _) _) _ _ _); walk_at "for0")) | ((with_reducible show wpAny _ _ (compareOp CmpOp.NotIn (Value.str _ _) (Value.ref _)) _ _ _); (k_dflt (refine kdg_notin (knd := PySem.strKind _ _) (by k_asm) (by k_mem) (by k_asm) (by k_asm) (strKind_is _ _ _ _) _ (by assumption) ?_); (try dsimp only [Bool.not_true, Bool.not_false]))) | walk1 | (dsimp only; first | (k_unfold; (try dsimp only)) | walk1) | (leave1; (try dsimp only)) | fail "no step")
      have hall : (ups G ns[i]).take its3.toArray.size = ups G ns[i] := by rw [List.size_toArray, hl3, List.take_length]
      rw [hall] at hN5
      have hgo := dA.step C (List.getElem?_eq_getElem hi)
      have hl5 := addNew_len ns (ups G ns[i])
      refine' TurnEnd.next ⟨its5, nr5, oS5, kvs5, tups5, ns5, i + 1, ?t7⟩ (by assumption) ?mis N5 ?sub ?ap ⟨⟨⟨dD5, dR5, dS5, dL5, oR5, oS6⟩, hN5 ▸ hgo, ?le⟩, ?mu⟩
      (case mis =>
        intro y hy
        obtain ⟨q1, q2, q3⟩ := out3 hy
        rw [mix_out (in1 q3)]
        by_cases q4 : y = Str.ofString "at"
        · simp only [if_pos q4]; rfl
        · simp only [if_neg q4, if_neg q1, if_neg q2, mix_out hy])
      (case sub => (walk_at "sub"))
      (case ap => exact ap5.sub (fun _ h => h) (fun _ h => .tail _ h))
      (case le => rw [hN5]; dsimp only; omega)
      (case mu => dsimp only; omega))
  · obtain ⟨y9, hy9⟩ : ∃ y9, ns[ns.length - 1]? = some y9 := by
      cases ns with
      | nil => have := dA.head; cases this
      | cons x r => exact ⟨_, List.getElem?_eq_getElem (by simp)⟩
    obtain ⟨a9, k9, s8, s9, g9, g10⟩ := dR.get hy9
    have hpos : 0 < ns.length := by
      cases ns with
      | nil => have := dA.head; cases this
      | cons x r => exact Nat.succ_pos _
    have g9' : its[((its.length : Int) - 1).toNat]? = some (.ref a9) := by
      have e : ((its.length : Int) - 1).toNat = ns.length - 1 := by walk_at "om"
      rw [e]; exact g9
    repeat' (first | ((fail_if_success (fail_if_success k_unfold)); first | refine (?_ : wpAny _ _ (execs _ _) _ _ _) | (k_unfold; (try dsimp only))) | ((first | (with_reducible show wpAny _ _ (execs _ _) _ _ _) | (with_reducible show wpAny _ _ (exec _ _) _ _ _)); first | ((fail_if_success k_fold); refine wpAny_tok ?_; intro tk0) | ((fail_if_success (fail_if_success k_fold)); refine (let q0 := _; (?_ : wpAny _ _ _ q0 _ _)))) | ((with_reducible show wpAny _ _ (call (Value.ref _) _ _) _ _ _); (refine stop_call 684 ?_)) | ((with_reducible show wpAny _ _ (eval (PySem.Expr.Dict ..) _) _ _ _); (k_dflt (refine' kdn_eval (knd := PySem.strKind _ _) ?F ?N ?b ?a ?l ?e ?n ?_; (case F => k_asm); (case N => k_asm); (case b => exact Top.nolimit (by k_asm)); (case a => rfl); (case l => rfl); (case e => exact List.cons_ne_nil _ _); (case n => exact Nat.le_of_ble_eq_true rfl)); intro _ _ _ F' N' l1 _ _; (try k_lt l1))) | ((with_reducible show wpAny _ _ (exec _ _) _ _ _); first | ((with_reducible show wpAny _ _ (exec (Stmt.While (PySem.Expr.Compare ..) _ _ _) _) _ _ _); (refine while_start ?_)) | ((with_reducible show wpAny _ _ (exec (Stmt.For (PySem.Expr.Name ..) (PySem.Expr.Call ..) _ [] _) _) _ _ _); walk_at "for0")) | ((with_reducible show wpAny _ _ (compareOp CmpOp.NotIn (Value.str _ _) (Value.ref _)) _ _ _); (k_dflt (refine kdg_notin (knd := PySem.strKind _ _) (by k_asm) (by k_mem) (by k_asm) (by k_asm) (strKind_is _ _ _ _) _ (by assumption) ?_); (try dsimp only [Bool.not_true, Bool.not_false]))) | walk1 | (dsimp only; first | (k_unfold; (try dsimp only)) | walk1) | (leave1; (try dsimp only)) | fail "no step")
    rename News _ _ _ _ => N9
    rename_i T9 _ _ _ _ _ _ _
    rw [slice1] at N9
    have hrow : ns = rowOf G nm := dA.done hi
    have hns : ns ≠ [] := fun e => by rw [e] at hpos; cases hpos
    have hmem : ∀ o, RowsAre tups its ns → RowsAre ((T9, o) :: tups) its ns := fun o h => h.mono fun x hx => .tail _ hx
    refine' Fin.mk ?o (by assumption) N9 ?sub ⟨_, _, ?n9, (T9, ?o9) :: tups, rfl, rfl, hrow ▸ (hmem _ dR).drop1 (.head _) hns⟩
    (case sub => (walk_at "sub"))
end

-- C_distance
section
local macro_rules | `(tactic| walk_at "pad0") => `(tactic| fail "pad")
local macro_rules | `(tactic| walk_at "pad1") => `(tactic| fail "pad")
local macro_rules | `(tactic| walk_at "pad2") => `(tactic| fail "pad")
set_option maxHeartbeats 8000000 in
theorem c_distance (w : World) {mean : ExcName → Option Value} {mg mb : Str → Option Value} (t dt D U : Addr) (h1 h2 : Int) (t1 t2 : Tok) (oD oU : Obj) (kvs : List (Str × Value)) (gl : List (Addr × Obj)) (G : List (Str × List Str)) (hD : oD.IsDictOf (PySem.strKind PySem.Challenge.rw_pq1424_01.row.prog w) kvs) (hU : oU.IsDictOf (PySem.strKind PySem.Challenge.rw_pq1424_01.row.prog w) []) (lD : (D == sysModules) = false) (lU : (U == sysModules) = false) (hT : Tab gl kvs G) (C : Closed G) (hk : (keys G).length ≤ 6) (hA : Str.ofString "ANY" ∉ keys G) (hup : ∀ x, (ups G x).length ≤ 64) (x y : Str) (tx ty : Tok) (hx : x ∈ keys G) (hy : y ∉ keys G) (hyA : y ≠ Str.ofString "ANY") :
  Tells1 PySem.Challenge.rw_pq1424_01.row.prog w (Mine.kAt w.params) Mine.viewQ (looseW Mine.viewQ [Str.ofString "match_names", Str.ofString "take"]) mean mg mb 698 [.ref t, .str x tx, .str y ty] [] 6 (tabLed t dt D U h1 h2 t1 t2 oD oU ++ gl) (fun r out => r = .none ∧ out = tabLed t dt D U h1 h2 t1 t2 oD oU ++ gl) := by
  have hxy : (x == y) = false := by simpa using fun e : x = y => hy (e ▸ hx)
  k_fill
  refine' tells1_enter (binds := [(Str.ofString "self", .ref t), (Str.ofString "sub", .str x tx), (Str.ofString "super_name", .str y ty)]) ?k6 ?k7 ?kr ?k9 ?kB ?c2 ?c3 ?c4 ?c5 ?_
  (case k6 => k_is)
  (case k7 => k_is)
  (case kr => decide)
  (case k9 => intro s hX; first | exact BindsTo.of_eq rfl | exact binds_K (by k_in) rfl (by k_is) rfl rfl rfl)
  (case kB => exact locs rfl)
  (case c2 => exact rfl)
  (case c3 => exact rfl)
  (case c4 => exact rfl)
  (case c5 => decide)
  intro dp un gd cn cs a ccd cl outer base g L L' h₁ s tk hd hu F' N' B' X' T'
  (try dsimp only)
  (try k_fold)
  refine (let A1 := _; (?_ : wpAny _ A1 _ _ _ _))
  simp only [List.cons_append, List.nil_append] at N'
  repeat' (first | ((fail_if_success (fail_if_success k_unfold)); first | refine (?_ : wpAny _ _ (execs _ _) _ _ _) | (k_unfold; (try dsimp only))) | ((first | (with_reducible show wpAny _ _ (execs _ _) _ _ _) | (with_reducible show wpAny _ _ (exec _ _) _ _ _)); first | ((fail_if_success k_fold); refine wpAny_tok ?_; intro tk0) | ((fail_if_success (fail_if_success k_fold)); refine (let q0 := _; (?_ : wpAny _ _ _ q0 _ _)))) | ((with_reducible show wpAny _ _ (exec (Stmt.For (PySem.Expr.Tuple ..) (PySem.Expr.Call ..) _ [] _) _) _ _ _); walk_at "for0") | walk1 | (dsimp only; first | (k_unfold; (try dsimp only)) | walk1) | (leave1; (try dsimp only)) | fail "no step")
  (refine' callAt_use (c_supers w t dt D U h1 h2 t1 t2 oD oU kvs gl x tx G hD hU lD lU hT C hk hA hup hx) ([]) ?B ?F ?X ?N ?T ?hk ?hin ?off ?hd ?hu ?_; (case B => k_asm); (case F => k_asm); (case X => k_asm); (case N => k_asm); (case T => k_asm); (case hk => exact rfl); (case hin => (walk_at "sub")); (case off => (repeat' (first | assumption | exact Apart.nil | exact Apart.nilR | (refine Apart.cons ?_ ?_) | (refine Apart.app ?_ ?_) | (refine Apart.symm ?_; assumption) | ((refine Off.of_lt (by assumption) ?_; (walk_at "sub")); done) | k_all))); (case hd => k_room); (case hu => k_units))
  refine el4R ?_
  intro l its n tups hR h3 tk3 F3 N3 ap3
  dsimp only
  refine' for_listC (σ := Unit) (nn := n) (items := its.toArray) (fun _ => []) [Str.ofString "name", Str.ofString "steps"] (fun _ _ => True) ((l, listOf its.toArray n) :: (tups ++ (tabLed t dt D U h1 h2 t1 t2 oD oU ++ gl))) () rfl PassesOwn.never (.inr ⟨⟨_, _, _, rfl⟩, fun i v hv => hR.allRef i v (by simpa using hv)⟩) F3 N3 ?hin Apart.nil (.inr fun _ => ?hl) trivial ?turn ?done
  (case hin => (walk_at "sub"))
  (case hl => exact .head _)
  (case turn =>
    intro j v c u4 I oI h4 tk4 hj hP F4 N4 ap4
    (try refine (let q0 := _; (?_ : wpAny _ _ _ q0 _ _)))
    obtain ⟨a1, z, k1, s1, s2, rfl, hz, hm⟩ := hR.item (i := j) (v := v) (by simpa using hj)
    have hzy : (z == y) = false := by
      have := tail_within C hx (List.mem_of_getElem? hz)
      simp only [beq_eq_false_iff_ne, ne_eq]
      rintro rfl
      exact this.elim hy hyA
    simp only [List.nil_append] at N4
    repeat' (first | ((fail_if_success (fail_if_success k_unfold)); first | refine (?_ : wpAny _ _ (execs _ _) _ _ _) | (k_unfold; (try dsimp only))) | ((first | (with_reducible show wpAny _ _ (execs _ _) _ _ _) | (with_reducible show wpAny _ _ (exec _ _) _ _ _)); first | ((fail_if_success k_fold); refine wpAny_tok ?_; intro tk0) | ((fail_if_success (fail_if_success k_fold)); refine (let q0 := _; (?_ : wpAny _ _ _ q0 _ _)))) | ((with_reducible show wpAny _ _ (exec (Stmt.For (PySem.Expr.Tuple ..) (PySem.Expr.Call ..) _ [] _) _) _ _ _); walk_at "for0") | walk1 | (dsimp only; first | (k_unfold; (try dsimp only)) | walk1) | (leave1; (try dsimp only)) | fail "no step")
    refine TurnEnd.next () (by assumption) ?mis (by assumption) ?sub Apart.nil trivial
    (case mis => (repeat' (first | exact Mis.mix | (refine Mis.put rfl ?_) | (refine Mis.mixIn rfl ?_) | exact Mis.rfl')))
    (case sub => (walk_at "sub")))
  (case done =>
    intro c u5 h5 tk5 hP5 F5 N5 ap5
    simp only [List.nil_append] at N5
    repeat' (first | ((fail_if_success (fail_if_success k_unfold)); first | refine (?_ : wpAny _ _ (execs _ _) _ _ _) | (k_unfold; (try dsimp only))) | ((first | (with_reducible show wpAny _ _ (execs _ _) _ _ _) | (with_reducible show wpAny _ _ (exec _ _) _ _ _)); first | ((fail_if_success k_fold); refine wpAny_tok ?_; intro tk0) | ((fail_if_success (fail_if_success k_fold)); refine (let q0 := _; (?_ : wpAny _ _ _ q0 _ _)))) | ((with_reducible show wpAny _ _ (exec (Stmt.For (PySem.Expr.Tuple ..) (PySem.Expr.Call ..) _ [] _) _) _ _ _); walk_at "for0") | walk1 | (dsimp only; first | (k_unfold; (try dsimp only)) | walk1) | (leave1; (try dsimp only)) | fail "no step")
    refine Fin.mk _ (by assumption) N5 ?sub ⟨rfl, rfl⟩
    (case sub => (walk_at "sub")))
end

-- C_dist0
section
local macro_rules | `(tactic| walk_at "pad0") => `(tactic| fail "pad")
local macro_rules | `(tactic| walk_at "pad1") => `(tactic| fail "pad")
local macro_rules | `(tactic| walk_at "pad2") => `(tactic| fail "pad")
local macro_rules | `(tactic| walk_at "pad3") => `(tactic| fail "pad")
set_option maxHeartbeats 8000000 in
theorem c_dist0 (w : World) {mean : ExcName → Option Value} {mg mb : Str → Option Value} (led : List (Addr × Obj)) (t dt : Addr) (es : List DictEntry) (ne : Nat) (x : Str) (tx ty : Tok) (m1 : (t, instObj 708 dt) ∈ led) (m2 : (dt, dictOf es ne) ∈ led) :
  Tells1 PySem.Challenge.rw_pq1424_01.row.prog w (Mine.kAt w.params) Mine.viewQ (looseW Mine.viewQ [Str.ofString "match_names", Str.ofString "take"]) mean mg mb 698 [.ref t, .str x tx, .str x ty] [] 2 led (fun r out => (∃ tk, r = .int 0 tk) ∧ out = led) := by
  have hxy : (x == x) = true := by simp
  k_fill
  refine' tells1_enter (binds := [(Str.ofString "self", .ref t), (Str.ofString "sub", .str x tx), (Str.ofString "super_name", .str x ty)]) ?k6 ?k7 ?kr ?k9 ?kB ?c2 ?c3 ?c4 ?c5 ?_
  (case k6 => k_is)
  (case k7 => k_is)
  (case kr => decide)
  (case k9 => intro s hX; first | exact BindsTo.of_eq rfl | exact binds_K (by k_in) rfl (by k_is) rfl rfl rfl)
  (case kB => exact locs rfl)
  (case c2 => exact rfl)
  (case c3 => exact rfl)
  (case c4 => exact rfl)
  (case c5 => decide)
  intro dp un gd cn cs a ccd cl outer base g L L' h₁ s tk hd hu F' N' B' X' T'
  (try dsimp only)
  (try k_fold)
  refine (let A1 := _; (?_ : wpAny _ A1 _ _ _ _))
  repeat' (first | ((fail_if_success (fail_if_success k_unfold)); first | refine (?_ : wpAny _ _ (execs _ _) _ _ _) | (k_unfold; (try dsimp only))) | ((first | (with_reducible show wpAny _ _ (execs _ _) _ _ _) | (with_reducible show wpAny _ _ (exec _ _) _ _ _)); first | ((fail_if_success k_fold); refine wpAny_tok ?_; intro tk0) | ((fail_if_success (fail_if_success k_fold)); refine (let q0 := _; (?_ : wpAny _ _ _ q0 _ _)))) |  walk1 | (dsimp only; first | (k_unfold; (try dsimp only)) | walk1) | (leave1; (try dsimp only)) | fail "no step")
  refine Fin.mk _ (by assumption) (by assumption) (fun _ h => h) ⟨⟨_, rfl⟩, rfl⟩
end

-- C_checkopen
section
abbrev basicNames : List Str := [Str.ofString "logical", Str.ofString "integer", Str.ofString "double", Str.ofString "numeric", Str.ofString "character", Str.ofString "list", Str.ofString "expression", Str.ofString "function", Str.ofString "NULL", Str.ofString "ANY", Str.ofString "missing", Str.ofString "vector", Str.ofString "matrix", Str.ofString "array", Str.ofString "environment", Str.ofString "language", Str.ofString "name", Str.ofString "call", Str.ofString "{", Str.ofString "if", Str.ofString "for", Str.ofString "while", Str.ofString "(", Str.ofString "<-", Str.ofString "=", Str.ofString "formula", Str.ofString "factor", Str.ofString "data.frame", Str.ofString "oldClass", Str.ofString "pairlist"]
set_option maxHeartbeats 8000000 in
theorem c_checkopen (w : World) {mean : ExcName → Option Value} {mg mb : Str → Option Value} (led : List (Addr × Obj)) (t dt : Addr) (h1 h2 : Int) (t1 t2 : Tok) (D U : Addr) (x : Str) (tx : Tok) (hx : x ∉ basicNames) (m1 : (t, instObj 708 dt) ∈ led) (m2 : (dt, dictOf [⟨h1, .str (Str.ofString "classes") t1, .ref D⟩, ⟨h2, .str (Str.ofString "unions") t2, .ref U⟩] 2) ∈ led) :
  Tells1 PySem.Challenge.rw_pq1424_01.row.prog w (Mine.kAt w.params) Mine.viewQ (looseW Mine.viewQ [Str.ofString "match_names", Str.ofString "take"]) mean mg mb 656 [.ref t, .str x tx] [] 6 led (fun r out => r = .none ∧ out = led) := by
  have hxb : ([Str.ofString "logical", Str.ofString "integer", Str.ofString "double", Str.ofString "numeric", Str.ofString "character", Str.ofString "list", Str.ofString "expression", Str.ofString "function", Str.ofString "NULL", Str.ofString "ANY", Str.ofString "missing", Str.ofString "vector", Str.ofString "matrix", Str.ofString "array", Str.ofString "environment", Str.ofString "language", Str.ofString "name", Str.ofString "call", Str.ofString "{", Str.ofString "if", Str.ofString "for", Str.ofString "while", Str.ofString "(", Str.ofString "<-", Str.ofString "=", Str.ofString "formula", Str.ofString "factor", Str.ofString "data.frame", Str.ofString "oldClass", Str.ofString "pairlist"].any (· == x)) = false := by rw [any_beq]; simpa using hx
  k_fill
  refine' tells1_enter (binds := [(Str.ofString "self", .ref t), (Str.ofString "name", .str x tx)]) ?k6 ?k7 ?kr ?k9 ?kB ?c2 ?c3 ?c4 ?c5 ?_
  (case k6 => k_is)
  (case k7 => k_is)
  (case kr => decide)
  (case k9 => intro s hX; first | exact BindsTo.of_eq rfl | exact binds_K (by k_in) rfl (by k_is) rfl rfl rfl)
  (case kB => exact locs rfl)
  (case c2 => exact rfl)
  (case c3 => exact rfl)
  (case c4 => exact rfl)
  (case c5 => decide)
  intro dp un gd cn cs a ccd cl outer base g L L' h₁ s tk hd hu F' N' B' X' T'
  (try dsimp only)
  (try k_fold)
  refine (let A1 := _; (?_ : wpAny _ A1 _ _ _ _))
  repeat' (first | ((fail_if_success (fail_if_success k_unfold)); first | refine (?_ : wpAny _ _ (execs _ _) _ _ _) | (k_unfold; (try dsimp only))) | ((first | (with_reducible show wpAny _ _ (execs _ _) _ _ _) | (with_reducible show wpAny _ _ (exec _ _) _ _ _)); first | ((fail_if_success k_fold); refine wpAny_tok ?_; intro tk0) | ((fail_if_success (fail_if_success k_fold)); refine (let q0 := _; (?_ : wpAny _ _ _ q0 _ _)))) | ((with_reducible show wpAny _ _ (compareOp CmpOp.In (Value.str _ _) (Value.ref _)) _ _ _); (k_dflt (refine kda_in (knd := PySem.strKind _ _) (by k_asm) (by k_mem) (by k_asm) (by k_asm) (strKind_is _ _ _ _) _ (by assumption) ?_))) | walk1 | (dsimp only; first | (k_unfold; (try dsimp only)) | walk1) | (leave1; (try dsimp only)) | fail "no step")
  refine Fin.mk _ (by assumption) (by assumption) ?sub ⟨rfl, rfl⟩
  (case sub => (walk_at "sub"))
end

-- C_slots
section
local macro_rules | `(tactic| walk_at "KdnMade") => `(tactic| (k_here; k_dflt (refine' kdn_made_str ?F ?N ?U ?d ?k ?n ?_; (case F => k_asm); (case N => k_asm); (case U => k_updF); (case d => k_asm); (case k => rfl); (case n => first | (with_unfolding_all assumption) | exact of_decide_eq_true (by first | rfl | kernel_rfl!)); intro h' o' F' N' hd'); (try dsimp only at N')))

structure SlSt where
  oS : Obj
  kvs : List (Str × Value)
  fits : List Value
  nf : Nat
  tups : List (Addr × Obj)
structure SlP (prog : Program) (w : World) (S F : Addr) (j : Nat) (c : SlSt) : Prop where
  dict : c.oS.IsDictOf (PySem.strKind prog w) c.kvs
  zero : j = 0 → c.kvs = [] ∧ c.fits = [] ∧ c.tups = []
  more : 0 < j → ∃ T ts tq, c.kvs = [(Str.ofString "s", .bool true)] ∧ c.fits = [.ref T] ∧ c.tups = [(T, tupOf [.str (Str.ofString "s") ts, .str (Str.ofString "numeric") tq])]
set_option maxHeartbeats 8000000 in
theorem c_slots (w : World) {mean : ExcName → Option Value} {mg mb : Str → Option Value} (t dt D U : Addr) (h1 h2 : Int) (t1 t2 : Tok) (oD oU : Obj) (kvs : List (Str × Value)) (gl : List (Addr × Obj)) (G : List (Str × List Str)) (hD : oD.IsDictOf (PySem.strKind PySem.Challenge.rw_pq1424_01.row.prog w) kvs) (hU : oU.IsDictOf (PySem.strKind PySem.Challenge.rw_pq1424_01.row.prog w) []) (lD : (D == sysModules) = false) (lU : (U == sysModules) = false) (hT : Tab gl kvs G) (C : Closed G) (hk : (keys G).length ≤ 6) (hA : Str.ofString "ANY" ∉ keys G) (hup : ∀ x, (ups G x).length ≤ 64) (x : Str) (tx : Tok) (hx : x ∈ keys G) :
  Tells1 PySem.Challenge.rw_pq1424_01.row.prog w (Mine.kAt w.params) Mine.viewQ (looseW Mine.viewQ [Str.ofString "match_names", Str.ofString "take"]) mean mg mb 705 [.ref t, .str x tx] [] 6 (tabLed t dt D U h1 h2 t1 t2 oD oU ++ gl)
   (fun r out => ∃ l T n ts tq, r = .ref l ∧ out = (l, listOf #[.ref T] n) :: (T, tupOf [.str (Str.ofString "s") ts, .str (Str.ofString "numeric") tq]) :: (tabLed t dt D U h1 h2 t1 t2 oD oU ++ gl)) := by
  k_fill
  refine' tells1_enter (binds := [(Str.ofString "self", .ref t), (Str.ofString "name", .str x tx)]) ?k6 ?k7 ?kr ?k9 ?kB ?c2 ?c3 ?c4 ?c5 ?_
  (case k6 => k_is)
  (case k7 => k_is)
  (case kr => decide)
  (case k9 => intro s hX; first | exact BindsTo.of_eq rfl | exact binds_K (by k_in) rfl (by k_is) rfl rfl rfl)
  (case kB => exact locs rfl)
  (case c2 => exact rfl)
  (case c3 => exact rfl)
  (case c4 => exact rfl)
  (case c5 => decide)
  intro dp un gd cn cs a ccd cl outer base g L L' h₁ s tk hd hu F' N' B' X' T'
  (try dsimp only)
  (try k_fold)
  refine (let A1 := _; (?_ : wpAny _ A1 _ _ _ _))
  simp only [List.cons_append, List.nil_append] at N'
  repeat' (first | ((fail_if_success (fail_if_success k_unfold)); first | refine (?_ : wpAny _ _ (execs _ _) _ _ _) | (k_unfold; (try dsimp only))) | ((first | (with_reducible show wpAny _ _ (execs _ _) _ _ _) | (with_reducible show wpAny _ _ (exec _ _) _ _ _)); first | ((fail_if_success k_fold); refine wpAny_tok ?_; intro tk0) | ((fail_if_success (fail_if_success k_fold)); refine (let q0 := _; (?_ : wpAny _ _ _ q0 _ _)))) | ((with_reducible show wpAny _ _ (binaryOp _ (Value.ref _) (Value.ref _)) _ _ _); k_dflt (refine' add_at (n := ?n) (k := ?k) ?k1 ?k2 ?k3 ?k4 ?k5 ?_; (case k1 => k_asm); (case k2 => k_asm); (case k3 => k_mem); (case k4 => k_mem); (case k5 => first | omega | ((try simp only [List.length_append, List.length_cons, List.length_nil]); omega)); k_whole); intro _ _ F' N' l1; (try k_lt l1); (try k_sweep)) | ((with_reducible show wpAny _ _ (eval (PySem.Expr.Dict ..) _) _ _ _); (k_dflt (refine' kdn_eval (knd := PySem.strKind _ _) ?F ?N ?b ?a ?l ?e ?n ?_; (case F => k_asm); (case N => k_asm); (case b => exact Top.nolimit (by k_asm)); (case a => rfl); (case l => rfl); (case e => exact List.cons_ne_nil _ _); (case n => exact Nat.le_of_ble_eq_true rfl)); intro _ _ _ F' N' l1 _ _; (try k_lt l1))) | ((with_reducible show wpAny _ _ (exec _ _) _ _ _); first | ((with_reducible show wpAny _ _ (exec (Stmt.For (PySem.Expr.Tuple ..) (PySem.Expr.Name ..) _ [] _) _) _ _ _); walk_at "for0") | ((with_reducible show wpAny _ _ (exec (Stmt.For (PySem.Expr.Tuple ..) (PySem.Expr.BinOp ..) _ [] _) _) _ _ _); walk_at "for0")) | ((with_reducible show wpAny _ _ (getItem (Value.ref _) (Value.str _ _)) _ _ _); (k_dflt (refine kdt_getItem (knd := PySem.strKind _ _) (by k_asm) (by k_mem) (by k_asm) (strKind_is _ _ _ _) (by assumption) ?_))) | ((with_reducible show wpAny _ _ (compareOp _ _ _) _ _ _); first | ((with_reducible show wpAny _ _ (compareOp CmpOp.NotIn (Value.str _ _) (Value.ref _)) _ _ _); (k_dflt (refine kdg_notin (knd := PySem.strKind _ _) (by k_asm) (by k_mem) (by k_asm) (by k_asm) (strKind_is _ _ _ _) _ (by assumption) ?_); (try dsimp only [Bool.not_true, Bool.not_false]))) | ((with_reducible show wpAny _ _ (compareOp CmpOp.In (Value.str _ _) (Value.ref _)) _ _ _); (k_dflt (refine kda_in (knd := PySem.strKind _ _) (by k_asm) (by k_mem) (by k_asm) (by k_asm) (strKind_is _ _ _ _) _ (by assumption) ?_)))) | walk1 | (dsimp only; first | (k_unfold; (try dsimp only)) | walk1) | (leave1; (try dsimp only)) | fail "no step")
  rename News _ _ _ _ => N1
  rename_i F _ _ _ _ _ S _ _ _ _ _ _ _ _ _ T0 _ _ l0 _ _ _
  (refine' callAt_use (c_supers w t dt D U h1 h2 t1 t2 oD oU kvs gl x tx G hD hU lD lU hT C hk hA hup hx) ([(l0, _), (T0, _), (S, _), (F, _)]) ?B ?F ?X ?N ?T ?hk ?hin ?off ?hd ?hu ?_; (case B => k_asm); (case F => k_asm); (case X => k_asm); (case N => k_asm); (case T => k_asm); (case hk => exact rfl); (case hin => (walk_at "sub")); (case off => (refine Apart.symm ?_; (repeat' (first | assumption | exact Apart.nil | exact Apart.nilR | (refine Apart.cons ?_ ?_) | (refine Apart.app ?_ ?_) | (refine Apart.symm ?_; assumption) | ((refine Off.of_lt (by assumption) ?_; (walk_at "sub")); done) | k_all)))); (case hd => k_room); (case hu => k_units))
  refine el4R ?_
  intro l its n tups hR h3 tk3 F3 N3 ap3
  simp only [List.cons_append, List.append_assoc, List.nil_append] at N3
  dsimp only
  have hlen := hR.length
  have hrl := rowOf_len C hx
  have htl : (rowOf G x).tail.length ≤ (rowOf G x).length := by simp
  simp only [List.length_append, List.length_cons, List.length_nil] at hlen
  repeat' (first | ((fail_if_success (fail_if_success k_unfold)); first | refine (?_ : wpAny _ _ (execs _ _) _ _ _) | (k_unfold; (try dsimp only))) | ((first | (with_reducible show wpAny _ _ (execs _ _) _ _ _) | (with_reducible show wpAny _ _ (exec _ _) _ _ _)); first | ((fail_if_success k_fold); refine wpAny_tok ?_; intro tk0) | ((fail_if_success (fail_if_success k_fold)); refine (let q0 := _; (?_ : wpAny _ _ _ q0 _ _)))) | ((with_reducible show wpAny _ _ (binaryOp _ (Value.ref _) (Value.ref _)) _ _ _); k_dflt (refine' add_at (n := ?n) (k := ?k) ?k1 ?k2 ?k3 ?k4 ?k5 ?_; (case k1 => k_asm); (case k2 => k_asm); (case k3 => k_mem); (case k4 => k_mem); (case k5 => first | omega | ((try simp only [List.length_append, List.length_cons, List.length_nil]); omega)); k_whole); intro _ _ F' N' l1; (try k_lt l1); (try k_sweep)) | ((with_reducible show wpAny _ _ (eval (PySem.Expr.Dict ..) _) _ _ _); (k_dflt (refine' kdn_eval (knd := PySem.strKind _ _) ?F ?N ?b ?a ?l ?e ?n ?_; (case F => k_asm); (case N => k_asm); (case b => exact Top.nolimit (by k_asm)); (case a => rfl); (case l => rfl); (case e => exact List.cons_ne_nil _ _); (case n => exact Nat.le_of_ble_eq_true rfl)); intro _ _ _ F' N' l1 _ _; (try k_lt l1))) | ((with_reducible show wpAny _ _ (exec _ _) _ _ _); first | ((with_reducible show wpAny _ _ (exec (Stmt.For (PySem.Expr.Tuple ..) (PySem.Expr.Name ..) _ [] _) _) _ _ _); walk_at "for0") | ((with_reducible show wpAny _ _ (exec (Stmt.For (PySem.Expr.Tuple ..) (PySem.Expr.BinOp ..) _ [] _) _) _ _ _); walk_at "for0")) | ((with_reducible show wpAny _ _ (getItem (Value.ref _) (Value.str _ _)) _ _ _); (k_dflt (refine kdt_getItem (knd := PySem.strKind _ _) (by k_asm) (by k_mem) (by k_asm) (strKind_is _ _ _ _) (by assumption) ?_))) | ((with_reducible show wpAny _ _ (compareOp _ _ _) _ _ _); first | ((with_reducible show wpAny _ _ (compareOp CmpOp.NotIn (Value.str _ _) (Value.ref _)) _ _ _); (k_dflt (refine kdg_notin (knd := PySem.strKind _ _) (by k_asm) (by k_mem) (by k_asm) (by k_asm) (strKind_is _ _ _ _) _ (by assumption) ?_); (try dsimp only [Bool.not_true, Bool.not_false]))) | ((with_reducible show wpAny _ _ (compareOp CmpOp.In (Value.str _ _) (Value.ref _)) _ _ _); (k_dflt (refine kda_in (knd := PySem.strKind _ _) (by k_asm) (by k_mem) (by k_asm) (by k_asm) (strKind_is _ _ _ _) _ (by assumption) ?_)))) | walk1 | (dsimp only; first | (k_unfold; (try dsimp only)) | walk1) | (leave1; (try dsimp only)) | fail "no step")
  rename News _ _ _ _ => N4
  rename_i B0 _
  rename Obj.IsDictOf (PySem.strKind _ _) _ _ => hS0
  rename (S == sysModules) = false => lS
  have hFS : @Ne Nat F S := by walk_at "om"
  have hT0S : @Ne Nat T0 S := by walk_at "om"
  have hT0F : @Ne Nat T0 F := by walk_at "om"
  have hR0 : RowsAre ((T0, tupOf [.str x tx, .int 0 tk0]) :: tups) ([Value.ref T0] ++ its) (x :: ((rowOf G x).tail ++ [Str.ofString "ANY"])) := .cons (.head _) (hR.mono fun _ h => .tail _ h)
  refine' for_listC (σ := SlSt) (nn := 0) (items := ([Value.ref T0] ++ its).toArray) (fun c => (S, c.oS) :: (F, listOf c.fits.toArray c.nf) :: c.tups) [Str.ofString "one", Str.ofString "steps", Str.ofString "rows", Str.ofString "slot", Str.ofString "kind"] (fun j c => SlP PySem.Challenge.rw_pq1424_01.row.prog w S F j c)
    ((B0, listOf ([Value.ref T0] ++ its).toArray 0) :: (T0, tupOf [.str x tx, .int 0 tk0]) :: (tups ++ (tabLed t dt D U h1 h2 t1 t2 oD oU ++ gl))) ⟨_, [], [], 0, []⟩ rfl PassesOwn.never (.inr ⟨⟨_, _, _, rfl⟩, fun i v hv => hR0.allRef i v (by simpa using hv)⟩) (by assumption) N4 ?hin ?ap (.inr fun _ => ?hl) ⟨hS0, fun _ => ⟨rfl, rfl, rfl⟩, fun h => absurd h (Nat.lt_irrefl 0)⟩ ?turn ?done
  (case hin => (walk_at "sub"))
  (case hl => exact List.mem_append_right _ (.head _))
  (case ap =>
    have hB9 : Off B0 [(S, _), (F, _)] := Off.of_lt (by assumption) (by (walk_at "sub"))
    exact Apart.cons (Off.cons (hB9.ne (.head _)).symm (Off.cons hT0S ((ap3.symm.off (.tail _ (.tail _ (.head _)))).sub fun _ h => .tail _ h))) (Apart.cons (Off.cons (hB9.ne (.tail _ (.head _))).symm (Off.cons hT0F ((ap3.symm.off (.tail _ (.tail _ (.tail _ (.head _))))).sub fun _ h => .tail _ h))) Apart.nil))
  (case turn =>
    intro j v c u4 I oI h4 tk4 hj hP F4 N4 ap4
    (try refine (let q0 := _; (?_ : wpAny _ _ _ q0 _ _)))
    obtain ⟨oS4, kvs4, fits4, nf4, tups4⟩ := c
    obtain ⟨dD4, z4, m4⟩ := hP
    dsimp only at *
    have oI4 := ap4.off (.head _)
    have oI5 := ap4.off (.tail _ (.head _))
    cases j with
    | zero =>
      obtain ⟨rfl, rfl, rfl⟩ := z4 rfl
      obtain rfl : Value.ref T0 = v := by simpa using hj
      obtain ⟨vc, hv, hcA⟩ := hT.get hx
      have hb : (valueAt kvs x).isSome = true := by rw [hv]; rfl
      have hb0 : (valueAt ([] : List (Str × Value)) (Str.ofString "s")).isSome = false := rfl
      cases hcA with
      | @mk cA dcA slA uA tpA prA hA1 hA2 hA3 hA4 hA5 hA6 tA1 tA2 tA3 tA4 tA5 tA6 tnA tsA tqA _ nsl nuA itsA _ m1 m2 m3 m4' m5 hS =>
      simp only [List.cons_append, List.nil_append] at N4
      repeat' (first | ((fail_if_success (fail_if_success k_unfold)); first | refine (?_ : wpAny _ _ (execs _ _) _ _ _) | (k_unfold; (try dsimp only))) | ((first | (with_reducible show wpAny _ _ (execs _ _) _ _ _) | (with_reducible show wpAny _ _ (exec _ _) _ _ _)); first | ((fail_if_success k_fold); refine wpAny_tok ?_; intro tk0) | ((fail_if_success (fail_if_success k_fold)); refine (let q0 := _; (?_ : wpAny _ _ _ q0 _ _)))) | ((with_reducible show wpAny _ _ (binaryOp _ (Value.ref _) (Value.ref _)) _ _ _); k_dflt (refine' add_at (n := ?n) (k := ?k) ?k1 ?k2 ?k3 ?k4 ?k5 ?_; (case k1 => k_asm); (case k2 => k_asm); (case k3 => k_mem); (case k4 => k_mem); (case k5 => first | omega | ((try simp only [List.length_append, List.length_cons, List.length_nil]); omega)); k_whole); intro _ _ F' N' l1; (try k_lt l1); (try k_sweep)) | ((with_reducible show wpAny _ _ (eval (PySem.Expr.Dict ..) _) _ _ _); (k_dflt (refine' kdn_eval (knd := PySem.strKind _ _) ?F ?N ?b ?a ?l ?e ?n ?_; (case F => k_asm); (case N => k_asm); (case b => exact Top.nolimit (by k_asm)); (case a => rfl); (case l => rfl); (case e => exact List.cons_ne_nil _ _); (case n => exact Nat.le_of_ble_eq_true rfl)); intro _ _ _ F' N' l1 _ _; (try k_lt l1))) | ((with_reducible show wpAny _ _ (exec _ _) _ _ _); first | ((with_reducible show wpAny _ _ (exec (Stmt.For (PySem.Expr.Tuple ..) (PySem.Expr.Name ..) _ [] _) _) _ _ _); walk_at "for0") | ((with_reducible show wpAny _ _ (exec (Stmt.For (PySem.Expr.Tuple ..) (PySem.Expr.BinOp ..) _ [] _) _) _ _ _); walk_at "for0")) | ((with_reducible show wpAny _ _ (getItem (Value.ref _) (Value.str _ _)) _ _ _); (k_dflt (refine kdt_getItem (knd := PySem.strKind _ _) (by k_asm) (by k_mem) (by k_asm) (strKind_is _ _ _ _) (by assumption) ?_))) | ((with_reducible show wpAny _ _ (compareOp _ _ _) _ _ _); first | ((with_reducible show wpAny _ _ (compareOp CmpOp.NotIn (Value.str _ _) (Value.ref _)) _ _ _); (k_dflt (refine kdg_notin (knd := PySem.strKind _ _) (by k_asm) (by k_mem) (by k_asm) (by k_asm) (strKind_is _ _ _ _) _ (by assumption) ?_); (try dsimp only [Bool.not_true, Bool.not_false]))) | ((with_reducible show wpAny _ _ (compareOp CmpOp.In (Value.str _ _) (Value.ref _)) _ _ _); (k_dflt (refine kda_in (knd := PySem.strKind _ _) (by k_asm) (by k_mem) (by k_asm) (by k_asm) (strKind_is _ _ _ _) _ (by assumption) ?_)))) | walk1 | (dsimp only; first | (k_unfold; (try dsimp only)) | walk1) | (leave1; (try dsimp only)) | fail "no step")
      rename News _ _ _ _ => N6
      rename Fr _ _ _ _ => F6
      refine' for_oneC (σ := SlSt) (nn := nsl) (fun c => (S, c.oS) :: (F, listOf c.fits.toArray c.nf) :: c.tups) [Str.ofString "slot", Str.ofString "kind"] (SlP PySem.Challenge.rw_pq1424_01.row.prog w S F 1) _ ⟨oS4, [], [], nf4, []⟩ rfl PassesOwn.never (.inr ⟨⟨_, _, _, rfl⟩, _, rfl⟩) F6 N6 ?hin2 ap4 ?hl2 ?turn2 ?done2
      (case hin2 => (walk_at "sub"))
      (case hl2 => k_mem)
      (case turn2 =>
        intro u7 I7 oI7 h7 tk7 F7 N7 ap7
        (try refine (let q0 := _; (?_ : wpAny _ _ _ q0 _ _)))
        have oJ4 := ap7.off (.head _)
        have oJ5 := ap7.off (.tail _ (.head _))
        dsimp only at *
        simp only [List.cons_append, List.nil_append] at N7
        repeat' (first | ((fail_if_success (fail_if_success k_unfold)); first | refine (?_ : wpAny _ _ (execs _ _) _ _ _) | (k_unfold; (try dsimp only))) | ((first | (with_reducible show wpAny _ _ (execs _ _) _ _ _) | (with_reducible show wpAny _ _ (exec _ _) _ _ _)); first | ((fail_if_success k_fold); refine wpAny_tok ?_; intro tk0) | ((fail_if_success (fail_if_success k_fold)); refine (let q0 := _; (?_ : wpAny _ _ _ q0 _ _)))) | ((with_reducible show wpAny _ _ (binaryOp _ (Value.ref _) (Value.ref _)) _ _ _); k_dflt (refine' add_at (n := ?n) (k := ?k) ?k1 ?k2 ?k3 ?k4 ?k5 ?_; (case k1 => k_asm); (case k2 => k_asm); (case k3 => k_mem); (case k4 => k_mem); (case k5 => first | omega | ((try simp only [List.length_append, List.length_cons, List.length_nil]); omega)); k_whole); intro _ _ F' N' l1; (try k_lt l1); (try k_sweep)) | ((with_reducible show wpAny _ _ (eval (PySem.Expr.Dict ..) _) _ _ _); (k_dflt (refine' kdn_eval (knd := PySem.strKind _ _) ?F ?N ?b ?a ?l ?e ?n ?_; (case F => k_asm); (case N => k_asm); (case b => exact Top.nolimit (by k_asm)); (case a => rfl); (case l => rfl); (case e => exact List.cons_ne_nil _ _); (case n => exact Nat.le_of_ble_eq_true rfl)); intro _ _ _ F' N' l1 _ _; (try k_lt l1))) | ((with_reducible show wpAny _ _ (exec _ _) _ _ _); first | ((with_reducible show wpAny _ _ (exec (Stmt.For (PySem.Expr.Tuple ..) (PySem.Expr.Name ..) _ [] _) _) _ _ _); walk_at "for0") | ((with_reducible show wpAny _ _ (exec (Stmt.For (PySem.Expr.Tuple ..) (PySem.Expr.BinOp ..) _ [] _) _) _ _ _); walk_at "for0")) | ((with_reducible show wpAny _ _ (getItem (Value.ref _) (Value.str _ _)) _ _ _); (k_dflt (refine kdt_getItem (knd := PySem.strKind _ _) (by k_asm) (by k_mem) (by k_asm) (strKind_is _ _ _ _) (by assumption) ?_))) | ((with_reducible show wpAny _ _ (compareOp _ _ _) _ _ _); first | ((with_reducible show wpAny _ _ (compareOp CmpOp.NotIn (Value.str _ _) (Value.ref _)) _ _ _); (k_dflt (refine kdg_notin (knd := PySem.strKind _ _) (by k_asm) (by k_mem) (by k_asm) (by k_asm) (strKind_is _ _ _ _) _ (by assumption) ?_); (try dsimp only [Bool.not_true, Bool.not_false]))) | ((with_reducible show wpAny _ _ (compareOp CmpOp.In (Value.str _ _) (Value.ref _)) _ _ _); (k_dflt (refine kda_in (knd := PySem.strKind _ _) (by k_asm) (by k_mem) (by k_asm) (by k_asm) (strKind_is _ _ _ _) _ (by assumption) ?_)))) | walk1 | (dsimp only; first | (k_unfold; (try dsimp only)) | walk1) | (leave1; (try dsimp only)) | fail "no step")
        rename News _ _ _ _ => N8
        rename_i T5 _ _ _ _
        rename Obj.IsDictOf _ _ (stored _ _ _) => hd5
        have hB5 : Off T5 [(S, _), (F, _)] := Off.of_lt (by assumption) (by (walk_at "sub"))
        refine' TurnEnd.next ⟨_, stored [] (Str.ofString "s") (.bool true), [.ref T5], nf4 + 1, [(T5, tupOf [.str (Str.ofString "s") _, .str (Str.ofString "numeric") _])]⟩ (by assumption) ?mis N8 ?sub ?ap ⟨hd5, (fun h => nomatch h), fun _ => ⟨T5, _, _, rfl, rfl, rfl⟩⟩
        (case mis => (repeat' (first | exact Mis.mix | (refine Mis.put rfl ?_) | (refine Mis.mixIn rfl ?_) | exact Mis.rfl')))
        (case sub => (walk_at "sub"))
        (case ap => exact Apart.cons oJ4 (Apart.cons oJ5 (Apart.cons (Off.of_lt (by assumption) (by (walk_at "sub"))) Apart.nil))))
      (case done2 =>
        intro c9 u9 h9 tk9 hP9 F9 N9 ap9
        obtain ⟨oS9, kvs9, fits9, nf9, tups9⟩ := c9
        dsimp only at *
        simp only [List.cons_append, List.nil_append] at N9
        repeat' (first | ((fail_if_success (fail_if_success k_unfold)); first | refine (?_ : wpAny _ _ (execs _ _) _ _ _) | (k_unfold; (try dsimp only))) | ((first | (with_reducible show wpAny _ _ (execs _ _) _ _ _) | (with_reducible show wpAny _ _ (exec _ _) _ _ _)); first | ((fail_if_success k_fold); refine wpAny_tok ?_; intro tk0) | ((fail_if_success (fail_if_success k_fold)); refine (let q0 := _; (?_ : wpAny _ _ _ q0 _ _)))) | ((with_reducible show wpAny _ _ (binaryOp _ (Value.ref _) (Value.ref _)) _ _ _); k_dflt (refine' add_at (n := ?n) (k := ?k) ?k1 ?k2 ?k3 ?k4 ?k5 ?_; (case k1 => k_asm); (case k2 => k_asm); (case k3 => k_mem); (case k4 => k_mem); (case k5 => first | omega | ((try simp only [List.length_append, List.length_cons, List.length_nil]); omega)); k_whole); intro _ _ F' N' l1; (try k_lt l1); (try k_sweep)) | ((with_reducible show wpAny _ _ (eval (PySem.Expr.Dict ..) _) _ _ _); (k_dflt (refine' kdn_eval (knd := PySem.strKind _ _) ?F ?N ?b ?a ?l ?e ?n ?_; (case F => k_asm); (case N => k_asm); (case b => exact Top.nolimit (by k_asm)); (case a => rfl); (case l => rfl); (case e => exact List.cons_ne_nil _ _); (case n => exact Nat.le_of_ble_eq_true rfl)); intro _ _ _ F' N' l1 _ _; (try k_lt l1))) | ((with_reducible show wpAny _ _ (exec _ _) _ _ _); first | ((with_reducible show wpAny _ _ (exec (Stmt.For (PySem.Expr.Tuple ..) (PySem.Expr.Name ..) _ [] _) _) _ _ _); walk_at "for0") | ((with_reducible show wpAny _ _ (exec (Stmt.For (PySem.Expr.Tuple ..) (PySem.Expr.BinOp ..) _ [] _) _) _ _ _); walk_at "for0")) | ((with_reducible show wpAny _ _ (getItem (Value.ref _) (Value.str _ _)) _ _ _); (k_dflt (refine kdt_getItem (knd := PySem.strKind _ _) (by k_asm) (by k_mem) (by k_asm) (strKind_is _ _ _ _) (by assumption) ?_))) | ((with_reducible show wpAny _ _ (compareOp _ _ _) _ _ _); first | ((with_reducible show wpAny _ _ (compareOp CmpOp.NotIn (Value.str _ _) (Value.ref _)) _ _ _); (k_dflt (refine kdg_notin (knd := PySem.strKind _ _) (by k_asm) (by k_mem) (by k_asm) (by k_asm) (strKind_is _ _ _ _) _ (by assumption) ?_); (try dsimp only [Bool.not_true, Bool.not_false]))) | ((with_reducible show wpAny _ _ (compareOp CmpOp.In (Value.str _ _) (Value.ref _)) _ _ _); (k_dflt (refine kda_in (knd := PySem.strKind _ _) (by k_asm) (by k_mem) (by k_asm) (by k_asm) (strKind_is _ _ _ _) _ (by assumption) ?_)))) | walk1 | (dsimp only; first | (k_unfold; (try dsimp only)) | walk1) | (leave1; (try dsimp only)) | fail "no step")
        refine TurnEnd.next ⟨oS9, kvs9, fits9, nf9, tups9⟩ (by assumption) ?mis (by assumption) ?sub ap9 hP9
        (case mis => (repeat' (first | exact Mis.mix | (refine Mis.put rfl ?_) | (refine Mis.mixIn rfl ?_) | exact Mis.rfl')))
        (case sub => (walk_at "sub")))
    | succ j =>
      obtain ⟨a1, z, k1, s1, s2, rfl, hz, hm⟩ := hR.item (i := j) (v := v) (by simpa using hj)
      obtain ⟨T9, ts9, tq9, rfl, rfl, rfl⟩ := m4 (Nat.succ_pos _)
      have hb0 : (valueAt ([(Str.ofString "s", Value.bool true)] : List (Str × Value)) (Str.ofString "s")).isSome = true := rfl
      simp only [List.cons_append, List.nil_append] at N4
      rcases tail_within C hx (List.mem_of_getElem? hz) with hzk | rfl
      · obtain ⟨vc, hv, hcA⟩ := hT.get hzk
        have hb : (valueAt kvs z).isSome = true := by rw [hv]; rfl
        cases hcA with
        | @mk cA dcA slA uA tpA prA hA1 hA2 hA3 hA4 hA5 hA6 tA1 tA2 tA3 tA4 tA5 tA6 tnA tsA tqA _ nsl nuA itsA _ m1 m2 m3 m4' m5 hS =>
        repeat' (first | ((fail_if_success (fail_if_success k_unfold)); first | refine (?_ : wpAny _ _ (execs _ _) _ _ _) | (k_unfold; (try dsimp only))) | ((first | (with_reducible show wpAny _ _ (execs _ _) _ _ _) | (with_reducible show wpAny _ _ (exec _ _) _ _ _)); first | ((fail_if_success k_fold); refine wpAny_tok ?_; intro tk0) | ((fail_if_success (fail_if_success k_fold)); refine (let q0 := _; (?_ : wpAny _ _ _ q0 _ _)))) | ((with_reducible show wpAny _ _ (binaryOp _ (Value.ref _) (Value.ref _)) _ _ _); k_dflt (refine' add_at (n := ?n) (k := ?k) ?k1 ?k2 ?k3 ?k4 ?k5 ?_; (case k1 => k_asm); (case k2 => k_asm); (case k3 => k_mem); (case k4 => k_mem); (case k5 => first | omega | ((try simp only [List.length_append, List.length_cons, List.length_nil]); omega)); k_whole); intro _ _ F' N' l1; (try k_lt l1); (try k_sweep)) | ((with_reducible show wpAny _ _ (eval (PySem.Expr.Dict ..) _) _ _ _); (k_dflt (refine' kdn_eval (knd := PySem.strKind _ _) ?F ?N ?b ?a ?l ?e ?n ?_; (case F => k_asm); (case N => k_asm); (case b => exact Top.nolimit (by k_asm)); (case a => rfl); (case l => rfl); (case e => exact List.cons_ne_nil _ _); (case n => exact Nat.le_of_ble_eq_true rfl)); intro _ _ _ F' N' l1 _ _; (try k_lt l1))) | ((with_reducible show wpAny _ _ (exec _ _) _ _ _); first | ((with_reducible show wpAny _ _ (exec (Stmt.For (PySem.Expr.Tuple ..) (PySem.Expr.Name ..) _ [] _) _) _ _ _); walk_at "for0") | ((with_reducible show wpAny _ _ (exec (Stmt.For (PySem.Expr.Tuple ..) (PySem.Expr.BinOp ..) _ [] _) _) _ _ _); walk_at "for0")) | ((with_reducible show wpAny _ _ (getItem (Value.ref _) (Value.str _ _)) _ _ _); (k_dflt (refine kdt_getItem (knd := PySem.strKind _ _) (by k_asm) (by k_mem) (by k_asm) (strKind_is _ _ _ _) (by assumption) ?_))) | ((with_reducible show wpAny _ _ (compareOp _ _ _) _ _ _); first | ((with_reducible show wpAny _ _ (compareOp CmpOp.NotIn (Value.str _ _) (Value.ref _)) _ _ _); (k_dflt (refine kdg_notin (knd := PySem.strKind _ _) (by k_asm) (by k_mem) (by k_asm) (by k_asm) (strKind_is _ _ _ _) _ (by assumption) ?_); (try dsimp only [Bool.not_true, Bool.not_false]))) | ((with_reducible show wpAny _ _ (compareOp CmpOp.In (Value.str _ _) (Value.ref _)) _ _ _); (k_dflt (refine kda_in (knd := PySem.strKind _ _) (by k_asm) (by k_mem) (by k_asm) (by k_asm) (strKind_is _ _ _ _) _ (by assumption) ?_)))) | walk1 | (dsimp only; first | (k_unfold; (try dsimp only)) | walk1) | (leave1; (try dsimp only)) | fail "no step")
        rename News _ _ _ _ => N6
        rename Fr _ _ _ _ => F6
        refine' for_oneC (σ := SlSt) (nn := nsl) (fun c => (S, c.oS) :: (F, listOf c.fits.toArray c.nf) :: c.tups) [Str.ofString "slot", Str.ofString "kind"] (SlP PySem.Challenge.rw_pq1424_01.row.prog w S F (j + 1 + 1)) _ ⟨oS4, [(Str.ofString "s", Value.bool true)], [.ref T9], nf4, [(T9, tupOf [.str (Str.ofString "s") ts9, .str (Str.ofString "numeric") tq9])]⟩ rfl PassesOwn.never (.inr ⟨⟨_, _, _, rfl⟩, _, rfl⟩) F6 N6 ?hin2 ap4 ?hl2 ?turn2 ?done2
        (case hin2 => (walk_at "sub"))
        (case hl2 => k_mem)
        (case turn2 =>
          intro u7 I7 oI7 h7 tk7 F7 N7 ap7
          (try refine (let q0 := _; (?_ : wpAny _ _ _ q0 _ _)))
          dsimp only at *
          simp only [List.cons_append, List.nil_append] at N7
          repeat' (first | ((fail_if_success (fail_if_success k_unfold)); first | refine (?_ : wpAny _ _ (execs _ _) _ _ _) | (k_unfold; (try dsimp only))) | ((first | (with_reducible show wpAny _ _ (execs _ _) _ _ _) | (with_reducible show wpAny _ _ (exec _ _) _ _ _)); first | ((fail_if_success k_fold); refine wpAny_tok ?_; intro tk0) | ((fail_if_success (fail_if_success k_fold)); refine (let q0 := _; (?_ : wpAny _ _ _ q0 _ _)))) | ((with_reducible show wpAny _ _ (binaryOp _ (Value.ref _) (Value.ref _)) _ _ _); k_dflt (refine' add_at (n := ?n) (k := ?k) ?k1 ?k2 ?k3 ?k4 ?k5 ?_; (case k1 => k_asm); (case k2 => k_asm); (case k3 => k_mem); (case k4 => k_mem); (case k5 => first | omega | ((try simp only [List.length_append, List.length_cons, List.length_nil]); omega)); k_whole); intro _ _ F' N' l1; (try k_lt l1); (try k_sweep)) | ((with_reducible show wpAny _ _ (eval (PySem.Expr.Dict ..) _) _ _ _); (k_dflt (refine' kdn_eval (knd := PySem.strKind _ _) ?F ?N ?b ?a ?l ?e ?n ?_; (case F => k_asm); (case N => k_asm); (case b => exact Top.nolimit (by k_asm)); (case a => rfl); (case l => rfl); (case e => exact List.cons_ne_nil _ _); (case n => exact Nat.le_of_ble_eq_true rfl)); intro _ _ _ F' N' l1 _ _; (try k_lt l1))) | ((with_reducible show wpAny _ _ (exec _ _) _ _ _); first | ((with_reducible show wpAny _ _ (exec (Stmt.For (PySem.Expr.Tuple ..) (PySem.Expr.Name ..) _ [] _) _) _ _ _); walk_at "for0") | ((with_reducible show wpAny _ _ (exec (Stmt.For (PySem.Expr.Tuple ..) (PySem.Expr.BinOp ..) _ [] _) _) _ _ _); walk_at "for0")) | ((with_reducible show wpAny _ _ (getItem (Value.ref _) (Value.str _ _)) _ _ _); (k_dflt (refine kdt_getItem (knd := PySem.strKind _ _) (by k_asm) (by k_mem) (by k_asm) (strKind_is _ _ _ _) (by assumption) ?_))) | ((with_reducible show wpAny _ _ (compareOp _ _ _) _ _ _); first | ((with_reducible show wpAny _ _ (compareOp CmpOp.NotIn (Value.str _ _) (Value.ref _)) _ _ _); (k_dflt (refine kdg_notin (knd := PySem.strKind _ _) (by k_asm) (by k_mem) (by k_asm) (by k_asm) (strKind_is _ _ _ _) _ (by assumption) ?_); (try dsimp only [Bool.not_true, Bool.not_false]))) | ((with_reducible show wpAny _ _ (compareOp CmpOp.In (Value.str _ _) (Value.ref _)) _ _ _); (k_dflt (refine kda_in (knd := PySem.strKind _ _) (by k_asm) (by k_mem) (by k_asm) (by k_asm) (strKind_is _ _ _ _) _ (by assumption) ?_)))) | walk1 | (dsimp only; first | (k_unfold; (try dsimp only)) | walk1) | (leave1; (try dsimp only)) | fail "no step")
          refine TurnEnd.next ⟨oS4, [(Str.ofString "s", Value.bool true)], [.ref T9], nf4, [(T9, tupOf [.str (Str.ofString "s") ts9, .str (Str.ofString "numeric") tq9])]⟩ (by assumption) ?mis (by assumption) ?sub ap7 ⟨dD4, (fun h => nomatch h), fun _ => ⟨_, _, _, rfl, rfl, rfl⟩⟩
          (case mis => (repeat' (first | exact Mis.mix | (refine Mis.put rfl ?_) | (refine Mis.mixIn rfl ?_) | exact Mis.rfl')))
          (case sub => (walk_at "sub")))
        (case done2 =>
          intro c9 u9 h9 tk9 hP9 F9 N9 ap9
          obtain ⟨oS9, kvs9, fits9, nf9, tups9⟩ := c9
          dsimp only at *
          simp only [List.cons_append, List.nil_append] at N9
          repeat' (first | ((fail_if_success (fail_if_success k_unfold)); first | refine (?_ : wpAny _ _ (execs _ _) _ _ _) | (k_unfold; (try dsimp only))) | ((first | (with_reducible show wpAny _ _ (execs _ _) _ _ _) | (with_reducible show wpAny _ _ (exec _ _) _ _ _)); first | ((fail_if_success k_fold); refine wpAny_tok ?_; intro tk0) | ((fail_if_success (fail_if_success k_fold)); refine (let q0 := _; (?_ : wpAny _ _ _ q0 _ _)))) | ((with_reducible show wpAny _ _ (binaryOp _ (Value.ref _) (Value.ref _)) _ _ _); k_dflt (refine' add_at (n := ?n) (k := ?k) ?k1 ?k2 ?k3 ?k4 ?k5 ?_; (case k1 => k_asm); (case k2 => k_asm); (case k3 => k_mem); (case k4 => k_mem); (case k5 => first | omega | ((try simp only [List.length_append, List.length_cons, List.length_nil]); omega)); k_whole); intro _ _ F' N' l1; (try k_lt l1); (try k_sweep)) | ((with_reducible show wpAny _ _ (eval (PySem.Expr.Dict ..) _) _ _ _); (k_dflt (refine' kdn_eval (knd := PySem.strKind _ _) ?F ?N ?b ?a ?l ?e ?n ?_; (case F => k_asm); (case N => k_asm); (case b => exact Top.nolimit (by k_asm)); (case a => rfl); (case l => rfl); (case e => exact List.cons_ne_nil _ _); (case n => exact Nat.le_of_ble_eq_true rfl)); intro _ _ _ F' N' l1 _ _; (try k_lt l1))) | ((with_reducible show wpAny _ _ (exec _ _) _ _ _); first | ((with_reducible show wpAny _ _ (exec (Stmt.For (PySem.Expr.Tuple ..) (PySem.Expr.Name ..) _ [] _) _) _ _ _); walk_at "for0") | ((with_reducible show wpAny _ _ (exec (Stmt.For (PySem.Expr.Tuple ..) (PySem.Expr.BinOp ..) _ [] _) _) _ _ _); walk_at "for0")) | ((with_reducible show wpAny _ _ (getItem (Value.ref _) (Value.str _ _)) _ _ _); (k_dflt (refine kdt_getItem (knd := PySem.strKind _ _) (by k_asm) (by k_mem) (by k_asm) (strKind_is _ _ _ _) (by assumption) ?_))) | ((with_reducible show wpAny _ _ (compareOp _ _ _) _ _ _); first | ((with_reducible show wpAny _ _ (compareOp CmpOp.NotIn (Value.str _ _) (Value.ref _)) _ _ _); (k_dflt (refine kdg_notin (knd := PySem.strKind _ _) (by k_asm) (by k_mem) (by k_asm) (by k_asm) (strKind_is _ _ _ _) _ (by assumption) ?_); (try dsimp only [Bool.not_true, Bool.not_false]))) | ((with_reducible show wpAny _ _ (compareOp CmpOp.In (Value.str _ _) (Value.ref _)) _ _ _); (k_dflt (refine kda_in (knd := PySem.strKind _ _) (by k_asm) (by k_mem) (by k_asm) (by k_asm) (strKind_is _ _ _ _) _ (by assumption) ?_)))) | walk1 | (dsimp only; first | (k_unfold; (try dsimp only)) | walk1) | (leave1; (try dsimp only)) | fail "no step")
          refine TurnEnd.next ⟨oS9, kvs9, fits9, nf9, tups9⟩ (by assumption) ?mis (by assumption) ?sub ap9 hP9
          (case mis => (repeat' (first | exact Mis.mix | (refine Mis.put rfl ?_) | (refine Mis.mixIn rfl ?_) | exact Mis.rfl')))
          (case sub => (walk_at "sub")))
      · have hb : (valueAt kvs (Str.ofString "ANY")).isSome = false := by rw [hT.none hA]; rfl
        repeat' (first | ((fail_if_success (fail_if_success k_unfold)); first | refine (?_ : wpAny _ _ (execs _ _) _ _ _) | (k_unfold; (try dsimp only))) | ((first | (with_reducible show wpAny _ _ (execs _ _) _ _ _) | (with_reducible show wpAny _ _ (exec _ _) _ _ _)); first | ((fail_if_success k_fold); refine wpAny_tok ?_; intro tk0) | ((fail_if_success (fail_if_success k_fold)); refine (let q0 := _; (?_ : wpAny _ _ _ q0 _ _)))) | ((with_reducible show wpAny _ _ (binaryOp _ (Value.ref _) (Value.ref _)) _ _ _); k_dflt (refine' add_at (n := ?n) (k := ?k) ?k1 ?k2 ?k3 ?k4 ?k5 ?_; (case k1 => k_asm); (case k2 => k_asm); (case k3 => k_mem); (case k4 => k_mem); (case k5 => first | omega | ((try simp only [List.length_append, List.length_cons, List.length_nil]); omega)); k_whole); intro _ _ F' N' l1; (try k_lt l1); (try k_sweep)) | ((with_reducible show wpAny _ _ (eval (PySem.Expr.Dict ..) _) _ _ _); (k_dflt (refine' kdn_eval (knd := PySem.strKind _ _) ?F ?N ?b ?a ?l ?e ?n ?_; (case F => k_asm); (case N => k_asm); (case b => exact Top.nolimit (by k_asm)); (case a => rfl); (case l => rfl); (case e => exact List.cons_ne_nil _ _); (case n => exact Nat.le_of_ble_eq_true rfl)); intro _ _ _ F' N' l1 _ _; (try k_lt l1))) | ((with_reducible show wpAny _ _ (exec _ _) _ _ _); first | ((with_reducible show wpAny _ _ (exec (Stmt.For (PySem.Expr.Tuple ..) (PySem.Expr.Name ..) _ [] _) _) _ _ _); walk_at "for0") | ((with_reducible show wpAny _ _ (exec (Stmt.For (PySem.Expr.Tuple ..) (PySem.Expr.BinOp ..) _ [] _) _) _ _ _); walk_at "for0")) | ((with_reducible show wpAny _ _ (getItem (Value.ref _) (Value.str _ _)) _ _ _); (k_dflt (refine kdt_getItem (knd := PySem.strKind _ _) (by k_asm) (by k_mem) (by k_asm) (strKind_is _ _ _ _) (by assumption) ?_))) | ((with_reducible show wpAny _ _ (compareOp _ _ _) _ _ _); first | ((with_reducible show wpAny _ _ (compareOp CmpOp.NotIn (Value.str _ _) (Value.ref _)) _ _ _); (k_dflt (refine kdg_notin (knd := PySem.strKind _ _) (by k_asm) (by k_mem) (by k_asm) (by k_asm) (strKind_is _ _ _ _) _ (by assumption) ?_); (try dsimp only [Bool.not_true, Bool.not_false]))) | ((with_reducible show wpAny _ _ (compareOp CmpOp.In (Value.str _ _) (Value.ref _)) _ _ _); (k_dflt (refine kda_in (knd := PySem.strKind _ _) (by k_asm) (by k_mem) (by k_asm) (by k_asm) (strKind_is _ _ _ _) _ (by assumption) ?_)))) | walk1 | (dsimp only; first | (k_unfold; (try dsimp only)) | walk1) | (leave1; (try dsimp only)) | fail "no step")
        all_goals (
          rename News _ _ _ _ => N6
          rename Fr _ _ _ _ => F6
          refine' for_nilC [Str.ofString "slot", Str.ofString "kind"] rfl PassesOwn.never (.inr ⟨_, _, _, rfl⟩) F6 N6 ?hl2 ?done2
          (case hl2 => k_mem)
          (case done2 =>
            intro u9 h9 tk9 F9 N9
            repeat' (first | ((fail_if_success (fail_if_success k_unfold)); first | refine (?_ : wpAny _ _ (execs _ _) _ _ _) | (k_unfold; (try dsimp only))) | ((first | (with_reducible show wpAny _ _ (execs _ _) _ _ _) | (with_reducible show wpAny _ _ (exec _ _) _ _ _)); first | ((fail_if_success k_fold); refine wpAny_tok ?_; intro tk0) | ((fail_if_success (fail_if_success k_fold)); refine (let q0 := _; (?_ : wpAny _ _ _ q0 _ _)))) | ((with_reducible show wpAny _ _ (binaryOp _ (Value.ref _) (Value.ref _)) _ _ _); k_dflt (refine' add_at (n := ?n) (k := ?k) ?k1 ?k2 ?k3 ?k4 ?k5 ?_; (case k1 => k_asm); (case k2 => k_asm); (case k3 => k_mem); (case k4 => k_mem); (case k5 => first | omega | ((try simp only [List.length_append, List.length_cons, List.length_nil]); omega)); k_whole); intro _ _ F' N' l1; (try k_lt l1); (try k_sweep)) | ((with_reducible show wpAny _ _ (eval (PySem.Expr.Dict ..) _) _ _ _); (k_dflt (refine' kdn_eval (knd := PySem.strKind _ _) ?F ?N ?b ?a ?l ?e ?n ?_; (case F => k_asm); (case N => k_asm); (case b => exact Top.nolimit (by k_asm)); (case a => rfl); (case l => rfl); (case e => exact List.cons_ne_nil _ _); (case n => exact Nat.le_of_ble_eq_true rfl)); intro _ _ _ F' N' l1 _ _; (try k_lt l1))) | ((with_reducible show wpAny _ _ (exec _ _) _ _ _); first | ((with_reducible show wpAny _ _ (exec (Stmt.For (PySem.Expr.Tuple ..) (PySem.Expr.Name ..) _ [] _) _) _ _ _); walk_at "for0") | ((with_reducible show wpAny _ _ (exec (Stmt.For (PySem.Expr.Tuple ..) (PySem.Expr.BinOp ..) _ [] _) _) _ _ _); walk_at "for0")) | ((with_reducible show wpAny _ _ (getItem (Value.ref _) (Value.str _ _)) _ _ _); (k_dflt (refine kdt_getItem (knd := PySem.strKind _ _) (by k_asm) (by k_mem) (by k_asm) (strKind_is _ _ _ _) (by assumption) ?_))) | ((with_reducible show wpAny _ _ (compareOp _ _ _) _ _ _); first | ((with_reducible show wpAny _ _ (compareOp CmpOp.NotIn (Value.str _ _) (Value.ref _)) _ _ _); (k_dflt (refine kdg_notin (knd := PySem.strKind _ _) (by k_asm) (by k_mem) (by k_asm) (by k_asm) (strKind_is _ _ _ _) _ (by assumption) ?_); (try dsimp only [Bool.not_true, Bool.not_false]))) | ((with_reducible show wpAny _ _ (compareOp CmpOp.In (Value.str _ _) (Value.ref _)) _ _ _); (k_dflt (refine kda_in (knd := PySem.strKind _ _) (by k_asm) (by k_mem) (by k_asm) (by k_asm) (strKind_is _ _ _ _) _ (by assumption) ?_)))) | walk1 | (dsimp only; first | (k_unfold; (try dsimp only)) | walk1) | (leave1; (try dsimp only)) | fail "no step")
            refine TurnEnd.next ⟨oS4, [(Str.ofString "s", Value.bool true)], [.ref T9], nf4, [(T9, tupOf [.str (Str.ofString "s") ts9, .str (Str.ofString "numeric") tq9])]⟩ (by assumption) ?mis (by assumption) ?sub ap4 ⟨dD4, (fun h => nomatch h), fun _ => ⟨_, _, _, rfl, rfl, rfl⟩⟩
            (case mis => (repeat' (first | exact Mis.mix | (refine Mis.put rfl ?_) | (refine Mis.mixIn rfl ?_) | exact Mis.rfl')))
            (case sub => (walk_at "sub")))))
  (case done =>
    intro c u5 h5 tk5 hP5 F5 N5 ap5
    obtain ⟨oS5, kvs5, fits5, nf5, tups5⟩ := c
    obtain ⟨dD5, z5, m5⟩ := hP5
    dsimp only at *
    obtain ⟨T9, ts9, tq9, rfl, rfl, rfl⟩ := m5 (by simp)
    simp only [List.cons_append, List.nil_append] at N5
    repeat' (first | ((fail_if_success (fail_if_success k_unfold)); first | refine (?_ : wpAny _ _ (execs _ _) _ _ _) | (k_unfold; (try dsimp only))) | ((first | (with_reducible show wpAny _ _ (execs _ _) _ _ _) | (with_reducible show wpAny _ _ (exec _ _) _ _ _)); first | ((fail_if_success k_fold); refine wpAny_tok ?_; intro tk0) | ((fail_if_success (fail_if_success k_fold)); refine (let q0 := _; (?_ : wpAny _ _ _ q0 _ _)))) | ((with_reducible show wpAny _ _ (binaryOp _ (Value.ref _) (Value.ref _)) _ _ _); k_dflt (refine' add_at (n := ?n) (k := ?k) ?k1 ?k2 ?k3 ?k4 ?k5 ?_; (case k1 => k_asm); (case k2 => k_asm); (case k3 => k_mem); (case k4 => k_mem); (case k5 => first | omega | ((try simp only [List.length_append, List.length_cons, List.length_nil]); omega)); k_whole); intro _ _ F' N' l1; (try k_lt l1); (try k_sweep)) | ((with_reducible show wpAny _ _ (eval (PySem.Expr.Dict ..) _) _ _ _); (k_dflt (refine' kdn_eval (knd := PySem.strKind _ _) ?F ?N ?b ?a ?l ?e ?n ?_; (case F => k_asm); (case N => k_asm); (case b => exact Top.nolimit (by k_asm)); (case a => rfl); (case l => rfl); (case e => exact List.cons_ne_nil _ _); (case n => exact Nat.le_of_ble_eq_true rfl)); intro _ _ _ F' N' l1 _ _; (try k_lt l1))) | ((with_reducible show wpAny _ _ (exec _ _) _ _ _); first | ((with_reducible show wpAny _ _ (exec (Stmt.For (PySem.Expr.Tuple ..) (PySem.Expr.Name ..) _ [] _) _) _ _ _); walk_at "for0") | ((with_reducible show wpAny _ _ (exec (Stmt.For (PySem.Expr.Tuple ..) (PySem.Expr.BinOp ..) _ [] _) _) _ _ _); walk_at "for0")) | ((with_reducible show wpAny _ _ (getItem (Value.ref _) (Value.str _ _)) _ _ _); (k_dflt (refine kdt_getItem (knd := PySem.strKind _ _) (by k_asm) (by k_mem) (by k_asm) (strKind_is _ _ _ _) (by assumption) ?_))) | ((with_reducible show wpAny _ _ (compareOp _ _ _) _ _ _); first | ((with_reducible show wpAny _ _ (compareOp CmpOp.NotIn (Value.str _ _) (Value.ref _)) _ _ _); (k_dflt (refine kdg_notin (knd := PySem.strKind _ _) (by k_asm) (by k_mem) (by k_asm) (by k_asm) (strKind_is _ _ _ _) _ (by assumption) ?_); (try dsimp only [Bool.not_true, Bool.not_false]))) | ((with_reducible show wpAny _ _ (compareOp CmpOp.In (Value.str _ _) (Value.ref _)) _ _ _); (k_dflt (refine kda_in (knd := PySem.strKind _ _) (by k_asm) (by k_mem) (by k_asm) (by k_asm) (strKind_is _ _ _ _) _ (by assumption) ?_)))) | walk1 | (dsimp only; first | (k_unfold; (try dsimp only)) | walk1) | (leave1; (try dsimp only)) | fail "no step")
    refine Fin.mk ((F, listOf #[.ref T9] nf5) :: (T9, tupOf [.str (Str.ofString "s") ts9, .str (Str.ofString "numeric") tq9]) :: (tabLed t dt D U h1 h2 t1 t2 oD oU ++ gl)) (by assumption) N5 ?sub ⟨F, T9, nf5, ts9, tq9, rfl, rfl⟩
    (case sub => (walk_at "sub")))
end

-- C_check
section
local macro_rules | `(tactic| walk_at "pad0") => `(tactic| fail "pad")
local macro_rules | `(tactic| walk_at "KdnMade") => `(tactic| (k_here; k_dflt (refine' kdn_made_str ?F ?N ?U ?d ?k ?n ?_; (case F => k_asm); (case N => k_asm); (case U => k_updF); (case d => k_asm); (case k => rfl); (case n => first | (with_unfolding_all assumption) | exact of_decide_eq_true (by first | rfl | kernel_rfl!)); intro h' o' F' N' hd'); (try dsimp only at N')))

structure CkSt where
  oS : Obj
  kvs : List (Str × Value)
set_option maxHeartbeats 8000000 in
theorem c_check (w : World) {mean : ExcName → Option Value} {mg mb : Str → Option Value} (t dt D U : Addr) (h1 h2 : Int) (t1 t2 : Tok) (oD oU : Obj) (kvs : List (Str × Value)) (gl : List (Addr × Obj)) (G : List (Str × List Str)) (hD : oD.IsDictOf (PySem.strKind PySem.Challenge.rw_pq1424_01.row.prog w) kvs) (hU : oU.IsDictOf (PySem.strKind PySem.Challenge.rw_pq1424_01.row.prog w) []) (lD : (D == sysModules) = false) (lU : (U == sysModules) = false) (hT : Tab gl kvs G) (C : Closed G) (hk : (keys G).length ≤ 6) (hA : Str.ofString "ANY" ∉ keys G) (hup : ∀ x, (ups G x).length ≤ 64) (c : Addr) (nm : Str) (xs : List Str) (hc : ClsAt gl (.ref c) nm xs) (hxs : ∀ p ∈ xs, p ∈ keys G) :
  Tells1 PySem.Challenge.rw_pq1424_01.row.prog w (Mine.kAt w.params) Mine.viewQ (looseW Mine.viewQ [Str.ofString "match_names", Str.ofString "take"]) mean mg mb 719 [.ref t, .ref c] [] 8 (tabLed t dt D U h1 h2 t1 t2 oD oU ++ gl) (fun r out => r = .none ∧ out = tabLed t dt D U h1 h2 t1 t2 oD oU ++ gl) := by
  have hc' := hc
  cases hc with
  | @mk cA dcA slA uA tpA prA hA1 hA2 hA3 hA4 hA5 hA6 tA1 tA2 tA3 tA4 tA5 tA6 tnA tsA tqA _ nsl nuA itsA _ m1 m2 m3 m4' m5 hS =>
  k_fill
  refine' tells1_enter (binds := [(Str.ofString "table", .ref t), (Str.ofString "c", .ref c)]) ?k6 ?k7 ?kr ?k9 ?kB ?c2 ?c3 ?c4 ?c5 ?_
  (case k6 => k_is)
  (case k7 => k_is)
  (case kr => decide)
  (case k9 => intro s hX; first | exact BindsTo.of_eq rfl | exact binds_K (by k_in) rfl (by k_is) rfl rfl rfl)
  (case kB => exact locs rfl)
  (case c2 => exact rfl)
  (case c3 => exact rfl)
  (case c4 => exact rfl)
  (case c5 => decide)
  intro dp un gd cn cs a ccd cl outer base g L L' h₁ s tk hd hu F' N' B' X' T'
  (try dsimp only)
  (try k_fold)
  refine (let A1 := _; (?_ : wpAny _ A1 _ _ _ _))
  simp only [List.cons_append, List.nil_append] at N'
  repeat' (first | ((fail_if_success (fail_if_success k_unfold)); first | refine (?_ : wpAny _ _ (execs _ _) _ _ _) | (k_unfold; (try dsimp only))) | ((first | (with_reducible show wpAny _ _ (execs _ _) _ _ _) | (with_reducible show wpAny _ _ (exec _ _) _ _ _)); first | ((fail_if_success k_fold); refine wpAny_tok ?_; intro tk0) | ((fail_if_success (fail_if_success k_fold)); refine (let q0 := _; (?_ : wpAny _ _ _ q0 _ _)))) | ((with_reducible show wpAny _ _ (eval (PySem.Expr.Dict ..) _) _ _ _); (k_dflt (refine' kdn_eval (knd := PySem.strKind _ _) ?F ?N ?b ?a ?l ?e ?n ?_; (case F => k_asm); (case N => k_asm); (case b => exact Top.nolimit (by k_asm)); (case a => rfl); (case l => rfl); (case e => exact List.cons_ne_nil _ _); (case n => exact Nat.le_of_ble_eq_true rfl)); intro _ _ _ F' N' l1 _ _; (try k_lt l1))) | ((with_reducible show wpAny _ _ (exec _ _) _ _ _); first | ((with_reducible show wpAny _ _ (exec (Stmt.For (PySem.Expr.Tuple ..) (PySem.Expr.Call ..) _ [] _) _) _ _ _); walk_at "for0") | ((with_reducible show wpAny _ _ (exec (Stmt.For (PySem.Expr.Name ..) (PySem.Expr.Attribute ..) _ [] _) _) _ _ _); walk_at "for0") | ((with_reducible show wpAny _ _ (exec (Stmt.For (PySem.Expr.Tuple ..) (PySem.Expr.Attribute ..) _ [] _) _) _ _ _); walk_at "for0")) | ((with_reducible show wpAny _ _ (getItem (Value.ref _) (Value.str _ _)) _ _ _); (k_dflt (refine kdt_getItem (knd := PySem.strKind _ _) (by k_asm) (by k_mem) (by k_asm) (strKind_is _ _ _ _) (by assumption) ?_))) | ((with_reducible show wpAny _ _ (compareOp CmpOp.In (Value.str _ _) (Value.ref _)) _ _ _); (k_dflt (refine kda_in (knd := PySem.strKind _ _) (by k_asm) (by k_mem) (by k_asm) (by k_asm) (strKind_is _ _ _ _) _ (by assumption) ?_))) | walk1 | (dsimp only; first | (k_unfold; (try dsimp only)) | walk1) | (leave1; (try dsimp only)) | fail "no step")
  rename News _ _ _ _ => N1
  rename_i S _ _ _ _ _ _ _ _ _ _
  rename Obj.IsDictOf (PySem.strKind _ _) _ _ => hS0
  rename (S == sysModules) = false => lS
  rename Fr _ _ _ _ => F1
  have hb0 : (valueAt ([] : List (Str × Value)) (Str.ofString "s")).isSome = false := rfl
  refine' for_oneC (σ := CkSt) (nn := nsl) (fun c => [(S, c.oS)]) [Str.ofString "slot", Str.ofString "kind"] (fun c => c.oS.IsDictOf (PySem.strKind PySem.Challenge.rw_pq1424_01.row.prog w) c.kvs ∧ ∃ tq, c.kvs = [(Str.ofString "s", .str (Str.ofString "numeric") tq)]) (tabLed t dt D U h1 h2 t1 t2 oD oU ++ gl) ⟨_, []⟩ rfl PassesOwn.never (.inr ⟨⟨_, _, _, rfl⟩, _, rfl⟩) F1 N1 ?hin ?ap ?hl ?turn ?done
  (case hin => (walk_at "sub"))
  (case ap => (repeat' (first | assumption | exact Apart.nil | exact Apart.nilR | (refine Apart.cons ?_ ?_) | (refine Apart.app ?_ ?_) | (refine Apart.symm ?_; assumption) | ((refine Off.of_lt (by assumption) ?_; (walk_at "sub")); done) | k_all)))
  (case hl => k_mem)
  (case turn =>
    intro u7 I7 oI7 h7 tk7 F7 N7 ap7
    (try refine (let q0 := _; (?_ : wpAny _ _ _ q0 _ _)))
    have oJ4 := ap7.off (.head _)
    dsimp only at *
    simp only [List.cons_append, List.nil_append] at N7
    repeat' (first | ((fail_if_success (fail_if_success k_unfold)); first | refine (?_ : wpAny _ _ (execs _ _) _ _ _) | (k_unfold; (try dsimp only))) | ((first | (with_reducible show wpAny _ _ (execs _ _) _ _ _) | (with_reducible show wpAny _ _ (exec _ _) _ _ _)); first | ((fail_if_success k_fold); refine wpAny_tok ?_; intro tk0) | ((fail_if_success (fail_if_success k_fold)); refine (let q0 := _; (?_ : wpAny _ _ _ q0 _ _)))) | ((with_reducible show wpAny _ _ (eval (PySem.Expr.Dict ..) _) _ _ _); (k_dflt (refine' kdn_eval (knd := PySem.strKind _ _) ?F ?N ?b ?a ?l ?e ?n ?_; (case F => k_asm); (case N => k_asm); (case b => exact Top.nolimit (by k_asm)); (case a => rfl); (case l => rfl); (case e => exact List.cons_ne_nil _ _); (case n => exact Nat.le_of_ble_eq_true rfl)); intro _ _ _ F' N' l1 _ _; (try k_lt l1))) | ((with_reducible show wpAny _ _ (exec _ _) _ _ _); first | ((with_reducible show wpAny _ _ (exec (Stmt.For (PySem.Expr.Tuple ..) (PySem.Expr.Call ..) _ [] _) _) _ _ _); walk_at "for0") | ((with_reducible show wpAny _ _ (exec (Stmt.For (PySem.Expr.Name ..) (PySem.Expr.Attribute ..) _ [] _) _) _ _ _); walk_at "for0") | ((with_reducible show wpAny _ _ (exec (Stmt.For (PySem.Expr.Tuple ..) (PySem.Expr.Attribute ..) _ [] _) _) _ _ _); walk_at "for0")) | ((with_reducible show wpAny _ _ (getItem (Value.ref _) (Value.str _ _)) _ _ _); (k_dflt (refine kdt_getItem (knd := PySem.strKind _ _) (by k_asm) (by k_mem) (by k_asm) (strKind_is _ _ _ _) (by assumption) ?_))) | ((with_reducible show wpAny _ _ (compareOp CmpOp.In (Value.str _ _) (Value.ref _)) _ _ _); (k_dflt (refine kda_in (knd := PySem.strKind _ _) (by k_asm) (by k_mem) (by k_asm) (by k_asm) (strKind_is _ _ _ _) _ (by assumption) ?_))) | walk1 | (dsimp only; first | (k_unfold; (try dsimp only)) | walk1) | (leave1; (try dsimp only)) | fail "no step")
    rename News _ _ _ _ => N8
    rename Obj.IsDictOf _ _ (stored _ _ _) => hd5
    refine' TurnEnd.next ⟨_, stored [] (Str.ofString "s") (.str (Str.ofString "numeric") tqA)⟩ (by assumption) ?mis (by assumption) ?sub ?ap7 ⟨hd5, _, rfl⟩
    (case ap7 => exact Apart.cons oJ4 Apart.nil)
    (case mis => (repeat' (first | exact Mis.mix | (refine Mis.put rfl ?_) | (refine Mis.mixIn rfl ?_) | exact Mis.rfl')))
    (case sub => (walk_at "sub")))
  (case done =>
    intro c9 u9 h9 tk9 hP9 F9 N9 ap9
    obtain ⟨oS9, kvs9⟩ := c9
    obtain ⟨hd9, tq9, rfl⟩ := hP9
    dsimp only at *
    simp only [List.cons_append, List.nil_append] at N9
    repeat' (first | ((fail_if_success (fail_if_success k_unfold)); first | refine (?_ : wpAny _ _ (execs _ _) _ _ _) | (k_unfold; (try dsimp only))) | ((first | (with_reducible show wpAny _ _ (execs _ _) _ _ _) | (with_reducible show wpAny _ _ (exec _ _) _ _ _)); first | ((fail_if_success k_fold); refine wpAny_tok ?_; intro tk0) | ((fail_if_success (fail_if_success k_fold)); refine (let q0 := _; (?_ : wpAny _ _ _ q0 _ _)))) | ((with_reducible show wpAny _ _ (eval (PySem.Expr.Dict ..) _) _ _ _); (k_dflt (refine' kdn_eval (knd := PySem.strKind _ _) ?F ?N ?b ?a ?l ?e ?n ?_; (case F => k_asm); (case N => k_asm); (case b => exact Top.nolimit (by k_asm)); (case a => rfl); (case l => rfl); (case e => exact List.cons_ne_nil _ _); (case n => exact Nat.le_of_ble_eq_true rfl)); intro _ _ _ F' N' l1 _ _; (try k_lt l1))) | ((with_reducible show wpAny _ _ (exec _ _) _ _ _); first | ((with_reducible show wpAny _ _ (exec (Stmt.For (PySem.Expr.Tuple ..) (PySem.Expr.Call ..) _ [] _) _) _ _ _); walk_at "for0") | ((with_reducible show wpAny _ _ (exec (Stmt.For (PySem.Expr.Name ..) (PySem.Expr.Attribute ..) _ [] _) _) _ _ _); walk_at "for0") | ((with_reducible show wpAny _ _ (exec (Stmt.For (PySem.Expr.Tuple ..) (PySem.Expr.Attribute ..) _ [] _) _) _ _ _); walk_at "for0")) | ((with_reducible show wpAny _ _ (getItem (Value.ref _) (Value.str _ _)) _ _ _); (k_dflt (refine kdt_getItem (knd := PySem.strKind _ _) (by k_asm) (by k_mem) (by k_asm) (strKind_is _ _ _ _) (by assumption) ?_))) | ((with_reducible show wpAny _ _ (compareOp CmpOp.In (Value.str _ _) (Value.ref _)) _ _ _); (k_dflt (refine kda_in (knd := PySem.strKind _ _) (by k_asm) (by k_mem) (by k_asm) (by k_asm) (strKind_is _ _ _ _) _ (by assumption) ?_))) | walk1 | (dsimp only; first | (k_unfold; (try dsimp only)) | walk1) | (leave1; (try dsimp only)) | fail "no step")
    rename News _ _ _ _ => N2
    rename Fr _ _ _ _ => F2
    have hb1 : (valueAt [(Str.ofString "s", Value.str (Str.ofString "numeric") tq9)] (Str.ofString "s")).isSome = true := rfl
    have hv1 : valueAt [(Str.ofString "s", Value.str (Str.ofString "numeric") tq9)] (Str.ofString "s") = some (.str (Str.ofString "numeric") tq9) := rfl
    refine' for_listC (σ := Unit) (nn := nuA) (items := itsA.toArray) (fun _ => []) [Str.ofString "parent", Str.ofString "slot", Str.ofString "kind"] (fun _ _ => True) ((S, oS9) :: (tabLed t dt D U h1 h2 t1 t2 oD oU ++ gl)) () rfl PassesOwn.never (.inl ⟨_, _, rfl⟩) F2 N2 ?hin2 Apart.nil (.inr fun _ => ?hl2) trivial ?turn2 ?done2
    (case hin2 => (walk_at "sub"))
    (case hl2 => k_mem)
    (case turn2 =>
      intro j v c u4 I oI h4 tk4 hj hP F4 N4 ap4
      (try refine (let q0 := _; (?_ : wpAny _ _ _ q0 _ _)))
      rw [List.getElem?_toArray] at hj
      obtain ⟨y, ty, rfl, hy4⟩ := hS.item j v hj
      have hyk : y ∈ keys G := hxs y (List.mem_of_getElem? hy4)
      simp only [List.cons_append, List.nil_append] at N4
      repeat' (first | ((fail_if_success (fail_if_success k_unfold)); first | refine (?_ : wpAny _ _ (execs _ _) _ _ _) | (k_unfold; (try dsimp only))) | ((first | (with_reducible show wpAny _ _ (execs _ _) _ _ _) | (with_reducible show wpAny _ _ (exec _ _) _ _ _)); first | ((fail_if_success k_fold); refine wpAny_tok ?_; intro tk0) | ((fail_if_success (fail_if_success k_fold)); refine (let q0 := _; (?_ : wpAny _ _ _ q0 _ _)))) | ((with_reducible show wpAny _ _ (eval (PySem.Expr.Dict ..) _) _ _ _); (k_dflt (refine' kdn_eval (knd := PySem.strKind _ _) ?F ?N ?b ?a ?l ?e ?n ?_; (case F => k_asm); (case N => k_asm); (case b => exact Top.nolimit (by k_asm)); (case a => rfl); (case l => rfl); (case e => exact List.cons_ne_nil _ _); (case n => exact Nat.le_of_ble_eq_true rfl)); intro _ _ _ F' N' l1 _ _; (try k_lt l1))) | ((with_reducible show wpAny _ _ (exec _ _) _ _ _); first | ((with_reducible show wpAny _ _ (exec (Stmt.For (PySem.Expr.Tuple ..) (PySem.Expr.Call ..) _ [] _) _) _ _ _); walk_at "for0") | ((with_reducible show wpAny _ _ (exec (Stmt.For (PySem.Expr.Name ..) (PySem.Expr.Attribute ..) _ [] _) _) _ _ _); walk_at "for0") | ((with_reducible show wpAny _ _ (exec (Stmt.For (PySem.Expr.Tuple ..) (PySem.Expr.Attribute ..) _ [] _) _) _ _ _); walk_at "for0")) | ((with_reducible show wpAny _ _ (getItem (Value.ref _) (Value.str _ _)) _ _ _); (k_dflt (refine kdt_getItem (knd := PySem.strKind _ _) (by k_asm) (by k_mem) (by k_asm) (strKind_is _ _ _ _) (by assumption) ?_))) | ((with_reducible show wpAny _ _ (compareOp CmpOp.In (Value.str _ _) (Value.ref _)) _ _ _); (k_dflt (refine kda_in (knd := PySem.strKind _ _) (by k_asm) (by k_mem) (by k_asm) (by k_asm) (strKind_is _ _ _ _) _ (by assumption) ?_))) | walk1 | (dsimp only; first | (k_unfold; (try dsimp only)) | walk1) | (leave1; (try dsimp only)) | fail "no step")
      have hT2 : Tab ((I, oI) :: (S, oS9) :: gl) kvs G := hT.mono fun x h => List.mem_cons_of_mem _ (List.mem_cons_of_mem _ h)
      (refine' callAt_use (c_slots w t dt D U h1 h2 t1 t2 oD oU kvs ((I, oI) :: (S, oS9) :: gl) G hD hU lD lU hT2 C hk hA hup y ty hyk) ([]) ?B ?F ?X ?N ?T ?hk ?hin ?off ?hd ?hu ?_; (case B => k_asm); (case F => k_asm); (case X => k_asm); (case N => k_asm); (case T => k_asm); (case hk => exact rfl); (case hin => (walk_at "sub")); (case off => exact Apart.nilR); (case hd => k_room); (case hu => k_units))
      refine el5 ?_
      intro l T n ts tq h3 tk3 F3 N3 ap3
      simp only [List.cons_append, List.append_nil] at N3
      dsimp only
      refine' for_oneC (σ := Unit) (nn := n) (fun _ => []) [Str.ofString "slot", Str.ofString "kind"] (fun _ => True) ((l, listOf #[.ref T] n) :: (T, tupOf [.str (Str.ofString "s") ts, .str (Str.ofString "numeric") tq]) :: (tabLed t dt D U h1 h2 t1 t2 oD oU ++ ((I, oI) :: (S, oS9) :: gl))) () rfl PassesOwn.never (.inr ⟨⟨_, _, _, rfl⟩, _, rfl⟩) F3 N3 ?hin3 Apart.nil ?hl3 ?turn3 ?done3
      (case hin3 => (walk_at "sub"))
      (case hl3 => exact .head _)
      (case turn3 =>
        intro u7 I7 oI7 h7 tk7 F7 N7 ap7
        (try refine (let q0 := _; (?_ : wpAny _ _ _ q0 _ _)))
        simp only [List.cons_append, List.nil_append] at N7
        repeat' (first | ((fail_if_success (fail_if_success k_unfold)); first | refine (?_ : wpAny _ _ (execs _ _) _ _ _) | (k_unfold; (try dsimp only))) | ((first | (with_reducible show wpAny _ _ (execs _ _) _ _ _) | (with_reducible show wpAny _ _ (exec _ _) _ _ _)); first | ((fail_if_success k_fold); refine wpAny_tok ?_; intro tk0) | ((fail_if_success (fail_if_success k_fold)); refine (let q0 := _; (?_ : wpAny _ _ _ q0 _ _)))) | ((with_reducible show wpAny _ _ (eval (PySem.Expr.Dict ..) _) _ _ _); (k_dflt (refine' kdn_eval (knd := PySem.strKind _ _) ?F ?N ?b ?a ?l ?e ?n ?_; (case F => k_asm); (case N => k_asm); (case b => exact Top.nolimit (by k_asm)); (case a => rfl); (case l => rfl); (case e => exact List.cons_ne_nil _ _); (case n => exact Nat.le_of_ble_eq_true rfl)); intro _ _ _ F' N' l1 _ _; (try k_lt l1))) | ((with_reducible show wpAny _ _ (exec _ _) _ _ _); first | ((with_reducible show wpAny _ _ (exec (Stmt.For (PySem.Expr.Tuple ..) (PySem.Expr.Call ..) _ [] _) _) _ _ _); walk_at "for0") | ((with_reducible show wpAny _ _ (exec (Stmt.For (PySem.Expr.Name ..) (PySem.Expr.Attribute ..) _ [] _) _) _ _ _); walk_at "for0") | ((with_reducible show wpAny _ _ (exec (Stmt.For (PySem.Expr.Tuple ..) (PySem.Expr.Attribute ..) _ [] _) _) _ _ _); walk_at "for0")) | ((with_reducible show wpAny _ _ (getItem (Value.ref _) (Value.str _ _)) _ _ _); (k_dflt (refine kdt_getItem (knd := PySem.strKind _ _) (by k_asm) (by k_mem) (by k_asm) (strKind_is _ _ _ _) (by assumption) ?_))) | ((with_reducible show wpAny _ _ (compareOp CmpOp.In (Value.str _ _) (Value.ref _)) _ _ _); (k_dflt (refine kda_in (knd := PySem.strKind _ _) (by k_asm) (by k_mem) (by k_asm) (by k_asm) (strKind_is _ _ _ _) _ (by assumption) ?_))) | walk1 | (dsimp only; first | (k_unfold; (try dsimp only)) | walk1) | (leave1; (try dsimp only)) | fail "no step")
        rename News _ _ _ _ => N8
        (refine' callAt_useN ?N ?C ?B ?F ?X ?T ?hk ?hd ?hu ?_; (case B => k_asm); (case F => k_asm); (case X => k_asm); (case N => k_asm); (case T => k_asm); (case hk => exact rfl); (case C => exact (c_dist0 w _ t dt _ 2 (Str.ofString "numeric") tq9 tq (by k_mem) (by k_mem))); (case hd => k_room); (case hu => k_units))
        refine elD ?_
        intro tk9 h8 tk8 F8 N8
        dsimp only
        repeat' (first | ((fail_if_success (fail_if_success k_unfold)); first | refine (?_ : wpAny _ _ (execs _ _) _ _ _) | (k_unfold; (try dsimp only))) | ((first | (with_reducible show wpAny _ _ (execs _ _) _ _ _) | (with_reducible show wpAny _ _ (exec _ _) _ _ _)); first | ((fail_if_success k_fold); refine wpAny_tok ?_; intro tk0) | ((fail_if_success (fail_if_success k_fold)); refine (let q0 := _; (?_ : wpAny _ _ _ q0 _ _)))) | ((with_reducible show wpAny _ _ (eval (PySem.Expr.Dict ..) _) _ _ _); (k_dflt (refine' kdn_eval (knd := PySem.strKind _ _) ?F ?N ?b ?a ?l ?e ?n ?_; (case F => k_asm); (case N => k_asm); (case b => exact Top.nolimit (by k_asm)); (case a => rfl); (case l => rfl); (case e => exact List.cons_ne_nil _ _); (case n => exact Nat.le_of_ble_eq_true rfl)); intro _ _ _ F' N' l1 _ _; (try k_lt l1))) | ((with_reducible show wpAny _ _ (exec _ _) _ _ _); first | ((with_reducible show wpAny _ _ (exec (Stmt.For (PySem.Expr.Tuple ..) (PySem.Expr.Call ..) _ [] _) _) _ _ _); walk_at "for0") | ((with_reducible show wpAny _ _ (exec (Stmt.For (PySem.Expr.Name ..) (PySem.Expr.Attribute ..) _ [] _) _) _ _ _); walk_at "for0") | ((with_reducible show wpAny _ _ (exec (Stmt.For (PySem.Expr.Tuple ..) (PySem.Expr.Attribute ..) _ [] _) _) _ _ _); walk_at "for0")) | ((with_reducible show wpAny _ _ (getItem (Value.ref _) (Value.str _ _)) _ _ _); (k_dflt (refine kdt_getItem (knd := PySem.strKind _ _) (by k_asm) (by k_mem) (by k_asm) (strKind_is _ _ _ _) (by assumption) ?_))) | ((with_reducible show wpAny _ _ (compareOp CmpOp.In (Value.str _ _) (Value.ref _)) _ _ _); (k_dflt (refine kda_in (knd := PySem.strKind _ _) (by k_asm) (by k_mem) (by k_asm) (by k_asm) (strKind_is _ _ _ _) _ (by assumption) ?_))) | walk1 | (dsimp only; first | (k_unfold; (try dsimp only)) | walk1) | (leave1; (try dsimp only)) | fail "no step")
        refine TurnEnd.next () (by assumption) ?mis6 (by assumption) ?sub6 Apart.nil trivial
        (case mis6 => (repeat' (first | exact Mis.mix | (refine Mis.put rfl ?_) | (refine Mis.mixIn rfl ?_) | exact Mis.rfl')))
        (case sub6 => (walk_at "sub")))
      (case done3 =>
        intro c9 u9 h9 tk9 hP9 F9 N9 ap9
        simp only [List.cons_append, List.nil_append] at N9
        repeat' (first | ((fail_if_success (fail_if_success k_unfold)); first | refine (?_ : wpAny _ _ (execs _ _) _ _ _) | (k_unfold; (try dsimp only))) | ((first | (with_reducible show wpAny _ _ (execs _ _) _ _ _) | (with_reducible show wpAny _ _ (exec _ _) _ _ _)); first | ((fail_if_success k_fold); refine wpAny_tok ?_; intro tk0) | ((fail_if_success (fail_if_success k_fold)); refine (let q0 := _; (?_ : wpAny _ _ _ q0 _ _)))) | ((with_reducible show wpAny _ _ (eval (PySem.Expr.Dict ..) _) _ _ _); (k_dflt (refine' kdn_eval (knd := PySem.strKind _ _) ?F ?N ?b ?a ?l ?e ?n ?_; (case F => k_asm); (case N => k_asm); (case b => exact Top.nolimit (by k_asm)); (case a => rfl); (case l => rfl); (case e => exact List.cons_ne_nil _ _); (case n => exact Nat.le_of_ble_eq_true rfl)); intro _ _ _ F' N' l1 _ _; (try k_lt l1))) | ((with_reducible show wpAny _ _ (exec _ _) _ _ _); first | ((with_reducible show wpAny _ _ (exec (Stmt.For (PySem.Expr.Tuple ..) (PySem.Expr.Call ..) _ [] _) _) _ _ _); walk_at "for0") | ((with_reducible show wpAny _ _ (exec (Stmt.For (PySem.Expr.Name ..) (PySem.Expr.Attribute ..) _ [] _) _) _ _ _); walk_at "for0") | ((with_reducible show wpAny _ _ (exec (Stmt.For (PySem.Expr.Tuple ..) (PySem.Expr.Attribute ..) _ [] _) _) _ _ _); walk_at "for0")) | ((with_reducible show wpAny _ _ (getItem (Value.ref _) (Value.str _ _)) _ _ _); (k_dflt (refine kdt_getItem (knd := PySem.strKind _ _) (by k_asm) (by k_mem) (by k_asm) (strKind_is _ _ _ _) (by assumption) ?_))) | ((with_reducible show wpAny _ _ (compareOp CmpOp.In (Value.str _ _) (Value.ref _)) _ _ _); (k_dflt (refine kda_in (knd := PySem.strKind _ _) (by k_asm) (by k_mem) (by k_asm) (by k_asm) (strKind_is _ _ _ _) _ (by assumption) ?_))) | walk1 | (dsimp only; first | (k_unfold; (try dsimp only)) | walk1) | (leave1; (try dsimp only)) | fail "no step")
        refine TurnEnd.next () (by assumption) ?mis4 (by assumption) ?sub4 Apart.nil trivial
        (case mis4 => (repeat' (first | exact Mis.mix | (refine Mis.put rfl ?_) | (refine Mis.mixIn rfl ?_) | exact Mis.rfl')))
        (case sub4 => (walk_at "sub"))))
    (case done2 =>
      intro c u5 h5 tk5 hP5 F5 N5 ap5
      simp only [List.cons_append, List.nil_append] at N5
      repeat' (first | ((fail_if_success (fail_if_success k_unfold)); first | refine (?_ : wpAny _ _ (execs _ _) _ _ _) | (k_unfold; (try dsimp only))) | ((first | (with_reducible show wpAny _ _ (execs _ _) _ _ _) | (with_reducible show wpAny _ _ (exec _ _) _ _ _)); first | ((fail_if_success k_fold); refine wpAny_tok ?_; intro tk0) | ((fail_if_success (fail_if_success k_fold)); refine (let q0 := _; (?_ : wpAny _ _ _ q0 _ _)))) | ((with_reducible show wpAny _ _ (eval (PySem.Expr.Dict ..) _) _ _ _); (k_dflt (refine' kdn_eval (knd := PySem.strKind _ _) ?F ?N ?b ?a ?l ?e ?n ?_; (case F => k_asm); (case N => k_asm); (case b => exact Top.nolimit (by k_asm)); (case a => rfl); (case l => rfl); (case e => exact List.cons_ne_nil _ _); (case n => exact Nat.le_of_ble_eq_true rfl)); intro _ _ _ F' N' l1 _ _; (try k_lt l1))) | ((with_reducible show wpAny _ _ (exec _ _) _ _ _); first | ((with_reducible show wpAny _ _ (exec (Stmt.For (PySem.Expr.Tuple ..) (PySem.Expr.Call ..) _ [] _) _) _ _ _); walk_at "for0") | ((with_reducible show wpAny _ _ (exec (Stmt.For (PySem.Expr.Name ..) (PySem.Expr.Attribute ..) _ [] _) _) _ _ _); walk_at "for0") | ((with_reducible show wpAny _ _ (exec (Stmt.For (PySem.Expr.Tuple ..) (PySem.Expr.Attribute ..) _ [] _) _) _ _ _); walk_at "for0")) | ((with_reducible show wpAny _ _ (getItem (Value.ref _) (Value.str _ _)) _ _ _); (k_dflt (refine kdt_getItem (knd := PySem.strKind _ _) (by k_asm) (by k_mem) (by k_asm) (strKind_is _ _ _ _) (by assumption) ?_))) | ((with_reducible show wpAny _ _ (compareOp CmpOp.In (Value.str _ _) (Value.ref _)) _ _ _); (k_dflt (refine kda_in (knd := PySem.strKind _ _) (by k_asm) (by k_mem) (by k_asm) (by k_asm) (strKind_is _ _ _ _) _ (by assumption) ?_))) | walk1 | (dsimp only; first | (k_unfold; (try dsimp only)) | walk1) | (leave1; (try dsimp only)) | fail "no step")
      refine Fin.mk (tabLed t dt D U h1 h2 t1 t2 oD oU ++ gl) (by assumption) (by assumption) ?sub5 ⟨rfl, rfl⟩
      (case sub5 => (walk_at "sub"))))
end

-- C_define
section
local macro_rules | `(tactic| walk_at "pad0") => `(tactic| fail "pad")
local macro_rules | `(tactic| walk_at "pad1") => `(tactic| fail "pad")
local macro_rules | `(tactic| walk_at "pad2") => `(tactic| fail "pad")
set_option maxHeartbeats 8000000 in
theorem c_define (w : World) {mean : ExcName → Option Value} {mg mb : Str → Option Value} (t dt D U : Addr) (h1 h2 : Int) (t1 t2 : Tok) (oD oU : Obj) (kvs : List (Str × Value)) (gl : List (Addr × Obj)) (G : List (Str × List Str)) (hD : oD.IsDictOf (PySem.strKind PySem.Challenge.rw_pq1424_01.row.prog w) kvs) (hU : oU.IsDictOf (PySem.strKind PySem.Challenge.rw_pq1424_01.row.prog w) []) (lD : (D == sysModules) = false) (lU : (U == sysModules) = false) (hT : Tab gl kvs G) (C : Closed G) (hk : (keys G).length ≤ 6) (hA : Str.ofString "ANY" ∉ keys G) (hup : ∀ x, (ups G x).length ≤ 64) (c : Addr) (nm : Str) (xs : List Str) (hc : ClsAt gl (.ref c) nm xs) (hxs : ∀ p ∈ xs, p ∈ keys G) (hn : nm ∉ keys G) (hnA : nm ≠ Str.ofString "ANY") (hnb : nm ∉ basicNames) (hxl : xs.length ≤ 64) (hDt : @Ne Nat t D) (hDdt : @Ne Nat dt D) (hDU : @Ne Nat U D) (hDg : Off D gl) :
  Tells1 PySem.Challenge.rw_pq1424_01.row.prog w (Mine.kAt w.params) Mine.viewQ (looseW Mine.viewQ [Str.ofString "match_names", Str.ofString "take"]) mean mg mb 642 [.ref t, .ref c] [] 10 (tabLed t dt D U h1 h2 t1 t2 oD oU ++ gl) (fun r out => r = .none ∧ ∃ oD', oD'.IsDictOf (PySem.strKind PySem.Challenge.rw_pq1424_01.row.prog w) (kvs ++ [(nm, .ref c)]) ∧ out = tabLed t dt D U h1 h2 t1 t2 oD' oU ++ gl) := by
  have hc' := hc
  cases hc with
  | @mk cA dcA slA uA tpA prA hA1 hA2 hA3 hA4 hA5 hA6 tA1 tA2 tA3 tA4 tA5 tA6 tnA tsA tqA _ nsl nuA itsA _ m1 m2 m3 m4' m5 hS =>
  k_fill
  refine' tells1_enter (binds := [(Str.ofString "self", .ref t), (Str.ofString "c", .ref c)]) ?k6 ?k7 ?kr ?k9 ?kB ?c2 ?c3 ?c4 ?c5 ?_
  (case k6 => k_is)
  (case k7 => k_is)
  (case kr => decide)
  (case k9 => intro s hX; first | exact BindsTo.of_eq rfl | exact binds_K (by k_in) rfl (by k_is) rfl rfl rfl)
  (case kB => exact locs rfl)
  (case c2 => exact rfl)
  (case c3 => exact rfl)
  (case c4 => exact rfl)
  (case c5 => decide)
  intro dp un gd cn cs a ccd cl outer base g L L' h₁ s tk hd hu F' N' B' X' T'
  (try dsimp only)
  (try k_fold)
  refine (let A1 := _; (?_ : wpAny _ A1 _ _ _ _))
  simp only [List.cons_append, List.nil_append] at N'
  repeat' (first | ((fail_if_success (fail_if_success k_unfold)); first | refine (?_ : wpAny _ _ (execs _ _) _ _ _) | (k_unfold; (try dsimp only))) | ((first | (with_reducible show wpAny _ _ (execs _ _) _ _ _) | (with_reducible show wpAny _ _ (exec _ _) _ _ _)); first | ((fail_if_success k_fold); refine wpAny_tok ?_; intro tk0) | ((fail_if_success (fail_if_success k_fold)); refine (let q0 := _; (?_ : wpAny _ _ _ q0 _ _)))) | ((with_reducible show wpAny _ _ (exec (Stmt.For (PySem.Expr.Name ..) (PySem.Expr.Attribute ..) _ [] _) _) _ _ _); walk_at "for0") | ((with_reducible show wpAny _ _ (compareOp CmpOp.In (Value.str _ _) (Value.ref _)) _ _ _); (k_dflt (refine kda_in (knd := PySem.strKind _ _) (by k_asm) (by k_mem) (by k_asm) (by k_asm) (strKind_is _ _ _ _) _ (by assumption) ?_))) | walk1 | (dsimp only; first | (k_unfold; (try dsimp only)) | walk1) | (leave1; (try dsimp only)) | fail "no step")
  (refine' callAt_useN ?N ?C ?B ?F ?X ?T ?hk ?hd ?hu ?_; (case B => k_asm); (case F => k_asm); (case X => k_asm); (case N => k_asm); (case T => k_asm); (case hk => exact rfl); (case C => exact (c_checkopen w _ t dt h1 h2 t1 t2 D U nm tnA hnb (by k_mem) (by k_mem))); (case hd => k_room); (case hu => k_units))
  refine el0 ?_
  intro h3 tk3 F3 N3
  dsimp only
  have hkn := hT.isSome
  have hn0 : valueAt kvs nm = none := hT.none hn
  have hkl : kvs.length = (keys G).length := by rw [← hT.names, List.length_map]
  repeat' (first | ((fail_if_success (fail_if_success k_unfold)); first | refine (?_ : wpAny _ _ (execs _ _) _ _ _) | (k_unfold; (try dsimp only))) | ((first | (with_reducible show wpAny _ _ (execs _ _) _ _ _) | (with_reducible show wpAny _ _ (exec _ _) _ _ _)); first | ((fail_if_success k_fold); refine wpAny_tok ?_; intro tk0) | ((fail_if_success (fail_if_success k_fold)); refine (let q0 := _; (?_ : wpAny _ _ _ q0 _ _)))) | ((with_reducible show wpAny _ _ (exec (Stmt.For (PySem.Expr.Name ..) (PySem.Expr.Attribute ..) _ [] _) _) _ _ _); walk_at "for0") | ((with_reducible show wpAny _ _ (compareOp CmpOp.In (Value.str _ _) (Value.ref _)) _ _ _); (k_dflt (refine kda_in (knd := PySem.strKind _ _) (by k_asm) (by k_mem) (by k_asm) (by k_asm) (strKind_is _ _ _ _) _ (by assumption) ?_))) | walk1 | (dsimp only; first | (k_unfold; (try dsimp only)) | walk1) | (leave1; (try dsimp only)) | fail "no step")
  rename News _ _ _ _ => N4
  rename Fr _ _ _ _ => F4
  refine' for_listC (σ := Unit) (nn := nuA) (items := itsA.toArray) (fun _ => []) [Str.ofString "name"] (fun _ _ => True) (tabLed t dt D U h1 h2 t1 t2 oD oU ++ gl) () rfl PassesOwn.never (.inl ⟨_, _, rfl⟩) F4 N4 ?hin2 Apart.nil (.inr fun _ => ?hl2) trivial ?turn2 ?done2
  (case hin2 => (walk_at "sub"))
  (case hl2 => k_mem)
  (case turn2 =>
    intro j v c9 u4 I oI h4 tk4 hj hP F4 N4 ap4
    (try refine (let q0 := _; (?_ : wpAny _ _ _ q0 _ _)))
    rw [List.getElem?_toArray] at hj
    obtain ⟨y, ty, rfl, hy4⟩ := hS.item j v hj
    have hyk : y ∈ keys G := hxs y (List.mem_of_getElem? hy4)
    have hb : (valueAt kvs y).isSome = true := by rw [hkn]; simpa using hyk
    have hyn : (y == nm) = false := by simpa using fun e : y = nm => hn (e ▸ hyk)
    have hT2 : Tab ((I, oI) :: gl) kvs G := hT.mono fun x h => List.mem_cons_of_mem _ h
    simp only [List.cons_append, List.nil_append] at N4
    repeat' (first | ((fail_if_success (fail_if_success k_unfold)); first | refine (?_ : wpAny _ _ (execs _ _) _ _ _) | (k_unfold; (try dsimp only))) | ((first | (with_reducible show wpAny _ _ (execs _ _) _ _ _) | (with_reducible show wpAny _ _ (exec _ _) _ _ _)); first | ((fail_if_success k_fold); refine wpAny_tok ?_; intro tk0) | ((fail_if_success (fail_if_success k_fold)); refine (let q0 := _; (?_ : wpAny _ _ _ q0 _ _)))) | ((with_reducible show wpAny _ _ (exec (Stmt.For (PySem.Expr.Name ..) (PySem.Expr.Attribute ..) _ [] _) _) _ _ _); walk_at "for0") | ((with_reducible show wpAny _ _ (compareOp CmpOp.In (Value.str _ _) (Value.ref _)) _ _ _); (k_dflt (refine kda_in (knd := PySem.strKind _ _) (by k_asm) (by k_mem) (by k_asm) (by k_asm) (strKind_is _ _ _ _) _ (by assumption) ?_))) | walk1 | (dsimp only; first | (k_unfold; (try dsimp only)) | walk1) | (leave1; (try dsimp only)) | fail "no step")
    (refine' callAt_use (c_distance w t dt D U h1 h2 t1 t2 oD oU kvs ((I, oI) :: gl) G hD hU lD lU hT2 C hk hA hup y nm ty tnA hyk hn hnA) ([]) ?B ?F ?X ?N ?T ?hk ?hin ?off ?hd ?hu ?_; (case B => k_asm); (case F => k_asm); (case X => k_asm); (case N => k_asm); (case T => k_asm); (case hk => exact rfl); (case hin => (walk_at "sub")); (case off => exact Apart.nilR); (case hd => k_room); (case hu => k_units))
    refine el0 ?_
    intro h8 tk8 F8 N8 ap8
    simp only [List.cons_append, List.append_nil] at N8
    dsimp only
    repeat' (first | ((fail_if_success (fail_if_success k_unfold)); first | refine (?_ : wpAny _ _ (execs _ _) _ _ _) | (k_unfold; (try dsimp only))) | ((first | (with_reducible show wpAny _ _ (execs _ _) _ _ _) | (with_reducible show wpAny _ _ (exec _ _) _ _ _)); first | ((fail_if_success k_fold); refine wpAny_tok ?_; intro tk0) | ((fail_if_success (fail_if_success k_fold)); refine (let q0 := _; (?_ : wpAny _ _ _ q0 _ _)))) | ((with_reducible show wpAny _ _ (exec (Stmt.For (PySem.Expr.Name ..) (PySem.Expr.Attribute ..) _ [] _) _) _ _ _); walk_at "for0") | ((with_reducible show wpAny _ _ (compareOp CmpOp.In (Value.str _ _) (Value.ref _)) _ _ _); (k_dflt (refine kda_in (knd := PySem.strKind _ _) (by k_asm) (by k_mem) (by k_asm) (by k_asm) (strKind_is _ _ _ _) _ (by assumption) ?_))) | walk1 | (dsimp only; first | (k_unfold; (try dsimp only)) | walk1) | (leave1; (try dsimp only)) | fail "no step")
    refine TurnEnd.next () (by assumption) ?mis6 (by assumption) ?sub6 Apart.nil trivial
    (case mis6 => (repeat' (first | exact Mis.mix | (refine Mis.put rfl ?_) | (refine Mis.mixIn rfl ?_) | exact Mis.rfl')))
    (case sub6 => (walk_at "sub")))
  (case done2 =>
    intro c9 u5 h5 tk5 hP5 F5 N5 ap5
    simp only [List.cons_append, List.nil_append] at N5
    repeat' (first | ((fail_if_success (fail_if_success k_unfold)); first | refine (?_ : wpAny _ _ (execs _ _) _ _ _) | (k_unfold; (try dsimp only))) | ((first | (with_reducible show wpAny _ _ (execs _ _) _ _ _) | (with_reducible show wpAny _ _ (exec _ _) _ _ _)); first | ((fail_if_success k_fold); refine wpAny_tok ?_; intro tk0) | ((fail_if_success (fail_if_success k_fold)); refine (let q0 := _; (?_ : wpAny _ _ _ q0 _ _)))) | ((with_reducible show wpAny _ _ (exec (Stmt.For (PySem.Expr.Name ..) (PySem.Expr.Attribute ..) _ [] _) _) _ _ _); walk_at "for0") | ((with_reducible show wpAny _ _ (compareOp CmpOp.In (Value.str _ _) (Value.ref _)) _ _ _); (k_dflt (refine kda_in (knd := PySem.strKind _ _) (by k_asm) (by k_mem) (by k_asm) (by k_asm) (strKind_is _ _ _ _) _ (by assumption) ?_))) | walk1 | (dsimp only; first | (k_unfold; (try dsimp only)) | walk1) | (leave1; (try dsimp only)) | fail "no step")
    (refine' callAt_use (c_check w t dt D U h1 h2 t1 t2 oD oU kvs gl G hD hU lD lU hT C hk hA hup c nm xs hc' hxs) ([]) ?B ?F ?X ?N ?T ?hk ?hin ?off ?hd ?hu ?_; (case B => k_asm); (case F => k_asm); (case X => k_asm); (case N => k_asm); (case T => k_asm); (case hk => exact rfl); (case hin => (walk_at "sub")); (case off => exact Apart.nilR); (case hd => k_room); (case hu => k_units))
    refine el0 ?_
    intro h8 tk8 F8 N8 ap8
    simp only [List.cons_append, List.append_nil] at N8
    dsimp only
    repeat' (first | ((fail_if_success (fail_if_success k_unfold)); first | refine (?_ : wpAny _ _ (execs _ _) _ _ _) | (k_unfold; (try dsimp only))) | ((first | (with_reducible show wpAny _ _ (execs _ _) _ _ _) | (with_reducible show wpAny _ _ (exec _ _) _ _ _)); first | ((fail_if_success k_fold); refine wpAny_tok ?_; intro tk0) | ((fail_if_success (fail_if_success k_fold)); refine (let q0 := _; (?_ : wpAny _ _ _ q0 _ _)))) | ((with_reducible show wpAny _ _ (exec (Stmt.For (PySem.Expr.Name ..) (PySem.Expr.Attribute ..) _ [] _) _) _ _ _); walk_at "for0") | ((with_reducible show wpAny _ _ (compareOp CmpOp.In (Value.str _ _) (Value.ref _)) _ _ _); (k_dflt (refine kda_in (knd := PySem.strKind _ _) (by k_asm) (by k_mem) (by k_asm) (by k_asm) (strKind_is _ _ _ _) _ (by assumption) ?_))) | walk1 | (dsimp only; first | (k_unfold; (try dsimp only)) | walk1) | (leave1; (try dsimp only)) | fail "no step")
    rename Obj.IsDictOf _ _ (stored _ _ _) => hd5
    rw [stored_new hn0] at hd5
    refine' Fin.mk ?o (by assumption) (by assumption) ?sub9 ⟨rfl, _, hd5, rfl⟩
    (case sub9 => (walk_at "sub")))
end

-- C_row
section
local macro_rules | `(tactic| walk_at "pad0") => `(tactic| fail "pad")
local macro_rules | `(tactic| walk_at "pad1") => `(tactic| fail "pad")
local macro_rules | `(tactic| walk_at "pad2") => `(tactic| fail "pad")
local macro_rules | `(tactic| walk_at "pad3") => `(tactic| fail "pad")
structure RwSt where
  rits : List Value
  nr : Nat
  e : Addr
  eits : List Value
  ne : Nat
  ns : List Str
  i : Nat
structure RwP (G : List (Str × List Str)) (nm : Str) (R : Addr) (c : RwSt) : Prop where
  go : At G nm c.ns c.i
  le : c.i ≤ c.ns.length
  rows : StrsAre c.rits c.ns
  edge : StrsAre c.eits (c.ns.drop c.i)
  ne : @Ne Nat R c.e
structure R2St where
  rits : List Value
  nr : Nat
  fits : List Value
  nf : Nat
  ns : List Str
structure R2P (ns0 : List Str) (c : R2St) : Prop where
  le : ns0 <+: c.ns
  rows : StrsAre c.rits c.ns
  more : StrsAre c.fits (c.ns.drop ns0.length)
set_option maxHeartbeats 8000000 in
theorem c_row (w : World) {mean : ExcName → Option Value} {mg mb : Str → Option Value} (D : Addr) (oD : Obj) (kvs : List (Str × Value)) (led : List (Addr × Obj)) (G : List (Str × List Str)) (nm : Str) (tn : Tok) (hD : oD.IsDictOf (PySem.strKind PySem.Challenge.rw_pq1424_01.row.prog w) kvs) (lD : (D == sysModules) = false)
  (mD : (D, oD) ∈ led) (hT : Abv led kvs G) (C : Closed G) (hk : (keys G).length ≤ 6) (hok : ∀ x ∈ keys G, PyData.strOk x = true) (hup : ∀ x, (ups G x).length ≤ 64) (hx : nm ∈ keys G) :
  Tells1 PySem.Challenge.rw_pq1424_01.row.prog w (Mine.kAt w.params) Mine.viewQ (looseW Mine.viewQ [Str.ofString "match_names", Str.ofString "take"]) mean mg mb 845 [.ref D, .str nm tn] [] 12 led
   (fun r out => ∃ l its n, r = .ref l ∧ out = (l, listOf its.toArray n) :: led ∧ StrsAre its (rowOf G nm)) := by
  k_fill
  refine' tells1_enter (binds := [(Str.ofString "above", .ref D), (Str.ofString "name", .str nm tn)]) ?k6 ?k7 ?kr ?k9 ?kB ?c2 ?c3 ?c4 ?c5 ?_
  (case k6 => k_is)
  (case k7 => k_is)
  (case kr => decide)
  (case k9 => intro s hX; first | exact BindsTo.of_eq rfl | exact binds_K (by k_in) rfl (by k_is) rfl rfl rfl)
  (case kB => exact locs rfl)
  (case c2 => exact rfl)
  (case c3 => exact rfl)
  (case c4 => exact rfl)
  (case c5 => decide)
  intro dp un gd cn cs a ccd cl outer base g L L' h₁ s tk hd hu F' N' B' X' T'
  (try dsimp only)
  (try k_fold)
  refine (let A1 := _; (?_ : wpAny _ A1 _ _ _ _))
  repeat' (first | ((fail_if_success (fail_if_success k_unfold)); first | refine (?_ : wpAny _ _ (execs _ _) _ _ _) | (k_unfold; (try dsimp only))) | ((first | (with_reducible show wpAny _ _ (execs _ _) _ _ _) | (with_reducible show wpAny _ _ (exec _ _) _ _ _)); first | ((fail_if_success k_fold); refine wpAny_tok ?_; intro tk0) | ((fail_if_success (fail_if_success k_fold)); refine (let q0 := _; (?_ : wpAny _ _ _ q0 _ _)))) | ((with_reducible show wpAny _ _ (compareOp _ _ _) _ _ _); first | ((with_reducible show wpAny _ _ (compareOp CmpOp.NotEq (Value.ref _) (Value.ref _)) _ _ _); k_dflt (refine' ne_nil ?k1 ?k2 ?k3 ?k4 ?k5 ?k6 ?k7 ?_; (case k1 => k_asm); (case k2 => k_mem); (case k3 => k_mem); (case k4 => assumption); (case k5 => assumption); (case k6 => k_units); (case k7 => assumption))) | ((with_reducible show wpAny _ _ (compareOp CmpOp.NotIn (Value.str _ _) (Value.ref _)) _ _ _); k_dflt (first | (refine' notin_strsB ?k1 ?k2 ?k3 ?k4 ?_; (case k1 => k_asm); (case k2 => k_mem); (case k3 => assumption); (case k4 => assumption)) | (refine' notin_strs ?k1 ?k2 ?k3 ?_; (case k1 => k_asm); (case k2 => k_mem); (case k3 => assumption)))) | ((with_reducible show wpAny _ _ (compareOp CmpOp.NotIn (Value.str _ _) (Value.ref _)) _ _ _); (k_dflt (refine kdg_notin (knd := PySem.strKind _ _) (by k_asm) (by k_mem) (by k_asm) (by k_asm) (strKind_is _ _ _ _) _ (by assumption) ?_); (try dsimp only [Bool.not_true, Bool.not_false])))) | ((with_reducible show wpAny _ _ (exec _ _) _ _ _); first | ((with_reducible show wpAny _ _ (exec (Stmt.While (PySem.Expr.Compare ..) _ _ _) _) _ _ _); (refine while_start ?_)) | ((with_reducible show wpAny _ _ (exec (Stmt.For (PySem.Expr.Name ..) (PySem.Expr.Subscript ..) _ [] _) _) _ _ _); walk_at "for0") | ((with_reducible show wpAny _ _ (exec (Stmt.For (PySem.Expr.Name ..) (PySem.Expr.Name ..) _ [] _) _) _ _ _); walk_at "for0")) | ((with_reducible show wpAny _ _ (getItem (Value.ref _) (Value.str _ _)) _ _ _); (k_dflt (refine kdt_getItem (knd := PySem.strKind _ _) (by k_asm) (by k_mem) (by k_asm) (strKind_is _ _ _ _) (by assumption) ?_))) | walk1 | (dsimp only; first | (k_unfold; (try dsimp only)) | walk1) | (leave1; (try dsimp only)) | fail "no step")
  rename News _ _ _ _ => N1
  rename Fr _ _ _ _ => F1
  rename_i R _ _ _ _ _ E0 _ _ _
  have hRE : @Ne Nat R E0 := by walk_at "om"
  refine' while_st (σ := RwSt) (fun c => [(R, listOf c.rits.toArray c.nr), (c.e, listOf c.eits.toArray c.ne)])
    (fun c y => if y = Str.ofString "edge" then some (.ref c.e) else if y = Str.ofString "row" then some (.ref R) else List.lookup y [(Str.ofString "above", .ref D), (Str.ofString "name", .str nm tn)].reverse)
    [Str.ofString "further", Str.ofString "one", Str.ofString "up"] (RwP G nm R) (fun c => (keys G).length - c.i) led
    ⟨[.str nm tn], 0, E0, [.str nm tn], 0, [nm], 0⟩ PassesOwn.never F1 N1 ?hin ?ap ?hm ?h0 ?_
  (case hin => (walk_at "sub"))
  (case ap => (repeat' (first | assumption | exact Apart.nil | exact Apart.nilR | (refine Apart.cons ?_ ?_) | (refine Apart.app ?_ ?_) | (refine Apart.symm ?_; assumption) | ((refine Off.of_lt (by assumption) ?_; (walk_at "sub")); done) | k_all)))
  (case hm => intro y _; rfl)
  (case h0 => exact ⟨At.start hx, Nat.zero_le _, .cons _ _ .nil, .cons _ _ .nil, hRE⟩)
  clear N1 F1
  intro c u h tk2 hP F2 N2 ap2
  obtain ⟨rits, nr, e, eits, ne, ns, i⟩ := c
  obtain ⟨dA, dI, dR, dE, dN⟩ := hP
  dsimp only at *
  simp only [List.cons_append, List.nil_append] at N2
  have hle := dA.len C
  have hlr := dR.length
  have hle2 := dE.length
  have hoke : ∀ x ∈ ns.drop i, PyData.strOk x = true := fun x hx => hok x (dA.within x (List.mem_of_mem_drop hx))
  have oR2 := ap2.off (.head _)
  have oE2 := ap2.off (.tail _ (.head _))
  rcases Nat.lt_or_ge i ns.length with hi | hi
  · have hne : (!decide (ns.drop i = [])) = true := by simp; omega
    repeat' (first | ((fail_if_success (fail_if_success k_unfold)); first | refine (?_ : wpAny _ _ (execs _ _) _ _ _) | (k_unfold; (try dsimp only))) | ((first | (with_reducible show wpAny _ _ (execs _ _) _ _ _) | (with_reducible show wpAny _ _ (exec _ _) _ _ _)); first | ((fail_if_success k_fold); refine wpAny_tok ?_; intro tk0) | ((fail_if_success (fail_if_success k_fold)); refine (let q0 := _; (?_ : wpAny _ _ _ q0 _ _)))) | ((with_reducible show wpAny _ _ (compareOp _ _ _) _ _ _); first | ((with_reducible show wpAny _ _ (compareOp CmpOp.NotEq (Value.ref _) (Value.ref _)) _ _ _); k_dflt (refine' ne_nil ?k1 ?k2 ?k3 ?k4 ?k5 ?k6 ?k7 ?_; (case k1 => k_asm); (case k2 => k_mem); (case k3 => k_mem); (case k4 => assumption); (case k5 => assumption); (case k6 => k_units); (case k7 => assumption))) | ((with_reducible show wpAny _ _ (compareOp CmpOp.NotIn (Value.str _ _) (Value.ref _)) _ _ _); k_dflt (first | (refine' notin_strsB ?k1 ?k2 ?k3 ?k4 ?_; (case k1 => k_asm); (case k2 => k_mem); (case k3 => assumption); (case k4 => assumption)) | (refine' notin_strs ?k1 ?k2 ?k3 ?_; (case k1 => k_asm); (case k2 => k_mem); (case k3 => assumption)))) | ((with_reducible show wpAny _ _ (compareOp CmpOp.NotIn (Value.str _ _) (Value.ref _)) _ _ _); (k_dflt (refine kdg_notin (knd := PySem.strKind _ _) (by k_asm) (by k_mem) (by k_asm) (by k_asm) (strKind_is _ _ _ _) _ (by assumption) ?_); (try dsimp only [Bool.not_true, Bool.not_false])))) | ((with_reducible show wpAny _ _ (exec _ _) _ _ _); first | ((with_reducible show wpAny _ _ (exec (Stmt.While (PySem.Expr.Compare ..) _ _ _) _) _ _ _); (refine while_start ?_)) | ((with_reducible show wpAny _ _ (exec (Stmt.For (PySem.Expr.Name ..) (PySem.Expr.Subscript ..) _ [] _) _) _ _ _); walk_at "for0") | ((with_reducible show wpAny _ _ (exec (Stmt.For (PySem.Expr.Name ..) (PySem.Expr.Name ..) _ [] _) _) _ _ _); walk_at "for0")) | ((with_reducible show wpAny _ _ (getItem (Value.ref _) (Value.str _ _)) _ _ _); (k_dflt (refine kdt_getItem (knd := PySem.strKind _ _) (by k_asm) (by k_mem) (by k_asm) (strKind_is _ _ _ _) (by assumption) ?_))) | walk1 | (dsimp only; first | (k_unfold; (try dsimp only)) | walk1) | (leave1; (try dsimp only)) | fail "no step")
    rename News _ _ _ _ => N3
    rename Fr _ _ _ _ => F3
    rename_i l9 _ _ _ _ Fu _ _ _
    have hFR : @Ne Nat R Fu := by walk_at "om"
    have hFe : @Ne Nat e Fu := by walk_at "om"
    refine' for_listC (σ := R2St) (nn := ne) (items := eits.toArray) (fun c => [(R, listOf c.rits.toArray c.nr), (Fu, listOf c.fits.toArray c.nf)]) [Str.ofString "one", Str.ofString "up"] (fun j c => At G nm c.ns (i + j) ∧ R2P ns c)
      ((e, listOf eits.toArray ne) :: led) ⟨rits, nr, [], 0, ns⟩ rfl PassesOwn.never (.inl ⟨_, _, rfl⟩) F3 N3 ?hin2 ?ap2 (.inr fun c => ?hl2) ⟨dA, List.prefix_rfl, dR, by rw [List.drop_length]; exact .nil⟩ ?turn2 ?done2
    (case hin2 => (walk_at "sub"))
    (case ap2 => exact Apart.cons (Off.cons (Ne.symm dN) oR2) (Apart.cons (Off.cons hFe (Off.of_lt (by assumption) (by (walk_at "sub")))) Apart.nil))
    (case hl2 => exact List.mem_append_right _ (.head _))
    (case turn2 =>
      intro j v c u4 I oI h4 tk4 hj hP F4 N4 ap4
      (try refine (let q0 := _; (?_ : wpAny _ _ _ q0 _ _)))
      obtain ⟨rits4, nr4, fits4, nf4, ns4⟩ := c
      obtain ⟨dA4, ⟨dL4, dR4, dM4⟩⟩ := hP
      dsimp only at *
      simp only [List.cons_append, List.nil_append] at N4
      rw [List.getElem?_toArray] at hj
      obtain ⟨y, ty, rfl, hy4⟩ := dE.item j v hj
      have hyn : ns[i + j]? = some y := by rw [← hy4, List.getElem?_drop]
      have hy4n : ns4[i + j]? = some y := by
        obtain ⟨tl, rfl⟩ := dL4
        rw [List.getElem?_append_left (List.getElem?_eq_some_iff.mp hyn).1]; exact hyn
      have hyk : y ∈ keys G := dA4.within _ (List.mem_of_getElem? hy4n)
      obtain ⟨vy, hvy, hcy⟩ := hT.get hyk
      have hvb : (valueAt kvs y).isSome = true := by rw [hvy]; rfl
      cases hcy with
      | @mk uA nuA uits _ m5 hS =>
      repeat' (first | ((fail_if_success (fail_if_success k_unfold)); first | refine (?_ : wpAny _ _ (execs _ _) _ _ _) | (k_unfold; (try dsimp only))) | ((first | (with_reducible show wpAny _ _ (execs _ _) _ _ _) | (with_reducible show wpAny _ _ (exec _ _) _ _ _)); first | ((fail_if_success k_fold); refine wpAny_tok ?_; intro tk0) | ((fail_if_success (fail_if_success k_fold)); refine (let q0 := _; (?_ : wpAny _ _ _ q0 _ _)))) | ((with_reducible show wpAny _ _ (compareOp _ _ _) _ _ _); first | ((with_reducible show wpAny _ _ (compareOp CmpOp.NotEq (Value.ref _) (Value.ref _)) _ _ _); k_dflt (refine' ne_nil ?k1 ?k2 ?k3 ?k4 ?k5 ?k6 ?k7 ?_; (case k1 => k_asm); (case k2 => k_mem); (case k3 => k_mem); (case k4 => assumption); (case k5 => assumption); (case k6 => k_units); (case k7 => assumption))) | ((with_reducible show wpAny _ _ (compareOp CmpOp.NotIn (Value.str _ _) (Value.ref _)) _ _ _); k_dflt (first | (refine' notin_strsB ?k1 ?k2 ?k3 ?k4 ?_; (case k1 => k_asm); (case k2 => k_mem); (case k3 => assumption); (case k4 => assumption)) | (refine' notin_strs ?k1 ?k2 ?k3 ?_; (case k1 => k_asm); (case k2 => k_mem); (case k3 => assumption)))) | ((with_reducible show wpAny _ _ (compareOp CmpOp.NotIn (Value.str _ _) (Value.ref _)) _ _ _); (k_dflt (refine kdg_notin (knd := PySem.strKind _ _) (by k_asm) (by k_mem) (by k_asm) (by k_asm) (strKind_is _ _ _ _) _ (by assumption) ?_); (try dsimp only [Bool.not_true, Bool.not_false])))) | ((with_reducible show wpAny _ _ (exec _ _) _ _ _); first | ((with_reducible show wpAny _ _ (exec (Stmt.While (PySem.Expr.Compare ..) _ _ _) _) _ _ _); (refine while_start ?_)) | ((with_reducible show wpAny _ _ (exec (Stmt.For (PySem.Expr.Name ..) (PySem.Expr.Subscript ..) _ [] _) _) _ _ _); walk_at "for0") | ((with_reducible show wpAny _ _ (exec (Stmt.For (PySem.Expr.Name ..) (PySem.Expr.Name ..) _ [] _) _) _ _ _); walk_at "for0")) | ((with_reducible show wpAny _ _ (getItem (Value.ref _) (Value.str _ _)) _ _ _); (k_dflt (refine kdt_getItem (knd := PySem.strKind _ _) (by k_asm) (by k_mem) (by k_asm) (strKind_is _ _ _ _) (by assumption) ?_))) | walk1 | (dsimp only; first | (k_unfold; (try dsimp only)) | walk1) | (leave1; (try dsimp only)) | fail "no step")
      rename News _ _ _ _ => N5
      rename Fr _ _ _ _ => F5
      refine' for_listC (σ := R2St) (nn := nuA) (items := uits.toArray) (fun c => [(R, listOf c.rits.toArray c.nr), (Fu, listOf c.fits.toArray c.nf)]) [Str.ofString "up"] (fun k c => c.ns = addNew ns4 ((ups G y).take k) ∧ R2P ns c)
        ((I, oI) :: (e, listOf eits.toArray ne) :: led) ⟨rits4, nr4, fits4, nf4, ns4⟩ rfl PassesOwn.never (.inl ⟨_, _, rfl⟩) F5 N5 ?hin3 ap4 (.inr fun c => ?hl3) ⟨rfl, dL4, dR4, dM4⟩ ?turn3 ?done3
      (case hin3 => (walk_at "sub"))
      (case hl3 => k_mem)
      (case turn3 =>
        intro k v c u6 I6 oI6 h6 tk6 hj6 hP6 F6 N6 ap6
        (try refine (let q0 := _; (?_ : wpAny _ _ _ q0 _ _)))
        obtain ⟨rits6, nr6, fits6, nf6, ns6⟩ := c
        obtain ⟨hN6, ⟨dL6, dR6, dM6⟩⟩ := hP6
        dsimp only at *
        simp only [List.cons_append, List.nil_append] at N6
        rw [List.getElem?_toArray] at hj6
        obtain ⟨z, tz, rfl, hz⟩ := hS.item k v hj6
        have hstep : (ups G y).take (k + 1) = (ups G y).take k ++ [z] := by rw [List.take_add_one, hz]; rfl
        have oR6 := ap6.off (.head _)
        have oF6 := ap6.off (.tail _ (.head _))
        have hl6 := dR6.length
        have hl7 := dM6.length
        have hmid := dA4.mid C hy4n k
        rw [← hN6] at hmid
        rw [List.length_drop] at hl7
        by_cases hzn : z ∈ ns6
        · have hb : (!decide (z ∈ ns6)) = false := by simp [hzn]
          repeat' (first | ((fail_if_success (fail_if_success k_unfold)); first | refine (?_ : wpAny _ _ (execs _ _) _ _ _) | (k_unfold; (try dsimp only))) | ((first | (with_reducible show wpAny _ _ (execs _ _) _ _ _) | (with_reducible show wpAny _ _ (exec _ _) _ _ _)); first | ((fail_if_success k_fold); refine wpAny_tok ?_; intro tk0) | ((fail_if_success (fail_if_success k_fold)); refine (let q0 := _; (?_ : wpAny _ _ _ q0 _ _)))) | ((with_reducible show wpAny _ _ (compareOp _ _ _) _ _ _); first | ((with_reducible show wpAny _ _ (compareOp CmpOp.NotEq (Value.ref _) (Value.ref _)) _ _ _); k_dflt (refine' ne_nil ?k1 ?k2 ?k3 ?k4 ?k5 ?k6 ?k7 ?_; (case k1 => k_asm); (case k2 => k_mem); (case k3 => k_mem); (case k4 => assumption); (case k5 => assumption); (case k6 => k_units); (case k7 => assumption))) | ((with_reducible show wpAny _ _ (compareOp CmpOp.NotIn (Value.str _ _) (Value.ref _)) _ _ _); k_dflt (first | (refine' notin_strsB ?k1 ?k2 ?k3 ?k4 ?_; (case k1 => k_asm); (case k2 => k_mem); (case k3 => assumption); (case k4 => assumption)) | (refine' notin_strs ?k1 ?k2 ?k3 ?_; (case k1 => k_asm); (case k2 => k_mem); (case k3 => assumption)))) | ((with_reducible show wpAny _ _ (compareOp CmpOp.NotIn (Value.str _ _) (Value.ref _)) _ _ _); (k_dflt (refine kdg_notin (knd := PySem.strKind _ _) (by k_asm) (by k_mem) (by k_asm) (by k_asm) (strKind_is _ _ _ _) _ (by assumption) ?_); (try dsimp only [Bool.not_true, Bool.not_false])))) | ((with_reducible show wpAny _ _ (exec _ _) _ _ _); first | ((with_reducible show wpAny _ _ (exec (Stmt.While (PySem.Expr.Compare ..) _ _ _) _) _ _ _); (refine while_start ?_)) | ((with_reducible show wpAny _ _ (exec (Stmt.For (PySem.Expr.Name ..) (PySem.Expr.Subscript ..) _ [] _) _) _ _ _); walk_at "for0") | ((with_reducible show wpAny _ _ (exec (Stmt.For (PySem.Expr.Name ..) (PySem.Expr.Name ..) _ [] _) _) _ _ _); walk_at "for0")) | ((with_reducible show wpAny _ _ (getItem (Value.ref _) (Value.str _ _)) _ _ _); (k_dflt (refine kdt_getItem (knd := PySem.strKind _ _) (by k_asm) (by k_mem) (by k_asm) (strKind_is _ _ _ _) (by assumption) ?_))) | walk1 | (dsimp only; first | (k_unfold; (try dsimp only)) | walk1) | (leave1; (try dsimp only)) | fail "no step")
          refine TurnEnd.next ⟨rits6, nr6, fits6, nf6, ns6⟩ (by assumption) ?mis6 (by assumption) ?sub6 ap6 ⟨ns_same hN6 hstep hzn, dL6, dR6, dM6⟩
          (case mis6 => (repeat' (first | exact Mis.mix | (refine Mis.put rfl ?_) | (refine Mis.mixIn rfl ?_) | exact Mis.rfl')))
          (case sub6 => (walk_at "sub"))
        · have hb : (!decide (z ∈ ns6)) = true := by simp [hzn]
          repeat' (first | ((fail_if_success (fail_if_success k_unfold)); first | refine (?_ : wpAny _ _ (execs _ _) _ _ _) | (k_unfold; (try dsimp only))) | ((first | (with_reducible show wpAny _ _ (execs _ _) _ _ _) | (with_reducible show wpAny _ _ (exec _ _) _ _ _)); first | ((fail_if_success k_fold); refine wpAny_tok ?_; intro tk0) | ((fail_if_success (fail_if_success k_fold)); refine (let q0 := _; (?_ : wpAny _ _ _ q0 _ _)))) | ((with_reducible show wpAny _ _ (compareOp _ _ _) _ _ _); first | ((with_reducible show wpAny _ _ (compareOp CmpOp.NotEq (Value.ref _) (Value.ref _)) _ _ _); k_dflt (refine' ne_nil ?k1 ?k2 ?k3 ?k4 ?k5 ?k6 ?k7 ?_; (case k1 => k_asm); (case k2 => k_mem); (case k3 => k_mem); (case k4 => assumption); (case k5 => assumption); (case k6 => k_units); (case k7 => assumption))) | ((with_reducible show wpAny _ _ (compareOp CmpOp.NotIn (Value.str _ _) (Value.ref _)) _ _ _); k_dflt (first | (refine' notin_strsB ?k1 ?k2 ?k3 ?k4 ?_; (case k1 => k_asm); (case k2 => k_mem); (case k3 => assumption); (case k4 => assumption)) | (refine' notin_strs ?k1 ?k2 ?k3 ?_; (case k1 => k_asm); (case k2 => k_mem); (case k3 => assumption)))) | ((with_reducible show wpAny _ _ (compareOp CmpOp.NotIn (Value.str _ _) (Value.ref _)) _ _ _); (k_dflt (refine kdg_notin (knd := PySem.strKind _ _) (by k_asm) (by k_mem) (by k_asm) (by k_asm) (strKind_is _ _ _ _) _ (by assumption) ?_); (try dsimp only [Bool.not_true, Bool.not_false])))) | ((with_reducible show wpAny _ _ (exec _ _) _ _ _); first | ((with_reducible show wpAny _ _ (exec (Stmt.While (PySem.Expr.Compare ..) _ _ _) _) _ _ _); (refine while_start ?_)) | ((with_reducible show wpAny _ _ (exec (Stmt.For (PySem.Expr.Name ..) (PySem.Expr.Subscript ..) _ [] _) _) _ _ _); walk_at "for0") | ((with_reducible show wpAny _ _ (exec (Stmt.For (PySem.Expr.Name ..) (PySem.Expr.Name ..) _ [] _) _) _ _ _); walk_at "for0")) | ((with_reducible show wpAny _ _ (getItem (Value.ref _) (Value.str _ _)) _ _ _); (k_dflt (refine kdt_getItem (knd := PySem.strKind _ _) (by k_asm) (by k_mem) (by k_asm) (strKind_is _ _ _ _) (by assumption) ?_))) | walk1 | (dsimp only; first | (k_unfold; (try dsimp only)) | walk1) | (leave1; (try dsimp only)) | fail "no step")
          refine TurnEnd.next ⟨rits6 ++ [.str z tz], nr6 + 1, fits6 ++ [.str z tz], nf6 + 1, ns6 ++ [z]⟩ (by assumption) ?mis7 (by assumption) ?sub7 ?ap7 ⟨ns_step hN6 hstep hzn, dL6.trans (List.prefix_append _ _), StrsAre.snoc dR6 z tz, ?dr7⟩
          (case mis7 => (repeat' (first | exact Mis.mix | (refine Mis.put rfl ?_) | (refine Mis.mixIn rfl ?_) | exact Mis.rfl')))
          (case sub7 => (walk_at "sub"))
          (case ap7 => exact Apart.cons oR6 (Apart.cons oF6 Apart.nil))
          (case dr7 => rw [List.drop_append_of_le_length dL6.length_le]; exact StrsAre.snoc dM6 z tz))
      (case done3 =>
        intro c u7 h7 tk7 hP7 F7 N7 ap7
        obtain ⟨rits7, nr7, fits7, nf7, ns7⟩ := c
        obtain ⟨hN7, ⟨dL7, dR7, dM7⟩⟩ := hP7
        dsimp only at *
        simp only [List.cons_append, List.nil_append] at N7
        repeat' (first | ((fail_if_success (fail_if_success k_unfold)); first | refine (?_ : wpAny _ _ (execs _ _) _ _ _) | (k_unfold; (try dsimp only))) | ((first | (with_reducible show wpAny _ _ (execs _ _) _ _ _) | (with_reducible show wpAny _ _ (exec _ _) _ _ _)); first | ((fail_if_success k_fold); refine wpAny_tok ?_; intro tk0) | ((fail_if_success (fail_if_success k_fold)); refine (let q0 := _; (?_ : wpAny _ _ _ q0 _ _)))) | ((with_reducible show wpAny _ _ (compareOp _ _ _) _ _ _); first | ((with_reducible show wpAny _ _ (compareOp CmpOp.NotEq (Value.ref _) (Value.ref _)) _ _ _); k_dflt (refine' ne_nil ?k1 ?k2 ?k3 ?k4 ?k5 ?k6 ?k7 ?_; (case k1 => k_asm); (case k2 => k_mem); (case k3 => k_mem); (case k4 => assumption); (case k5 => assumption); (case k6 => k_units); (case k7 => assumption))) | ((with_reducible show wpAny _ _ (compareOp CmpOp.NotIn (Value.str _ _) (Value.ref _)) _ _ _); k_dflt (first | (refine' notin_strsB ?k1 ?k2 ?k3 ?k4 ?_; (case k1 => k_asm); (case k2 => k_mem); (case k3 => assumption); (case k4 => assumption)) | (refine' notin_strs ?k1 ?k2 ?k3 ?_; (case k1 => k_asm); (case k2 => k_mem); (case k3 => assumption)))) | ((with_reducible show wpAny _ _ (compareOp CmpOp.NotIn (Value.str _ _) (Value.ref _)) _ _ _); (k_dflt (refine kdg_notin (knd := PySem.strKind _ _) (by k_asm) (by k_mem) (by k_asm) (by k_asm) (strKind_is _ _ _ _) _ (by assumption) ?_); (try dsimp only [Bool.not_true, Bool.not_false])))) | ((with_reducible show wpAny _ _ (exec _ _) _ _ _); first | ((with_reducible show wpAny _ _ (exec (Stmt.While (PySem.Expr.Compare ..) _ _ _) _) _ _ _); (refine while_start ?_)) | ((with_reducible show wpAny _ _ (exec (Stmt.For (PySem.Expr.Name ..) (PySem.Expr.Subscript ..) _ [] _) _) _ _ _); walk_at "for0") | ((with_reducible show wpAny _ _ (exec (Stmt.For (PySem.Expr.Name ..) (PySem.Expr.Name ..) _ [] _) _) _ _ _); walk_at "for0")) | ((with_reducible show wpAny _ _ (getItem (Value.ref _) (Value.str _ _)) _ _ _); (k_dflt (refine kdt_getItem (knd := PySem.strKind _ _) (by k_asm) (by k_mem) (by k_asm) (strKind_is _ _ _ _) (by assumption) ?_))) | walk1 | (dsimp only; first | (k_unfold; (try dsimp only)) | walk1) | (leave1; (try dsimp only)) | fail "no step")
        have hall : (ups G y).take uits.toArray.size = ups G y := by rw [List.size_toArray, hS.length, List.take_length]
        rw [hall] at hN7
        refine TurnEnd.next ⟨rits7, nr7, fits7, nf7, ns7⟩ (by assumption) ?mis8 (by assumption) ?sub8 ap7 ⟨?go8, dL7, dR7, dM7⟩
        (case mis8 => (repeat' (first | exact Mis.mix | (refine Mis.put rfl ?_) | (refine Mis.mixIn rfl ?_) | exact Mis.rfl')))
        (case sub8 => (walk_at "sub"))
        (case go8 => dsimp only; rw [hN7]; exact dA4.step C hy4n)))
    (case done2 =>
      intro c u5 h5 tk5 hP5 F5 N5 ap5
      obtain ⟨rits5, nr5, fits5, nf5, ns5⟩ := c
      obtain ⟨dA5, ⟨dL5, dR5, dM5⟩⟩ := hP5
      dsimp only at *
      simp only [List.cons_append, List.nil_append] at N5
      repeat' (first | ((fail_if_success (fail_if_success k_unfold)); first | refine (?_ : wpAny _ _ (execs _ _) _ _ _) | (k_unfold; (try dsimp only))) | ((first | (with_reducible show wpAny _ _ (execs _ _) _ _ _) | (with_reducible show wpAny _ _ (exec _ _) _ _ _)); first | ((fail_if_success k_fold); refine wpAny_tok ?_; intro tk0) | ((fail_if_success (fail_if_success k_fold)); refine (let q0 := _; (?_ : wpAny _ _ _ q0 _ _)))) | ((with_reducible show wpAny _ _ (compareOp _ _ _) _ _ _); first | ((with_reducible show wpAny _ _ (compareOp CmpOp.NotEq (Value.ref _) (Value.ref _)) _ _ _); k_dflt (refine' ne_nil ?k1 ?k2 ?k3 ?k4 ?k5 ?k6 ?k7 ?_; (case k1 => k_asm); (case k2 => k_mem); (case k3 => k_mem); (case k4 => assumption); (case k5 => assumption); (case k6 => k_units); (case k7 => assumption))) | ((with_reducible show wpAny _ _ (compareOp CmpOp.NotIn (Value.str _ _) (Value.ref _)) _ _ _); k_dflt (first | (refine' notin_strsB ?k1 ?k2 ?k3 ?k4 ?_; (case k1 => k_asm); (case k2 => k_mem); (case k3 => assumption); (case k4 => assumption)) | (refine' notin_strs ?k1 ?k2 ?k3 ?_; (case k1 => k_asm); (case k2 => k_mem); (case k3 => assumption)))) | ((with_reducible show wpAny _ _ (compareOp CmpOp.NotIn (Value.str _ _) (Value.ref _)) _ _ _); (k_dflt (refine kdg_notin (knd := PySem.strKind _ _) (by k_asm) (by k_mem) (by k_asm) (by k_asm) (strKind_is _ _ _ _) _ (by assumption) ?_); (try dsimp only [Bool.not_true, Bool.not_false])))) | ((with_reducible show wpAny _ _ (exec _ _) _ _ _); first | ((with_reducible show wpAny _ _ (exec (Stmt.While (PySem.Expr.Compare ..) _ _ _) _) _ _ _); (refine while_start ?_)) | ((with_reducible show wpAny _ _ (exec (Stmt.For (PySem.Expr.Name ..) (PySem.Expr.Subscript ..) _ [] _) _) _ _ _); walk_at "for0") | ((with_reducible show wpAny _ _ (exec (Stmt.For (PySem.Expr.Name ..) (PySem.Expr.Name ..) _ [] _) _) _ _ _); walk_at "for0")) | ((with_reducible show wpAny _ _ (getItem (Value.ref _) (Value.str _ _)) _ _ _); (k_dflt (refine kdt_getItem (knd := PySem.strKind _ _) (by k_asm) (by k_mem) (by k_asm) (strKind_is _ _ _ _) (by assumption) ?_))) | walk1 | (dsimp only; first | (k_unfold; (try dsimp only)) | walk1) | (leave1; (try dsimp only)) | fail "no step")
      have hsz : i + eits.toArray.size = ns.length := by rw [List.size_toArray, hle2, List.length_drop]; omega
      rw [hsz] at dA5
      have hl9 := dL5.length_le
      refine TurnEnd.next ⟨rits5, nr5, Fu, fits5, nf5, ns5, ns.length⟩ (by assumption) ?mis9 (by assumption) ?sub9 ?ap9 ⟨⟨dA5, hl9, dR5, dM5, hFR⟩, ?mu9⟩
      (case mis9 =>
        intro y hy
        obtain ⟨q1, q2, q3⟩ := out3 hy
        have h2 : ([Str.ofString "one", Str.ofString "up"] : List Str).contains y = false := by simp [q2, q3]
        by_cases q4 : y = Str.ofString "edge"
        · simp only [if_pos q4]
        · simp only [if_neg q4, mix_out h2, if_neg q1, mix_out hy])
      (case sub9 => (walk_at "sub"))
      (case ap9 => exact ap5.sub (fun _ h => h) (fun _ h => .tail _ h))
      (case mu9 => dsimp only; omega))
  · have hne : (!decide (ns.drop i = [])) = false := by simp; omega
    repeat' (first | ((fail_if_success (fail_if_success k_unfold)); first | refine (?_ : wpAny _ _ (execs _ _) _ _ _) | (k_unfold; (try dsimp only))) | ((first | (with_reducible show wpAny _ _ (execs _ _) _ _ _) | (with_reducible show wpAny _ _ (exec _ _) _ _ _)); first | ((fail_if_success k_fold); refine wpAny_tok ?_; intro tk0) | ((fail_if_success (fail_if_success k_fold)); refine (let q0 := _; (?_ : wpAny _ _ _ q0 _ _)))) | ((with_reducible show wpAny _ _ (compareOp _ _ _) _ _ _); first | ((with_reducible show wpAny _ _ (compareOp CmpOp.NotEq (Value.ref _) (Value.ref _)) _ _ _); k_dflt (refine' ne_nil ?k1 ?k2 ?k3 ?k4 ?k5 ?k6 ?k7 ?_; (case k1 => k_asm); (case k2 => k_mem); (case k3 => k_mem); (case k4 => assumption); (case k5 => assumption); (case k6 => k_units); (case k7 => assumption))) | ((with_reducible show wpAny _ _ (compareOp CmpOp.NotIn (Value.str _ _) (Value.ref _)) _ _ _); k_dflt (first | (refine' notin_strsB ?k1 ?k2 ?k3 ?k4 ?_; (case k1 => k_asm); (case k2 => k_mem); (case k3 => assumption); (case k4 => assumption)) | (refine' notin_strs ?k1 ?k2 ?k3 ?_; (case k1 => k_asm); (case k2 => k_mem); (case k3 => assumption)))) | ((with_reducible show wpAny _ _ (compareOp CmpOp.NotIn (Value.str _ _) (Value.ref _)) _ _ _); (k_dflt (refine kdg_notin (knd := PySem.strKind _ _) (by k_asm) (by k_mem) (by k_asm) (by k_asm) (strKind_is _ _ _ _) _ (by assumption) ?_); (try dsimp only [Bool.not_true, Bool.not_false])))) | ((with_reducible show wpAny _ _ (exec _ _) _ _ _); first | ((with_reducible show wpAny _ _ (exec (Stmt.While (PySem.Expr.Compare ..) _ _ _) _) _ _ _); (refine while_start ?_)) | ((with_reducible show wpAny _ _ (exec (Stmt.For (PySem.Expr.Name ..) (PySem.Expr.Subscript ..) _ [] _) _) _ _ _); walk_at "for0") | ((with_reducible show wpAny _ _ (exec (Stmt.For (PySem.Expr.Name ..) (PySem.Expr.Name ..) _ [] _) _) _ _ _); walk_at "for0")) | ((with_reducible show wpAny _ _ (getItem (Value.ref _) (Value.str _ _)) _ _ _); (k_dflt (refine kdt_getItem (knd := PySem.strKind _ _) (by k_asm) (by k_mem) (by k_asm) (strKind_is _ _ _ _) (by assumption) ?_))) | walk1 | (dsimp only; first | (k_unfold; (try dsimp only)) | walk1) | (leave1; (try dsimp only)) | fail "no step")
    have hrow : ns = rowOf G nm := dA.done hi
    refine Fin.mk ((R, listOf rits.toArray nr) :: led) (by assumption) (by assumption) ?sub99 ⟨R, rits, nr, rfl, rfl, hrow ▸ dR⟩
    (case sub99 => (walk_at "sub"))
end

-- C_cls
section
local macro_rules | `(tactic| k_get) => `(tactic| first | with_reducible assumption | exact putL_get (by with_reducible assumption))

set_option maxHeartbeats 8000000 in
theorem c_class_s4 (w : World) {mean : ExcName → Option Value} {mg mb : Str → Option Value} (led : List (Addr × Obj)) (v dv : Addr) (es : List DictEntry) (ne : Nat) (nm : Str) (tk1 tn : Tok) (hk : getL (Str.ofString "kind") es = some (some (.str (Str.ofString "S4") tk1))) (hn : getL (Str.ofString "name") es = some (some (.str nm tn))) (ha : getL (Str.ofString "attrs") es = some (some .none)) (m1 : (v, instObj 191 dv) ∈ led) (m2 : (dv, dictOf es ne) ∈ led) :
  Tells1 PySem.Challenge.rw_pq1424_01.row.prog w (Mine.kAt w.params) Mine.viewQ (looseW Mine.viewQ [Str.ofString "match_names", Str.ofString "take"]) mean mg mb 70 [.ref v] [] 6 led (RowPost led [nm]) := by
  k_fill
  refine' tells1_enter (binds := [(Str.ofString "v", .ref v)]) ?k6 ?k7 ?kr ?k9 ?kB ?c2 ?c3 ?c4 ?c5 ?_
  (case k6 => k_is)
  (case k7 => k_is)
  (case kr => decide)
  (case k9 => intro s hX; first | exact BindsTo.of_eq rfl | exact binds_K (by k_in) rfl (by k_is) rfl rfl rfl)
  (case kB => exact locs rfl)
  (case c2 => exact rfl)
  (case c3 => exact rfl)
  (case c4 => exact rfl)
  (case c5 => decide)
  intro dp un gd cn cs a ccd cl outer base g L L' h₁ s tk hd hu F' N' B' X' T'
  (try dsimp only)
  (try k_fold)
  refine (let A1 := _; (?_ : wpAny _ A1 _ _ _ _))
  repeat' (first | ((fail_if_success (fail_if_success k_unfold)); first | refine (?_ : wpAny _ _ (execs _ _) _ _ _) | (k_unfold; (try dsimp only))) | ((first | (with_reducible show wpAny _ _ (execs _ _) _ _ _) | (with_reducible show wpAny _ _ (exec _ _) _ _ _)); first | ((fail_if_success k_fold); refine wpAny_tok ?_; intro tk0) | ((fail_if_success (fail_if_success k_fold)); refine (let q0 := _; (?_ : wpAny _ _ _ q0 _ _)))) |  walk1 | (dsimp only; first | (k_unfold; (try dsimp only)) | walk1) | (leave1; (try dsimp only)) | fail "no step")
  refine' Fin.mk ?o (by assumption) (by assumption) ?sub ⟨?l, ?its, ?n, rfl, rfl, .cons _ _ .nil⟩
  (case sub => (walk_at "sub"))
set_option maxHeartbeats 8000000 in
theorem c_class_int (w : World) {mean : ExcName → Option Value} {mg mb : Str → Option Value} (led : List (Addr × Obj)) (v dv : Addr) (es : List DictEntry) (ne : Nat) (tk1 : Tok) (hk : getL (Str.ofString "kind") es = some (some (.str (Str.ofString "integer") tk1))) (ha : getL (Str.ofString "attrs") es = some (some .none)) (m1 : (v, instObj 127 dv) ∈ led) (m2 : (dv, dictOf es ne) ∈ led) :
  Tells1 PySem.Challenge.rw_pq1424_01.row.prog w (Mine.kAt w.params) Mine.viewQ (looseW Mine.viewQ [Str.ofString "match_names", Str.ofString "take"]) mean mg mb 70 [.ref v] [] 6 led (RowPost led [Str.ofString "integer"]) := by
  k_fill
  refine' tells1_enter (binds := [(Str.ofString "v", .ref v)]) ?k6 ?k7 ?kr ?k9 ?kB ?c2 ?c3 ?c4 ?c5 ?_
  (case k6 => k_is)
  (case k7 => k_is)
  (case kr => decide)
  (case k9 => intro s hX; first | exact BindsTo.of_eq rfl | exact binds_K (by k_in) rfl (by k_is) rfl rfl rfl)
  (case kB => exact locs rfl)
  (case c2 => exact rfl)
  (case c3 => exact rfl)
  (case c4 => exact rfl)
  (case c5 => decide)
  intro dp un gd cn cs a ccd cl outer base g L L' h₁ s tk hd hu F' N' B' X' T'
  (try dsimp only)
  (try k_fold)
  refine (let A1 := _; (?_ : wpAny _ A1 _ _ _ _))
  repeat' (first | ((fail_if_success (fail_if_success k_unfold)); first | refine (?_ : wpAny _ _ (execs _ _) _ _ _) | (k_unfold; (try dsimp only))) | ((first | (with_reducible show wpAny _ _ (execs _ _) _ _ _) | (with_reducible show wpAny _ _ (exec _ _) _ _ _)); first | ((fail_if_success k_fold); refine wpAny_tok ?_; intro tk0) | ((fail_if_success (fail_if_success k_fold)); refine (let q0 := _; (?_ : wpAny _ _ _ q0 _ _)))) |  walk1 | (dsimp only; first | (k_unfold; (try dsimp only)) | walk1) | (leave1; (try dsimp only)) | fail "no step")
  refine' Fin.mk ?o (by assumption) (by assumption) ?sub ⟨?l, ?its, ?n, rfl, rfl, .cons _ _ .nil⟩
  (case sub => (walk_at "sub"))
end

-- C_clsat
section
local macro_rules | `(tactic| walk_at "pad0") => `(tactic| fail "pad")
local macro_rules | `(tactic| k_get) => `(tactic| first | with_reducible assumption | exact putL_get (by with_reducible assumption))

set_option maxHeartbeats 8000000 in
theorem c_class_at (w : World) {mean : ExcName → Option Value} {mg mb : Str → Option Value} (led : List (Addr × Obj)) (v dv ad cv dcv wl : Addr) (oad : Obj) (es es2 : List DictEntry) (ne ne2 nw : Nat) (tk1 : Tok) (its : List Value) (row : List Str) (hk : getL (Str.ofString "kind") es = some (some (.str (Str.ofString "integer") tk1))) (ha : getL (Str.ofString "attrs") es = some (some (.ref ad)))
  (hi : getL (Str.ofString "items") es2 = some (some (.ref wl))) (hD : oad.IsDictOf (PySem.strKind PySem.Challenge.rw_pq1424_01.row.prog w) [(Str.ofString "class", .ref cv)]) (lD : (ad == sysModules) = false) (hS : StrsAre its row) (h0 : 0 < its.length) (h1 : its.length ≤ 64) (m1 : (v, instObj 127 dv) ∈ led) (m2 : (dv, dictOf es ne) ∈ led) (m3 : (ad, oad) ∈ led) (m4 : (cv, instObj 127 dcv) ∈ led) (m5 : (dcv, dictOf es2 ne2) ∈ led) (m6 : (wl, listOf its.toArray nw) ∈ led) :
  Tells1 PySem.Challenge.rw_pq1424_01.row.prog w (Mine.kAt w.params) Mine.viewQ (looseW Mine.viewQ [Str.ofString "match_names", Str.ofString "take"]) mean mg mb 70 [.ref v] [] 6 led
    (RowPost led row) := by
  have hb : valueAt [(Str.ofString "class", Value.ref cv)] (Str.ofString "class") = some (.ref cv) := rfl
  k_fill
  refine' tells1_enter (binds := [(Str.ofString "v", .ref v)]) ?k6 ?k7 ?kr ?k9 ?kB ?c2 ?c3 ?c4 ?c5 ?_
  (case k6 => k_is)
  (case k7 => k_is)
  (case kr => decide)
  (case k9 => intro s hX; first | exact BindsTo.of_eq rfl | exact binds_K (by k_in) rfl (by k_is) rfl rfl rfl)
  (case kB => exact locs rfl)
  (case c2 => exact rfl)
  (case c3 => exact rfl)
  (case c4 => exact rfl)
  (case c5 => decide)
  intro dp un gd cn cs a ccd cl outer base g L L' h₁ s tk hd hu F' N' B' X' T'
  (try dsimp only)
  (try k_fold)
  refine (let A1 := _; (?_ : wpAny _ A1 _ _ _ _))
  repeat' (first | ((fail_if_success (fail_if_success k_unfold)); first | refine (?_ : wpAny _ _ (execs _ _) _ _ _) | (k_unfold; (try dsimp only))) | ((first | (with_reducible show wpAny _ _ (execs _ _) _ _ _) | (with_reducible show wpAny _ _ (exec _ _) _ _ _)); first | ((fail_if_success k_fold); refine wpAny_tok ?_; intro tk0) | ((fail_if_success (fail_if_success k_fold)); refine (let q0 := _; (?_ : wpAny _ _ _ q0 _ _)))) | ((with_reducible show wpAny _ _ (call _ _ _) _ _ _); first | ((with_reducible show wpAny _ _ (call (Value.builtin "dict.get") _ _) _ _ _); (k_dflt (refine kdg_get1 (knd := PySem.strKind _ _) (by k_asm) (by k_mem) (by k_asm) (by k_asm) (strKind_is _ _ _ _) _ (by assumption) ?_); (try dsimp only [Option.getD]))) | ((with_reducible show wpAny _ _ (call (Value.type _) [Value.ref _]) _ _ _); k_dflt (refine' list_copyM ?k1 ?k2 ?k3 ?z ?_; (case k1 => k_asm); (case k2 => k_asm); (case k3 => k_mem); (case z => (rw [sizeLine_eq]; (try simp only [List.size_toArray]); omega))); intro _ _ _ F' N' l1; (try k_lt l1); (try k_sweep))) | ((with_reducible show wpAny _ _ (getMethod (Value.ref _) (Str.ofString "get") _) _ _ _); k_dflt (refine kdg_method (knd := PySem.strKind _ _) (by k_asm) (by k_mem) (by k_asm) ?_)) | walk1 | (dsimp only; first | (k_unfold; (try dsimp only)) | walk1) | (leave1; (try dsimp only)) | fail "no step")
  refine' Fin.mk ?o (by assumption) (by assumption) ?sub ⟨?l, ?its, ?n, rfl, rfl, hS⟩
  (case sub => (walk_at "sub"))
end

-- C_all
section
local macro_rules | `(tactic| walk_at "pad0") => `(tactic| fail "pad")
local macro_rules | `(tactic| walk_at "pad1") => `(tactic| fail "pad")
local macro_rules | `(tactic| k_get) => `(tactic| first | with_reducible assumption | exact putL_get (by with_reducible assumption))


section
set_option maxHeartbeats 8000000 in
theorem c_all_none (w : World) {mean : ExcName → Option Value} {mg mb : Str → Option Value} (led : List (Addr × Obj)) (v dv : Addr) (es : List DictEntry) (ne : Nat) (tk1 : Tok) (row : List Str) (hk : getL (Str.ofString "kind") es = some (some (.str (Str.ofString "S4") tk1))) (m1 : (v, instObj 191 dv) ∈ led) (m2 : (dv, dictOf es ne) ∈ led)
  (hC : Tells1 PySem.Challenge.rw_pq1424_01.row.prog w (Mine.kAt w.params) Mine.viewQ (looseW Mine.viewQ [Str.ofString "match_names", Str.ofString "take"]) mean mg mb 70 [.ref v] [] 6 led (RowPost led row)) (hr : row.length ≤ 64) : Tells1 PySem.Challenge.rw_pq1424_01.row.prog w (Mine.kAt w.params) Mine.viewQ (looseW Mine.viewQ [Str.ofString "match_names", Str.ofString "take"]) mean mg mb 364 [.none, .ref v] [] 12 led (RowPost led row) := by
  k_fill
  refine' tells1_enter (binds := [(Str.ofString "interp", .none), (Str.ofString "v", .ref v)]) ?k6 ?k7 ?kr ?k9 ?kB ?c2 ?c3 ?c4 ?c5 ?_
  (case k6 => k_is)
  (case k7 => k_is)
  (case kr => decide)
  (case k9 => intro s hX; first | exact BindsTo.of_eq rfl | exact binds_K (by k_in) rfl (by k_is) rfl rfl rfl)
  (case kB => exact locs rfl)
  (case c2 => exact rfl)
  (case c3 => exact rfl)
  (case c4 => exact rfl)
  (case c5 => decide)
  intro dp un gd cn cs a ccd cl outer base g L L' h₁ s tk hd hu F' N' B' X' T'
  (try dsimp only)
  (try k_fold)
  refine (let A1 := _; (?_ : wpAny _ A1 _ _ _ _))
  repeat' (first | ((fail_if_success (fail_if_success k_unfold)); first | refine (?_ : wpAny _ _ (execs _ _) _ _ _) | (k_unfold; (try dsimp only))) | ((first | (with_reducible show wpAny _ _ (execs _ _) _ _ _) | (with_reducible show wpAny _ _ (exec _ _) _ _ _)); first | ((fail_if_success k_fold); refine wpAny_tok ?_; intro tk0) | ((fail_if_success (fail_if_success k_fold)); refine (let q0 := _; (?_ : wpAny _ _ _ q0 _ _)))) | ((with_reducible show wpAny _ _ (call (Value.type _) [Value.ref _]) _ _ _); k_dflt (refine' list_copyM ?k1 ?k2 ?k3 ?z ?_; (case k1 => k_asm); (case k2 => k_asm); (case k3 => k_mem); (case z => (rw [sizeLine_eq]; (try simp only [List.size_toArray]); omega))); intro _ _ _ F' N' l1; (try k_lt l1); (try k_sweep)) | walk1 | (dsimp only; first | (k_unfold; (try dsimp only)) | walk1) | (leave1; (try dsimp only)) | fail "no step")
  (refine' callAt_useN ?N ?C ?B ?F ?X ?T ?hk ?hd ?hu ?_; (case B => k_asm); (case F => k_asm); (case X => k_asm); (case N => k_asm); (case T => k_asm); (case hk => exact rfl); (case C => exact (hC)); (case hd => k_room); (case hu => k_units))
  refine el3R ?_
  intro l its n hS h3 tk3 F3 N3
  have hl := hS.length
  dsimp only
  repeat' (first | ((fail_if_success (fail_if_success k_unfold)); first | refine (?_ : wpAny _ _ (execs _ _) _ _ _) | (k_unfold; (try dsimp only))) | ((first | (with_reducible show wpAny _ _ (execs _ _) _ _ _) | (with_reducible show wpAny _ _ (exec _ _) _ _ _)); first | ((fail_if_success k_fold); refine wpAny_tok ?_; intro tk0) | ((fail_if_success (fail_if_success k_fold)); refine (let q0 := _; (?_ : wpAny _ _ _ q0 _ _)))) | ((with_reducible show wpAny _ _ (call (Value.type _) [Value.ref _]) _ _ _); k_dflt (refine' list_copyM ?k1 ?k2 ?k3 ?z ?_; (case k1 => k_asm); (case k2 => k_asm); (case k3 => k_mem); (case z => (rw [sizeLine_eq]; (try simp only [List.size_toArray]); omega))); intro _ _ _ F' N' l1; (try k_lt l1); (try k_sweep)) | walk1 | (dsimp only; first | (k_unfold; (try dsimp only)) | walk1) | (leave1; (try dsimp only)) | fail "no step")
  refine' Fin.mk ?o (by assumption) (by assumption) ?sub ⟨?l, ?its, ?n, rfl, rfl, hS⟩
  (case sub => (walk_at "sub"))
set_option maxHeartbeats 8000000 in
theorem c_all_vec (w : World) {mean : ExcName → Option Value} {mg mb : Str → Option Value} (led : List (Addr × Obj)) (iv : Value) (v dv : Addr) (es : List DictEntry) (ne : Nat) (tk1 : Tok) (row : List Str) (hk : getL (Str.ofString "kind") es = some (some (.str (Str.ofString "integer") tk1))) (m1 : (v, instObj 127 dv) ∈ led) (m2 : (dv, dictOf es ne) ∈ led)
  (hC : Tells1 PySem.Challenge.rw_pq1424_01.row.prog w (Mine.kAt w.params) Mine.viewQ (looseW Mine.viewQ [Str.ofString "match_names", Str.ofString "take"]) mean mg mb 70 [.ref v] [] 6 led (RowPost led row)) (hr : row.length ≤ 64) : Tells1 PySem.Challenge.rw_pq1424_01.row.prog w (Mine.kAt w.params) Mine.viewQ (looseW Mine.viewQ [Str.ofString "match_names", Str.ofString "take"]) mean mg mb 364 [iv, .ref v] [] 12 led (RowPost led row) := by
  k_fill
  refine' tells1_enter (binds := [(Str.ofString "interp", iv), (Str.ofString "v", .ref v)]) ?k6 ?k7 ?kr ?k9 ?kB ?c2 ?c3 ?c4 ?c5 ?_
  (case k6 => k_is)
  (case k7 => k_is)
  (case kr => decide)
  (case k9 => intro s hX; first | exact BindsTo.of_eq rfl | exact binds_K (by k_in) rfl (by k_is) rfl rfl rfl)
  (case kB => exact locs rfl)
  (case c2 => exact rfl)
  (case c3 => exact rfl)
  (case c4 => exact rfl)
  (case c5 => decide)
  intro dp un gd cn cs a ccd cl outer base g L L' h₁ s tk hd hu F' N' B' X' T'
  (try dsimp only)
  (try k_fold)
  refine (let A1 := _; (?_ : wpAny _ A1 _ _ _ _))
  repeat' (first | ((fail_if_success (fail_if_success k_unfold)); first | refine (?_ : wpAny _ _ (execs _ _) _ _ _) | (k_unfold; (try dsimp only))) | ((first | (with_reducible show wpAny _ _ (execs _ _) _ _ _) | (with_reducible show wpAny _ _ (exec _ _) _ _ _)); first | ((fail_if_success k_fold); refine wpAny_tok ?_; intro tk0) | ((fail_if_success (fail_if_success k_fold)); refine (let q0 := _; (?_ : wpAny _ _ _ q0 _ _)))) | ((with_reducible show wpAny _ _ (call (Value.type _) [Value.ref _]) _ _ _); k_dflt (refine' list_copyM ?k1 ?k2 ?k3 ?z ?_; (case k1 => k_asm); (case k2 => k_asm); (case k3 => k_mem); (case z => (rw [sizeLine_eq]; (try simp only [List.size_toArray]); omega))); intro _ _ _ F' N' l1; (try k_lt l1); (try k_sweep)) | walk1 | (dsimp only; first | (k_unfold; (try dsimp only)) | walk1) | (leave1; (try dsimp only)) | fail "no step")
  (refine' callAt_useN ?N ?C ?B ?F ?X ?T ?hk ?hd ?hu ?_; (case B => k_asm); (case F => k_asm); (case X => k_asm); (case N => k_asm); (case T => k_asm); (case hk => exact rfl); (case C => exact (hC)); (case hd => k_room); (case hu => k_units))
  refine el3R ?_
  intro l its n hS h3 tk3 F3 N3
  have hl := hS.length
  dsimp only
  repeat' (first | ((fail_if_success (fail_if_success k_unfold)); first | refine (?_ : wpAny _ _ (execs _ _) _ _ _) | (k_unfold; (try dsimp only))) | ((first | (with_reducible show wpAny _ _ (execs _ _) _ _ _) | (with_reducible show wpAny _ _ (exec _ _) _ _ _)); first | ((fail_if_success k_fold); refine wpAny_tok ?_; intro tk0) | ((fail_if_success (fail_if_success k_fold)); refine (let q0 := _; (?_ : wpAny _ _ _ q0 _ _)))) | ((with_reducible show wpAny _ _ (call (Value.type _) [Value.ref _]) _ _ _); k_dflt (refine' list_copyM ?k1 ?k2 ?k3 ?z ?_; (case k1 => k_asm); (case k2 => k_asm); (case k3 => k_mem); (case z => (rw [sizeLine_eq]; (try simp only [List.size_toArray]); omega))); intro _ _ _ F' N' l1; (try k_lt l1); (try k_sweep)) | walk1 | (dsimp only; first | (k_unfold; (try dsimp only)) | walk1) | (leave1; (try dsimp only)) | fail "no step")
  refine' Fin.mk ?o (by assumption) (by assumption) ?sub ⟨?l, ?its, ?n, rfl, rfl, hS⟩
  (case sub => (walk_at "sub"))
end
end

-- C_alls4
section
local macro_rules | `(tactic| walk_at "pad0") => `(tactic| fail "pad")
local macro_rules | `(tactic| walk_at "pad1") => `(tactic| fail "pad")
local macro_rules | `(tactic| walk_at "pad2") => `(tactic| fail "pad")
local macro_rules | `(tactic| k_get) => `(tactic| first | with_reducible assumption | exact putL_get (by with_reducible assumption))


structure AlSt where
  cits : List Value
  nc : Nat
set_option maxHeartbeats 8000000 in
theorem c_all_s4 (w : World) {mean : ExcName → Option Value} {mg mb : Str → Option Value} (t dt D U : Addr) (h1 h2 : Int) (t1 t2 : Tok) (oD oU : Obj) (kvs : List (Str × Value)) (gl : List (Addr × Obj)) (G : List (Str × List Str)) (hD : oD.IsDictOf (PySem.strKind PySem.Challenge.rw_pq1424_01.row.prog w) kvs) (hU : oU.IsDictOf (PySem.strKind PySem.Challenge.rw_pq1424_01.row.prog w) []) (lD : (D == sysModules) = false) (lU : (U == sysModules) = false) (hT : Tab gl kvs G) (C : Closed G) (hk : (keys G).length ≤ 6) (hA : Str.ofString "ANY" ∉ keys G) (hup : ∀ x, (ups G x).length ≤ 64) (it di S dS v dv : Addr) (esI esS es : List DictEntry) (nI nS ne : Nat) (nm : Str) (tk1 tn : Tok) (hx : nm ∈ keys G)
  (hI : getL (Str.ofString "s4") esI = some (some (.ref S))) (hSt : getL (Str.ofString "classes") esS = some (some (.ref t)))
  (hkd : getL (Str.ofString "kind") es = some (some (.str (Str.ofString "S4") tk1))) (hnm : getL (Str.ofString "name") es = some (some (.str nm tn)))
  (m1 : (it, instObj 575 di) ∈ gl) (m2 : (di, dictOf esI nI) ∈ gl) (m3 : (S, instObj 813 dS) ∈ gl) (m4 : (dS, dictOf esS nS) ∈ gl) (m5 : (v, instObj 191 dv) ∈ gl) (m6 : (dv, dictOf es ne) ∈ gl)
  (hC : Tells1 PySem.Challenge.rw_pq1424_01.row.prog w (Mine.kAt w.params) Mine.viewQ (looseW Mine.viewQ [Str.ofString "match_names", Str.ofString "take"]) mean mg mb 70 [.ref v] [] 6 (tabLed t dt D U h1 h2 t1 t2 oD oU ++ gl) (RowPost (tabLed t dt D U h1 h2 t1 t2 oD oU ++ gl) [nm])) : Tells1 PySem.Challenge.rw_pq1424_01.row.prog w (Mine.kAt w.params) Mine.viewQ (looseW Mine.viewQ [Str.ofString "match_names", Str.ofString "take"]) mean mg mb 364 [.ref it, .ref v] [] 12 (tabLed t dt D U h1 h2 t1 t2 oD oU ++ gl) (RowPost (tabLed t dt D U h1 h2 t1 t2 oD oU ++ gl) (rowOf G nm)) := by
  k_fill
  refine' tells1_enter (binds := [(Str.ofString "interp", .ref it), (Str.ofString "v", .ref v)]) ?k6 ?k7 ?kr ?k9 ?kB ?c2 ?c3 ?c4 ?c5 ?_
  (case k6 => k_is)
  (case k7 => k_is)
  (case kr => decide)
  (case k9 => intro s hX; first | exact BindsTo.of_eq rfl | exact binds_K (by k_in) rfl (by k_is) rfl rfl rfl)
  (case kB => exact locs rfl)
  (case c2 => exact rfl)
  (case c3 => exact rfl)
  (case c4 => exact rfl)
  (case c5 => decide)
  intro dp un gd cn cs a ccd cl outer base g L L' h₁ s tk hd hu F' N' B' X' T'
  (try dsimp only)
  (try k_fold)
  refine (let A1 := _; (?_ : wpAny _ A1 _ _ _ _))
  repeat' (first | ((fail_if_success (fail_if_success k_unfold)); first | refine (?_ : wpAny _ _ (execs _ _) _ _ _) | (k_unfold; (try dsimp only))) | ((first | (with_reducible show wpAny _ _ (execs _ _) _ _ _) | (with_reducible show wpAny _ _ (exec _ _) _ _ _)); first | ((fail_if_success k_fold); refine wpAny_tok ?_; intro tk0) | ((fail_if_success (fail_if_success k_fold)); refine (let q0 := _; (?_ : wpAny _ _ _ q0 _ _)))) | ((with_reducible show wpAny _ _ (exec (Stmt.For (PySem.Expr.Tuple ..) (PySem.Expr.Call ..) _ [] _) _) _ _ _); walk_at "for0") | ((with_reducible show wpAny _ _ (compareOp _ _ _) _ _ _); first | ((with_reducible show wpAny _ _ (compareOp CmpOp.NotIn (Value.str _ _) (Value.ref _)) _ _ _); k_dflt (first | (refine' notin_strsB ?k1 ?k2 ?k3 ?k4 ?_; (case k1 => k_asm); (case k2 => k_mem); (case k3 => assumption); (case k4 => assumption)) | (refine' notin_strs ?k1 ?k2 ?k3 ?_; (case k1 => k_asm); (case k2 => k_mem); (case k3 => assumption)))) | ((with_reducible show wpAny _ _ (compareOp CmpOp.NotIn (Value.str _ _) (Value.ref _)) _ _ _); (k_dflt (refine kdg_notin (knd := PySem.strKind _ _) (by k_asm) (by k_mem) (by k_asm) (by k_asm) (strKind_is _ _ _ _) _ (by assumption) ?_); (try dsimp only [Bool.not_true, Bool.not_false])))) | ((with_reducible show wpAny _ _ (getMethod (Value.ref _) (Str.ofString "get") _) _ _ _); k_dflt (refine kdg_method (knd := PySem.strKind _ _) (by k_asm) (by k_mem) (by k_asm) ?_)) | ((with_reducible show wpAny _ _ (call (Value.type _) [Value.ref _]) _ _ _); k_dflt (refine' list_copyM ?k1 ?k2 ?k3 ?z ?_; (case k1 => k_asm); (case k2 => k_asm); (case k3 => k_mem); (case z => (rw [sizeLine_eq]; (try simp only [List.size_toArray]); omega))); intro _ _ _ F' N' l1; (try k_lt l1); (try k_sweep)) | walk1 | (dsimp only; first | (k_unfold; (try dsimp only)) | walk1) | (leave1; (try dsimp only)) | fail "no step")
  (refine' callAt_useN ?N ?C ?B ?F ?X ?T ?hk ?hd ?hu ?_; (case B => k_asm); (case F => k_asm); (case X => k_asm); (case N => k_asm); (case T => k_asm); (case hk => exact rfl); (case C => exact (hC)); (case hd => k_room); (case hu => k_units))
  refine el3R ?_
  intro l its n hS h3 tk3 F3 N3
  have hl := hS.length
  simp only [List.cons_append, List.nil_append] at N3
  dsimp only
  repeat' (first | ((fail_if_success (fail_if_success k_unfold)); first | refine (?_ : wpAny _ _ (execs _ _) _ _ _) | (k_unfold; (try dsimp only))) | ((first | (with_reducible show wpAny _ _ (execs _ _) _ _ _) | (with_reducible show wpAny _ _ (exec _ _) _ _ _)); first | ((fail_if_success k_fold); refine wpAny_tok ?_; intro tk0) | ((fail_if_success (fail_if_success k_fold)); refine (let q0 := _; (?_ : wpAny _ _ _ q0 _ _)))) | ((with_reducible show wpAny _ _ (exec (Stmt.For (PySem.Expr.Tuple ..) (PySem.Expr.Call ..) _ [] _) _) _ _ _); walk_at "for0") | ((with_reducible show wpAny _ _ (compareOp _ _ _) _ _ _); first | ((with_reducible show wpAny _ _ (compareOp CmpOp.NotIn (Value.str _ _) (Value.ref _)) _ _ _); k_dflt (first | (refine' notin_strsB ?k1 ?k2 ?k3 ?k4 ?_; (case k1 => k_asm); (case k2 => k_mem); (case k3 => assumption); (case k4 => assumption)) | (refine' notin_strs ?k1 ?k2 ?k3 ?_; (case k1 => k_asm); (case k2 => k_mem); (case k3 => assumption)))) | ((with_reducible show wpAny _ _ (compareOp CmpOp.NotIn (Value.str _ _) (Value.ref _)) _ _ _); (k_dflt (refine kdg_notin (knd := PySem.strKind _ _) (by k_asm) (by k_mem) (by k_asm) (by k_asm) (strKind_is _ _ _ _) _ (by assumption) ?_); (try dsimp only [Bool.not_true, Bool.not_false])))) | ((with_reducible show wpAny _ _ (getMethod (Value.ref _) (Str.ofString "get") _) _ _ _); k_dflt (refine kdg_method (knd := PySem.strKind _ _) (by k_asm) (by k_mem) (by k_asm) ?_)) | ((with_reducible show wpAny _ _ (call (Value.type _) [Value.ref _]) _ _ _); k_dflt (refine' list_copyM ?k1 ?k2 ?k3 ?z ?_; (case k1 => k_asm); (case k2 => k_asm); (case k3 => k_mem); (case z => (rw [sizeLine_eq]; (try simp only [List.size_toArray]); omega))); intro _ _ _ F' N' l1; (try k_lt l1); (try k_sweep)) | walk1 | (dsimp only; first | (k_unfold; (try dsimp only)) | walk1) | (leave1; (try dsimp only)) | fail "no step")
  rename News _ _ _ _ => N4
  rename_i Dc _ _ _ _ _ _ _
  (refine' callAt_use (c_supers w t dt D U h1 h2 t1 t2 oD oU kvs gl nm tn G hD hU lD lU hT C hk hA hup hx) ([(Dc, _)]) ?B ?F ?X ?N ?T ?hk ?hin ?off ?hd ?hu ?_; (case B => k_asm); (case F => k_asm); (case X => k_asm); (case N => k_asm); (case T => k_asm); (case hk => exact rfl); (case hin => (walk_at "sub")); (case off => (refine Apart.symm ?_; (repeat' (first | assumption | exact Apart.nil | exact Apart.nilR | (refine Apart.cons ?_ ?_) | (refine Apart.app ?_ ?_) | (refine Apart.symm ?_; assumption) | ((refine Off.of_lt (by assumption) ?_; (walk_at "sub")); done) | k_all)))); (case hd => k_room); (case hu => k_units))
  refine el4R ?_
  intro l2 its2 n2 tups hR h5 tk5 F5 N5 ap5
  simp only [List.cons_append, List.append_assoc, List.nil_append] at N5
  dsimp only
  have oDc := ap5.symm.off (.head _)
  have hrl := rowOf_len C hx
  have hcons := rowOf_cons C hx
  have hnd := rowOf_nodup C hx
  rw [hcons] at hnd
  have hw : ∀ z ∈ (rowOf G nm).tail, z ∈ keys G := fun z hz => rowOf_within C hx (List.mem_of_mem_tail hz)
  have htl : (rowOf G nm).tail.length ≤ (rowOf G nm).length := by simp
  generalize (rowOf G nm).tail = tl at hcons hnd hw htl hR
  have hlR := hR.length
  have hss : ∃ vx, its = [vx] ∧ StrsAre [vx] [nm] := by
    cases hS with
    | cons y t h => cases h; exact ⟨_, rfl, .cons _ _ .nil⟩
  obtain ⟨vx, rfl, hS1⟩ := hss
  refine' for_listC (σ := AlSt) (nn := n2) (items := its2.toArray) (fun c => [(Dc, listOf c.cits.toArray c.nc)]) [Str.ofString "name", Str.ofString "steps"] (fun j c => StrsAre c.cits (nm :: tl.take j)) ((l2, listOf its2.toArray n2) :: (tups ++ (tabLed t dt D U h1 h2 t1 t2 oD oU ++ gl))) ⟨[vx], _⟩ rfl PassesOwn.never (.inr ⟨⟨_, _, _, rfl⟩, fun i v hv => hR.allRef i v (by simpa using hv)⟩) F5 N5 ?hin2 ?ap2 (.inr fun _ => ?hl2) ?h02 ?turn2 ?done2
  (case hin2 => (walk_at "sub"))
  (case ap2 => exact Apart.cons oDc Apart.nil)
  (case hl2 => exact List.mem_append_right _ (.head _))
  (case h02 => exact hS1)
  (case turn2 =>
    intro j v c u4 I oI h4 tk4 hj hP F4 N4 ap4
    (try refine (let q0 := _; (?_ : wpAny _ _ _ q0 _ _)))
    obtain ⟨cits, nc⟩ := c
    obtain ⟨a1, z, k1, s1, s2, rfl, hz, hm⟩ := hR.item (i := j) (v := v) (by simpa using hj)
    have oDc4 := ap4.off (.head _)
    dsimp only at *
    simp only [List.cons_append, List.nil_append] at N4
    have hlP := StrsAre.length hP
    rw [List.length_cons, List.length_take] at hlP
    rcases Nat.lt_or_ge j tl.length with hjl | hjl
    · have hzt : tl[j]? = some z := by rw [List.getElem?_append_left hjl] at hz; exact hz
      have hzA : (z != Str.ofString "ANY") = true := by
        have : z ≠ Str.ofString "ANY" := fun e => hA (e ▸ hw z (List.mem_of_getElem? hzt))
        simpa using this
      have hzn : (!decide (z ∈ nm :: tl.take j)) = true := by
        have hlt := (List.getElem?_eq_some_iff.mp hzt)
        obtain ⟨q1, q2⟩ := hlt
        simp only [Bool.not_eq_true', decide_eq_false_iff_not, List.mem_cons, not_or]
        refine ⟨fun e => (List.nodup_cons.mp hnd).1 (e ▸ List.mem_of_getElem? hzt), fun hmem => ?_⟩
        obtain ⟨i, hi, e⟩ := List.getElem_of_mem hmem
        rw [List.getElem_take, ← q2] at e
        rw [List.length_take] at hi
        have := (List.getElem_inj (List.nodup_cons.mp hnd).2).mp e
        omega
      repeat' (first | ((fail_if_success (fail_if_success k_unfold)); first | refine (?_ : wpAny _ _ (execs _ _) _ _ _) | (k_unfold; (try dsimp only))) | ((first | (with_reducible show wpAny _ _ (execs _ _) _ _ _) | (with_reducible show wpAny _ _ (exec _ _) _ _ _)); first | ((fail_if_success k_fold); refine wpAny_tok ?_; intro tk0) | ((fail_if_success (fail_if_success k_fold)); refine (let q0 := _; (?_ : wpAny _ _ _ q0 _ _)))) | ((with_reducible show wpAny _ _ (exec (Stmt.For (PySem.Expr.Tuple ..) (PySem.Expr.Call ..) _ [] _) _) _ _ _); walk_at "for0") | ((with_reducible show wpAny _ _ (compareOp _ _ _) _ _ _); first | ((with_reducible show wpAny _ _ (compareOp CmpOp.NotIn (Value.str _ _) (Value.ref _)) _ _ _); k_dflt (first | (refine' notin_strsB ?k1 ?k2 ?k3 ?k4 ?_; (case k1 => k_asm); (case k2 => k_mem); (case k3 => assumption); (case k4 => assumption)) | (refine' notin_strs ?k1 ?k2 ?k3 ?_; (case k1 => k_asm); (case k2 => k_mem); (case k3 => assumption)))) | ((with_reducible show wpAny _ _ (compareOp CmpOp.NotIn (Value.str _ _) (Value.ref _)) _ _ _); (k_dflt (refine kdg_notin (knd := PySem.strKind _ _) (by k_asm) (by k_mem) (by k_asm) (by k_asm) (strKind_is _ _ _ _) _ (by assumption) ?_); (try dsimp only [Bool.not_true, Bool.not_false])))) | ((with_reducible show wpAny _ _ (getMethod (Value.ref _) (Str.ofString "get") _) _ _ _); k_dflt (refine kdg_method (knd := PySem.strKind _ _) (by k_asm) (by k_mem) (by k_asm) ?_)) | ((with_reducible show wpAny _ _ (call (Value.type _) [Value.ref _]) _ _ _); k_dflt (refine' list_copyM ?k1 ?k2 ?k3 ?z ?_; (case k1 => k_asm); (case k2 => k_asm); (case k3 => k_mem); (case z => (rw [sizeLine_eq]; (try simp only [List.size_toArray]); omega))); intro _ _ _ F' N' l1; (try k_lt l1); (try k_sweep)) | walk1 | (dsimp only; first | (k_unfold; (try dsimp only)) | walk1) | (leave1; (try dsimp only)) | fail "no step")
      refine' TurnEnd.next ⟨cits ++ [.str z s1], nc + 1⟩ (by assumption) ?mis4 (by assumption) ?sub4 ?ap4 ?p4
      (case mis4 => (repeat' (first | exact Mis.mix | (refine Mis.put rfl ?_) | (refine Mis.mixIn rfl ?_) | exact Mis.rfl')))
      (case sub4 => (walk_at "sub"))
      (case ap4 => exact Apart.cons oDc4 Apart.nil)
      (case p4 =>
        have : tl.take (j + 1) = tl.take j ++ [z] := by rw [List.take_add_one, hzt]; rfl
        rw [this]
        exact StrsAre.snoc hP z s1)
    · have hzA0 : z = Str.ofString "ANY" := by
        rw [List.getElem?_append_right hjl] at hz
        have := List.mem_of_getElem? hz
        exact List.mem_singleton.mp this
      subst hzA0
      have hzA : (Str.ofString "ANY" != Str.ofString "ANY") = false := by simp
      repeat' (first | ((fail_if_success (fail_if_success k_unfold)); first | refine (?_ : wpAny _ _ (execs _ _) _ _ _) | (k_unfold; (try dsimp only))) | ((first | (with_reducible show wpAny _ _ (execs _ _) _ _ _) | (with_reducible show wpAny _ _ (exec _ _) _ _ _)); first | ((fail_if_success k_fold); refine wpAny_tok ?_; intro tk0) | ((fail_if_success (fail_if_success k_fold)); refine (let q0 := _; (?_ : wpAny _ _ _ q0 _ _)))) | ((with_reducible show wpAny _ _ (exec (Stmt.For (PySem.Expr.Tuple ..) (PySem.Expr.Call ..) _ [] _) _) _ _ _); walk_at "for0") | ((with_reducible show wpAny _ _ (compareOp _ _ _) _ _ _); first | ((with_reducible show wpAny _ _ (compareOp CmpOp.NotIn (Value.str _ _) (Value.ref _)) _ _ _); k_dflt (first | (refine' notin_strsB ?k1 ?k2 ?k3 ?k4 ?_; (case k1 => k_asm); (case k2 => k_mem); (case k3 => assumption); (case k4 => assumption)) | (refine' notin_strs ?k1 ?k2 ?k3 ?_; (case k1 => k_asm); (case k2 => k_mem); (case k3 => assumption)))) | ((with_reducible show wpAny _ _ (compareOp CmpOp.NotIn (Value.str _ _) (Value.ref _)) _ _ _); (k_dflt (refine kdg_notin (knd := PySem.strKind _ _) (by k_asm) (by k_mem) (by k_asm) (by k_asm) (strKind_is _ _ _ _) _ (by assumption) ?_); (try dsimp only [Bool.not_true, Bool.not_false])))) | ((with_reducible show wpAny _ _ (getMethod (Value.ref _) (Str.ofString "get") _) _ _ _); k_dflt (refine kdg_method (knd := PySem.strKind _ _) (by k_asm) (by k_mem) (by k_asm) ?_)) | ((with_reducible show wpAny _ _ (call (Value.type _) [Value.ref _]) _ _ _); k_dflt (refine' list_copyM ?k1 ?k2 ?k3 ?z ?_; (case k1 => k_asm); (case k2 => k_asm); (case k3 => k_mem); (case z => (rw [sizeLine_eq]; (try simp only [List.size_toArray]); omega))); intro _ _ _ F' N' l1; (try k_lt l1); (try k_sweep)) | walk1 | (dsimp only; first | (k_unfold; (try dsimp only)) | walk1) | (leave1; (try dsimp only)) | fail "no step")
      refine' TurnEnd.next ⟨cits, nc⟩ (by assumption) ?mis4 (by assumption) ?sub4 ap4 ?p4
      (case mis4 => (repeat' (first | exact Mis.mix | (refine Mis.put rfl ?_) | (refine Mis.mixIn rfl ?_) | exact Mis.rfl')))
      (case sub4 => (walk_at "sub"))
      (case p4 =>
        rw [List.take_of_length_le (Nat.le_succ_of_le hjl)]
        rw [List.take_of_length_le hjl] at hP
        exact hP))
  (case done2 =>
    intro c u7 h7 tk7 hP7 F7 N7 ap7
    obtain ⟨cits, nc⟩ := c
    dsimp only at *
    simp only [List.cons_append, List.nil_append] at N7
    repeat' (first | ((fail_if_success (fail_if_success k_unfold)); first | refine (?_ : wpAny _ _ (execs _ _) _ _ _) | (k_unfold; (try dsimp only))) | ((first | (with_reducible show wpAny _ _ (execs _ _) _ _ _) | (with_reducible show wpAny _ _ (exec _ _) _ _ _)); first | ((fail_if_success k_fold); refine wpAny_tok ?_; intro tk0) | ((fail_if_success (fail_if_success k_fold)); refine (let q0 := _; (?_ : wpAny _ _ _ q0 _ _)))) | ((with_reducible show wpAny _ _ (exec (Stmt.For (PySem.Expr.Tuple ..) (PySem.Expr.Call ..) _ [] _) _) _ _ _); walk_at "for0") | ((with_reducible show wpAny _ _ (compareOp _ _ _) _ _ _); first | ((with_reducible show wpAny _ _ (compareOp CmpOp.NotIn (Value.str _ _) (Value.ref _)) _ _ _); k_dflt (first | (refine' notin_strsB ?k1 ?k2 ?k3 ?k4 ?_; (case k1 => k_asm); (case k2 => k_mem); (case k3 => assumption); (case k4 => assumption)) | (refine' notin_strs ?k1 ?k2 ?k3 ?_; (case k1 => k_asm); (case k2 => k_mem); (case k3 => assumption)))) | ((with_reducible show wpAny _ _ (compareOp CmpOp.NotIn (Value.str _ _) (Value.ref _)) _ _ _); (k_dflt (refine kdg_notin (knd := PySem.strKind _ _) (by k_asm) (by k_mem) (by k_asm) (by k_asm) (strKind_is _ _ _ _) _ (by assumption) ?_); (try dsimp only [Bool.not_true, Bool.not_false])))) | ((with_reducible show wpAny _ _ (getMethod (Value.ref _) (Str.ofString "get") _) _ _ _); k_dflt (refine kdg_method (knd := PySem.strKind _ _) (by k_asm) (by k_mem) (by k_asm) ?_)) | ((with_reducible show wpAny _ _ (call (Value.type _) [Value.ref _]) _ _ _); k_dflt (refine' list_copyM ?k1 ?k2 ?k3 ?z ?_; (case k1 => k_asm); (case k2 => k_asm); (case k3 => k_mem); (case z => (rw [sizeLine_eq]; (try simp only [List.size_toArray]); omega))); intro _ _ _ F' N' l1; (try k_lt l1); (try k_sweep)) | walk1 | (dsimp only; first | (k_unfold; (try dsimp only)) | walk1) | (leave1; (try dsimp only)) | fail "no step")
    have hall : tl.take its2.toArray.size = tl := by rw [List.take_of_length_le]; rw [List.size_toArray, hlR]; simp
    rw [hall, ← hcons] at hP7
    refine Fin.mk ((Dc, listOf cits.toArray nc) :: (tabLed t dt D U h1 h2 t1 t2 oD oU ++ gl)) (by assumption) (by assumption) ?sub5 ⟨Dc, cits, nc, rfl, rfl, hP7⟩
    (case sub5 => (walk_at "sub")))
end

-- C_s4
section
local macro_rules | `(tactic| walk_at "pad0") => `(tactic| fail "pad")
local macro_rules | `(tactic| walk_at "pad1") => `(tactic| fail "pad")
local macro_rules | `(tactic| walk_at "pad2") => `(tactic| fail "pad")
local macro_rules | `(tactic| walk_at "pad3") => `(tactic| fail "pad")
local macro_rules | `(tactic| k_get) => `(tactic| first | with_reducible assumption | exact putL_get (by with_reducible assumption))

set_option maxHeartbeats 8000000 in
theorem c_s4_next (w : World) {mean : ExcName → Option Value} {mg mb : Str → Option Value} (led : List (Addr × Obj)) (it di S : Addr) (esI : List DictEntry) (nI : Nat) (hI : getL (Str.ofString "s4") esI = some (some (.ref S))) (m1 : (it, instObj 575 di) ∈ led) (m2 : (di, dictOf esI nI) ∈ led) :
  Tells1 PySem.Challenge.rw_pq1424_01.row.prog w (Mine.kAt w.params) Mine.viewQ (looseW Mine.viewQ [Str.ofString "match_names", Str.ofString "take"]) mean mg mb 824 [.ref it] [] 4 led (fun r out => r = .ref S ∧ out = led) := by
  k_fill
  refine' tells1_enter (binds := [(Str.ofString "interp", .ref it)]) ?k6 ?k7 ?kr ?k9 ?kB ?c2 ?c3 ?c4 ?c5 ?_
  (case k6 => k_is)
  (case k7 => k_is)
  (case kr => decide)
  (case k9 => intro s hX; first | exact BindsTo.of_eq rfl | exact binds_K (by k_in) rfl (by k_is) rfl rfl rfl)
  (case kB => exact locs rfl)
  (case c2 => exact rfl)
  (case c3 => exact rfl)
  (case c4 => exact rfl)
  (case c5 => decide)
  intro dp un gd cn cs a ccd cl outer base g L L' h₁ s tk hd hu F' N' B' X' T'
  (try dsimp only)
  (try k_fold)
  refine (let A1 := _; (?_ : wpAny _ A1 _ _ _ _))
  repeat' (first | ((fail_if_success (fail_if_success k_unfold)); first | refine (?_ : wpAny _ _ (execs _ _) _ _ _) | (k_unfold; (try dsimp only))) | ((first | (with_reducible show wpAny _ _ (execs _ _) _ _ _) | (with_reducible show wpAny _ _ (exec _ _) _ _ _)); first | ((fail_if_success k_fold); refine wpAny_tok ?_; intro tk0) | ((fail_if_success (fail_if_success k_fold)); refine (let q0 := _; (?_ : wpAny _ _ _ q0 _ _)))) |  walk1 | (dsimp only; first | (k_unfold; (try dsimp only)) | walk1) | (leave1; (try dsimp only)) | fail "no step")
  refine Fin.mk _ (by assumption) (by assumption) ?sub ⟨rfl, rfl⟩
  (case sub => (walk_at "sub"))
set_option maxHeartbeats 8000000 in
theorem c_s4_first (w : World) {mean : ExcName → Option Value} {mg mb : Str → Option Value} (it di : Addr) (esI : List DictEntry) (nI : Nat) (hI : getL (Str.ofString "s4") esI = some (some .none)) (hlI : esI.length ≤ 100) (hid : @Ne Nat it di) :
  Tells1 PySem.Challenge.rw_pq1424_01.row.prog w (Mine.kAt w.params) Mine.viewQ (looseW Mine.viewQ [Str.ofString "match_names", Str.ofString "take"]) mean mg mb 824 [.ref it] [] 4 [(it, instObj 575 di), (di, dictOf esI nI)]
   (fun r out => ∃ S dS t dt D U h1 h2 t1 t2 oD oU esI' nI' esS nS, r = .ref S ∧ out = (S, instObj 813 dS) :: (dS, dictOf esS nS) :: (it, instObj 575 di) :: (di, dictOf esI' nI') :: tabLed t dt D U h1 h2 t1 t2 oD oU ∧
     getL (Str.ofString "s4") esI' = some (some (.ref S)) ∧ getL (Str.ofString "classes") esS = some (some (.ref t)) ∧ oD.IsDictOf (PySem.strKind PySem.Challenge.rw_pq1424_01.row.prog w) [] ∧ oU.IsDictOf (PySem.strKind PySem.Challenge.rw_pq1424_01.row.prog w) [] ∧ (D == sysModules) = false ∧ (U == sysModules) = false ∧
     (∀ o, Off D [(S, o), (dS, o), (t, o), (dt, o), (U, o)] ∧ Off S [(t, o), (dt, o), (D, o), (U, o)] ∧ Off dS [(t, o), (dt, o), (D, o), (U, o)] ∧ Off it [(S, o), (dS, o), (t, o), (dt, o), (D, o), (U, o)] ∧ Off di [(S, o), (dS, o), (t, o), (dt, o), (D, o), (U, o)])) := by
  have hIs : (getL (Str.ofString "s4") esI).isSome = true := by rw [hI]; rfl
  k_fill
  refine' tells1_enter (binds := [(Str.ofString "interp", .ref it)]) ?k6 ?k7 ?kr ?k9 ?kB ?c2 ?c3 ?c4 ?c5 ?_
  (case k6 => k_is)
  (case k7 => k_is)
  (case kr => decide)
  (case k9 => intro s hX; first | exact BindsTo.of_eq rfl | exact binds_K (by k_in) rfl (by k_is) rfl rfl rfl)
  (case kB => exact locs rfl)
  (case c2 => exact rfl)
  (case c3 => exact rfl)
  (case c4 => exact rfl)
  (case c5 => decide)
  intro dp un gd cn cs a ccd cl outer base g L L' h₁ s tk hd hu F' N' B' X' T'
  (try dsimp only)
  (try k_fold)
  refine (let A1 := _; (?_ : wpAny _ A1 _ _ _ _))
  repeat' (first | ((fail_if_success (fail_if_success k_unfold)); first | refine (?_ : wpAny _ _ (execs _ _) _ _ _) | (k_unfold; (try dsimp only))) | ((first | (with_reducible show wpAny _ _ (execs _ _) _ _ _) | (with_reducible show wpAny _ _ (exec _ _) _ _ _)); first | ((fail_if_success k_fold); refine wpAny_tok ?_; intro tk0) | ((fail_if_success (fail_if_success k_fold)); refine (let q0 := _; (?_ : wpAny _ _ _ q0 _ _)))) | ((with_reducible show wpAny _ _ (setAttr _ (Str.ofString "s4") _) _ _ _); k_dflt (refine' set_dict ?k1 ?k2 ?k3 ?k4 ?k5 ?k6 ?k7 ?k8 ?k9 ?k10 ?k11 ?k12 ?k13 ?_; (case k1 => k_asm); (case k2 => k_asm); (case k3 => k_asm); (case k4 => k_inst); (case k5 => exact rfl); (case k6 => k_is); (case k7 => k_is); (case k8 => k_is); (case k9 => k_is); (case k10 => assumption); (case k11 => exact rfl); (case k12 => k_upd); (case k13 => exact putL_len (by assumption)); k_whole; intro _ F' N'; (try k_sweep))) | walk1 | (dsimp only; first | (k_unfold; (try dsimp only)) | walk1) | (leave1; (try dsimp only)) | fail "no step")
  rename News _ _ _ _ => N1
  rename_i S dS _ _ _ _ _ _ _ _ _ _ _ _ _ t dt _ _ _ _ _ _ _ _ _ _ _ _ _ D _ _ _ _ _ _ _ _ _ _ _ U _ _ _ _ _ _ _ _ _ _ _ _ _ _ _ _ _ M dM _ _ _ _ _ _ _ _ _ _ _ g1 _ _ _ _ _ _ _ _ _ _ _ _ _ _ _ _ _ _ _ _ _ _ _ _
  refine' Fin.mk ?o (by assumption) N1 ?sub ⟨S, dS, t, dt, D, U, ?h1, ?h2, ?t1, ?t2, ?oD, ?oU, ?esI, ?nI, ?esS, ?nS, rfl, rfl, ?p1, ?p2, ?p3, ?p4, ?p5, ?p6, ?p7⟩
  (case sub => (walk_at "sub"))
  (case p1 => k_get)
  (case p2 => rfl)
  (case p3 => assumption)
  (case p4 => assumption)
  (case p5 => assumption)
  (case p6 => assumption)
  (case p7 => exact fun o => ⟨by k_all, by k_all, by k_all, by k_all, by k_all⟩)
end

-- C_exact2
section
local macro_rules | `(tactic| walk_at "pad0") => `(tactic| fail "pad")
local macro_rules | `(tactic| walk_at "pad1") => `(tactic| fail "pad")
local macro_rules | `(tactic| walk_at "pad2") => `(tactic| fail "pad")
local macro_rules | `(tactic| walk_at "pad3") => `(tactic| fail "pad")
local macro_rules | `(tactic| walk_at "call builtin:len") => `(tactic| (k_here; (with_reducible show wpAny _ _ (call (Value.builtin "len") [Value.ref _]) _ _ _); k_dflt (first
  | (refine' len_0 ?k1 ?k2 ?_; (case k1 => k_asm); (case k2 => k_mem))
  | (refine' len_1 ?k1 ?k2 ?_; (case k1 => k_asm); (case k2 => k_mem))
  | (refine' len_2 ?k1 ?k2 ?_; (case k1 => k_asm); (case k2 => k_mem))
  | (refine' len_3 ?k1 ?k2 ?_; (case k1 => k_asm); (case k2 => k_mem)))))


set_option maxHeartbeats 8000000 in
theorem c_exact2 (w : World) {mean : ExcName → Option Value} {mg mb : Str → Option Value} (led : List (Addr × Obj)) (mo dm fl tl ul pd : Addr) (h1 h2 h3 h4 : Int) (t1 t2 t3 t4 : Tok) (nf nt : Nat) (tx tw ti : Tok)
  (m1 : (mo, instObj 280 dm) ∈ led) (m2 : (dm, matD h1 h2 h3 h4 t1 t2 t3 t4 fl tl ul pd) ∈ led) (m3 : (fl, formals tx tw ti nf) ∈ led) (m4 : (tl, listOf #[.none, .none] nt) ∈ led) :
  Tells1 PySem.Challenge.rw_pq1424_01.row.prog w (Mine.kAt w.params) Mine.viewQ (looseW Mine.viewQ [Str.ofString "match_names", Str.ofString "take"]) mean mg mb 244 [.ref mo] [] 3 led (fun r out => r = .none ∧ out = led) := by
  k_fill
  refine' tells1_enter (binds := [(Str.ofString "self", .ref mo)]) ?k6 ?k7 ?kr ?k9 ?kB ?c2 ?c3 ?c4 ?c5 ?_
  (case k6 => k_is)
  (case k7 => k_is)
  (case kr => decide)
  (case k9 => intro s hX; first | exact BindsTo.of_eq rfl | exact binds_K (by k_in) rfl (by k_is) rfl rfl rfl)
  (case kB => exact locs rfl)
  (case c2 => exact rfl)
  (case c3 => exact rfl)
  (case c4 => exact rfl)
  (case c5 => decide)
  intro dp un gd cn cs a ccd cl outer base g L L' h₁ s tk hd hu F' N' B' X' T'
  (try dsimp only)
  (try k_fold)
  refine (let A1 := _; (?_ : wpAny _ A1 _ _ _ _))
  repeat' (first | ((fail_if_success (fail_if_success k_unfold)); first | refine (?_ : wpAny _ _ (execs _ _) _ _ _) | (k_unfold; (try dsimp only))) | ((first | (with_reducible show wpAny _ _ (execs _ _) _ _ _) | (with_reducible show wpAny _ _ (exec _ _) _ _ _)); first | ((fail_if_success k_fold); refine wpAny_tok ?_; intro tk0) | ((fail_if_success (fail_if_success k_fold)); refine (let q0 := _; (?_ : wpAny _ _ _ q0 _ _)))) | ((with_reducible show wpAny _ _ (subscriptTail _ _ (Value.ref _) (Value.int _ _)) _ _ _); k_dflt (refine' item_at ?k1 ?k2 ?k3 ?k4 ?k5 ?_; (case k1 => k_asm); (case k2 => k_mem); (case k5 => first | assumption | exact rfl); (case k3 => first | omega | decide); (case k4 => first | omega | decide))) | ((with_reducible show wpAny _ _ (exec _ _) _ _ _); first | ((with_reducible show wpAny _ _ (exec (Stmt.For (PySem.Expr.Name ..) (PySem.Expr.Call ..) _ [] _) _) _ _ _); walk_at "for0") | ((with_reducible show wpAny _ _ (exec (Stmt.For (PySem.Expr.Name ..) (PySem.Expr.Attribute ..) _ [] _) _) _ _ _); walk_at "for0")) | walk1 | (dsimp only; first | (k_unfold; (try dsimp only)) | walk1) | (leave1; (try dsimp only)) | fail "no step")
  rename News _ _ _ _ => N1
  rename Fr _ _ _ _ => F1
  refine' for_listC (σ := Unit) (nn := nf) (items := #[.str (Str.ofString "x") tx, .str (Str.ofString "what") tw, .str (Str.ofString "which") ti]) (fun _ => []) [Str.ofString "name", Str.ofString "place"] (fun _ _ => True) led () rfl PassesOwn.never (.inl ⟨_, _, rfl⟩) F1 N1 ?hin Apart.nil (.inr fun _ => ?hl) trivial ?turn ?done
  (case hin => (walk_at "sub"))
  (case hl => k_mem)
  (case turn =>
    intro j v c u4 I oI h4 tk4 hj hP F4 N4 ap4
    (try refine (let q0 := _; (?_ : wpAny _ _ _ q0 _ _)))
    obtain ⟨nm, tn, rfl, hnm⟩ := formals_item hj
    simp only [List.nil_append] at N4
    repeat' (first | ((fail_if_success (fail_if_success k_unfold)); first | refine (?_ : wpAny _ _ (execs _ _) _ _ _) | (k_unfold; (try dsimp only))) | ((first | (with_reducible show wpAny _ _ (execs _ _) _ _ _) | (with_reducible show wpAny _ _ (exec _ _) _ _ _)); first | ((fail_if_success k_fold); refine wpAny_tok ?_; intro tk0) | ((fail_if_success (fail_if_success k_fold)); refine (let q0 := _; (?_ : wpAny _ _ _ q0 _ _)))) | ((with_reducible show wpAny _ _ (subscriptTail _ _ (Value.ref _) (Value.int _ _)) _ _ _); k_dflt (refine' item_at ?k1 ?k2 ?k3 ?k4 ?k5 ?_; (case k1 => k_asm); (case k2 => k_mem); (case k5 => first | assumption | exact rfl); (case k3 => first | omega | decide); (case k4 => first | omega | decide))) | ((with_reducible show wpAny _ _ (exec _ _) _ _ _); first | ((with_reducible show wpAny _ _ (exec (Stmt.For (PySem.Expr.Name ..) (PySem.Expr.Call ..) _ [] _) _) _ _ _); walk_at "for0") | ((with_reducible show wpAny _ _ (exec (Stmt.For (PySem.Expr.Name ..) (PySem.Expr.Attribute ..) _ [] _) _) _ _ _); walk_at "for0")) | walk1 | (dsimp only; first | (k_unfold; (try dsimp only)) | walk1) | (leave1; (try dsimp only)) | fail "no step")
    rename News _ _ _ _ => N5
    rename Fr _ _ _ _ => F5
    refine' for_range (σ := Unit) (n := 2) (fun _ => []) (fun _ => _) [Str.ofString "place"] (fun _ _ => True) ((I, oI) :: led) () rfl PassesOwn.never (by assumption) (by decide) (by decide) F5 N5 ?hin2 Apart.nil Mis.rfl' trivial ?turn2 ?done2
    (case hin2 => (walk_at "sub"))
    (case turn2 =>
      intro i t9 c u6 I6 oI6 h6 tk6 hi6 hP6 F6 N6 ap6
      (try refine (let q0 := _; (?_ : wpAny _ _ _ q0 _ _)))
      have hx : ([Value.none, Value.none] : List Value)[((0 : Int) + (i : Nat)).toNat]? = some .none := by
        rcases i with _ | _ | i
        · rfl
        · rfl
        · omega
      simp only [List.nil_append] at N6
      repeat' (first | ((fail_if_success (fail_if_success k_unfold)); first | refine (?_ : wpAny _ _ (execs _ _) _ _ _) | (k_unfold; (try dsimp only))) | ((first | (with_reducible show wpAny _ _ (execs _ _) _ _ _) | (with_reducible show wpAny _ _ (exec _ _) _ _ _)); first | ((fail_if_success k_fold); refine wpAny_tok ?_; intro tk0) | ((fail_if_success (fail_if_success k_fold)); refine (let q0 := _; (?_ : wpAny _ _ _ q0 _ _)))) | ((with_reducible show wpAny _ _ (subscriptTail _ _ (Value.ref _) (Value.int _ _)) _ _ _); k_dflt (refine' item_at ?k1 ?k2 ?k3 ?k4 ?k5 ?_; (case k1 => k_asm); (case k2 => k_mem); (case k5 => first | assumption | exact rfl); (case k3 => first | omega | decide); (case k4 => first | omega | decide))) | ((with_reducible show wpAny _ _ (exec _ _) _ _ _); first | ((with_reducible show wpAny _ _ (exec (Stmt.For (PySem.Expr.Name ..) (PySem.Expr.Call ..) _ [] _) _) _ _ _); walk_at "for0") | ((with_reducible show wpAny _ _ (exec (Stmt.For (PySem.Expr.Name ..) (PySem.Expr.Attribute ..) _ [] _) _) _ _ _); walk_at "for0")) | walk1 | (dsimp only; first | (k_unfold; (try dsimp only)) | walk1) | (leave1; (try dsimp only)) | fail "no step")
      refine TurnEnd.next () (by assumption) ?mis6 (by assumption) ?sub6 Apart.nil trivial
      (case mis6 => (repeat' (first | exact Mis.mix | (refine Mis.put rfl ?_) | (refine Mis.mixIn rfl ?_) | exact Mis.rfl')))
      (case sub6 => (walk_at "sub")))
    (case done2 =>
      intro c u7 h7 tk7 hP7 F7 N7 ap7
      simp only [List.nil_append] at N7
      repeat' (first | ((fail_if_success (fail_if_success k_unfold)); first | refine (?_ : wpAny _ _ (execs _ _) _ _ _) | (k_unfold; (try dsimp only))) | ((first | (with_reducible show wpAny _ _ (execs _ _) _ _ _) | (with_reducible show wpAny _ _ (exec _ _) _ _ _)); first | ((fail_if_success k_fold); refine wpAny_tok ?_; intro tk0) | ((fail_if_success (fail_if_success k_fold)); refine (let q0 := _; (?_ : wpAny _ _ _ q0 _ _)))) | ((with_reducible show wpAny _ _ (subscriptTail _ _ (Value.ref _) (Value.int _ _)) _ _ _); k_dflt (refine' item_at ?k1 ?k2 ?k3 ?k4 ?k5 ?_; (case k1 => k_asm); (case k2 => k_mem); (case k5 => first | assumption | exact rfl); (case k3 => first | omega | decide); (case k4 => first | omega | decide))) | ((with_reducible show wpAny _ _ (exec _ _) _ _ _); first | ((with_reducible show wpAny _ _ (exec (Stmt.For (PySem.Expr.Name ..) (PySem.Expr.Call ..) _ [] _) _) _ _ _); walk_at "for0") | ((with_reducible show wpAny _ _ (exec (Stmt.For (PySem.Expr.Name ..) (PySem.Expr.Attribute ..) _ [] _) _) _ _ _); walk_at "for0")) | walk1 | (dsimp only; first | (k_unfold; (try dsimp only)) | walk1) | (leave1; (try dsimp only)) | fail "no step")
      refine TurnEnd.next () (by assumption) ?mis7 (by assumption) ?sub7 Apart.nil trivial
      (case mis7 => (repeat' (first | exact Mis.mix | (refine Mis.put rfl ?_) | (refine Mis.mixIn rfl ?_) | exact Mis.rfl')))
      (case sub7 => (walk_at "sub"))))
  (case done =>
    intro c u5 h5 tk5 hP5 F5 N5 ap5
    simp only [List.nil_append] at N5
    repeat' (first | ((fail_if_success (fail_if_success k_unfold)); first | refine (?_ : wpAny _ _ (execs _ _) _ _ _) | (k_unfold; (try dsimp only))) | ((first | (with_reducible show wpAny _ _ (execs _ _) _ _ _) | (with_reducible show wpAny _ _ (exec _ _) _ _ _)); first | ((fail_if_success k_fold); refine wpAny_tok ?_; intro tk0) | ((fail_if_success (fail_if_success k_fold)); refine (let q0 := _; (?_ : wpAny _ _ _ q0 _ _)))) | ((with_reducible show wpAny _ _ (subscriptTail _ _ (Value.ref _) (Value.int _ _)) _ _ _); k_dflt (refine' item_at ?k1 ?k2 ?k3 ?k4 ?k5 ?_; (case k1 => k_asm); (case k2 => k_mem); (case k5 => first | assumption | exact rfl); (case k3 => first | omega | decide); (case k4 => first | omega | decide))) | ((with_reducible show wpAny _ _ (exec _ _) _ _ _); first | ((with_reducible show wpAny _ _ (exec (Stmt.For (PySem.Expr.Name ..) (PySem.Expr.Call ..) _ [] _) _) _ _ _); walk_at "for0") | ((with_reducible show wpAny _ _ (exec (Stmt.For (PySem.Expr.Name ..) (PySem.Expr.Attribute ..) _ [] _) _) _ _ _); walk_at "for0")) | walk1 | (dsimp only; first | (k_unfold; (try dsimp only)) | walk1) | (leave1; (try dsimp only)) | fail "no step")
    refine Fin.mk led (by assumption) (by assumption) ?sub8 ⟨rfl, rfl⟩
    (case sub8 => (walk_at "sub")))
end

-- C_exact3
section
local macro_rules | `(tactic| walk_at "call builtin:len") => `(tactic| (k_here; (with_reducible show wpAny _ _ (call (Value.builtin "len") [Value.ref _]) _ _ _); k_dflt (first
  | (refine' len_0 ?k1 ?k2 ?_; (case k1 => k_asm); (case k2 => k_mem))
  | (refine' len_1 ?k1 ?k2 ?_; (case k1 => k_asm); (case k2 => k_mem))
  | (refine' len_2 ?k1 ?k2 ?_; (case k1 => k_asm); (case k2 => k_mem))
  | (refine' len_3 ?k1 ?k2 ?_; (case k1 => k_asm); (case k2 => k_mem)))))


set_option maxHeartbeats 8000000 in
theorem c_exact3 (w : World) {mean : ExcName → Option Value} {mg mb : Str → Option Value} (led : List (Addr × Obj)) (mo dm fl tl ul pd : Addr) (h1 h2 h3 h4 : Int) (t1 t2 t3 t4 : Tok) (nf nt nu : Nat) (tx tw ti tt ta tb tc : Tok) (oP : Obj)
  (m1 : (mo, instObj 280 dm) ∈ led) (m2 : (dm, matD h1 h2 h3 h4 t1 t2 t3 t4 fl tl ul pd) ∈ led) (m3 : (fl, formals tx tw ti nf) ∈ led) (m4 : (tl, listOf #[.none, .none, .str (Str.ofString "which") tt] nt) ∈ led)
  (hP : oP.IsDictOf (PySem.strKind PySem.Challenge.rw_pq1424_01.row.prog w) []) (lP : (pd == sysModules) = false) (hup : @Ne Nat ul pd) (hul : Off ul led) (hpl : Off pd led) :
  Tells1 PySem.Challenge.rw_pq1424_01.row.prog w (Mine.kAt w.params) Mine.viewQ (looseW Mine.viewQ [Str.ofString "match_names", Str.ofString "take"]) mean mg mb 244 [.ref mo] [] 3 ((ul, listOf #[.int 0 ta, .int 0 tb, .int 0 tc] nu) :: (pd, oP) :: led)
   (fun r out => r = .none ∧ ∃ oP' t5 t6, oP'.IsDictOf (PySem.strKind PySem.Challenge.rw_pq1424_01.row.prog w) [(Str.ofString "which", .int 2 t5)] ∧ out = (ul, listOf #[.int 0 ta, .int 0 tb, .int 2 t6] nu) :: (pd, oP') :: led) := by
  have hb0 : (valueAt ([] : List (Str × Value)) (Str.ofString "which")).isSome = false := rfl
  k_fill
  refine' tells1_enter (binds := [(Str.ofString "self", .ref mo)]) ?k6 ?k7 ?kr ?k9 ?kB ?c2 ?c3 ?c4 ?c5 ?_
  (case k6 => k_is)
  (case k7 => k_is)
  (case kr => decide)
  (case k9 => intro s hX; first | exact BindsTo.of_eq rfl | exact binds_K (by k_in) rfl (by k_is) rfl rfl rfl)
  (case kB => exact locs rfl)
  (case c2 => exact rfl)
  (case c3 => exact rfl)
  (case c4 => exact rfl)
  (case c5 => decide)
  intro dp un gd cn cs a ccd cl outer base g L L' h₁ s tk hd hu F' N' B' X' T'
  (try dsimp only)
  (try k_fold)
  refine (let A1 := _; (?_ : wpAny _ A1 _ _ _ _))
  repeat' (first | ((fail_if_success (fail_if_success k_unfold)); first | refine (?_ : wpAny _ _ (execs _ _) _ _ _) | (k_unfold; (try dsimp only))) | ((first | (with_reducible show wpAny _ _ (execs _ _) _ _ _) | (with_reducible show wpAny _ _ (exec _ _) _ _ _)); first | ((fail_if_success k_fold); refine wpAny_tok ?_; intro tk0) | ((fail_if_success (fail_if_success k_fold)); refine (let q0 := _; (?_ : wpAny _ _ _ q0 _ _)))) | ((with_reducible show wpAny _ _ (subscriptTail _ _ (Value.ref _) (Value.int _ _)) _ _ _); k_dflt (refine' item_at ?k1 ?k2 ?k3 ?k4 ?k5 ?_; (case k1 => k_asm); (case k2 => k_mem); (case k5 => first | assumption | exact rfl); (case k3 => first | omega | decide); (case k4 => first | omega | decide))) | ((with_reducible show wpAny _ _ (exec _ _) _ _ _); first | ((with_reducible show wpAny _ _ (exec (Stmt.For (PySem.Expr.Name ..) (PySem.Expr.Call ..) _ [] _) _) _ _ _); walk_at "for0") | ((with_reducible show wpAny _ _ (exec (Stmt.For (PySem.Expr.Name ..) (PySem.Expr.Attribute ..) _ [] _) _) _ _ _); walk_at "for0")) | ((with_reducible show wpAny _ _ (compareOp CmpOp.In (Value.str _ _) (Value.ref _)) _ _ _); (k_dflt (refine kda_in (knd := PySem.strKind _ _) (by k_asm) (by k_mem) (by k_asm) (by k_asm) (strKind_is _ _ _ _) _ (by assumption) ?_))) | ((with_reducible show wpAny _ _ (setItem (Value.ref _) (Value.int _ _) _) _ _ _); k_dflt (refine' list_set ?k1 ?k2 ?k3 ?k4 ?k5 ?k6 ?k7 ?_; (case k1 => k_asm); (case k2 => k_asm); (case k3 => decide); (case k4 => decide); (case k6 => exact rfl); (case k7 => k_upd); (case k5 => decide)); intro _ F' N'; (try k_sweep)) | walk1 | (dsimp only; first | (k_unfold; (try dsimp only)) | walk1) | (leave1; (try dsimp only)) | fail "no step")
  rename News _ _ _ _ => N1
  rename Fr _ _ _ _ => F1
  refine' for_listC (σ := XSt) (nn := nf) (items := #[.str (Str.ofString "x") tx, .str (Str.ofString "what") tw, .str (Str.ofString "which") ti]) (fun c => [(ul, listOf c.us.toArray nu), (pd, c.oP)]) [Str.ofString "name", Str.ofString "place"]
    (fun j c => (j ≤ 2 → c = ⟨[.int 0 ta, .int 0 tb, .int 0 tc], oP, []⟩) ∧ (j = 3 → ∃ t5 t6, c.oP.IsDictOf (PySem.strKind PySem.Challenge.rw_pq1424_01.row.prog w) [(Str.ofString "which", .int 2 t5)] ∧ c.us = [.int 0 ta, .int 0 tb, .int 2 t6])) led ⟨[.int 0 ta, .int 0 tb, .int 0 tc], oP, []⟩ rfl PassesOwn.never (.inl ⟨_, _, rfl⟩) F1 N1 ?hin ?ap (.inr fun _ => ?hl) ⟨fun _ => rfl, fun h => nomatch h⟩ ?turn ?done
  (case hin => (walk_at "sub"))
  (case ap => exact Apart.cons hul (Apart.cons hpl Apart.nil))
  (case hl => k_mem)
  (case turn =>
    intro j v c u4 I oI hp4 tk4 hj hPP F4 N4 ap4
    (try refine (let q0 := _; (?_ : wpAny _ _ _ q0 _ _)))
    obtain ⟨nm, tn, rfl, hnm, hw⟩ := formals_item2 hj
    have hj3 : j < 3 := by
      rcases Nat.lt_or_ge j 3 with h | h
      · exact h
      · rw [Array.getElem?_eq_none (by simpa using h)] at hj; cases hj
    obtain rfl := hPP.1 (by walk_at "om")
    have oI1 := ap4.off (.head _)
    have oI2 := ap4.off (.tail _ (.head _))
    dsimp only at *
    simp only [List.cons_append, List.nil_append] at N4
    repeat' (first | ((fail_if_success (fail_if_success k_unfold)); first | refine (?_ : wpAny _ _ (execs _ _) _ _ _) | (k_unfold; (try dsimp only))) | ((first | (with_reducible show wpAny _ _ (execs _ _) _ _ _) | (with_reducible show wpAny _ _ (exec _ _) _ _ _)); first | ((fail_if_success k_fold); refine wpAny_tok ?_; intro tk0) | ((fail_if_success (fail_if_success k_fold)); refine (let q0 := _; (?_ : wpAny _ _ _ q0 _ _)))) | ((with_reducible show wpAny _ _ (subscriptTail _ _ (Value.ref _) (Value.int _ _)) _ _ _); k_dflt (refine' item_at ?k1 ?k2 ?k3 ?k4 ?k5 ?_; (case k1 => k_asm); (case k2 => k_mem); (case k5 => first | assumption | exact rfl); (case k3 => first | omega | decide); (case k4 => first | omega | decide))) | ((with_reducible show wpAny _ _ (exec _ _) _ _ _); first | ((with_reducible show wpAny _ _ (exec (Stmt.For (PySem.Expr.Name ..) (PySem.Expr.Call ..) _ [] _) _) _ _ _); walk_at "for0") | ((with_reducible show wpAny _ _ (exec (Stmt.For (PySem.Expr.Name ..) (PySem.Expr.Attribute ..) _ [] _) _) _ _ _); walk_at "for0")) | ((with_reducible show wpAny _ _ (compareOp CmpOp.In (Value.str _ _) (Value.ref _)) _ _ _); (k_dflt (refine kda_in (knd := PySem.strKind _ _) (by k_asm) (by k_mem) (by k_asm) (by k_asm) (strKind_is _ _ _ _) _ (by assumption) ?_))) | ((with_reducible show wpAny _ _ (setItem (Value.ref _) (Value.int _ _) _) _ _ _); k_dflt (refine' list_set ?k1 ?k2 ?k3 ?k4 ?k5 ?k6 ?k7 ?_; (case k1 => k_asm); (case k2 => k_asm); (case k3 => decide); (case k4 => decide); (case k6 => exact rfl); (case k7 => k_upd); (case k5 => decide)); intro _ F' N'; (try k_sweep)) | walk1 | (dsimp only; first | (k_unfold; (try dsimp only)) | walk1) | (leave1; (try dsimp only)) | fail "no step")
    rename News _ _ _ _ => N5
    rename Fr _ _ _ _ => F5
    refine' for_range (σ := XSt) (n := 3) (fun c => [(ul, listOf c.us.toArray nu), (pd, c.oP)]) (fun _ => _) [Str.ofString "place"]
      (fun i c => (i ≤ 2 → c = ⟨[.int 0 ta, .int 0 tb, .int 0 tc], oP, []⟩) ∧ (i = 3 → (nm ≠ Str.ofString "which" → c = ⟨[.int 0 ta, .int 0 tb, .int 0 tc], oP, []⟩) ∧ (nm = Str.ofString "which" → ∃ t5 t6, c.oP.IsDictOf (PySem.strKind PySem.Challenge.rw_pq1424_01.row.prog w) [(Str.ofString "which", .int 2 t5)] ∧ c.us = [.int 0 ta, .int 0 tb, .int 2 t6])))
      ((I, oI) :: led) ⟨[.int 0 ta, .int 0 tb, .int 0 tc], oP, []⟩ rfl PassesOwn.never (by assumption) (by decide) (by decide) F5 N5 ?hin2 ap4 Mis.rfl' ⟨fun _ => rfl, fun h => nomatch h⟩ ?turn2 ?done2
    (case hin2 => (walk_at "sub"))
    (case turn2 =>
      intro i t9 c u6 I6 oI6 h6 tk6 hi6 hP6 F6 N6 ap6
      (try refine (let q0 := _; (?_ : wpAny _ _ _ q0 _ _)))
      obtain rfl := hP6.1 (by walk_at "om")
      have oJ1 := ap6.off (.head _)
      have oJ2 := ap6.off (.tail _ (.head _))
      dsimp only at *
      simp only [List.cons_append, List.nil_append] at N6
      rcases Nat.lt_or_ge i 2 with hi2 | hi2
      · have hx : ([Value.none, Value.none, .str (Str.ofString "which") tt] : List Value)[((0 : Int) + (i : Nat)).toNat]? = some .none := by
          rcases i with _ | _ | i
          · rfl
          · rfl
          · omega
        repeat' (first | ((fail_if_success (fail_if_success k_unfold)); first | refine (?_ : wpAny _ _ (execs _ _) _ _ _) | (k_unfold; (try dsimp only))) | ((first | (with_reducible show wpAny _ _ (execs _ _) _ _ _) | (with_reducible show wpAny _ _ (exec _ _) _ _ _)); first | ((fail_if_success k_fold); refine wpAny_tok ?_; intro tk0) | ((fail_if_success (fail_if_success k_fold)); refine (let q0 := _; (?_ : wpAny _ _ _ q0 _ _)))) | ((with_reducible show wpAny _ _ (subscriptTail _ _ (Value.ref _) (Value.int _ _)) _ _ _); k_dflt (refine' item_at ?k1 ?k2 ?k3 ?k4 ?k5 ?_; (case k1 => k_asm); (case k2 => k_mem); (case k5 => first | assumption | exact rfl); (case k3 => first | omega | decide); (case k4 => first | omega | decide))) | ((with_reducible show wpAny _ _ (exec _ _) _ _ _); first | ((with_reducible show wpAny _ _ (exec (Stmt.For (PySem.Expr.Name ..) (PySem.Expr.Call ..) _ [] _) _) _ _ _); walk_at "for0") | ((with_reducible show wpAny _ _ (exec (Stmt.For (PySem.Expr.Name ..) (PySem.Expr.Attribute ..) _ [] _) _) _ _ _); walk_at "for0")) | ((with_reducible show wpAny _ _ (compareOp CmpOp.In (Value.str _ _) (Value.ref _)) _ _ _); (k_dflt (refine kda_in (knd := PySem.strKind _ _) (by k_asm) (by k_mem) (by k_asm) (by k_asm) (strKind_is _ _ _ _) _ (by assumption) ?_))) | ((with_reducible show wpAny _ _ (setItem (Value.ref _) (Value.int _ _) _) _ _ _); k_dflt (refine' list_set ?k1 ?k2 ?k3 ?k4 ?k5 ?k6 ?k7 ?_; (case k1 => k_asm); (case k2 => k_asm); (case k3 => decide); (case k4 => decide); (case k6 => exact rfl); (case k7 => k_upd); (case k5 => decide)); intro _ F' N'; (try k_sweep)) | walk1 | (dsimp only; first | (k_unfold; (try dsimp only)) | walk1) | (leave1; (try dsimp only)) | fail "no step")
        refine TurnEnd.next ⟨[.int 0 ta, .int 0 tb, .int 0 tc], oP, []⟩ (by assumption) ?mis6 (by assumption) ?sub6 ap6 ⟨fun _ => rfl, fun h => absurd h (by walk_at "om")⟩
        (case mis6 => (repeat' (first | exact Mis.mix | (refine Mis.put rfl ?_) | (refine Mis.mixIn rfl ?_) | exact Mis.rfl')))
        (case sub6 => (walk_at "sub"))
      · obtain rfl : i = 2 := by walk_at "om"
        have e : Value.int ((0 : Int) + ((2 : Nat) : Int)) t9 = .int 2 t9 := rfl
        rw [e]
        by_cases hnw : nm = Str.ofString "which"
        · have hq : (Str.ofString "which" == nm) = true := by simp [hnw]
          have hbn : (valueAt ([] : List (Str × Value)) nm).isSome = false := rfl
          repeat' (first | ((fail_if_success (fail_if_success k_unfold)); first | refine (?_ : wpAny _ _ (execs _ _) _ _ _) | (k_unfold; (try dsimp only))) | ((first | (with_reducible show wpAny _ _ (execs _ _) _ _ _) | (with_reducible show wpAny _ _ (exec _ _) _ _ _)); first | ((fail_if_success k_fold); refine wpAny_tok ?_; intro tk0) | ((fail_if_success (fail_if_success k_fold)); refine (let q0 := _; (?_ : wpAny _ _ _ q0 _ _)))) | ((with_reducible show wpAny _ _ (subscriptTail _ _ (Value.ref _) (Value.int _ _)) _ _ _); k_dflt (refine' item_at ?k1 ?k2 ?k3 ?k4 ?k5 ?_; (case k1 => k_asm); (case k2 => k_mem); (case k5 => first | assumption | exact rfl); (case k3 => first | omega | decide); (case k4 => first | omega | decide))) | ((with_reducible show wpAny _ _ (exec _ _) _ _ _); first | ((with_reducible show wpAny _ _ (exec (Stmt.For (PySem.Expr.Name ..) (PySem.Expr.Call ..) _ [] _) _) _ _ _); walk_at "for0") | ((with_reducible show wpAny _ _ (exec (Stmt.For (PySem.Expr.Name ..) (PySem.Expr.Attribute ..) _ [] _) _) _ _ _); walk_at "for0")) | ((with_reducible show wpAny _ _ (compareOp CmpOp.In (Value.str _ _) (Value.ref _)) _ _ _); (k_dflt (refine kda_in (knd := PySem.strKind _ _) (by k_asm) (by k_mem) (by k_asm) (by k_asm) (strKind_is _ _ _ _) _ (by assumption) ?_))) | ((with_reducible show wpAny _ _ (setItem (Value.ref _) (Value.int _ _) _) _ _ _); k_dflt (refine' list_set ?k1 ?k2 ?k3 ?k4 ?k5 ?k6 ?k7 ?_; (case k1 => k_asm); (case k2 => k_asm); (case k3 => decide); (case k4 => decide); (case k6 => exact rfl); (case k7 => k_upd); (case k5 => decide)); intro _ F' N'; (try k_sweep)) | walk1 | (dsimp only; first | (k_unfold; (try dsimp only)) | walk1) | (leave1; (try dsimp only)) | fail "no step")
          rename Obj.IsDictOf _ _ [(nm, _)] => hd5
          rw [hnw] at hd5
          refine' TurnEnd.next ⟨[.int 0 ta, .int 0 tb, .int 2 _], _, [(Str.ofString "which", .int 2 t9)]⟩ (by assumption) ?mis7 (by assumption) ?sub7 ?ap7 ⟨fun h => absurd h (by walk_at "om"), fun _ => ⟨fun h => absurd hnw h, fun _ => ⟨_, _, hd5, rfl⟩⟩⟩
          (case mis7 => (repeat' (first | exact Mis.mix | (refine Mis.put rfl ?_) | (refine Mis.mixIn rfl ?_) | exact Mis.rfl')))
          (case sub7 => (walk_at "sub"))
          (case ap7 => exact Apart.cons oJ1 (Apart.cons oJ2 Apart.nil))
        · have hq : (Str.ofString "which" == nm) = false := by simpa using fun e : Str.ofString "which" = nm => hnw e.symm
          repeat' (first | ((fail_if_success (fail_if_success k_unfold)); first | refine (?_ : wpAny _ _ (execs _ _) _ _ _) | (k_unfold; (try dsimp only))) | ((first | (with_reducible show wpAny _ _ (execs _ _) _ _ _) | (with_reducible show wpAny _ _ (exec _ _) _ _ _)); first | ((fail_if_success k_fold); refine wpAny_tok ?_; intro tk0) | ((fail_if_success (fail_if_success k_fold)); refine (let q0 := _; (?_ : wpAny _ _ _ q0 _ _)))) | ((with_reducible show wpAny _ _ (subscriptTail _ _ (Value.ref _) (Value.int _ _)) _ _ _); k_dflt (refine' item_at ?k1 ?k2 ?k3 ?k4 ?k5 ?_; (case k1 => k_asm); (case k2 => k_mem); (case k5 => first | assumption | exact rfl); (case k3 => first | omega | decide); (case k4 => first | omega | decide))) | ((with_reducible show wpAny _ _ (exec _ _) _ _ _); first | ((with_reducible show wpAny _ _ (exec (Stmt.For (PySem.Expr.Name ..) (PySem.Expr.Call ..) _ [] _) _) _ _ _); walk_at "for0") | ((with_reducible show wpAny _ _ (exec (Stmt.For (PySem.Expr.Name ..) (PySem.Expr.Attribute ..) _ [] _) _) _ _ _); walk_at "for0")) | ((with_reducible show wpAny _ _ (compareOp CmpOp.In (Value.str _ _) (Value.ref _)) _ _ _); (k_dflt (refine kda_in (knd := PySem.strKind _ _) (by k_asm) (by k_mem) (by k_asm) (by k_asm) (strKind_is _ _ _ _) _ (by assumption) ?_))) | ((with_reducible show wpAny _ _ (setItem (Value.ref _) (Value.int _ _) _) _ _ _); k_dflt (refine' list_set ?k1 ?k2 ?k3 ?k4 ?k5 ?k6 ?k7 ?_; (case k1 => k_asm); (case k2 => k_asm); (case k3 => decide); (case k4 => decide); (case k6 => exact rfl); (case k7 => k_upd); (case k5 => decide)); intro _ F' N'; (try k_sweep)) | walk1 | (dsimp only; first | (k_unfold; (try dsimp only)) | walk1) | (leave1; (try dsimp only)) | fail "no step")
          refine TurnEnd.next ⟨[.int 0 ta, .int 0 tb, .int 0 tc], oP, []⟩ (by assumption) ?mis8 (by assumption) ?sub8 ap6 ⟨fun _ => rfl, fun _ => ⟨fun _ => rfl, fun h => absurd h hnw⟩⟩
          (case mis8 => (repeat' (first | exact Mis.mix | (refine Mis.put rfl ?_) | (refine Mis.mixIn rfl ?_) | exact Mis.rfl')))
          (case sub8 => (walk_at "sub")))
    (case done2 =>
      intro c u7 h7 tk7 hP7 F7 N7 ap7
      have hP7 := hP7.2 rfl
      obtain ⟨us7, oP7, kvs7⟩ := c
      dsimp only at *
      simp only [List.cons_append, List.nil_append] at N7
      repeat' (first | ((fail_if_success (fail_if_success k_unfold)); first | refine (?_ : wpAny _ _ (execs _ _) _ _ _) | (k_unfold; (try dsimp only))) | ((first | (with_reducible show wpAny _ _ (execs _ _) _ _ _) | (with_reducible show wpAny _ _ (exec _ _) _ _ _)); first | ((fail_if_success k_fold); refine wpAny_tok ?_; intro tk0) | ((fail_if_success (fail_if_success k_fold)); refine (let q0 := _; (?_ : wpAny _ _ _ q0 _ _)))) | ((with_reducible show wpAny _ _ (subscriptTail _ _ (Value.ref _) (Value.int _ _)) _ _ _); k_dflt (refine' item_at ?k1 ?k2 ?k3 ?k4 ?k5 ?_; (case k1 => k_asm); (case k2 => k_mem); (case k5 => first | assumption | exact rfl); (case k3 => first | omega | decide); (case k4 => first | omega | decide))) | ((with_reducible show wpAny _ _ (exec _ _) _ _ _); first | ((with_reducible show wpAny _ _ (exec (Stmt.For (PySem.Expr.Name ..) (PySem.Expr.Call ..) _ [] _) _) _ _ _); walk_at "for0") | ((with_reducible show wpAny _ _ (exec (Stmt.For (PySem.Expr.Name ..) (PySem.Expr.Attribute ..) _ [] _) _) _ _ _); walk_at "for0")) | ((with_reducible show wpAny _ _ (compareOp CmpOp.In (Value.str _ _) (Value.ref _)) _ _ _); (k_dflt (refine kda_in (knd := PySem.strKind _ _) (by k_asm) (by k_mem) (by k_asm) (by k_asm) (strKind_is _ _ _ _) _ (by assumption) ?_))) | ((with_reducible show wpAny _ _ (setItem (Value.ref _) (Value.int _ _) _) _ _ _); k_dflt (refine' list_set ?k1 ?k2 ?k3 ?k4 ?k5 ?k6 ?k7 ?_; (case k1 => k_asm); (case k2 => k_asm); (case k3 => decide); (case k4 => decide); (case k6 => exact rfl); (case k7 => k_upd); (case k5 => decide)); intro _ F' N'; (try k_sweep)) | walk1 | (dsimp only; first | (k_unfold; (try dsimp only)) | walk1) | (leave1; (try dsimp only)) | fail "no step")
      refine TurnEnd.next ⟨us7, oP7, kvs7⟩ (by assumption) ?mis9 (by assumption) ?sub9 ap7 ⟨fun h => hP7.1 fun e => absurd (hw.mp e) (by walk_at "om"), fun h => hP7.2 (hw.mpr (by walk_at "om"))⟩
      (case mis9 => (repeat' (first | exact Mis.mix | (refine Mis.put rfl ?_) | (refine Mis.mixIn rfl ?_) | exact Mis.rfl')))
      (case sub9 => (walk_at "sub"))))
  (case done =>
    intro c u5 h5 tk5 hP5 F5 N5 ap5
    obtain ⟨t5, t6, hd5, hu5⟩ := hP5.2 rfl
    obtain ⟨us5, oP5, kvs5⟩ := c
    dsimp only at *
    subst hu5
    simp only [List.cons_append, List.nil_append] at N5
    repeat' (first | ((fail_if_success (fail_if_success k_unfold)); first | refine (?_ : wpAny _ _ (execs _ _) _ _ _) | (k_unfold; (try dsimp only))) | ((first | (with_reducible show wpAny _ _ (execs _ _) _ _ _) | (with_reducible show wpAny _ _ (exec _ _) _ _ _)); first | ((fail_if_success k_fold); refine wpAny_tok ?_; intro tk0) | ((fail_if_success (fail_if_success k_fold)); refine (let q0 := _; (?_ : wpAny _ _ _ q0 _ _)))) | ((with_reducible show wpAny _ _ (subscriptTail _ _ (Value.ref _) (Value.int _ _)) _ _ _); k_dflt (refine' item_at ?k1 ?k2 ?k3 ?k4 ?k5 ?_; (case k1 => k_asm); (case k2 => k_mem); (case k5 => first | assumption | exact rfl); (case k3 => first | omega | decide); (case k4 => first | omega | decide))) | ((with_reducible show wpAny _ _ (exec _ _) _ _ _); first | ((with_reducible show wpAny _ _ (exec (Stmt.For (PySem.Expr.Name ..) (PySem.Expr.Call ..) _ [] _) _) _ _ _); walk_at "for0") | ((with_reducible show wpAny _ _ (exec (Stmt.For (PySem.Expr.Name ..) (PySem.Expr.Attribute ..) _ [] _) _) _ _ _); walk_at "for0")) | ((with_reducible show wpAny _ _ (compareOp CmpOp.In (Value.str _ _) (Value.ref _)) _ _ _); (k_dflt (refine kda_in (knd := PySem.strKind _ _) (by k_asm) (by k_mem) (by k_asm) (by k_asm) (strKind_is _ _ _ _) _ (by assumption) ?_))) | ((with_reducible show wpAny _ _ (setItem (Value.ref _) (Value.int _ _) _) _ _ _); k_dflt (refine' list_set ?k1 ?k2 ?k3 ?k4 ?k5 ?k6 ?k7 ?_; (case k1 => k_asm); (case k2 => k_asm); (case k3 => decide); (case k4 => decide); (case k6 => exact rfl); (case k7 => k_upd); (case k5 => decide)); intro _ F' N'; (try k_sweep)) | walk1 | (dsimp only; first | (k_unfold; (try dsimp only)) | walk1) | (leave1; (try dsimp only)) | fail "no step")
    refine Fin.mk ((ul, listOf #[.int 0 ta, .int 0 tb, .int 2 t6] nu) :: (pd, oP5) :: led) (by assumption) (by assumption) ?sub10 ⟨rfl, oP5, t5, t6, hd5, rfl⟩
    (case sub10 => (walk_at "sub")))
end

-- C_partialof
section
set_option maxHeartbeats 8000000 in
theorem c_partialof (w : World) {mean : ExcName → Option Value} {mg mb : Str → Option Value} (led : List (Addr × Obj)) (mo dm fl tl ul pd : Addr) (h1 h2 h3 h4 : Int) (t1 t2 t3 t4 : Tok) (nt nu : Nat) (tvs uvs : List Value) (nm : Str) (tn : Tok)
  (m1 : (mo, instObj 280 dm) ∈ led) (m2 : (dm, matD h1 h2 h3 h4 t1 t2 t3 t4 fl tl ul pd) ∈ led) (m4 : (tl, listOf tvs.toArray nt) ∈ led) (m5 : (ul, listOf uvs.toArray nu) ∈ led) (hn : tvs.length ≤ 8) (hB : Blank tvs uvs) :
  Tells1 PySem.Challenge.rw_pq1424_01.row.prog w (Mine.kAt w.params) Mine.viewQ (looseW Mine.viewQ [Str.ofString "match_names", Str.ofString "take"]) mean mg mb 258 [.ref mo, .str nm tn] [] 3 led (fun r out => r = .none ∧ out = led) := by
  k_fill
  refine' tells1_enter (binds := [(Str.ofString "self", .ref mo), (Str.ofString "name", .str nm tn)]) ?k6 ?k7 ?kr ?k9 ?kB ?c2 ?c3 ?c4 ?c5 ?_
  (case k6 => k_is)
  (case k7 => k_is)
  (case kr => decide)
  (case k9 => intro s hX; first | exact BindsTo.of_eq rfl | exact binds_K (by k_in) rfl (by k_is) rfl rfl rfl)
  (case kB => exact locs rfl)
  (case c2 => exact rfl)
  (case c3 => exact rfl)
  (case c4 => exact rfl)
  (case c5 => decide)
  intro dp un gd cn cs a ccd cl outer base g L L' h₁ s tk hd hu F' N' B' X' T'
  (try dsimp only)
  (try k_fold)
  refine (let A1 := _; (?_ : wpAny _ A1 _ _ _ _))
  repeat' (first | ((fail_if_success (fail_if_success k_unfold)); first | refine (?_ : wpAny _ _ (execs _ _) _ _ _) | (k_unfold; (try dsimp only))) | ((first | (with_reducible show wpAny _ _ (execs _ _) _ _ _) | (with_reducible show wpAny _ _ (exec _ _) _ _ _)); first | ((fail_if_success k_fold); refine wpAny_tok ?_; intro tk0) | ((fail_if_success (fail_if_success k_fold)); refine (let q0 := _; (?_ : wpAny _ _ _ q0 _ _)))) | ((with_reducible show wpAny _ _ (subscriptTail _ _ (Value.ref _) (Value.int _ _)) _ _ _); k_dflt (refine' item_at ?k1 ?k2 ?k3 ?k4 ?k5 ?_; (case k1 => k_asm); (case k2 => k_mem); (case k5 => first | assumption | exact rfl); (case k3 => first | omega | decide); (case k4 => first | omega | decide))) | ((with_reducible show wpAny _ _ (exec (Stmt.For (PySem.Expr.Name ..) (PySem.Expr.Call ..) _ [] _) _) _ _ _); walk_at "for0") | walk1 | (dsimp only; first | (k_unfold; (try dsimp only)) | walk1) | (leave1; (try dsimp only)) | fail "no step")
  rename News _ _ _ _ => N5
  rename Fr _ _ _ _ => F5
  refine' for_range (σ := Unit) (n := tvs.length) (fun _ => []) (fun _ => _) [Str.ofString "place", Str.ofString "tag"] (fun _ _ => True) led () rfl PassesOwn.never (by assumption) (small0 (by walk_at "om")) (size0 _) F5 N5 ?hin2 Apart.nil Mis.rfl' trivial ?turn2 ?done2
  (case hin2 => (walk_at "sub"))
  (case turn2 =>
    intro i t9 c u6 I6 oI6 h6 tk6 hi6 hP6 F6 N6 ap6
    (try refine (let q0 := _; (?_ : wpAny _ _ _ q0 _ _)))
    obtain ⟨tv, u, tu, e1, e2, e3⟩ := hB i hi6
    have hx1 : tvs[((0 : Int) + (i : Nat)).toNat]? = some tv := by simpa using e1
    have hx2 : uvs[((0 : Int) + (i : Nat)).toNat]? = some (.int u tu) := by simpa using e2
    simp only [List.nil_append] at N6
    rcases e3 with ⟨rfl, rfl⟩ | rfl
    · repeat' (first | ((fail_if_success (fail_if_success k_unfold)); first | refine (?_ : wpAny _ _ (execs _ _) _ _ _) | (k_unfold; (try dsimp only))) | ((first | (with_reducible show wpAny _ _ (execs _ _) _ _ _) | (with_reducible show wpAny _ _ (exec _ _) _ _ _)); first | ((fail_if_success k_fold); refine wpAny_tok ?_; intro tk0) | ((fail_if_success (fail_if_success k_fold)); refine (let q0 := _; (?_ : wpAny _ _ _ q0 _ _)))) | ((with_reducible show wpAny _ _ (subscriptTail _ _ (Value.ref _) (Value.int _ _)) _ _ _); k_dflt (refine' item_at ?k1 ?k2 ?k3 ?k4 ?k5 ?_; (case k1 => k_asm); (case k2 => k_mem); (case k5 => first | assumption | exact rfl); (case k3 => first | omega | decide); (case k4 => first | omega | decide))) | ((with_reducible show wpAny _ _ (exec (Stmt.For (PySem.Expr.Name ..) (PySem.Expr.Call ..) _ [] _) _) _ _ _); walk_at "for0") | walk1 | (dsimp only; first | (k_unfold; (try dsimp only)) | walk1) | (leave1; (try dsimp only)) | fail "no step")
      refine TurnEnd.next () (by assumption) ?mis6 (by assumption) ?sub6 Apart.nil trivial
      (case mis6 => (repeat' (first | exact Mis.mix | (refine Mis.put rfl ?_) | (refine Mis.mixIn rfl ?_) | exact Mis.rfl')))
      (case sub6 => (walk_at "sub"))
    · repeat' (first | ((fail_if_success (fail_if_success k_unfold)); first | refine (?_ : wpAny _ _ (execs _ _) _ _ _) | (k_unfold; (try dsimp only))) | ((first | (with_reducible show wpAny _ _ (execs _ _) _ _ _) | (with_reducible show wpAny _ _ (exec _ _) _ _ _)); first | ((fail_if_success k_fold); refine wpAny_tok ?_; intro tk0) | ((fail_if_success (fail_if_success k_fold)); refine (let q0 := _; (?_ : wpAny _ _ _ q0 _ _)))) | ((with_reducible show wpAny _ _ (subscriptTail _ _ (Value.ref _) (Value.int _ _)) _ _ _); k_dflt (refine' item_at ?k1 ?k2 ?k3 ?k4 ?k5 ?_; (case k1 => k_asm); (case k2 => k_mem); (case k5 => first | assumption | exact rfl); (case k3 => first | omega | decide); (case k4 => first | omega | decide))) | ((with_reducible show wpAny _ _ (exec (Stmt.For (PySem.Expr.Name ..) (PySem.Expr.Call ..) _ [] _) _) _ _ _); walk_at "for0") | walk1 | (dsimp only; first | (k_unfold; (try dsimp only)) | walk1) | (leave1; (try dsimp only)) | fail "no step")
      refine TurnEnd.next () (by assumption) ?mis7 (by assumption) ?sub7 Apart.nil trivial
      (case mis7 => (repeat' (first | exact Mis.mix | (refine Mis.put rfl ?_) | (refine Mis.mixIn rfl ?_) | exact Mis.rfl')))
      (case sub7 => (walk_at "sub")))
  (case done2 =>
    intro c u7 h7 tk7 hP7 F7 N7 ap7
    simp only [List.nil_append] at N7
    repeat' (first | ((fail_if_success (fail_if_success k_unfold)); first | refine (?_ : wpAny _ _ (execs _ _) _ _ _) | (k_unfold; (try dsimp only))) | ((first | (with_reducible show wpAny _ _ (execs _ _) _ _ _) | (with_reducible show wpAny _ _ (exec _ _) _ _ _)); first | ((fail_if_success k_fold); refine wpAny_tok ?_; intro tk0) | ((fail_if_success (fail_if_success k_fold)); refine (let q0 := _; (?_ : wpAny _ _ _ q0 _ _)))) | ((with_reducible show wpAny _ _ (subscriptTail _ _ (Value.ref _) (Value.int _ _)) _ _ _); k_dflt (refine' item_at ?k1 ?k2 ?k3 ?k4 ?k5 ?_; (case k1 => k_asm); (case k2 => k_mem); (case k5 => first | assumption | exact rfl); (case k3 => first | omega | decide); (case k4 => first | omega | decide))) | ((with_reducible show wpAny _ _ (exec (Stmt.For (PySem.Expr.Name ..) (PySem.Expr.Call ..) _ [] _) _) _ _ _); walk_at "for0") | walk1 | (dsimp only; first | (k_unfold; (try dsimp only)) | walk1) | (leave1; (try dsimp only)) | fail "no step")
    refine Fin.mk led (by assumption) (by assumption) ?sub8 ⟨rfl, rfl⟩
    (case sub8 => (walk_at "sub")))
end

-- C_partial
section
local macro_rules | `(tactic| walk_at "pad0") => `(tactic| fail "pad")
local macro_rules | `(tactic| walk_at "pad1") => `(tactic| fail "pad")
set_option maxHeartbeats 8000000 in
theorem c_partial (w : World) {mean : ExcName → Option Value} {mg mb : Str → Option Value} (led : List (Addr × Obj)) (mo dm fl tl ul pd : Addr) (h1 h2 h3 h4 : Int) (t1 t2 t3 t4 : Tok) (nf nt nu : Nat) (tx tw ti : Tok) (tvs uvs : List Value) (oP : Obj) (kvs : List (Str × Value))
  (m1 : (mo, instObj 280 dm) ∈ led) (m2 : (dm, matD h1 h2 h3 h4 t1 t2 t3 t4 fl tl ul pd) ∈ led) (m3 : (fl, formals tx tw ti nf) ∈ led) (m4 : (tl, listOf tvs.toArray nt) ∈ led) (m5 : (ul, listOf uvs.toArray nu) ∈ led) (m6 : (pd, oP) ∈ led)
  (hP : oP.IsDictOf (PySem.strKind PySem.Challenge.rw_pq1424_01.row.prog w) kvs) (lP : (pd == sysModules) = false) (hn : tvs.length ≤ 8) (hB : Blank tvs uvs) :
  Tells1 PySem.Challenge.rw_pq1424_01.row.prog w (Mine.kAt w.params) Mine.viewQ (looseW Mine.viewQ [Str.ofString "match_names", Str.ofString "take"]) mean mg mb 251 [.ref mo] [] 5 led (fun r out => r = .none ∧ out = led) := by
  k_fill
  refine' tells1_enter (binds := [(Str.ofString "self", .ref mo)]) ?k6 ?k7 ?kr ?k9 ?kB ?c2 ?c3 ?c4 ?c5 ?_
  (case k6 => k_is)
  (case k7 => k_is)
  (case kr => decide)
  (case k9 => intro s hX; first | exact BindsTo.of_eq rfl | exact binds_K (by k_in) rfl (by k_is) rfl rfl rfl)
  (case kB => exact locs rfl)
  (case c2 => exact rfl)
  (case c3 => exact rfl)
  (case c4 => exact rfl)
  (case c5 => decide)
  intro dp un gd cn cs a ccd cl outer base g L L' h₁ s tk hd hu F' N' B' X' T'
  (try dsimp only)
  (try k_fold)
  refine (let A1 := _; (?_ : wpAny _ A1 _ _ _ _))
  repeat' (first | ((fail_if_success (fail_if_success k_unfold)); first | refine (?_ : wpAny _ _ (execs _ _) _ _ _) | (k_unfold; (try dsimp only))) | ((first | (with_reducible show wpAny _ _ (execs _ _) _ _ _) | (with_reducible show wpAny _ _ (exec _ _) _ _ _)); first | ((fail_if_success k_fold); refine wpAny_tok ?_; intro tk0) | ((fail_if_success (fail_if_success k_fold)); refine (let q0 := _; (?_ : wpAny _ _ _ q0 _ _)))) | ((with_reducible show wpAny _ _ (exec (Stmt.For (PySem.Expr.Name ..) (PySem.Expr.Attribute ..) _ [] _) _) _ _ _); walk_at "for0") | ((with_reducible show wpAny _ _ (compareOp CmpOp.NotIn (Value.str _ _) (Value.ref _)) _ _ _); (k_dflt (refine kdg_notin (knd := PySem.strKind _ _) (by k_asm) (by k_mem) (by k_asm) (by k_asm) (strKind_is _ _ _ _) _ (by assumption) ?_); (try dsimp only [Bool.not_true, Bool.not_false]))) | walk1 | (dsimp only; first | (k_unfold; (try dsimp only)) | walk1) | (leave1; (try dsimp only)) | fail "no step")
  rename News _ _ _ _ => N1
  rename Fr _ _ _ _ => F1
  refine' for_listC (σ := Unit) (nn := nf) (items := #[.str (Str.ofString "x") tx, .str (Str.ofString "what") tw, .str (Str.ofString "which") ti]) (fun _ => []) [Str.ofString "name"] (fun _ _ => True) led () rfl PassesOwn.never (.inl ⟨_, _, rfl⟩) F1 N1 ?hin Apart.nil (.inr fun _ => ?hl) trivial ?turn ?done
  (case hin => (walk_at "sub"))
  (case hl => k_mem)
  (case turn =>
    intro j v c u4 I oI hp4 tk4 hj hPP F4 N4 ap4
    (try refine (let q0 := _; (?_ : wpAny _ _ _ q0 _ _)))
    obtain ⟨nm, tn, rfl, hnm⟩ := formals_item hj
    have hnm2 : (nm == Str.ofString "...") = false := by simpa using hnm
    simp only [List.nil_append] at N4
    cases hb : (valueAt kvs nm).isSome with
    | true =>
      repeat' (first | ((fail_if_success (fail_if_success k_unfold)); first | refine (?_ : wpAny _ _ (execs _ _) _ _ _) | (k_unfold; (try dsimp only))) | ((first | (with_reducible show wpAny _ _ (execs _ _) _ _ _) | (with_reducible show wpAny _ _ (exec _ _) _ _ _)); first | ((fail_if_success k_fold); refine wpAny_tok ?_; intro tk0) | ((fail_if_success (fail_if_success k_fold)); refine (let q0 := _; (?_ : wpAny _ _ _ q0 _ _)))) | ((with_reducible show wpAny _ _ (exec (Stmt.For (PySem.Expr.Name ..) (PySem.Expr.Attribute ..) _ [] _) _) _ _ _); walk_at "for0") | ((with_reducible show wpAny _ _ (compareOp CmpOp.NotIn (Value.str _ _) (Value.ref _)) _ _ _); (k_dflt (refine kdg_notin (knd := PySem.strKind _ _) (by k_asm) (by k_mem) (by k_asm) (by k_asm) (strKind_is _ _ _ _) _ (by assumption) ?_); (try dsimp only [Bool.not_true, Bool.not_false]))) | walk1 | (dsimp only; first | (k_unfold; (try dsimp only)) | walk1) | (leave1; (try dsimp only)) | fail "no step")
      refine TurnEnd.next () (by assumption) ?mis6 (by assumption) ?sub6 Apart.nil trivial
      (case mis6 => (repeat' (first | exact Mis.mix | (refine Mis.put rfl ?_) | (refine Mis.mixIn rfl ?_) | exact Mis.rfl')))
      (case sub6 => (walk_at "sub"))
    | false =>
      repeat' (first | ((fail_if_success (fail_if_success k_unfold)); first | refine (?_ : wpAny _ _ (execs _ _) _ _ _) | (k_unfold; (try dsimp only))) | ((first | (with_reducible show wpAny _ _ (execs _ _) _ _ _) | (with_reducible show wpAny _ _ (exec _ _) _ _ _)); first | ((fail_if_success k_fold); refine wpAny_tok ?_; intro tk0) | ((fail_if_success (fail_if_success k_fold)); refine (let q0 := _; (?_ : wpAny _ _ _ q0 _ _)))) | ((with_reducible show wpAny _ _ (exec (Stmt.For (PySem.Expr.Name ..) (PySem.Expr.Attribute ..) _ [] _) _) _ _ _); walk_at "for0") | ((with_reducible show wpAny _ _ (compareOp CmpOp.NotIn (Value.str _ _) (Value.ref _)) _ _ _); (k_dflt (refine kdg_notin (knd := PySem.strKind _ _) (by k_asm) (by k_mem) (by k_asm) (by k_asm) (strKind_is _ _ _ _) _ (by assumption) ?_); (try dsimp only [Bool.not_true, Bool.not_false]))) | walk1 | (dsimp only; first | (k_unfold; (try dsimp only)) | walk1) | (leave1; (try dsimp only)) | fail "no step")
      (refine' callAt_useN ?N ?C ?B ?F ?X ?T ?hk ?hd ?hu ?_; (case B => k_asm); (case F => k_asm); (case X => k_asm); (case N => k_asm); (case T => k_asm); (case hk => exact rfl); (case C => exact (c_partialof w _ mo dm fl tl ul pd h1 h2 h3 h4 t1 t2 t3 t4 nt nu tvs uvs nm tn (by k_mem) (by k_mem) (by k_mem) (by k_mem) hn hB)); (case hd => k_room); (case hu => k_units))
      refine el0 ?_
      intro h8 tk8 F8 N8
      dsimp only
      repeat' (first | ((fail_if_success (fail_if_success k_unfold)); first | refine (?_ : wpAny _ _ (execs _ _) _ _ _) | (k_unfold; (try dsimp only))) | ((first | (with_reducible show wpAny _ _ (execs _ _) _ _ _) | (with_reducible show wpAny _ _ (exec _ _) _ _ _)); first | ((fail_if_success k_fold); refine wpAny_tok ?_; intro tk0) | ((fail_if_success (fail_if_success k_fold)); refine (let q0 := _; (?_ : wpAny _ _ _ q0 _ _)))) | ((with_reducible show wpAny _ _ (exec (Stmt.For (PySem.Expr.Name ..) (PySem.Expr.Attribute ..) _ [] _) _) _ _ _); walk_at "for0") | ((with_reducible show wpAny _ _ (compareOp CmpOp.NotIn (Value.str _ _) (Value.ref _)) _ _ _); (k_dflt (refine kdg_notin (knd := PySem.strKind _ _) (by k_asm) (by k_mem) (by k_asm) (by k_asm) (strKind_is _ _ _ _) _ (by assumption) ?_); (try dsimp only [Bool.not_true, Bool.not_false]))) | walk1 | (dsimp only; first | (k_unfold; (try dsimp only)) | walk1) | (leave1; (try dsimp only)) | fail "no step")
      refine TurnEnd.next () (by assumption) ?mis7 (by assumption) ?sub7 Apart.nil trivial
      (case mis7 => (repeat' (first | exact Mis.mix | (refine Mis.put rfl ?_) | (refine Mis.mixIn rfl ?_) | exact Mis.rfl')))
      (case sub7 => (walk_at "sub")))
  (case done =>
    intro c u5 h5 tk5 hP5 F5 N5 ap5
    simp only [List.nil_append] at N5
    repeat' (first | ((fail_if_success (fail_if_success k_unfold)); first | refine (?_ : wpAny _ _ (execs _ _) _ _ _) | (k_unfold; (try dsimp only))) | ((first | (with_reducible show wpAny _ _ (execs _ _) _ _ _) | (with_reducible show wpAny _ _ (exec _ _) _ _ _)); first | ((fail_if_success k_fold); refine wpAny_tok ?_; intro tk0) | ((fail_if_success (fail_if_success k_fold)); refine (let q0 := _; (?_ : wpAny _ _ _ q0 _ _)))) | ((with_reducible show wpAny _ _ (exec (Stmt.For (PySem.Expr.Name ..) (PySem.Expr.Attribute ..) _ [] _) _) _ _ _); walk_at "for0") | ((with_reducible show wpAny _ _ (compareOp CmpOp.NotIn (Value.str _ _) (Value.ref _)) _ _ _); (k_dflt (refine kdg_notin (knd := PySem.strKind _ _) (by k_asm) (by k_mem) (by k_asm) (by k_asm) (strKind_is _ _ _ _) _ (by assumption) ?_); (try dsimp only [Bool.not_true, Bool.not_false]))) | walk1 | (dsimp only; first | (k_unfold; (try dsimp only)) | walk1) | (leave1; (try dsimp only)) | fail "no step")
    refine Fin.mk led (by assumption) (by assumption) ?sub8 ⟨rfl, rfl⟩
    (case sub8 => (walk_at "sub")))
end

-- C_pos2
section
local macro_rules | `(tactic| walk_at "pad0") => `(tactic| fail "pad")
local macro_rules | `(tactic| walk_at "pad1") => `(tactic| fail "pad")
local macro_rules | `(tactic| walk_at "call builtin:len") => `(tactic| (k_here; (with_reducible show wpAny _ _ (call (Value.builtin "len") [Value.ref _]) _ _ _); k_dflt (first
  | (refine' len_0 ?k1 ?k2 ?_; (case k1 => k_asm); (case k2 => k_mem))
  | (refine' len_1 ?k1 ?k2 ?_; (case k1 => k_asm); (case k2 => k_mem))
  | (refine' len_2 ?k1 ?k2 ?_; (case k1 => k_asm); (case k2 => k_mem))
  | (refine' len_3 ?k1 ?k2 ?_; (case k1 => k_asm); (case k2 => k_mem)))))


set_option maxHeartbeats 8000000 in
theorem c_pos2 (w : World) {mean : ExcName → Option Value} {mg mb : Str → Option Value} (led : List (Addr × Obj)) (mo dm fl tl ul pd : Addr) (h1 h2 h3 h4 : Int) (t1 t2 t3 t4 : Tok) (nf nt nu : Nat) (tx tw ti tt ta tb tc tz : Tok) (oP : Obj)
  (m1 : (mo, instObj 280 dm) ∈ led) (m2 : (dm, matD h1 h2 h3 h4 t1 t2 t3 t4 fl tl ul pd) ∈ led) (m3 : (fl, formals tx tw ti nf) ∈ led) (m4 : (tl, listOf #[.none, .none] nt) ∈ led)
  (hP : oP.IsDictOf (PySem.strKind PySem.Challenge.rw_pq1424_01.row.prog w) []) (lP : (pd == sysModules) = false) (hup : @Ne Nat ul pd) (hul : Off ul led) (hpl : Off pd led) :
  Tells1 PySem.Challenge.rw_pq1424_01.row.prog w (Mine.kAt w.params) Mine.viewQ (looseW Mine.viewQ [Str.ofString "match_names", Str.ofString "take"]) mean mg mb 265 [.ref mo] [] 5 ((ul, listOf #[.int 0 ta, .int 0 tb] nu) :: (pd, oP) :: led)
   (fun r out => r = .none ∧ ∃ oP' t5 t6 t7 t8, oP'.IsDictOf (PySem.strKind PySem.Challenge.rw_pq1424_01.row.prog w) [(Str.ofString "x", .int 0 t5), (Str.ofString "what", .int 1 t6)] ∧ out = (ul, listOf #[.int 2 t7, .int 2 t8] nu) :: (pd, oP') :: led) := by
  have hbx : (valueAt ([] : List (Str × Value)) (Str.ofString "x")).isSome = false := rfl
  have hbw : ∀ v, (valueAt ([(Str.ofString "x", v)] : List (Str × Value)) (Str.ofString "what")).isSome = false := fun _ => rfl
  have hbz : ∀ v v', (valueAt ([(Str.ofString "x", v), (Str.ofString "what", v')] : List (Str × Value)) (Str.ofString "which")).isSome = false := fun _ _ => rfl
  k_fill
  refine' tells1_enter (binds := [(Str.ofString "self", .ref mo)]) ?k6 ?k7 ?kr ?k9 ?kB ?c2 ?c3 ?c4 ?c5 ?_
  (case k6 => k_is)
  (case k7 => k_is)
  (case kr => decide)
  (case k9 => intro s hX; first | exact BindsTo.of_eq rfl | exact binds_K (by k_in) rfl (by k_is) rfl rfl rfl)
  (case kB => exact locs rfl)
  (case c2 => exact rfl)
  (case c3 => exact rfl)
  (case c4 => exact rfl)
  (case c5 => decide)
  intro dp un gd cn cs a ccd cl outer base g L L' h₁ s tk hd hu F' N' B' X' T'
  (try dsimp only)
  (try k_fold)
  refine (let A1 := _; (?_ : wpAny _ A1 _ _ _ _))
  repeat' (first | ((fail_if_success (fail_if_success k_unfold)); first | refine (?_ : wpAny _ _ (execs _ _) _ _ _) | (k_unfold; (try dsimp only))) | ((first | (with_reducible show wpAny _ _ (execs _ _) _ _ _) | (with_reducible show wpAny _ _ (exec _ _) _ _ _)); first | ((fail_if_success k_fold); refine wpAny_tok ?_; intro tk0) | ((fail_if_success (fail_if_success k_fold)); refine (let q0 := _; (?_ : wpAny _ _ _ q0 _ _)))) | ((with_reducible show wpAny _ _ (subscriptTail _ _ (Value.ref _) (Value.int _ _)) _ _ _); k_dflt (refine' item_at ?k1 ?k2 ?k3 ?k4 ?k5 ?_; (case k1 => k_asm); (case k2 => k_mem); (case k5 => first | assumption | exact rfl); (case k3 => first | omega | decide); (case k4 => first | omega | decide))) | ((with_reducible show wpAny _ _ (exec _ _) _ _ _); first | ((with_reducible show wpAny _ _ (exec (Stmt.While (PySem.Expr.BoolOp ..) _ _ _) _) _ _ _); (refine while_start ?_)) | ((with_reducible show wpAny _ _ (exec (Stmt.For (PySem.Expr.Name ..) (PySem.Expr.Attribute ..) _ [] _) _) _ _ _); walk_at "for0")) | ((with_reducible show wpAny _ _ (compareOp CmpOp.NotIn (Value.str _ _) (Value.ref _)) _ _ _); (k_dflt (refine kdg_notin (knd := PySem.strKind _ _) (by k_asm) (by k_mem) (by k_asm) (by k_asm) (strKind_is _ _ _ _) _ (by assumption) ?_); (try dsimp only [Bool.not_true, Bool.not_false]))) | ((with_reducible show wpAny _ _ (setItem (Value.ref _) (Value.int _ _) _) _ _ _); k_dflt (refine' list_set ?k1 ?k2 ?k3 ?k4 ?k5 ?k6 ?k7 ?_; (case k1 => k_asm); (case k2 => k_asm); (case k3 => decide); (case k4 => decide); (case k6 => exact rfl); (case k7 => k_upd); (case k5 => decide)); intro _ F' N'; (try k_sweep)) | walk1 | (dsimp only; first | (k_unfold; (try dsimp only)) | walk1) | (leave1; (try dsimp only)) | fail "no step")
  rename News _ _ _ _ => N1
  rename Fr _ _ _ _ => F1
  refine nameI F1 (Str.ofString "place") rfl fun tp0 etp => ?_
  refine' for_list (σ := PSt) (nn := nf) (items := #[.str (Str.ofString "x") tx, .str (Str.ofString "what") tw, .str (Str.ofString "which") ti]) (fun c => [(ul, listOf c.us.toArray nu), (pd, c.oP)]) (fun c y => if y = Str.ofString "place" then some (.int c.pl c.tp) else List.lookup y [(Str.ofString "self", Value.ref mo)].reverse) [Str.ofString "name"]
    (fun j c => c.oP.IsDictOf (PySem.strKind PySem.Challenge.rw_pq1424_01.row.prog w) c.kvs ∧ (j = 0 → c.pl = 0 ∧ c.us = [.int 0 ta, .int 0 tb] ∧ c.kvs = []) ∧ (j = 1 → c.pl = 0 ∧ (∃ t7, c.us = [.int 2 t7, .int 0 tb]) ∧ ∃ t5, c.kvs = [(Str.ofString "x", .int 0 t5)]) ∧
      (2 ≤ j → (c.pl = 1 ∨ (3 ≤ j ∧ c.pl = 2)) ∧ (∃ t7 t8, c.us = [.int 2 t7, .int 2 t8]) ∧ ∃ t5 t6, c.kvs = [(Str.ofString "x", .int 0 t5), (Str.ofString "what", .int 1 t6)])) led ⟨0, tp0, [.int 0 ta, .int 0 tb], oP, []⟩ rfl PassesOwn.never (.inl ⟨_, _, rfl⟩) F1 N1 ?hin ?ap (.inr fun _ => ?hl) ?hm ⟨hP, fun _ => ⟨rfl, rfl, rfl⟩, (fun h => nomatch h), fun h => absurd h (by walk_at "om")⟩ ?turn ?done
  (case hin => (walk_at "sub"))
  (case ap => exact Apart.cons hul (Apart.cons hpl Apart.nil))
  (case hl => k_mem)
  (case hm => intro y _; subst etp; rfl)
  (case turn =>
    intro j v c u4 I oI hp4 tk4 hj hPP F4 N4 ap4
    (try refine (let q0 := _; (?_ : wpAny _ _ _ q0 _ _)))
    obtain ⟨pl, tp, us, oP4, kvs⟩ := c
    obtain ⟨hd4, p0, p1, p2⟩ := hPP
    have oI1 := ap4.off (.head _)
    have oI2 := ap4.off (.tail _ (.head _))
    dsimp only at *
    rcases j with _ | _ | _ | j
    · obtain ⟨rfl, rfl, rfl⟩ := p0 rfl
      obtain rfl : Value.str (Str.ofString "x") tx = v := by simpa using hj
      simp only [List.cons_append, List.nil_append] at N4
      repeat' (first | ((fail_if_success (fail_if_success k_unfold)); first | refine (?_ : wpAny _ _ (execs _ _) _ _ _) | (k_unfold; (try dsimp only))) | ((first | (with_reducible show wpAny _ _ (execs _ _) _ _ _) | (with_reducible show wpAny _ _ (exec _ _) _ _ _)); first | ((fail_if_success k_fold); refine wpAny_tok ?_; intro tk0) | ((fail_if_success (fail_if_success k_fold)); refine (let q0 := _; (?_ : wpAny _ _ _ q0 _ _)))) | ((with_reducible show wpAny _ _ (subscriptTail _ _ (Value.ref _) (Value.int _ _)) _ _ _); k_dflt (refine' item_at ?k1 ?k2 ?k3 ?k4 ?k5 ?_; (case k1 => k_asm); (case k2 => k_mem); (case k5 => first | assumption | exact rfl); (case k3 => first | omega | decide); (case k4 => first | omega | decide))) | ((with_reducible show wpAny _ _ (exec _ _) _ _ _); first | ((with_reducible show wpAny _ _ (exec (Stmt.While (PySem.Expr.BoolOp ..) _ _ _) _) _ _ _); (refine while_start ?_)) | ((with_reducible show wpAny _ _ (exec (Stmt.For (PySem.Expr.Name ..) (PySem.Expr.Attribute ..) _ [] _) _) _ _ _); walk_at "for0")) | ((with_reducible show wpAny _ _ (compareOp CmpOp.NotIn (Value.str _ _) (Value.ref _)) _ _ _); (k_dflt (refine kdg_notin (knd := PySem.strKind _ _) (by k_asm) (by k_mem) (by k_asm) (by k_asm) (strKind_is _ _ _ _) _ (by assumption) ?_); (try dsimp only [Bool.not_true, Bool.not_false]))) | ((with_reducible show wpAny _ _ (setItem (Value.ref _) (Value.int _ _) _) _ _ _); k_dflt (refine' list_set ?k1 ?k2 ?k3 ?k4 ?k5 ?k6 ?k7 ?_; (case k1 => k_asm); (case k2 => k_asm); (case k3 => decide); (case k4 => decide); (case k6 => exact rfl); (case k7 => k_upd); (case k5 => decide)); intro _ F' N'; (try k_sweep)) | walk1 | (dsimp only; first | (k_unfold; (try dsimp only)) | walk1) | (leave1; (try dsimp only)) | fail "no step")
      rename News _ _ _ _ => N5
      rename Fr _ _ _ _ => F5
      refine' while_st (σ := Unit) (fun _ => [(ul, listOf #[.int 0 ta, .int 0 tb] nu), (pd, oP4)]) (fun _ => _) [] (fun _ => True) (fun _ => 0) ((I, oI) :: led) () PassesOwn.never F5 N5 ?hinA ap4 Mis.rfl' trivial ?_
      (case hinA => (walk_at "sub"))
      intro c6 u6 h6 tk6 hP6 F6 N6 ap6
      dsimp only at *
      simp only [List.cons_append, List.nil_append] at N6
      repeat' (first | ((fail_if_success (fail_if_success k_unfold)); first | refine (?_ : wpAny _ _ (execs _ _) _ _ _) | (k_unfold; (try dsimp only))) | ((first | (with_reducible show wpAny _ _ (execs _ _) _ _ _) | (with_reducible show wpAny _ _ (exec _ _) _ _ _)); first | ((fail_if_success k_fold); refine wpAny_tok ?_; intro tk0) | ((fail_if_success (fail_if_success k_fold)); refine (let q0 := _; (?_ : wpAny _ _ _ q0 _ _)))) | ((with_reducible show wpAny _ _ (subscriptTail _ _ (Value.ref _) (Value.int _ _)) _ _ _); k_dflt (refine' item_at ?k1 ?k2 ?k3 ?k4 ?k5 ?_; (case k1 => k_asm); (case k2 => k_mem); (case k5 => first | assumption | exact rfl); (case k3 => first | omega | decide); (case k4 => first | omega | decide))) | ((with_reducible show wpAny _ _ (exec _ _) _ _ _); first | ((with_reducible show wpAny _ _ (exec (Stmt.While (PySem.Expr.BoolOp ..) _ _ _) _) _ _ _); (refine while_start ?_)) | ((with_reducible show wpAny _ _ (exec (Stmt.For (PySem.Expr.Name ..) (PySem.Expr.Attribute ..) _ [] _) _) _ _ _); walk_at "for0")) | ((with_reducible show wpAny _ _ (compareOp CmpOp.NotIn (Value.str _ _) (Value.ref _)) _ _ _); (k_dflt (refine kdg_notin (knd := PySem.strKind _ _) (by k_asm) (by k_mem) (by k_asm) (by k_asm) (strKind_is _ _ _ _) _ (by assumption) ?_); (try dsimp only [Bool.not_true, Bool.not_false]))) | ((with_reducible show wpAny _ _ (setItem (Value.ref _) (Value.int _ _) _) _ _ _); k_dflt (refine' list_set ?k1 ?k2 ?k3 ?k4 ?k5 ?k6 ?k7 ?_; (case k1 => k_asm); (case k2 => k_asm); (case k3 => decide); (case k4 => decide); (case k6 => exact rfl); (case k7 => k_upd); (case k5 => decide)); intro _ F' N'; (try k_sweep)) | walk1 | (dsimp only; first | (k_unfold; (try dsimp only)) | walk1) | (leave1; (try dsimp only)) | fail "no step")
      rename Obj.IsDictOf _ _ _ => hd5
      refine' TurnEnd.next ⟨0, tp, [.int 2 _, .int 0 tb], _, [(Str.ofString "x", .int 0 tp)]⟩ (by assumption) ?misA (by assumption) ?subA ?apA ⟨hd5, (fun h => nomatch h), fun _ => ⟨rfl, ⟨_, rfl⟩, _, rfl⟩, fun h => absurd h (by walk_at "om")⟩
      (case misA => (intro y hy; by_cases p : y = Str.ofString "place"; (subst p; rfl); by_cases q : y = Str.ofString "name"; (first | (subst q; rfl) | (exfalso; subst q; revert hy; decide)); (have h2 : ([Str.ofString "name"] : List Str).contains y = false := by simp [q]); simp only [if_neg p, if_neg q, mix_out h2, mixNil]))
      (case subA => (walk_at "sub"))
      (case apA => exact Apart.cons oI1 (Apart.cons oI2 Apart.nil))
    · obtain ⟨rfl, ⟨t7, rfl⟩, t5, rfl⟩ := p1 rfl
      obtain rfl : Value.str (Str.ofString "what") tw = v := by simpa using hj
      have hbw1 := hbw (.int 0 t5)
      simp only [List.cons_append, List.nil_append] at N4
      repeat' (first | ((fail_if_success (fail_if_success k_unfold)); first | refine (?_ : wpAny _ _ (execs _ _) _ _ _) | (k_unfold; (try dsimp only))) | ((first | (with_reducible show wpAny _ _ (execs _ _) _ _ _) | (with_reducible show wpAny _ _ (exec _ _) _ _ _)); first | ((fail_if_success k_fold); refine wpAny_tok ?_; intro tk0) | ((fail_if_success (fail_if_success k_fold)); refine (let q0 := _; (?_ : wpAny _ _ _ q0 _ _)))) | ((with_reducible show wpAny _ _ (subscriptTail _ _ (Value.ref _) (Value.int _ _)) _ _ _); k_dflt (refine' item_at ?k1 ?k2 ?k3 ?k4 ?k5 ?_; (case k1 => k_asm); (case k2 => k_mem); (case k5 => first | assumption | exact rfl); (case k3 => first | omega | decide); (case k4 => first | omega | decide))) | ((with_reducible show wpAny _ _ (exec _ _) _ _ _); first | ((with_reducible show wpAny _ _ (exec (Stmt.While (PySem.Expr.BoolOp ..) _ _ _) _) _ _ _); (refine while_start ?_)) | ((with_reducible show wpAny _ _ (exec (Stmt.For (PySem.Expr.Name ..) (PySem.Expr.Attribute ..) _ [] _) _) _ _ _); walk_at "for0")) | ((with_reducible show wpAny _ _ (compareOp CmpOp.NotIn (Value.str _ _) (Value.ref _)) _ _ _); (k_dflt (refine kdg_notin (knd := PySem.strKind _ _) (by k_asm) (by k_mem) (by k_asm) (by k_asm) (strKind_is _ _ _ _) _ (by assumption) ?_); (try dsimp only [Bool.not_true, Bool.not_false]))) | ((with_reducible show wpAny _ _ (setItem (Value.ref _) (Value.int _ _) _) _ _ _); k_dflt (refine' list_set ?k1 ?k2 ?k3 ?k4 ?k5 ?k6 ?k7 ?_; (case k1 => k_asm); (case k2 => k_asm); (case k3 => decide); (case k4 => decide); (case k6 => exact rfl); (case k7 => k_upd); (case k5 => decide)); intro _ F' N'; (try k_sweep)) | walk1 | (dsimp only; first | (k_unfold; (try dsimp only)) | walk1) | (leave1; (try dsimp only)) | fail "no step")
      rename News _ _ _ _ => N5
      rename Fr _ _ _ _ => F5
      refine' while_st (σ := PSt) (fun _ => [(ul, listOf #[.int 2 t7, .int 0 tb] nu), (pd, oP4)]) (fun c y => if y = Str.ofString "name" then some (.str (Str.ofString "what") tw) else if y = Str.ofString "place" then some (.int c.pl c.tp) else List.lookup y [(Str.ofString "self", Value.ref mo)].reverse) [] (fun c => c.pl = 0 ∨ c.pl = 1) (fun c => (2 - c.pl).toNat) ((I, oI) :: led) ⟨0, tp, [], oP4, []⟩ PassesOwn.never F5 N5 ?hinB ap4 ?misB0 (.inl rfl) ?_
      (case hinB => (walk_at "sub"))
      (case misB0 => (intro y hy; by_cases p : y = Str.ofString "place"; (subst p; rfl); by_cases q : y = Str.ofString "name"; (first | (subst q; rfl) | (exfalso; subst q; revert hy; decide)); (have h2 : ([Str.ofString "name"] : List Str).contains y = false := by simp [q]); simp only [if_neg p, if_neg q, mix_out h2, mixNil]))
      intro c6 u6 h6 tk6 hP6 F6 N6 ap6
      obtain ⟨pl6, tp6, us6, oP6, kvs6⟩ := c6
      dsimp only at *
      simp only [List.cons_append, List.nil_append] at N6
      rcases hP6 with rfl | rfl
      · repeat' (first | ((fail_if_success (fail_if_success k_unfold)); first | refine (?_ : wpAny _ _ (execs _ _) _ _ _) | (k_unfold; (try dsimp only))) | ((first | (with_reducible show wpAny _ _ (execs _ _) _ _ _) | (with_reducible show wpAny _ _ (exec _ _) _ _ _)); first | ((fail_if_success k_fold); refine wpAny_tok ?_; intro tk0) | ((fail_if_success (fail_if_success k_fold)); refine (let q0 := _; (?_ : wpAny _ _ _ q0 _ _)))) | ((with_reducible show wpAny _ _ (subscriptTail _ _ (Value.ref _) (Value.int _ _)) _ _ _); k_dflt (refine' item_at ?k1 ?k2 ?k3 ?k4 ?k5 ?_; (case k1 => k_asm); (case k2 => k_mem); (case k5 => first | assumption | exact rfl); (case k3 => first | omega | decide); (case k4 => first | omega | decide))) | ((with_reducible show wpAny _ _ (exec _ _) _ _ _); first | ((with_reducible show wpAny _ _ (exec (Stmt.While (PySem.Expr.BoolOp ..) _ _ _) _) _ _ _); (refine while_start ?_)) | ((with_reducible show wpAny _ _ (exec (Stmt.For (PySem.Expr.Name ..) (PySem.Expr.Attribute ..) _ [] _) _) _ _ _); walk_at "for0")) | ((with_reducible show wpAny _ _ (compareOp CmpOp.NotIn (Value.str _ _) (Value.ref _)) _ _ _); (k_dflt (refine kdg_notin (knd := PySem.strKind _ _) (by k_asm) (by k_mem) (by k_asm) (by k_asm) (strKind_is _ _ _ _) _ (by assumption) ?_); (try dsimp only [Bool.not_true, Bool.not_false]))) | ((with_reducible show wpAny _ _ (setItem (Value.ref _) (Value.int _ _) _) _ _ _); k_dflt (refine' list_set ?k1 ?k2 ?k3 ?k4 ?k5 ?k6 ?k7 ?_; (case k1 => k_asm); (case k2 => k_asm); (case k3 => decide); (case k4 => decide); (case k6 => exact rfl); (case k7 => k_upd); (case k5 => decide)); intro _ F' N'; (try k_sweep)) | walk1 | (dsimp only; first | (k_unfold; (try dsimp only)) | walk1) | (leave1; (try dsimp only)) | fail "no step")
        rename Fr _ _ _ _ => F8
        refine nameI F8 (Str.ofString "place") rfl fun tp8 e8 => ?_
        refine' TurnEnd.next ⟨1, tp8, [], oP4, []⟩ (by assumption) ?misB1 (by assumption) ?subB1 ap6 ⟨.inr rfl, by dsimp only; decide⟩
        (case misB1 => subst e8; (intro y hy; by_cases p : y = Str.ofString "place"; (subst p; rfl); by_cases q : y = Str.ofString "name"; (first | (subst q; rfl) | (exfalso; subst q; revert hy; decide)); (have h2 : ([Str.ofString "name"] : List Str).contains y = false := by simp [q]); simp only [if_neg p, if_neg q, mix_out h2, mixNil]))
        (case subB1 => (walk_at "sub"))
      · repeat' (first | ((fail_if_success (fail_if_success k_unfold)); first | refine (?_ : wpAny _ _ (execs _ _) _ _ _) | (k_unfold; (try dsimp only))) | ((first | (with_reducible show wpAny _ _ (execs _ _) _ _ _) | (with_reducible show wpAny _ _ (exec _ _) _ _ _)); first | ((fail_if_success k_fold); refine wpAny_tok ?_; intro tk0) | ((fail_if_success (fail_if_success k_fold)); refine (let q0 := _; (?_ : wpAny _ _ _ q0 _ _)))) | ((with_reducible show wpAny _ _ (subscriptTail _ _ (Value.ref _) (Value.int _ _)) _ _ _); k_dflt (refine' item_at ?k1 ?k2 ?k3 ?k4 ?k5 ?_; (case k1 => k_asm); (case k2 => k_mem); (case k5 => first | assumption | exact rfl); (case k3 => first | omega | decide); (case k4 => first | omega | decide))) | ((with_reducible show wpAny _ _ (exec _ _) _ _ _); first | ((with_reducible show wpAny _ _ (exec (Stmt.While (PySem.Expr.BoolOp ..) _ _ _) _) _ _ _); (refine while_start ?_)) | ((with_reducible show wpAny _ _ (exec (Stmt.For (PySem.Expr.Name ..) (PySem.Expr.Attribute ..) _ [] _) _) _ _ _); walk_at "for0")) | ((with_reducible show wpAny _ _ (compareOp CmpOp.NotIn (Value.str _ _) (Value.ref _)) _ _ _); (k_dflt (refine kdg_notin (knd := PySem.strKind _ _) (by k_asm) (by k_mem) (by k_asm) (by k_asm) (strKind_is _ _ _ _) _ (by assumption) ?_); (try dsimp only [Bool.not_true, Bool.not_false]))) | ((with_reducible show wpAny _ _ (setItem (Value.ref _) (Value.int _ _) _) _ _ _); k_dflt (refine' list_set ?k1 ?k2 ?k3 ?k4 ?k5 ?k6 ?k7 ?_; (case k1 => k_asm); (case k2 => k_asm); (case k3 => decide); (case k4 => decide); (case k6 => exact rfl); (case k7 => k_upd); (case k5 => decide)); intro _ F' N'; (try k_sweep)) | walk1 | (dsimp only; first | (k_unfold; (try dsimp only)) | walk1) | (leave1; (try dsimp only)) | fail "no step")
        rename Obj.IsDictOf _ _ _ => hd5
        refine' TurnEnd.next ⟨1, tp6, [.int 2 t7, .int 2 _], _, [(Str.ofString "x", .int 0 t5), (Str.ofString "what", .int 1 tp6)]⟩ (by assumption) ?misB2 (by assumption) ?subB2 ?apB2 ⟨hd5, (fun h => nomatch h), (fun h => nomatch h), fun _ => ?pB2⟩
        (case misB2 => (intro y hy; by_cases p : y = Str.ofString "place"; (subst p; rfl); by_cases q : y = Str.ofString "name"; (first | (subst q; rfl) | (exfalso; subst q; revert hy; decide)); (have h2 : ([Str.ofString "name"] : List Str).contains y = false := by simp [q]); simp only [if_neg p, if_neg q, mix_out h2, mixNil]))
        (case subB2 => (walk_at "sub"))
        (case apB2 => exact Apart.cons oI1 (Apart.cons oI2 Apart.nil))
        (case pB2 => exact ⟨.inl rfl, ⟨_, _, rfl⟩, _, _, rfl⟩)
    · obtain ⟨hpl2, ⟨t7, t8, rfl⟩, t5, t6, rfl⟩ := p2 (by walk_at "om")
      obtain rfl : Value.str (Str.ofString "which") ti = v := by simpa using hj
      have hbz1 := hbz (.int 0 t5) (.int 1 t6)
      simp only [List.cons_append, List.nil_append] at N4
      obtain rfl : pl = 1 := hpl2.resolve_right fun h => absurd h.1 (by walk_at "om")
      repeat' (first | ((fail_if_success (fail_if_success k_unfold)); first | refine (?_ : wpAny _ _ (execs _ _) _ _ _) | (k_unfold; (try dsimp only))) | ((first | (with_reducible show wpAny _ _ (execs _ _) _ _ _) | (with_reducible show wpAny _ _ (exec _ _) _ _ _)); first | ((fail_if_success k_fold); refine wpAny_tok ?_; intro tk0) | ((fail_if_success (fail_if_success k_fold)); refine (let q0 := _; (?_ : wpAny _ _ _ q0 _ _)))) | ((with_reducible show wpAny _ _ (subscriptTail _ _ (Value.ref _) (Value.int _ _)) _ _ _); k_dflt (refine' item_at ?k1 ?k2 ?k3 ?k4 ?k5 ?_; (case k1 => k_asm); (case k2 => k_mem); (case k5 => first | assumption | exact rfl); (case k3 => first | omega | decide); (case k4 => first | omega | decide))) | ((with_reducible show wpAny _ _ (exec _ _) _ _ _); first | ((with_reducible show wpAny _ _ (exec (Stmt.While (PySem.Expr.BoolOp ..) _ _ _) _) _ _ _); (refine while_start ?_)) | ((with_reducible show wpAny _ _ (exec (Stmt.For (PySem.Expr.Name ..) (PySem.Expr.Attribute ..) _ [] _) _) _ _ _); walk_at "for0")) | ((with_reducible show wpAny _ _ (compareOp CmpOp.NotIn (Value.str _ _) (Value.ref _)) _ _ _); (k_dflt (refine kdg_notin (knd := PySem.strKind _ _) (by k_asm) (by k_mem) (by k_asm) (by k_asm) (strKind_is _ _ _ _) _ (by assumption) ?_); (try dsimp only [Bool.not_true, Bool.not_false]))) | ((with_reducible show wpAny _ _ (setItem (Value.ref _) (Value.int _ _) _) _ _ _); k_dflt (refine' list_set ?k1 ?k2 ?k3 ?k4 ?k5 ?k6 ?k7 ?_; (case k1 => k_asm); (case k2 => k_asm); (case k3 => decide); (case k4 => decide); (case k6 => exact rfl); (case k7 => k_upd); (case k5 => decide)); intro _ F' N'; (try k_sweep)) | walk1 | (dsimp only; first | (k_unfold; (try dsimp only)) | walk1) | (leave1; (try dsimp only)) | fail "no step")
      rename News _ _ _ _ => N5
      rename Fr _ _ _ _ => F5
      refine' while_st (σ := PSt) (fun _ => [(ul, listOf #[.int 2 t7, .int 2 t8] nu), (pd, oP4)]) (fun c y => if y = Str.ofString "name" then some (.str (Str.ofString "which") ti) else if y = Str.ofString "place" then some (.int c.pl c.tp) else List.lookup y [(Str.ofString "self", Value.ref mo)].reverse) [] (fun c => c.pl = 1 ∨ c.pl = 2) (fun c => (3 - c.pl).toNat) ((I, oI) :: led) ⟨1, tp, [], oP4, []⟩ PassesOwn.never F5 N5 ?hinC ap4 ?misC0 (.inl rfl) ?_
      (case hinC => (walk_at "sub"))
      (case misC0 => (intro y hy; by_cases p : y = Str.ofString "place"; (subst p; rfl); by_cases q : y = Str.ofString "name"; (first | (subst q; rfl) | (exfalso; subst q; revert hy; decide)); (have h2 : ([Str.ofString "name"] : List Str).contains y = false := by simp [q]); simp only [if_neg p, if_neg q, mix_out h2, mixNil]))
      intro c6 u6 h6 tk6 hP6 F6 N6 ap6
      obtain ⟨pl6, tp6, us6, oP6, kvs6⟩ := c6
      dsimp only at *
      simp only [List.cons_append, List.nil_append] at N6
      rcases hP6 with rfl | rfl
      · repeat' (first | ((fail_if_success (fail_if_success k_unfold)); first | refine (?_ : wpAny _ _ (execs _ _) _ _ _) | (k_unfold; (try dsimp only))) | ((first | (with_reducible show wpAny _ _ (execs _ _) _ _ _) | (with_reducible show wpAny _ _ (exec _ _) _ _ _)); first | ((fail_if_success k_fold); refine wpAny_tok ?_; intro tk0) | ((fail_if_success (fail_if_success k_fold)); refine (let q0 := _; (?_ : wpAny _ _ _ q0 _ _)))) | ((with_reducible show wpAny _ _ (subscriptTail _ _ (Value.ref _) (Value.int _ _)) _ _ _); k_dflt (refine' item_at ?k1 ?k2 ?k3 ?k4 ?k5 ?_; (case k1 => k_asm); (case k2 => k_mem); (case k5 => first | assumption | exact rfl); (case k3 => first | omega | decide); (case k4 => first | omega | decide))) | ((with_reducible show wpAny _ _ (exec _ _) _ _ _); first | ((with_reducible show wpAny _ _ (exec (Stmt.While (PySem.Expr.BoolOp ..) _ _ _) _) _ _ _); (refine while_start ?_)) | ((with_reducible show wpAny _ _ (exec (Stmt.For (PySem.Expr.Name ..) (PySem.Expr.Attribute ..) _ [] _) _) _ _ _); walk_at "for0")) | ((with_reducible show wpAny _ _ (compareOp CmpOp.NotIn (Value.str _ _) (Value.ref _)) _ _ _); (k_dflt (refine kdg_notin (knd := PySem.strKind _ _) (by k_asm) (by k_mem) (by k_asm) (by k_asm) (strKind_is _ _ _ _) _ (by assumption) ?_); (try dsimp only [Bool.not_true, Bool.not_false]))) | ((with_reducible show wpAny _ _ (setItem (Value.ref _) (Value.int _ _) _) _ _ _); k_dflt (refine' list_set ?k1 ?k2 ?k3 ?k4 ?k5 ?k6 ?k7 ?_; (case k1 => k_asm); (case k2 => k_asm); (case k3 => decide); (case k4 => decide); (case k6 => exact rfl); (case k7 => k_upd); (case k5 => decide)); intro _ F' N'; (try k_sweep)) | walk1 | (dsimp only; first | (k_unfold; (try dsimp only)) | walk1) | (leave1; (try dsimp only)) | fail "no step")
        rename Fr _ _ _ _ => F8
        refine nameI F8 (Str.ofString "place") rfl fun tp8 e8 => ?_
        refine' TurnEnd.next ⟨2, tp8, [], oP4, []⟩ (by assumption) ?misC1 (by assumption) ?subC1 ap6 ⟨.inr rfl, by dsimp only; decide⟩
        (case misC1 => subst e8; (intro y hy; by_cases p : y = Str.ofString "place"; (subst p; rfl); by_cases q : y = Str.ofString "name"; (first | (subst q; rfl) | (exfalso; subst q; revert hy; decide)); (have h2 : ([Str.ofString "name"] : List Str).contains y = false := by simp [q]); simp only [if_neg p, if_neg q, mix_out h2, mixNil]))
        (case subC1 => (walk_at "sub"))
      · repeat' (first | ((fail_if_success (fail_if_success k_unfold)); first | refine (?_ : wpAny _ _ (execs _ _) _ _ _) | (k_unfold; (try dsimp only))) | ((first | (with_reducible show wpAny _ _ (execs _ _) _ _ _) | (with_reducible show wpAny _ _ (exec _ _) _ _ _)); first | ((fail_if_success k_fold); refine wpAny_tok ?_; intro tk0) | ((fail_if_success (fail_if_success k_fold)); refine (let q0 := _; (?_ : wpAny _ _ _ q0 _ _)))) | ((with_reducible show wpAny _ _ (subscriptTail _ _ (Value.ref _) (Value.int _ _)) _ _ _); k_dflt (refine' item_at ?k1 ?k2 ?k3 ?k4 ?k5 ?_; (case k1 => k_asm); (case k2 => k_mem); (case k5 => first | assumption | exact rfl); (case k3 => first | omega | decide); (case k4 => first | omega | decide))) | ((with_reducible show wpAny _ _ (exec _ _) _ _ _); first | ((with_reducible show wpAny _ _ (exec (Stmt.While (PySem.Expr.BoolOp ..) _ _ _) _) _ _ _); (refine while_start ?_)) | ((with_reducible show wpAny _ _ (exec (Stmt.For (PySem.Expr.Name ..) (PySem.Expr.Attribute ..) _ [] _) _) _ _ _); walk_at "for0")) | ((with_reducible show wpAny _ _ (compareOp CmpOp.NotIn (Value.str _ _) (Value.ref _)) _ _ _); (k_dflt (refine kdg_notin (knd := PySem.strKind _ _) (by k_asm) (by k_mem) (by k_asm) (by k_asm) (strKind_is _ _ _ _) _ (by assumption) ?_); (try dsimp only [Bool.not_true, Bool.not_false]))) | ((with_reducible show wpAny _ _ (setItem (Value.ref _) (Value.int _ _) _) _ _ _); k_dflt (refine' list_set ?k1 ?k2 ?k3 ?k4 ?k5 ?k6 ?k7 ?_; (case k1 => k_asm); (case k2 => k_asm); (case k3 => decide); (case k4 => decide); (case k6 => exact rfl); (case k7 => k_upd); (case k5 => decide)); intro _ F' N'; (try k_sweep)) | walk1 | (dsimp only; first | (k_unfold; (try dsimp only)) | walk1) | (leave1; (try dsimp only)) | fail "no step")
        refine' TurnEnd.next ⟨2, tp6, [.int 2 t7, .int 2 t8], oP4, [(Str.ofString "x", .int 0 t5), (Str.ofString "what", .int 1 t6)]⟩ (by assumption) ?misC2 (by assumption) ?subC2 ap4 ⟨hd4, (fun h => nomatch h), (fun h => nomatch h), fun _ => ⟨.inr ⟨by omega, rfl⟩, ⟨_, _, rfl⟩, _, _, rfl⟩⟩
        (case misC2 => (intro y hy; by_cases p : y = Str.ofString "place"; (subst p; rfl); by_cases q : y = Str.ofString "name"; (first | (subst q; rfl) | (exfalso; subst q; revert hy; decide)); (have h2 : ([Str.ofString "name"] : List Str).contains y = false := by simp [q]); simp only [if_neg p, if_neg q, mix_out h2, mixNil]))
        (case subC2 => (walk_at "sub"))
    · simp at hj)
  (case done =>
    intro c u5 h5 tk5 hP5 F5 N5 ap5
    obtain ⟨hd5, _, _, p5⟩ := hP5
    obtain ⟨_, ⟨t7, t8, hu⟩, t5, t6, hk5⟩ := p5 (by simp)
    obtain ⟨pl5, tp5, us5, oP5, kvs5⟩ := c
    dsimp only at *
    subst hu; subst hk5
    simp only [List.cons_append, List.nil_append] at N5
    repeat' (first | ((fail_if_success (fail_if_success k_unfold)); first | refine (?_ : wpAny _ _ (execs _ _) _ _ _) | (k_unfold; (try dsimp only))) | ((first | (with_reducible show wpAny _ _ (execs _ _) _ _ _) | (with_reducible show wpAny _ _ (exec _ _) _ _ _)); first | ((fail_if_success k_fold); refine wpAny_tok ?_; intro tk0) | ((fail_if_success (fail_if_success k_fold)); refine (let q0 := _; (?_ : wpAny _ _ _ q0 _ _)))) | ((with_reducible show wpAny _ _ (subscriptTail _ _ (Value.ref _) (Value.int _ _)) _ _ _); k_dflt (refine' item_at ?k1 ?k2 ?k3 ?k4 ?k5 ?_; (case k1 => k_asm); (case k2 => k_mem); (case k5 => first | assumption | exact rfl); (case k3 => first | omega | decide); (case k4 => first | omega | decide))) | ((with_reducible show wpAny _ _ (exec _ _) _ _ _); first | ((with_reducible show wpAny _ _ (exec (Stmt.While (PySem.Expr.BoolOp ..) _ _ _) _) _ _ _); (refine while_start ?_)) | ((with_reducible show wpAny _ _ (exec (Stmt.For (PySem.Expr.Name ..) (PySem.Expr.Attribute ..) _ [] _) _) _ _ _); walk_at "for0")) | ((with_reducible show wpAny _ _ (compareOp CmpOp.NotIn (Value.str _ _) (Value.ref _)) _ _ _); (k_dflt (refine kdg_notin (knd := PySem.strKind _ _) (by k_asm) (by k_mem) (by k_asm) (by k_asm) (strKind_is _ _ _ _) _ (by assumption) ?_); (try dsimp only [Bool.not_true, Bool.not_false]))) | ((with_reducible show wpAny _ _ (setItem (Value.ref _) (Value.int _ _) _) _ _ _); k_dflt (refine' list_set ?k1 ?k2 ?k3 ?k4 ?k5 ?k6 ?k7 ?_; (case k1 => k_asm); (case k2 => k_asm); (case k3 => decide); (case k4 => decide); (case k6 => exact rfl); (case k7 => k_upd); (case k5 => decide)); intro _ F' N'; (try k_sweep)) | walk1 | (dsimp only; first | (k_unfold; (try dsimp only)) | walk1) | (leave1; (try dsimp only)) | fail "no step")
    refine Fin.mk ((ul, listOf #[.int 2 t7, .int 2 t8] nu) :: (pd, oP5) :: led) (by assumption) (by assumption) ?subZ ⟨rfl, oP5, t5, t6, t7, t8, hd5, rfl⟩
    (case subZ => (walk_at "sub")))
end

-- C_pos3
section
local macro_rules | `(tactic| walk_at "pad0") => `(tactic| fail "pad")
local macro_rules | `(tactic| walk_at "pad1") => `(tactic| fail "pad")
local macro_rules | `(tactic| walk_at "pad2") => `(tactic| fail "pad")
local macro_rules | `(tactic| walk_at "call builtin:len") => `(tactic| (k_here; (with_reducible show wpAny _ _ (call (Value.builtin "len") [Value.ref _]) _ _ _); k_dflt (first
  | (refine' len_0 ?k1 ?k2 ?_; (case k1 => k_asm); (case k2 => k_mem))
  | (refine' len_1 ?k1 ?k2 ?_; (case k1 => k_asm); (case k2 => k_mem))
  | (refine' len_2 ?k1 ?k2 ?_; (case k1 => k_asm); (case k2 => k_mem))
  | (refine' len_3 ?k1 ?k2 ?_; (case k1 => k_asm); (case k2 => k_mem)))))


set_option maxHeartbeats 8000000 in
theorem c_pos3 (w : World) {mean : ExcName → Option Value} {mg mb : Str → Option Value} (led : List (Addr × Obj)) (mo dm fl tl ul pd : Addr) (h1 h2 h3 h4 : Int) (t1 t2 t3 t4 : Tok) (nf nt nu : Nat) (tx tw ti tt ta tb tc tz : Tok) (oP : Obj)
  (m1 : (mo, instObj 280 dm) ∈ led) (m2 : (dm, matD h1 h2 h3 h4 t1 t2 t3 t4 fl tl ul pd) ∈ led) (m3 : (fl, formals tx tw ti nf) ∈ led) (m4 : (tl, listOf #[.none, .none, .str (Str.ofString "which") tt] nt) ∈ led)
  (hP : oP.IsDictOf (PySem.strKind PySem.Challenge.rw_pq1424_01.row.prog w) [(Str.ofString "which", .int 2 tz)]) (lP : (pd == sysModules) = false) (hup : @Ne Nat ul pd) (hul : Off ul led) (hpl : Off pd led) :
  Tells1 PySem.Challenge.rw_pq1424_01.row.prog w (Mine.kAt w.params) Mine.viewQ (looseW Mine.viewQ [Str.ofString "match_names", Str.ofString "take"]) mean mg mb 265 [.ref mo] [] 5 ((ul, listOf #[.int 0 ta, .int 0 tb, .int 2 tc] nu) :: (pd, oP) :: led)
   (fun r out => r = .none ∧ ∃ oP' t5 t6 t7 t8, oP'.IsDictOf (PySem.strKind PySem.Challenge.rw_pq1424_01.row.prog w) [(Str.ofString "which", .int 2 tz), (Str.ofString "x", .int 0 t5), (Str.ofString "what", .int 1 t6)] ∧ out = (ul, listOf #[.int 2 t7, .int 2 t8, .int 2 tc] nu) :: (pd, oP') :: led) := by
  have hbx : (valueAt ([(Str.ofString "which", .int 2 tz)] : List (Str × Value)) (Str.ofString "x")).isSome = false := rfl
  have hbw : ∀ v, (valueAt ([(Str.ofString "which", .int 2 tz), (Str.ofString "x", v)] : List (Str × Value)) (Str.ofString "what")).isSome = false := fun _ => rfl
  have hbz : ∀ v v', (valueAt ([(Str.ofString "which", .int 2 tz), (Str.ofString "x", v), (Str.ofString "what", v')] : List (Str × Value)) (Str.ofString "which")).isSome = true := fun _ _ => rfl
  k_fill
  refine' tells1_enter (binds := [(Str.ofString "self", .ref mo)]) ?k6 ?k7 ?kr ?k9 ?kB ?c2 ?c3 ?c4 ?c5 ?_
  (case k6 => k_is)
  (case k7 => k_is)
  (case kr => decide)
  (case k9 => intro s hX; first | exact BindsTo.of_eq rfl | exact binds_K (by k_in) rfl (by k_is) rfl rfl rfl)
  (case kB => exact locs rfl)
  (case c2 => exact rfl)
  (case c3 => exact rfl)
  (case c4 => exact rfl)
  (case c5 => decide)
  intro dp un gd cn cs a ccd cl outer base g L L' h₁ s tk hd hu F' N' B' X' T'
  (try dsimp only)
  (try k_fold)
  refine (let A1 := _; (?_ : wpAny _ A1 _ _ _ _))
  repeat' (first | ((fail_if_success (fail_if_success k_unfold)); first | refine (?_ : wpAny _ _ (execs _ _) _ _ _) | (k_unfold; (try dsimp only))) | ((first | (with_reducible show wpAny _ _ (execs _ _) _ _ _) | (with_reducible show wpAny _ _ (exec _ _) _ _ _)); first | ((fail_if_success k_fold); refine wpAny_tok ?_; intro tk0) | ((fail_if_success (fail_if_success k_fold)); refine (let q0 := _; (?_ : wpAny _ _ _ q0 _ _)))) | ((with_reducible show wpAny _ _ (subscriptTail _ _ (Value.ref _) (Value.int _ _)) _ _ _); k_dflt (refine' item_at ?k1 ?k2 ?k3 ?k4 ?k5 ?_; (case k1 => k_asm); (case k2 => k_mem); (case k5 => first | assumption | exact rfl); (case k3 => first | omega | decide); (case k4 => first | omega | decide))) | ((with_reducible show wpAny _ _ (exec _ _) _ _ _); first | ((with_reducible show wpAny _ _ (exec (Stmt.While (PySem.Expr.BoolOp ..) _ _ _) _) _ _ _); (refine while_start ?_)) | ((with_reducible show wpAny _ _ (exec (Stmt.For (PySem.Expr.Name ..) (PySem.Expr.Attribute ..) _ [] _) _) _ _ _); walk_at "for0")) | ((with_reducible show wpAny _ _ (compareOp CmpOp.NotIn (Value.str _ _) (Value.ref _)) _ _ _); (k_dflt (refine kdg_notin (knd := PySem.strKind _ _) (by k_asm) (by k_mem) (by k_asm) (by k_asm) (strKind_is _ _ _ _) _ (by assumption) ?_); (try dsimp only [Bool.not_true, Bool.not_false]))) | ((with_reducible show wpAny _ _ (setItem (Value.ref _) (Value.int _ _) _) _ _ _); k_dflt (refine' list_set ?k1 ?k2 ?k3 ?k4 ?k5 ?k6 ?k7 ?_; (case k1 => k_asm); (case k2 => k_asm); (case k3 => decide); (case k4 => decide); (case k6 => exact rfl); (case k7 => k_upd); (case k5 => decide)); intro _ F' N'; (try k_sweep)) | walk1 | (dsimp only; first | (k_unfold; (try dsimp only)) | walk1) | (leave1; (try dsimp only)) | fail "no step")
  rename News _ _ _ _ => N1
  rename Fr _ _ _ _ => F1
  refine nameI F1 (Str.ofString "place") rfl fun tp0 etp => ?_
  refine' for_list (σ := PSt) (nn := nf) (items := #[.str (Str.ofString "x") tx, .str (Str.ofString "what") tw, .str (Str.ofString "which") ti]) (fun c => [(ul, listOf c.us.toArray nu), (pd, c.oP)]) (fun c y => if y = Str.ofString "place" then some (.int c.pl c.tp) else List.lookup y [(Str.ofString "self", Value.ref mo)].reverse) [Str.ofString "name"]
    (fun j c => c.oP.IsDictOf (PySem.strKind PySem.Challenge.rw_pq1424_01.row.prog w) c.kvs ∧ (j = 0 → c.pl = 0 ∧ c.us = [.int 0 ta, .int 0 tb, .int 2 tc] ∧ c.kvs = [(Str.ofString "which", .int 2 tz)]) ∧ (j = 1 → c.pl = 0 ∧ (∃ t7, c.us = [.int 2 t7, .int 0 tb, .int 2 tc]) ∧ ∃ t5, c.kvs = [(Str.ofString "which", .int 2 tz), (Str.ofString "x", .int 0 t5)]) ∧
      (2 ≤ j → c.pl = 1 ∧ (∃ t7 t8, c.us = [.int 2 t7, .int 2 t8, .int 2 tc]) ∧ ∃ t5 t6, c.kvs = [(Str.ofString "which", .int 2 tz), (Str.ofString "x", .int 0 t5), (Str.ofString "what", .int 1 t6)])) led ⟨0, tp0, [.int 0 ta, .int 0 tb, .int 2 tc], oP, [(Str.ofString "which", .int 2 tz)]⟩ rfl PassesOwn.never (.inl ⟨_, _, rfl⟩) F1 N1 ?hin ?ap (.inr fun _ => ?hl) ?hm ⟨hP, fun _ => ⟨rfl, rfl, rfl⟩, (fun h => nomatch h), fun h => absurd h (by walk_at "om")⟩ ?turn ?done
  (case hin => (walk_at "sub"))
  (case ap => exact Apart.cons hul (Apart.cons hpl Apart.nil))
  (case hl => k_mem)
  (case hm => intro y _; subst etp; rfl)
  (case turn =>
    intro j v c u4 I oI hp4 tk4 hj hPP F4 N4 ap4
    (try refine (let q0 := _; (?_ : wpAny _ _ _ q0 _ _)))
    obtain ⟨pl, tp, us, oP4, kvs⟩ := c
    obtain ⟨hd4, p0, p1, p2⟩ := hPP
    have oI1 := ap4.off (.head _)
    have oI2 := ap4.off (.tail _ (.head _))
    dsimp only at *
    rcases j with _ | _ | _ | j
    · obtain ⟨rfl, rfl, rfl⟩ := p0 rfl
      obtain rfl : Value.str (Str.ofString "x") tx = v := by simpa using hj
      simp only [List.cons_append, List.nil_append] at N4
      repeat' (first | ((fail_if_success (fail_if_success k_unfold)); first | refine (?_ : wpAny _ _ (execs _ _) _ _ _) | (k_unfold; (try dsimp only))) | ((first | (with_reducible show wpAny _ _ (execs _ _) _ _ _) | (with_reducible show wpAny _ _ (exec _ _) _ _ _)); first | ((fail_if_success k_fold); refine wpAny_tok ?_; intro tk0) | ((fail_if_success (fail_if_success k_fold)); refine (let q0 := _; (?_ : wpAny _ _ _ q0 _ _)))) | ((with_reducible show wpAny _ _ (subscriptTail _ _ (Value.ref _) (Value.int _ _)) _ _ _); k_dflt (refine' item_at ?k1 ?k2 ?k3 ?k4 ?k5 ?_; (case k1 => k_asm); (case k2 => k_mem); (case k5 => first | assumption | exact rfl); (case k3 => first | omega | decide); (case k4 => first | omega | decide))) | ((with_reducible show wpAny _ _ (exec _ _) _ _ _); first | ((with_reducible show wpAny _ _ (exec (Stmt.While (PySem.Expr.BoolOp ..) _ _ _) _) _ _ _); (refine while_start ?_)) | ((with_reducible show wpAny _ _ (exec (Stmt.For (PySem.Expr.Name ..) (PySem.Expr.Attribute ..) _ [] _) _) _ _ _); walk_at "for0")) | ((with_reducible show wpAny _ _ (compareOp CmpOp.NotIn (Value.str _ _) (Value.ref _)) _ _ _); (k_dflt (refine kdg_notin (knd := PySem.strKind _ _) (by k_asm) (by k_mem) (by k_asm) (by k_asm) (strKind_is _ _ _ _) _ (by assumption) ?_); (try dsimp only [Bool.not_true, Bool.not_false]))) | ((with_reducible show wpAny _ _ (setItem (Value.ref _) (Value.int _ _) _) _ _ _); k_dflt (refine' list_set ?k1 ?k2 ?k3 ?k4 ?k5 ?k6 ?k7 ?_; (case k1 => k_asm); (case k2 => k_asm); (case k3 => decide); (case k4 => decide); (case k6 => exact rfl); (case k7 => k_upd); (case k5 => decide)); intro _ F' N'; (try k_sweep)) | walk1 | (dsimp only; first | (k_unfold; (try dsimp only)) | walk1) | (leave1; (try dsimp only)) | fail "no step")
      rename News _ _ _ _ => N5
      rename Fr _ _ _ _ => F5
      refine' while_st (σ := Unit) (fun _ => [(ul, listOf #[.int 0 ta, .int 0 tb, .int 2 tc] nu), (pd, oP4)]) (fun _ => _) [] (fun _ => True) (fun _ => 0) ((I, oI) :: led) () PassesOwn.never F5 N5 ?hinA ap4 Mis.rfl' trivial ?_
      (case hinA => (walk_at "sub"))
      intro c6 u6 h6 tk6 hP6 F6 N6 ap6
      dsimp only at *
      simp only [List.cons_append, List.nil_append] at N6
      repeat' (first | ((fail_if_success (fail_if_success k_unfold)); first | refine (?_ : wpAny _ _ (execs _ _) _ _ _) | (k_unfold; (try dsimp only))) | ((first | (with_reducible show wpAny _ _ (execs _ _) _ _ _) | (with_reducible show wpAny _ _ (exec _ _) _ _ _)); first | ((fail_if_success k_fold); refine wpAny_tok ?_; intro tk0) | ((fail_if_success (fail_if_success k_fold)); refine (let q0 := _; (?_ : wpAny _ _ _ q0 _ _)))) | ((with_reducible show wpAny _ _ (subscriptTail _ _ (Value.ref _) (Value.int _ _)) _ _ _); k_dflt (refine' item_at ?k1 ?k2 ?k3 ?k4 ?k5 ?_; (case k1 => k_asm); (case k2 => k_mem); (case k5 => first | assumption | exact rfl); (case k3 => first | omega | decide); (case k4 => first | omega | decide))) | ((with_reducible show wpAny _ _ (exec _ _) _ _ _); first | ((with_reducible show wpAny _ _ (exec (Stmt.While (PySem.Expr.BoolOp ..) _ _ _) _) _ _ _); (refine while_start ?_)) | ((with_reducible show wpAny _ _ (exec (Stmt.For (PySem.Expr.Name ..) (PySem.Expr.Attribute ..) _ [] _) _) _ _ _); walk_at "for0")) | ((with_reducible show wpAny _ _ (compareOp CmpOp.NotIn (Value.str _ _) (Value.ref _)) _ _ _); (k_dflt (refine kdg_notin (knd := PySem.strKind _ _) (by k_asm) (by k_mem) (by k_asm) (by k_asm) (strKind_is _ _ _ _) _ (by assumption) ?_); (try dsimp only [Bool.not_true, Bool.not_false]))) | ((with_reducible show wpAny _ _ (setItem (Value.ref _) (Value.int _ _) _) _ _ _); k_dflt (refine' list_set ?k1 ?k2 ?k3 ?k4 ?k5 ?k6 ?k7 ?_; (case k1 => k_asm); (case k2 => k_asm); (case k3 => decide); (case k4 => decide); (case k6 => exact rfl); (case k7 => k_upd); (case k5 => decide)); intro _ F' N'; (try k_sweep)) | walk1 | (dsimp only; first | (k_unfold; (try dsimp only)) | walk1) | (leave1; (try dsimp only)) | fail "no step")
      rename Obj.IsDictOf _ _ _ => hd5
      refine' TurnEnd.next ⟨0, tp, [.int 2 _, .int 0 tb, .int 2 tc], _, [(Str.ofString "which", .int 2 tz), (Str.ofString "x", .int 0 tp)]⟩ (by assumption) ?misA (by assumption) ?subA ?apA ⟨hd5, (fun h => nomatch h), fun _ => ⟨rfl, ⟨_, rfl⟩, _, rfl⟩, fun h => absurd h (by walk_at "om")⟩
      (case misA => (intro y hy; by_cases p : y = Str.ofString "place"; (subst p; rfl); by_cases q : y = Str.ofString "name"; (first | (subst q; rfl) | (exfalso; subst q; revert hy; decide)); (have h2 : ([Str.ofString "name"] : List Str).contains y = false := by simp [q]); simp only [if_neg p, if_neg q, mix_out h2, mixNil]))
      (case subA => (walk_at "sub"))
      (case apA => exact Apart.cons oI1 (Apart.cons oI2 Apart.nil))
    · obtain ⟨rfl, ⟨t7, rfl⟩, t5, rfl⟩ := p1 rfl
      obtain rfl : Value.str (Str.ofString "what") tw = v := by simpa using hj
      have hbw1 := hbw (.int 0 t5)
      simp only [List.cons_append, List.nil_append] at N4
      repeat' (first | ((fail_if_success (fail_if_success k_unfold)); first | refine (?_ : wpAny _ _ (execs _ _) _ _ _) | (k_unfold; (try dsimp only))) | ((first | (with_reducible show wpAny _ _ (execs _ _) _ _ _) | (with_reducible show wpAny _ _ (exec _ _) _ _ _)); first | ((fail_if_success k_fold); refine wpAny_tok ?_; intro tk0) | ((fail_if_success (fail_if_success k_fold)); refine (let q0 := _; (?_ : wpAny _ _ _ q0 _ _)))) | ((with_reducible show wpAny _ _ (subscriptTail _ _ (Value.ref _) (Value.int _ _)) _ _ _); k_dflt (refine' item_at ?k1 ?k2 ?k3 ?k4 ?k5 ?_; (case k1 => k_asm); (case k2 => k_mem); (case k5 => first | assumption | exact rfl); (case k3 => first | omega | decide); (case k4 => first | omega | decide))) | ((with_reducible show wpAny _ _ (exec _ _) _ _ _); first | ((with_reducible show wpAny _ _ (exec (Stmt.While (PySem.Expr.BoolOp ..) _ _ _) _) _ _ _); (refine while_start ?_)) | ((with_reducible show wpAny _ _ (exec (Stmt.For (PySem.Expr.Name ..) (PySem.Expr.Attribute ..) _ [] _) _) _ _ _); walk_at "for0")) | ((with_reducible show wpAny _ _ (compareOp CmpOp.NotIn (Value.str _ _) (Value.ref _)) _ _ _); (k_dflt (refine kdg_notin (knd := PySem.strKind _ _) (by k_asm) (by k_mem) (by k_asm) (by k_asm) (strKind_is _ _ _ _) _ (by assumption) ?_); (try dsimp only [Bool.not_true, Bool.not_false]))) | ((with_reducible show wpAny _ _ (setItem (Value.ref _) (Value.int _ _) _) _ _ _); k_dflt (refine' list_set ?k1 ?k2 ?k3 ?k4 ?k5 ?k6 ?k7 ?_; (case k1 => k_asm); (case k2 => k_asm); (case k3 => decide); (case k4 => decide); (case k6 => exact rfl); (case k7 => k_upd); (case k5 => decide)); intro _ F' N'; (try k_sweep)) | walk1 | (dsimp only; first | (k_unfold; (try dsimp only)) | walk1) | (leave1; (try dsimp only)) | fail "no step")
      rename News _ _ _ _ => N5
      rename Fr _ _ _ _ => F5
      refine' while_st (σ := PSt) (fun _ => [(ul, listOf #[.int 2 t7, .int 0 tb, .int 2 tc] nu), (pd, oP4)]) (fun c y => if y = Str.ofString "name" then some (.str (Str.ofString "what") tw) else if y = Str.ofString "place" then some (.int c.pl c.tp) else List.lookup y [(Str.ofString "self", Value.ref mo)].reverse) [] (fun c => c.pl = 0 ∨ c.pl = 1) (fun c => (2 - c.pl).toNat) ((I, oI) :: led) ⟨0, tp, [], oP4, []⟩ PassesOwn.never F5 N5 ?hinB ap4 ?misB0 (.inl rfl) ?_
      (case hinB => (walk_at "sub"))
      (case misB0 => (intro y hy; by_cases p : y = Str.ofString "place"; (subst p; rfl); by_cases q : y = Str.ofString "name"; (first | (subst q; rfl) | (exfalso; subst q; revert hy; decide)); (have h2 : ([Str.ofString "name"] : List Str).contains y = false := by simp [q]); simp only [if_neg p, if_neg q, mix_out h2, mixNil]))
      intro c6 u6 h6 tk6 hP6 F6 N6 ap6
      obtain ⟨pl6, tp6, us6, oP6, kvs6⟩ := c6
      dsimp only at *
      simp only [List.cons_append, List.nil_append] at N6
      rcases hP6 with rfl | rfl
      · repeat' (first | ((fail_if_success (fail_if_success k_unfold)); first | refine (?_ : wpAny _ _ (execs _ _) _ _ _) | (k_unfold; (try dsimp only))) | ((first | (with_reducible show wpAny _ _ (execs _ _) _ _ _) | (with_reducible show wpAny _ _ (exec _ _) _ _ _)); first | ((fail_if_success k_fold); refine wpAny_tok ?_; intro tk0) | ((fail_if_success (fail_if_success k_fold)); refine (let q0 := _; (?_ : wpAny _ _ _ q0 _ _)))) | ((with_reducible show wpAny _ _ (subscriptTail _ _ (Value.ref _) (Value.int _ _)) _ _ _); k_dflt (refine' item_at ?k1 ?k2 ?k3 ?k4 ?k5 ?_; (case k1 => k_asm); (case k2 => k_mem); (case k5 => first | assumption | exact rfl); (case k3 => first | omega | decide); (case k4 => first | omega | decide))) | ((with_reducible show wpAny _ _ (exec _ _) _ _ _); first | ((with_reducible show wpAny _ _ (exec (Stmt.While (PySem.Expr.BoolOp ..) _ _ _) _) _ _ _); (refine while_start ?_)) | ((with_reducible show wpAny _ _ (exec (Stmt.For (PySem.Expr.Name ..) (PySem.Expr.Attribute ..) _ [] _) _) _ _ _); walk_at "for0")) | ((with_reducible show wpAny _ _ (compareOp CmpOp.NotIn (Value.str _ _) (Value.ref _)) _ _ _); (k_dflt (refine kdg_notin (knd := PySem.strKind _ _) (by k_asm) (by k_mem) (by k_asm) (by k_asm) (strKind_is _ _ _ _) _ (by assumption) ?_); (try dsimp only [Bool.not_true, Bool.not_false]))) | ((with_reducible show wpAny _ _ (setItem (Value.ref _) (Value.int _ _) _) _ _ _); k_dflt (refine' list_set ?k1 ?k2 ?k3 ?k4 ?k5 ?k6 ?k7 ?_; (case k1 => k_asm); (case k2 => k_asm); (case k3 => decide); (case k4 => decide); (case k6 => exact rfl); (case k7 => k_upd); (case k5 => decide)); intro _ F' N'; (try k_sweep)) | walk1 | (dsimp only; first | (k_unfold; (try dsimp only)) | walk1) | (leave1; (try dsimp only)) | fail "no step")
        rename Fr _ _ _ _ => F8
        refine nameI F8 (Str.ofString "place") rfl fun tp8 e8 => ?_
        refine' TurnEnd.next ⟨1, tp8, [], oP4, []⟩ (by assumption) ?misB1 (by assumption) ?subB1 ap6 ⟨.inr rfl, by dsimp only; decide⟩
        (case misB1 => subst e8; (intro y hy; by_cases p : y = Str.ofString "place"; (subst p; rfl); by_cases q : y = Str.ofString "name"; (first | (subst q; rfl) | (exfalso; subst q; revert hy; decide)); (have h2 : ([Str.ofString "name"] : List Str).contains y = false := by simp [q]); simp only [if_neg p, if_neg q, mix_out h2, mixNil]))
        (case subB1 => (walk_at "sub"))
      · repeat' (first | ((fail_if_success (fail_if_success k_unfold)); first | refine (?_ : wpAny _ _ (execs _ _) _ _ _) | (k_unfold; (try dsimp only))) | ((first | (with_reducible show wpAny _ _ (execs _ _) _ _ _) | (with_reducible show wpAny _ _ (exec _ _) _ _ _)); first | ((fail_if_success k_fold); refine wpAny_tok ?_; intro tk0) | ((fail_if_success (fail_if_success k_fold)); refine (let q0 := _; (?_ : wpAny _ _ _ q0 _ _)))) | ((with_reducible show wpAny _ _ (subscriptTail _ _ (Value.ref _) (Value.int _ _)) _ _ _); k_dflt (refine' item_at ?k1 ?k2 ?k3 ?k4 ?k5 ?_; (case k1 => k_asm); (case k2 => k_mem); (case k5 => first | assumption | exact rfl); (case k3 => first | omega | decide); (case k4 => first | omega | decide))) | ((with_reducible show wpAny _ _ (exec _ _) _ _ _); first | ((with_reducible show wpAny _ _ (exec (Stmt.While (PySem.Expr.BoolOp ..) _ _ _) _) _ _ _); (refine while_start ?_)) | ((with_reducible show wpAny _ _ (exec (Stmt.For (PySem.Expr.Name ..) (PySem.Expr.Attribute ..) _ [] _) _) _ _ _); walk_at "for0")) | ((with_reducible show wpAny _ _ (compareOp CmpOp.NotIn (Value.str _ _) (Value.ref _)) _ _ _); (k_dflt (refine kdg_notin (knd := PySem.strKind _ _) (by k_asm) (by k_mem) (by k_asm) (by k_asm) (strKind_is _ _ _ _) _ (by assumption) ?_); (try dsimp only [Bool.not_true, Bool.not_false]))) | ((with_reducible show wpAny _ _ (setItem (Value.ref _) (Value.int _ _) _) _ _ _); k_dflt (refine' list_set ?k1 ?k2 ?k3 ?k4 ?k5 ?k6 ?k7 ?_; (case k1 => k_asm); (case k2 => k_asm); (case k3 => decide); (case k4 => decide); (case k6 => exact rfl); (case k7 => k_upd); (case k5 => decide)); intro _ F' N'; (try k_sweep)) | walk1 | (dsimp only; first | (k_unfold; (try dsimp only)) | walk1) | (leave1; (try dsimp only)) | fail "no step")
        rename Obj.IsDictOf _ _ _ => hd5
        refine' TurnEnd.next ⟨1, tp6, [.int 2 t7, .int 2 _, .int 2 tc], _, [(Str.ofString "which", .int 2 tz), (Str.ofString "x", .int 0 t5), (Str.ofString "what", .int 1 tp6)]⟩ (by assumption) ?misB2 (by assumption) ?subB2 ?apB2 ⟨hd5, (fun h => nomatch h), (fun h => nomatch h), fun _ => ?pB2⟩
        (case misB2 => (intro y hy; by_cases p : y = Str.ofString "place"; (subst p; rfl); by_cases q : y = Str.ofString "name"; (first | (subst q; rfl) | (exfalso; subst q; revert hy; decide)); (have h2 : ([Str.ofString "name"] : List Str).contains y = false := by simp [q]); simp only [if_neg p, if_neg q, mix_out h2, mixNil]))
        (case subB2 => (walk_at "sub"))
        (case apB2 => exact Apart.cons oI1 (Apart.cons oI2 Apart.nil))
        (case pB2 => exact ⟨rfl, ⟨_, _, rfl⟩, _, _, rfl⟩)
    · obtain ⟨rfl, ⟨t7, t8, rfl⟩, t5, t6, rfl⟩ := p2 (by walk_at "om")
      obtain rfl : Value.str (Str.ofString "which") ti = v := by simpa using hj
      have hbz1 := hbz (.int 0 t5) (.int 1 t6)
      simp only [List.cons_append, List.nil_append] at N4
      repeat' (first | ((fail_if_success (fail_if_success k_unfold)); first | refine (?_ : wpAny _ _ (execs _ _) _ _ _) | (k_unfold; (try dsimp only))) | ((first | (with_reducible show wpAny _ _ (execs _ _) _ _ _) | (with_reducible show wpAny _ _ (exec _ _) _ _ _)); first | ((fail_if_success k_fold); refine wpAny_tok ?_; intro tk0) | ((fail_if_success (fail_if_success k_fold)); refine (let q0 := _; (?_ : wpAny _ _ _ q0 _ _)))) | ((with_reducible show wpAny _ _ (subscriptTail _ _ (Value.ref _) (Value.int _ _)) _ _ _); k_dflt (refine' item_at ?k1 ?k2 ?k3 ?k4 ?k5 ?_; (case k1 => k_asm); (case k2 => k_mem); (case k5 => first | assumption | exact rfl); (case k3 => first | omega | decide); (case k4 => first | omega | decide))) | ((with_reducible show wpAny _ _ (exec _ _) _ _ _); first | ((with_reducible show wpAny _ _ (exec (Stmt.While (PySem.Expr.BoolOp ..) _ _ _) _) _ _ _); (refine while_start ?_)) | ((with_reducible show wpAny _ _ (exec (Stmt.For (PySem.Expr.Name ..) (PySem.Expr.Attribute ..) _ [] _) _) _ _ _); walk_at "for0")) | ((with_reducible show wpAny _ _ (compareOp CmpOp.NotIn (Value.str _ _) (Value.ref _)) _ _ _); (k_dflt (refine kdg_notin (knd := PySem.strKind _ _) (by k_asm) (by k_mem) (by k_asm) (by k_asm) (strKind_is _ _ _ _) _ (by assumption) ?_); (try dsimp only [Bool.not_true, Bool.not_false]))) | ((with_reducible show wpAny _ _ (setItem (Value.ref _) (Value.int _ _) _) _ _ _); k_dflt (refine' list_set ?k1 ?k2 ?k3 ?k4 ?k5 ?k6 ?k7 ?_; (case k1 => k_asm); (case k2 => k_asm); (case k3 => decide); (case k4 => decide); (case k6 => exact rfl); (case k7 => k_upd); (case k5 => decide)); intro _ F' N'; (try k_sweep)) | walk1 | (dsimp only; first | (k_unfold; (try dsimp only)) | walk1) | (leave1; (try dsimp only)) | fail "no step")
      refine' TurnEnd.next ⟨1, tp, [.int 2 t7, .int 2 t8, .int 2 tc], oP4, [(Str.ofString "which", .int 2 tz), (Str.ofString "x", .int 0 t5), (Str.ofString "what", .int 1 t6)]⟩ (by assumption) ?misC2 (by assumption) ?subC2 ap4 ⟨hd4, (fun h => nomatch h), (fun h => nomatch h), fun _ => ⟨rfl, ⟨_, _, rfl⟩, _, _, rfl⟩⟩
      (case misC2 => (intro y hy; by_cases p : y = Str.ofString "place"; (subst p; rfl); by_cases q : y = Str.ofString "name"; (first | (subst q; rfl) | (exfalso; subst q; revert hy; decide)); (have h2 : ([Str.ofString "name"] : List Str).contains y = false := by simp [q]); simp only [if_neg p, if_neg q, mix_out h2, mixNil]))
      (case subC2 => (walk_at "sub"))
    · simp at hj)
  (case done =>
    intro c u5 h5 tk5 hP5 F5 N5 ap5
    obtain ⟨hd5, _, _, p5⟩ := hP5
    obtain ⟨_, ⟨t7, t8, hu⟩, t5, t6, hk5⟩ := p5 (by simp)
    obtain ⟨pl5, tp5, us5, oP5, kvs5⟩ := c
    dsimp only at *
    subst hu; subst hk5
    simp only [List.cons_append, List.nil_append] at N5
    repeat' (first | ((fail_if_success (fail_if_success k_unfold)); first | refine (?_ : wpAny _ _ (execs _ _) _ _ _) | (k_unfold; (try dsimp only))) | ((first | (with_reducible show wpAny _ _ (execs _ _) _ _ _) | (with_reducible show wpAny _ _ (exec _ _) _ _ _)); first | ((fail_if_success k_fold); refine wpAny_tok ?_; intro tk0) | ((fail_if_success (fail_if_success k_fold)); refine (let q0 := _; (?_ : wpAny _ _ _ q0 _ _)))) | ((with_reducible show wpAny _ _ (subscriptTail _ _ (Value.ref _) (Value.int _ _)) _ _ _); k_dflt (refine' item_at ?k1 ?k2 ?k3 ?k4 ?k5 ?_; (case k1 => k_asm); (case k2 => k_mem); (case k5 => first | assumption | exact rfl); (case k3 => first | omega | decide); (case k4 => first | omega | decide))) | ((with_reducible show wpAny _ _ (exec _ _) _ _ _); first | ((with_reducible show wpAny _ _ (exec (Stmt.While (PySem.Expr.BoolOp ..) _ _ _) _) _ _ _); (refine while_start ?_)) | ((with_reducible show wpAny _ _ (exec (Stmt.For (PySem.Expr.Name ..) (PySem.Expr.Attribute ..) _ [] _) _) _ _ _); walk_at "for0")) | ((with_reducible show wpAny _ _ (compareOp CmpOp.NotIn (Value.str _ _) (Value.ref _)) _ _ _); (k_dflt (refine kdg_notin (knd := PySem.strKind _ _) (by k_asm) (by k_mem) (by k_asm) (by k_asm) (strKind_is _ _ _ _) _ (by assumption) ?_); (try dsimp only [Bool.not_true, Bool.not_false]))) | ((with_reducible show wpAny _ _ (setItem (Value.ref _) (Value.int _ _) _) _ _ _); k_dflt (refine' list_set ?k1 ?k2 ?k3 ?k4 ?k5 ?k6 ?k7 ?_; (case k1 => k_asm); (case k2 => k_asm); (case k3 => decide); (case k4 => decide); (case k6 => exact rfl); (case k7 => k_upd); (case k5 => decide)); intro _ F' N'; (try k_sweep)) | walk1 | (dsimp only; first | (k_unfold; (try dsimp only)) | walk1) | (leave1; (try dsimp only)) | fail "no step")
    refine Fin.mk ((ul, listOf #[.int 2 t7, .int 2 t8, .int 2 tc] nu) :: (pd, oP5) :: led) (by assumption) (by assumption) ?subZ ⟨rfl, oP5, t5, t6, t7, t8, hd5, rfl⟩
    (case subZ => (walk_at "sub")))
end

-- C_rest
section
local macro_rules | `(tactic| walk_at "pad0") => `(tactic| fail "pad")
set_option maxHeartbeats 8000000 in
theorem c_rest (w : World) {mean : ExcName → Option Value} {mg mb : Str → Option Value} (led : List (Addr × Obj)) (mo dm fl tl ul pd : Addr) (h1 h2 h3 h4 : Int) (t1 t2 t3 t4 : Tok) (nt nu : Nat) (tvs uvs : List Value)
  (m1 : (mo, instObj 280 dm) ∈ led) (m2 : (dm, matD h1 h2 h3 h4 t1 t2 t3 t4 fl tl ul pd) ∈ led) (m4 : (tl, listOf tvs.toArray nt) ∈ led) (m5 : (ul, listOf uvs.toArray nu) ∈ led) (hn : tvs.length ≤ 8) (hB : ∀ i, i < tvs.length → ∃ t, uvs[i]? = some (.int 2 t)) :
  Tells1 PySem.Challenge.rw_pq1424_01.row.prog w (Mine.kAt w.params) Mine.viewQ (looseW Mine.viewQ [Str.ofString "match_names", Str.ofString "take"]) mean mg mb 277 [.ref mo] [] 3 led (fun r out => ∃ l n, r = .ref l ∧ out = (l, listOf #[] n) :: led) := by
  k_fill
  refine' tells1_enterC (binds := [(Str.ofString "self", .ref mo)]) ?k6 ?k7 ?kr ?k9 ?kB ?kD ?c2 ?c3 ?c4 ?_
  (case k6 => k_is)
  (case k7 => k_is)
  (case kr => decide)
  (case k9 => intro s hX; first | exact BindsTo.of_eq rfl | exact binds_K (by k_in) rfl (by k_is) rfl rfl rfl)
  (case kB => exact rfl)
  (case kD => decide +kernel)
  (case c2 => exact rfl)
  (case c3 => exact rfl)
  (case c4 => exact rfl)
  intro dp un gd cn cs a ccd cl outer base g L L' h₁ s tk cells' hd hu F' N' Y' B' X' T' l1'
  obtain ⟨oc, hE', hdc⟩ := CellsAre.one Y'
  subst hE'
  (try simp only [List.cons_append, List.nil_append] at N')
  (try dsimp only)
  (try k_fold)
  refine (let A1 := _; (?_ : wpAny _ A1 _ _ _ _))
  repeat' (first | ((fail_if_success (fail_if_success k_unfold)); first | refine (?_ : wpAny _ _ (execs _ _) _ _ _) | (k_unfold; (try dsimp only))) | ((first | (with_reducible show wpAny _ _ (execs _ _) _ _ _) | (with_reducible show wpAny _ _ (exec _ _) _ _ _)); first | ((fail_if_success k_fold); refine wpAny_tok ?_; intro tk0) | ((fail_if_success (fail_if_success k_fold)); refine (let q0 := _; (?_ : wpAny _ _ _ q0 _ _)))) | ((with_reducible show wpAny _ _ (eval (PySem.Expr.ListComp ..) _) _ _ _); (k_dflt (refine compT_start (by k_asm) (by with_unfolding_all rfl) (by decide) (by rfl) (by decide) (by rfl) (by intro _; rfl) ?_))) | ((with_reducible show wpAny _ _ (subscriptTail _ _ (Value.ref _) (Value.int _ _)) _ _ _); k_dflt (refine' item_at ?k1 ?k2 ?k3 ?k4 ?k5 ?_; (case k1 => k_asm); (case k2 => k_mem); (case k5 => first | assumption | exact rfl); (case k3 => first | omega | decide); (case k4 => first | omega | decide))) | walk1 | (dsimp only; first | (k_unfold; (try dsimp only)) | walk1) | (leave1; (try dsimp only)) | fail "no step")
  rename News _ _ _ _ => N6
  rename Fr _ _ _ _ => F6
  refine' compT_range (n := tvs.length) (fun i ys news => news = (L' + 1, oc) :: led ∧ ys = []) rfl F6 N6 (by assumption) (small0 (by walk_at "om")) (size0 _) (by walk_at "om") ⟨rfl, rfl⟩ ?turn ?fin
  (case turn =>
    rintro i ys news hi9 ⟨rfl, rfl⟩ v9 I oI Cc oC Da m₂ h9 tk9 E9 ⟨t9, rfl⟩ hC hx9 F9 N9 o9 n9
    (try refine (let q0 := _; (?_ : wpAny _ _ _ q0 _ _)))
    obtain ⟨tu, e2⟩ := hB i hi9
    have hx2 : uvs[((0 : Int) + (i : Nat)).toNat]? = some (.int 2 tu) := by simpa using e2
    repeat' (first | ((fail_if_success (fail_if_success k_unfold)); first | refine (?_ : wpAny _ _ (execs _ _) _ _ _) | (k_unfold; (try dsimp only))) | ((first | (with_reducible show wpAny _ _ (execs _ _) _ _ _) | (with_reducible show wpAny _ _ (exec _ _) _ _ _)); first | ((fail_if_success k_fold); refine wpAny_tok ?_; intro tk0) | ((fail_if_success (fail_if_success k_fold)); refine (let q0 := _; (?_ : wpAny _ _ _ q0 _ _)))) | ((with_reducible show wpAny _ _ (eval (PySem.Expr.ListComp ..) _) _ _ _); (k_dflt (refine compT_start (by k_asm) (by with_unfolding_all rfl) (by decide) (by rfl) (by decide) (by rfl) (by intro _; rfl) ?_))) | ((with_reducible show wpAny _ _ (subscriptTail _ _ (Value.ref _) (Value.int _ _)) _ _ _); k_dflt (refine' item_at ?k1 ?k2 ?k3 ?k4 ?k5 ?_; (case k1 => k_asm); (case k2 => k_mem); (case k5 => first | assumption | exact rfl); (case k3 => first | omega | decide); (case k4 => first | omega | decide))) | walk1 | (dsimp only; first | (k_unfold; (try dsimp only)) | walk1) | (leave1; (try dsimp only)) | fail "no step")
    refine LCg.CompEnd.intro (by assumption) (by assumption) ((L' + 1, oc) :: led) ?sub9 o9 trivial ⟨rfl, rfl⟩
    (case sub9 => (walk_at "sub")))
  (case fin =>
    rintro ys news Da h9 tk9 ⟨rfl, rfl⟩ F9 N9 o9
    repeat' (first | ((fail_if_success (fail_if_success k_unfold)); first | refine (?_ : wpAny _ _ (execs _ _) _ _ _) | (k_unfold; (try dsimp only))) | ((first | (with_reducible show wpAny _ _ (execs _ _) _ _ _) | (with_reducible show wpAny _ _ (exec _ _) _ _ _)); first | ((fail_if_success k_fold); refine wpAny_tok ?_; intro tk0) | ((fail_if_success (fail_if_success k_fold)); refine (let q0 := _; (?_ : wpAny _ _ _ q0 _ _)))) | ((with_reducible show wpAny _ _ (eval (PySem.Expr.ListComp ..) _) _ _ _); (k_dflt (refine compT_start (by k_asm) (by with_unfolding_all rfl) (by decide) (by rfl) (by decide) (by rfl) (by intro _; rfl) ?_))) | ((with_reducible show wpAny _ _ (subscriptTail _ _ (Value.ref _) (Value.int _ _)) _ _ _); k_dflt (refine' item_at ?k1 ?k2 ?k3 ?k4 ?k5 ?_; (case k1 => k_asm); (case k2 => k_mem); (case k5 => first | assumption | exact rfl); (case k3 => first | omega | decide); (case k4 => first | omega | decide))) | walk1 | (dsimp only; first | (k_unfold; (try dsimp only)) | walk1) | (leave1; (try dsimp only)) | fail "no step")
    refine Fin.mk ((Da, listOf #[] 0) :: led) (by assumption) N9 ?sub8 ⟨_, _, rfl, rfl⟩
    (case sub8 => (walk_at "sub")))
end

-- C_match2
section
local macro_rules | `(tactic| walk_at "pad0") => `(tactic| fail "pad")
local macro_rules | `(tactic| walk_at "pad1") => `(tactic| fail "pad")
local macro_rules | `(tactic| walk_at "pad2") => `(tactic| fail "pad")
local macro_rules | `(tactic| walk_at "pad3") => `(tactic| fail "pad")
local macro_rules | `(tactic| walk_at "call builtin:len") => `(tactic| (k_here; (with_reducible show wpAny _ _ (call (Value.builtin "len") [Value.ref _]) _ _ _); k_dflt (first
  | (refine' len_0 ?k1 ?k2 ?_; (case k1 => k_asm); (case k2 => k_mem))
  | (refine' len_1 ?k1 ?k2 ?_; (case k1 => k_asm); (case k2 => k_mem))
  | (refine' len_2 ?k1 ?k2 ?_; (case k1 => k_asm); (case k2 => k_mem))
  | (refine' len_3 ?k1 ?k2 ?_; (case k1 => k_asm); (case k2 => k_mem)))))



set_option maxHeartbeats 8000000 in
theorem c_match2 (w : World) {mean : ExcName → Option Value} {mg mb : Str → Option Value} (led : List (Addr × Obj)) (ar a1 a2 fl : Addr) (sv v1 v2 : Value) (na nf : Nat) (tx tw ti : Tok) (m1 : (ar, listOf #[.ref a1, .ref a2] na) ∈ led) (m2 : (a1, tupOf [.none, v1]) ∈ led) (m3 : (a2, tupOf [.none, v2]) ∈ led) (m4 : (fl, formals tx tw ti nf) ∈ led) :
  Tells1 PySem.Challenge.rw_pq1424_01.row.prog w (Mine.kAt w.params) Mine.viewQ (looseW Mine.viewQ [Str.ofString "match_names", Str.ofString "take"]) mean mg mb 316 [.ref fl, .ref ar, sv] [] 10 led (fun r out => ∃ T R P oP n t5 t6, r = .ref T ∧ out = (T, tupOf [.ref P, .ref R]) :: (R, listOf #[] n) :: (P, oP) :: led ∧ oP.IsDictOf (PySem.strKind PySem.Challenge.rw_pq1424_01.row.prog w) [(Str.ofString "x", .int 0 t5), (Str.ofString "what", .int 1 t6)] ∧ (P == sysModules) = false) := by
  k_fill
  refine' tells1_enter (binds := [(Str.ofString "formals", .ref fl), (Str.ofString "args", .ref ar), (Str.ofString "show", sv)]) ?k6 ?k7 ?kr ?k9 ?kB ?c2 ?c3 ?c4 ?c5 ?_
  (case k6 => k_is)
  (case k7 => k_is)
  (case kr => decide)
  (case k9 => intro s hX; first | exact BindsTo.of_eq rfl | exact binds_K (by k_in) rfl (by k_is) rfl rfl rfl)
  (case kB => exact locs rfl)
  (case c2 => exact rfl)
  (case c3 => exact rfl)
  (case c4 => exact rfl)
  (case c5 => decide)
  intro dp un gd cn cs a ccd cl outer base g L L' h₁ s tk hd hu F' N' B' X' T'
  (try dsimp only)
  (try k_fold)
  refine (let A1 := _; (?_ : wpAny _ A1 _ _ _ _))
  repeat' (first | ((fail_if_success (fail_if_success k_unfold)); first | refine (?_ : wpAny _ _ (execs _ _) _ _ _) | (k_unfold; (try dsimp only))) | ((first | (with_reducible show wpAny _ _ (execs _ _) _ _ _) | (with_reducible show wpAny _ _ (exec _ _) _ _ _)); first | ((fail_if_success k_fold); refine wpAny_tok ?_; intro tk0) | ((fail_if_success (fail_if_success k_fold)); refine (let q0 := _; (?_ : wpAny _ _ _ q0 _ _)))) | ((with_reducible show wpAny _ _ (subscriptTail _ _ (Value.ref _) (Value.int _ _)) _ _ _); k_dflt (refine' item_at ?k1 ?k2 ?k3 ?k4 ?k5 ?_; (case k1 => k_asm); (case k2 => k_mem); (case k5 => first | assumption | exact rfl); (case k3 => first | omega | decide); (case k4 => first | omega | decide))) | ((with_reducible show wpAny _ _ (eval (PySem.Expr.ListComp ..) _) _ _ _); (k_dflt (refine comp_start (by k_asm) (by with_unfolding_all rfl) (by decide) (by rfl) (by decide) (by rfl) (by intro _; rfl) ?_))) | ((with_reducible show wpAny _ _ (binaryOp _ _ _) _ _ _); first | ((with_reducible show wpAny _ _ (binaryOp Operator.Mult (Value.ref _) (Value.int 3 _)) _ _ _); k_dflt (refine' mul_3 ?k1 ?k2 ?k3 ?_; (case k1 => k_asm); (case k2 => k_asm); (case k3 => k_mem); k_whole); intro _ _ F' N' l1; (try k_lt l1); (try k_sweep)) | ((with_reducible show wpAny _ _ (binaryOp Operator.Mult (Value.ref _) (Value.int 2 _)) _ _ _); k_dflt (refine' mul_2 ?k1 ?k2 ?k3 ?_; (case k1 => k_asm); (case k2 => k_asm); (case k3 => k_mem); k_whole); intro _ _ F' N' l1; (try k_lt l1); (try k_sweep))) | walk1 | (dsimp only; first | (k_unfold; (try dsimp only)) | walk1) | (leave1; (try dsimp only)) | fail "no step")
  rename News _ _ _ _ => N6
  rename Fr _ _ _ _ => F6
  refine' comp_list (k := na) (its := #[.ref a1, .ref a2]) (fun i ys news => news = led ∧ ys = ([Value.none, .none] : List Value).take i) rfl F6 N6 ?hm ?hsz ⟨rfl, rfl⟩ ?turn ?fin
  (case hm => k_mem)
  (case hsz => simp)
  (case turn =>
    rintro i ys news hi9 ⟨rfl, rfl⟩ v9 I oI Cc oC Da m₂ h9 tk9 E9 hv hC hx9 F9 N9 o9 n9
    (try refine (let q0 := _; (?_ : wpAny _ _ _ q0 _ _)))
    have hstep : ([Value.none, .none] : List Value).take (i + 1) = ([Value.none, .none] : List Value).take i ++ [.none] := by
      rcases i with _ | _ | i
      · rfl
      · rfl
      · simp at hi9; omega
    obtain ⟨aa, va, rfl, hma⟩ : ∃ aa va, v9 = Value.ref aa ∧ (aa, tupOf [.none, va]) ∈ news := by
      rcases i with _ | _ | i
      · exact ⟨a1, v1, by simpa using hv.symm, m2⟩
      · exact ⟨a2, v2, by simpa using hv.symm, m3⟩
      · simp at hi9; omega
    repeat' (first | ((fail_if_success (fail_if_success k_unfold)); first | refine (?_ : wpAny _ _ (execs _ _) _ _ _) | (k_unfold; (try dsimp only))) | ((first | (with_reducible show wpAny _ _ (execs _ _) _ _ _) | (with_reducible show wpAny _ _ (exec _ _) _ _ _)); first | ((fail_if_success k_fold); refine wpAny_tok ?_; intro tk0) | ((fail_if_success (fail_if_success k_fold)); refine (let q0 := _; (?_ : wpAny _ _ _ q0 _ _)))) | ((with_reducible show wpAny _ _ (subscriptTail _ _ (Value.ref _) (Value.int _ _)) _ _ _); k_dflt (refine' item_at ?k1 ?k2 ?k3 ?k4 ?k5 ?_; (case k1 => k_asm); (case k2 => k_mem); (case k5 => first | assumption | exact rfl); (case k3 => first | omega | decide); (case k4 => first | omega | decide))) | ((with_reducible show wpAny _ _ (eval (PySem.Expr.ListComp ..) _) _ _ _); (k_dflt (refine comp_start (by k_asm) (by with_unfolding_all rfl) (by decide) (by rfl) (by decide) (by rfl) (by intro _; rfl) ?_))) | ((with_reducible show wpAny _ _ (binaryOp _ _ _) _ _ _); first | ((with_reducible show wpAny _ _ (binaryOp Operator.Mult (Value.ref _) (Value.int 3 _)) _ _ _); k_dflt (refine' mul_3 ?k1 ?k2 ?k3 ?_; (case k1 => k_asm); (case k2 => k_asm); (case k3 => k_mem); k_whole); intro _ _ F' N' l1; (try k_lt l1); (try k_sweep)) | ((with_reducible show wpAny _ _ (binaryOp Operator.Mult (Value.ref _) (Value.int 2 _)) _ _ _); k_dflt (refine' mul_2 ?k1 ?k2 ?k3 ?_; (case k1 => k_asm); (case k2 => k_asm); (case k3 => k_mem); k_whole); intro _ _ F' N' l1; (try k_lt l1); (try k_sweep))) | walk1 | (dsimp only; first | (k_unfold; (try dsimp only)) | walk1) | (leave1; (try dsimp only)) | fail "no step")
    refine LCg.CompEnd.intro (by assumption) (by assumption) news ?sub9 o9 (.inr ⟨_, by k_mem, rfl, _, rfl⟩) ⟨rfl, hstep.symm⟩
    (case sub9 => (walk_at "sub")))
  (case fin =>
    rintro ys news tl h9 tk9 ⟨rfl, rfl⟩ F9 N9 o9
    replace N9 : News g L' h9 ((tl, listOf #[.none, .none] 2) :: news) := N9
    repeat' (first | ((fail_if_success (fail_if_success k_unfold)); first | refine (?_ : wpAny _ _ (execs _ _) _ _ _) | (k_unfold; (try dsimp only))) | ((first | (with_reducible show wpAny _ _ (execs _ _) _ _ _) | (with_reducible show wpAny _ _ (exec _ _) _ _ _)); first | ((fail_if_success k_fold); refine wpAny_tok ?_; intro tk0) | ((fail_if_success (fail_if_success k_fold)); refine (let q0 := _; (?_ : wpAny _ _ _ q0 _ _)))) | ((with_reducible show wpAny _ _ (subscriptTail _ _ (Value.ref _) (Value.int _ _)) _ _ _); k_dflt (refine' item_at ?k1 ?k2 ?k3 ?k4 ?k5 ?_; (case k1 => k_asm); (case k2 => k_mem); (case k5 => first | assumption | exact rfl); (case k3 => first | omega | decide); (case k4 => first | omega | decide))) | ((with_reducible show wpAny _ _ (eval (PySem.Expr.ListComp ..) _) _ _ _); (k_dflt (refine comp_start (by k_asm) (by with_unfolding_all rfl) (by decide) (by rfl) (by decide) (by rfl) (by intro _; rfl) ?_))) | ((with_reducible show wpAny _ _ (binaryOp _ _ _) _ _ _); first | ((with_reducible show wpAny _ _ (binaryOp Operator.Mult (Value.ref _) (Value.int 3 _)) _ _ _); k_dflt (refine' mul_3 ?k1 ?k2 ?k3 ?_; (case k1 => k_asm); (case k2 => k_asm); (case k3 => k_mem); k_whole); intro _ _ F' N' l1; (try k_lt l1); (try k_sweep)) | ((with_reducible show wpAny _ _ (binaryOp Operator.Mult (Value.ref _) (Value.int 2 _)) _ _ _); k_dflt (refine' mul_2 ?k1 ?k2 ?k3 ?_; (case k1 => k_asm); (case k2 => k_asm); (case k3 => k_mem); k_whole); intro _ _ F' N' l1; (try k_lt l1); (try k_sweep))) | walk1 | (dsimp only; first | (k_unfold; (try dsimp only)) | walk1) | (leave1; (try dsimp only)) | fail "no step")
    rename News _ _ _ _ => N1
    rename_i mo dm _ _ _ _ _ _ _ _ _ _ _ _ _ _ _ _ _ z0 _ _ ul _ _ _ _ pd _ _ _ _ _ _ _ _ _ _ _ _ _ _ _ _
    rename_i oP _ _ _ _ _ _ _ _ _ _ _ _ _ _
    rename (pd == sysModules) = false => lP
    rename Obj.IsDictOf (PySem.strKind _ _) oP _ => hP0
    have hup : @Ne Nat ul pd := by walk_at "om"
    have hul0 : Off ul [(mo, oP), (dm, oP), (tl, oP)] := Off.cons (by walk_at "om") (Off.cons (by walk_at "om") (Off.cons (by walk_at "om") Off.nil))
    have hul1 : Off ul news := Off.of_lt (by assumption) (by (walk_at "sub"))
    have hpl0 : Off pd [(mo, oP), (dm, oP), (tl, oP)] := Off.cons (by walk_at "om") (Off.cons (by walk_at "om") (Off.cons (by walk_at "om") Off.nil))
    have hpl1 : Off pd news := Off.of_lt (by assumption) (by (walk_at "sub"))
    have offU : ∀ o1 o2 o3, Off ul ((mo, o1) :: (dm, o2) :: (tl, o3) :: news) := fun o1 o2 o3 => Off.cons (hul0.ne (.head _)) (Off.cons (hul0.ne (.tail _ (.head _))) (Off.cons (hul0.ne (.tail _ (.tail _ (.head _)))) hul1))
    have offP : ∀ o1 o2 o3, Off pd ((mo, o1) :: (dm, o2) :: (tl, o3) :: news) := fun o1 o2 o3 => Off.cons (hpl0.ne (.head _)) (Off.cons (hpl0.ne (.tail _ (.head _))) (Off.cons (hpl0.ne (.tail _ (.tail _ (.head _)))) hpl1))
    refine repackM N1 fun h1 h2 h3 h4 t1 t2 t3 t4 ta tb N2 => ?_
    clear N1
    (refine' callAt_useN ?N ?C ?B ?F ?X ?T ?hk ?hd ?hu ?_; (case B => k_asm); (case F => k_asm); (case X => k_asm); (case N => k_asm); (case T => k_asm); (case hk => exact rfl); (case C => exact (c_exact2 w _ mo dm fl tl ul pd h1 h2 h3 h4 t1 t2 t3 t4 nf 2 tx tw ti (by k_mem) (by k_mem) (by k_mem) (by k_mem))); (case hd => k_room); (case hu => k_units))
    refine el0 ?_
    intro h8 tk8 F8 N8
    dsimp only
    repeat' (first | ((fail_if_success (fail_if_success k_unfold)); first | refine (?_ : wpAny _ _ (execs _ _) _ _ _) | (k_unfold; (try dsimp only))) | ((first | (with_reducible show wpAny _ _ (execs _ _) _ _ _) | (with_reducible show wpAny _ _ (exec _ _) _ _ _)); first | ((fail_if_success k_fold); refine wpAny_tok ?_; intro tk0) | ((fail_if_success (fail_if_success k_fold)); refine (let q0 := _; (?_ : wpAny _ _ _ q0 _ _)))) | ((with_reducible show wpAny _ _ (subscriptTail _ _ (Value.ref _) (Value.int _ _)) _ _ _); k_dflt (refine' item_at ?k1 ?k2 ?k3 ?k4 ?k5 ?_; (case k1 => k_asm); (case k2 => k_mem); (case k5 => first | assumption | exact rfl); (case k3 => first | omega | decide); (case k4 => first | omega | decide))) | ((with_reducible show wpAny _ _ (eval (PySem.Expr.ListComp ..) _) _ _ _); (k_dflt (refine comp_start (by k_asm) (by with_unfolding_all rfl) (by decide) (by rfl) (by decide) (by rfl) (by intro _; rfl) ?_))) | ((with_reducible show wpAny _ _ (binaryOp _ _ _) _ _ _); first | ((with_reducible show wpAny _ _ (binaryOp Operator.Mult (Value.ref _) (Value.int 3 _)) _ _ _); k_dflt (refine' mul_3 ?k1 ?k2 ?k3 ?_; (case k1 => k_asm); (case k2 => k_asm); (case k3 => k_mem); k_whole); intro _ _ F' N' l1; (try k_lt l1); (try k_sweep)) | ((with_reducible show wpAny _ _ (binaryOp Operator.Mult (Value.ref _) (Value.int 2 _)) _ _ _); k_dflt (refine' mul_2 ?k1 ?k2 ?k3 ?_; (case k1 => k_asm); (case k2 => k_asm); (case k3 => k_mem); k_whole); intro _ _ F' N' l1; (try k_lt l1); (try k_sweep))) | walk1 | (dsimp only; first | (k_unfold; (try dsimp only)) | walk1) | (leave1; (try dsimp only)) | fail "no step")
    (refine' callAt_useN ?N ?C ?B ?F ?X ?T ?hk ?hd ?hu ?_; (case B => k_asm); (case F => k_asm); (case X => k_asm); (case N => k_asm); (case T => k_asm); (case hk => exact rfl); (case C => exact (c_partial w _ mo dm fl tl ul pd h1 h2 h3 h4 t1 t2 t3 t4 nf 2 0 tx tw ti [.none, .none] [.int 0 ta, .int 0 tb] oP [] (by k_mem) (by k_mem) (by k_mem) (by k_mem) (by k_mem) (by k_mem) hP0 lP (by simp) Blank.two)); (case hd => k_room); (case hu => k_units))
    refine el0 ?_
    intro h9 tk9 F9 N9
    dsimp only
    repeat' (first | ((fail_if_success (fail_if_success k_unfold)); first | refine (?_ : wpAny _ _ (execs _ _) _ _ _) | (k_unfold; (try dsimp only))) | ((first | (with_reducible show wpAny _ _ (execs _ _) _ _ _) | (with_reducible show wpAny _ _ (exec _ _) _ _ _)); first | ((fail_if_success k_fold); refine wpAny_tok ?_; intro tk0) | ((fail_if_success (fail_if_success k_fold)); refine (let q0 := _; (?_ : wpAny _ _ _ q0 _ _)))) | ((with_reducible show wpAny _ _ (subscriptTail _ _ (Value.ref _) (Value.int _ _)) _ _ _); k_dflt (refine' item_at ?k1 ?k2 ?k3 ?k4 ?k5 ?_; (case k1 => k_asm); (case k2 => k_mem); (case k5 => first | assumption | exact rfl); (case k3 => first | omega | decide); (case k4 => first | omega | decide))) | ((with_reducible show wpAny _ _ (eval (PySem.Expr.ListComp ..) _) _ _ _); (k_dflt (refine comp_start (by k_asm) (by with_unfolding_all rfl) (by decide) (by rfl) (by decide) (by rfl) (by intro _; rfl) ?_))) | ((with_reducible show wpAny _ _ (binaryOp _ _ _) _ _ _); first | ((with_reducible show wpAny _ _ (binaryOp Operator.Mult (Value.ref _) (Value.int 3 _)) _ _ _); k_dflt (refine' mul_3 ?k1 ?k2 ?k3 ?_; (case k1 => k_asm); (case k2 => k_asm); (case k3 => k_mem); k_whole); intro _ _ F' N' l1; (try k_lt l1); (try k_sweep)) | ((with_reducible show wpAny _ _ (binaryOp Operator.Mult (Value.ref _) (Value.int 2 _)) _ _ _); k_dflt (refine' mul_2 ?k1 ?k2 ?k3 ?_; (case k1 => k_asm); (case k2 => k_asm); (case k3 => k_mem); k_whole); intro _ _ F' N' l1; (try k_lt l1); (try k_sweep))) | walk1 | (dsimp only; first | (k_unfold; (try dsimp only)) | walk1) | (leave1; (try dsimp only)) | fail "no step")
    (refine' callAt_use (c_pos2 w ((mo, instObj 280 dm) :: (dm, matD h1 h2 h3 h4 t1 t2 t3 t4 fl tl ul pd) :: (tl, listOf #[.none, .none] 2) :: news) mo dm fl tl ul pd h1 h2 h3 h4 t1 t2 t3 t4 nf 2 0 tx tw ti 0 ta tb 0 0 oP (by k_mem) (by k_mem) (by k_mem) (by k_mem) hP0 lP hup (offU _ _ _) (offP _ _ _)) ([]) ?B ?F ?X ?N ?T ?hk ?hin ?off ?hd ?hu ?_; (case B => k_asm); (case F => k_asm); (case X => k_asm); (case N => k_asm); (case T => k_asm); (case hk => exact rfl); (case hin => (walk_at "sub")); (case off => exact Apart.nilR); (case hd => k_room); (case hu => k_units))
    refine elN5 ?_
    intro oP2 t5 t6 t7 t8 hd2 h10 tk10 F10 N10 ap10
    simp only [List.cons_append, List.append_nil] at N10
    dsimp only
    repeat' (first | ((fail_if_success (fail_if_success k_unfold)); first | refine (?_ : wpAny _ _ (execs _ _) _ _ _) | (k_unfold; (try dsimp only))) | ((first | (with_reducible show wpAny _ _ (execs _ _) _ _ _) | (with_reducible show wpAny _ _ (exec _ _) _ _ _)); first | ((fail_if_success k_fold); refine wpAny_tok ?_; intro tk0) | ((fail_if_success (fail_if_success k_fold)); refine (let q0 := _; (?_ : wpAny _ _ _ q0 _ _)))) | ((with_reducible show wpAny _ _ (subscriptTail _ _ (Value.ref _) (Value.int _ _)) _ _ _); k_dflt (refine' item_at ?k1 ?k2 ?k3 ?k4 ?k5 ?_; (case k1 => k_asm); (case k2 => k_mem); (case k5 => first | assumption | exact rfl); (case k3 => first | omega | decide); (case k4 => first | omega | decide))) | ((with_reducible show wpAny _ _ (eval (PySem.Expr.ListComp ..) _) _ _ _); (k_dflt (refine comp_start (by k_asm) (by with_unfolding_all rfl) (by decide) (by rfl) (by decide) (by rfl) (by intro _; rfl) ?_))) | ((with_reducible show wpAny _ _ (binaryOp _ _ _) _ _ _); first | ((with_reducible show wpAny _ _ (binaryOp Operator.Mult (Value.ref _) (Value.int 3 _)) _ _ _); k_dflt (refine' mul_3 ?k1 ?k2 ?k3 ?_; (case k1 => k_asm); (case k2 => k_asm); (case k3 => k_mem); k_whole); intro _ _ F' N' l1; (try k_lt l1); (try k_sweep)) | ((with_reducible show wpAny _ _ (binaryOp Operator.Mult (Value.ref _) (Value.int 2 _)) _ _ _); k_dflt (refine' mul_2 ?k1 ?k2 ?k3 ?_; (case k1 => k_asm); (case k2 => k_asm); (case k3 => k_mem); k_whole); intro _ _ F' N' l1; (try k_lt l1); (try k_sweep))) | walk1 | (dsimp only; first | (k_unfold; (try dsimp only)) | walk1) | (leave1; (try dsimp only)) | fail "no step")
    (refine' callAt_useN ?N ?C ?B ?F ?X ?T ?hk ?hd ?hu ?_; (case B => k_asm); (case F => k_asm); (case X => k_asm); (case N => k_asm); (case T => k_asm); (case hk => exact rfl); (case C => exact (c_rest w _ mo dm fl tl ul pd h1 h2 h3 h4 t1 t2 t3 t4 2 0 [.none, .none] [.int 2 t7, .int 2 t8] (by k_mem) (by k_mem) (by k_mem) (by k_mem) (by simp) twos2)); (case hd => k_room); (case hu => k_units))
    refine el2 ?_
    intro R n h11 tk11 F11 N11
    dsimp only
    repeat' (first | ((fail_if_success (fail_if_success k_unfold)); first | refine (?_ : wpAny _ _ (execs _ _) _ _ _) | (k_unfold; (try dsimp only))) | ((first | (with_reducible show wpAny _ _ (execs _ _) _ _ _) | (with_reducible show wpAny _ _ (exec _ _) _ _ _)); first | ((fail_if_success k_fold); refine wpAny_tok ?_; intro tk0) | ((fail_if_success (fail_if_success k_fold)); refine (let q0 := _; (?_ : wpAny _ _ _ q0 _ _)))) | ((with_reducible show wpAny _ _ (subscriptTail _ _ (Value.ref _) (Value.int _ _)) _ _ _); k_dflt (refine' item_at ?k1 ?k2 ?k3 ?k4 ?k5 ?_; (case k1 => k_asm); (case k2 => k_mem); (case k5 => first | assumption | exact rfl); (case k3 => first | omega | decide); (case k4 => first | omega | decide))) | ((with_reducible show wpAny _ _ (eval (PySem.Expr.ListComp ..) _) _ _ _); (k_dflt (refine comp_start (by k_asm) (by with_unfolding_all rfl) (by decide) (by rfl) (by decide) (by rfl) (by intro _; rfl) ?_))) | ((with_reducible show wpAny _ _ (binaryOp _ _ _) _ _ _); first | ((with_reducible show wpAny _ _ (binaryOp Operator.Mult (Value.ref _) (Value.int 3 _)) _ _ _); k_dflt (refine' mul_3 ?k1 ?k2 ?k3 ?_; (case k1 => k_asm); (case k2 => k_asm); (case k3 => k_mem); k_whole); intro _ _ F' N' l1; (try k_lt l1); (try k_sweep)) | ((with_reducible show wpAny _ _ (binaryOp Operator.Mult (Value.ref _) (Value.int 2 _)) _ _ _); k_dflt (refine' mul_2 ?k1 ?k2 ?k3 ?_; (case k1 => k_asm); (case k2 => k_asm); (case k3 => k_mem); k_whole); intro _ _ F' N' l1; (try k_lt l1); (try k_sweep))) | walk1 | (dsimp only; first | (k_unfold; (try dsimp only)) | walk1) | (leave1; (try dsimp only)) | fail "no step")
    rename News _ _ _ _ => N12
    refine Fin.mk ((_, tupOf [.ref pd, .ref R]) :: (R, listOf #[] n) :: (pd, oP2) :: news) (by assumption) N12 ?subY ⟨_, R, pd, oP2, n, t5, t6, rfl, rfl, hd2, lP⟩
    (case subY => (walk_at "sub")))
end

-- C_match3
section
local macro_rules | `(tactic| walk_at "pad0") => `(tactic| fail "pad")
local macro_rules | `(tactic| walk_at "call builtin:len") => `(tactic| (k_here; (with_reducible show wpAny _ _ (call (Value.builtin "len") [Value.ref _]) _ _ _); k_dflt (first
  | (refine' len_0 ?k1 ?k2 ?_; (case k1 => k_asm); (case k2 => k_mem))
  | (refine' len_1 ?k1 ?k2 ?_; (case k1 => k_asm); (case k2 => k_mem))
  | (refine' len_2 ?k1 ?k2 ?_; (case k1 => k_asm); (case k2 => k_mem))
  | (refine' len_3 ?k1 ?k2 ?_; (case k1 => k_asm); (case k2 => k_mem)))))



set_option maxHeartbeats 8000000 in
theorem c_match3 (w : World) {mean : ExcName → Option Value} {mg mb : Str → Option Value} (led : List (Addr × Obj)) (ar a1 a2 a3 fl : Addr) (sv v1 v2 v3 : Value) (na nf : Nat) (tt tx tw ti : Tok) (m1 : (ar, listOf #[.ref a1, .ref a2, .ref a3] na) ∈ led) (m2 : (a1, tupOf [.none, v1]) ∈ led) (m3 : (a2, tupOf [.none, v2]) ∈ led) (m5 : (a3, tupOf [.str (Str.ofString "which") tt, v3]) ∈ led) (m4 : (fl, formals tx tw ti nf) ∈ led) :
  Tells1 PySem.Challenge.rw_pq1424_01.row.prog w (Mine.kAt w.params) Mine.viewQ (looseW Mine.viewQ [Str.ofString "match_names", Str.ofString "take"]) mean mg mb 316 [.ref fl, .ref ar, sv] [] 10 led (fun r out => ∃ T R P oP n t5 t6, r = .ref T ∧ out = (T, tupOf [.ref P, .ref R]) :: (R, listOf #[] n) :: (P, oP) :: led ∧ (P == sysModules) = false ∧ ∃ t7, oP.IsDictOf (PySem.strKind PySem.Challenge.rw_pq1424_01.row.prog w) [(Str.ofString "which", .int 2 t7), (Str.ofString "x", .int 0 t5), (Str.ofString "what", .int 1 t6)]) := by
  k_fill
  refine' tells1_enter (binds := [(Str.ofString "formals", .ref fl), (Str.ofString "args", .ref ar), (Str.ofString "show", sv)]) ?k6 ?k7 ?kr ?k9 ?kB ?c2 ?c3 ?c4 ?c5 ?_
  (case k6 => k_is)
  (case k7 => k_is)
  (case kr => decide)
  (case k9 => intro s hX; first | exact BindsTo.of_eq rfl | exact binds_K (by k_in) rfl (by k_is) rfl rfl rfl)
  (case kB => exact locs rfl)
  (case c2 => exact rfl)
  (case c3 => exact rfl)
  (case c4 => exact rfl)
  (case c5 => decide)
  intro dp un gd cn cs a ccd cl outer base g L L' h₁ s tk hd hu F' N' B' X' T'
  (try dsimp only)
  (try k_fold)
  refine (let A1 := _; (?_ : wpAny _ A1 _ _ _ _))
  repeat' (first | ((fail_if_success (fail_if_success k_unfold)); first | refine (?_ : wpAny _ _ (execs _ _) _ _ _) | (k_unfold; (try dsimp only))) | ((first | (with_reducible show wpAny _ _ (execs _ _) _ _ _) | (with_reducible show wpAny _ _ (exec _ _) _ _ _)); first | ((fail_if_success k_fold); refine wpAny_tok ?_; intro tk0) | ((fail_if_success (fail_if_success k_fold)); refine (let q0 := _; (?_ : wpAny _ _ _ q0 _ _)))) | ((with_reducible show wpAny _ _ (subscriptTail _ _ (Value.ref _) (Value.int _ _)) _ _ _); k_dflt (refine' item_at ?k1 ?k2 ?k3 ?k4 ?k5 ?_; (case k1 => k_asm); (case k2 => k_mem); (case k5 => first | assumption | exact rfl); (case k3 => first | omega | decide); (case k4 => first | omega | decide))) | ((with_reducible show wpAny _ _ (eval (PySem.Expr.ListComp ..) _) _ _ _); (k_dflt (refine comp_start (by k_asm) (by with_unfolding_all rfl) (by decide) (by rfl) (by decide) (by rfl) (by intro _; rfl) ?_))) | ((with_reducible show wpAny _ _ (binaryOp _ _ _) _ _ _); first | ((with_reducible show wpAny _ _ (binaryOp Operator.Mult (Value.ref _) (Value.int 3 _)) _ _ _); k_dflt (refine' mul_3 ?k1 ?k2 ?k3 ?_; (case k1 => k_asm); (case k2 => k_asm); (case k3 => k_mem); k_whole); intro _ _ F' N' l1; (try k_lt l1); (try k_sweep)) | ((with_reducible show wpAny _ _ (binaryOp Operator.Mult (Value.ref _) (Value.int 2 _)) _ _ _); k_dflt (refine' mul_2 ?k1 ?k2 ?k3 ?_; (case k1 => k_asm); (case k2 => k_asm); (case k3 => k_mem); k_whole); intro _ _ F' N' l1; (try k_lt l1); (try k_sweep))) | walk1 | (dsimp only; first | (k_unfold; (try dsimp only)) | walk1) | (leave1; (try dsimp only)) | fail "no step")
  rename News _ _ _ _ => N6
  rename Fr _ _ _ _ => F6
  refine' comp_list (k := na) (its := #[.ref a1, .ref a2, .ref a3]) (fun i ys news => news = led ∧ ys = ([Value.none, .none, .str (Str.ofString "which") tt] : List Value).take i) rfl F6 N6 ?hm ?hsz ⟨rfl, rfl⟩ ?turn ?fin
  (case hm => k_mem)
  (case hsz => simp)
  (case turn =>
    rintro i ys news hi9 ⟨rfl, rfl⟩ v9 I oI Cc oC Da m₂ h9 tk9 E9 hv hC hx9 F9 N9 o9 n9
    (try refine (let q0 := _; (?_ : wpAny _ _ _ q0 _ _)))
    have hstep : ∀ z, ([Value.none, .none, .str (Str.ofString "which") tt] : List Value)[i]? = some z → ([Value.none, .none, .str (Str.ofString "which") tt] : List Value).take (i + 1) = ([Value.none, .none, .str (Str.ofString "which") tt] : List Value).take i ++ [z] := fun z hz => by rw [List.take_add_one, hz]; rfl
    obtain ⟨aa, va, rfl, hma⟩ | ⟨rfl, hz⟩ : (∃ aa va, v9 = Value.ref aa ∧ (aa, tupOf [.none, va]) ∈ news ∧ ([Value.none, .none, .str (Str.ofString "which") tt] : List Value)[i]? = some .none) ∨ (v9 = .ref a3 ∧ ([Value.none, .none, .str (Str.ofString "which") tt] : List Value)[i]? = some (.str (Str.ofString "which") tt)) := by
      rcases i with _ | _ | _ | i
      · exact .inl ⟨a1, v1, by simpa using hv.symm, m2, rfl⟩
      · exact .inl ⟨a2, v2, by simpa using hv.symm, m3, rfl⟩
      · exact .inr ⟨by simpa using hv.symm, rfl⟩
      · simp at hi9; omega
    · obtain ⟨hma, hz⟩ := hma
      repeat' (first | ((fail_if_success (fail_if_success k_unfold)); first | refine (?_ : wpAny _ _ (execs _ _) _ _ _) | (k_unfold; (try dsimp only))) | ((first | (with_reducible show wpAny _ _ (execs _ _) _ _ _) | (with_reducible show wpAny _ _ (exec _ _) _ _ _)); first | ((fail_if_success k_fold); refine wpAny_tok ?_; intro tk0) | ((fail_if_success (fail_if_success k_fold)); refine (let q0 := _; (?_ : wpAny _ _ _ q0 _ _)))) | ((with_reducible show wpAny _ _ (subscriptTail _ _ (Value.ref _) (Value.int _ _)) _ _ _); k_dflt (refine' item_at ?k1 ?k2 ?k3 ?k4 ?k5 ?_; (case k1 => k_asm); (case k2 => k_mem); (case k5 => first | assumption | exact rfl); (case k3 => first | omega | decide); (case k4 => first | omega | decide))) | ((with_reducible show wpAny _ _ (eval (PySem.Expr.ListComp ..) _) _ _ _); (k_dflt (refine comp_start (by k_asm) (by with_unfolding_all rfl) (by decide) (by rfl) (by decide) (by rfl) (by intro _; rfl) ?_))) | ((with_reducible show wpAny _ _ (binaryOp _ _ _) _ _ _); first | ((with_reducible show wpAny _ _ (binaryOp Operator.Mult (Value.ref _) (Value.int 3 _)) _ _ _); k_dflt (refine' mul_3 ?k1 ?k2 ?k3 ?_; (case k1 => k_asm); (case k2 => k_asm); (case k3 => k_mem); k_whole); intro _ _ F' N' l1; (try k_lt l1); (try k_sweep)) | ((with_reducible show wpAny _ _ (binaryOp Operator.Mult (Value.ref _) (Value.int 2 _)) _ _ _); k_dflt (refine' mul_2 ?k1 ?k2 ?k3 ?_; (case k1 => k_asm); (case k2 => k_asm); (case k3 => k_mem); k_whole); intro _ _ F' N' l1; (try k_lt l1); (try k_sweep))) | walk1 | (dsimp only; first | (k_unfold; (try dsimp only)) | walk1) | (leave1; (try dsimp only)) | fail "no step")
      refine LCg.CompEnd.intro (by assumption) (by assumption) news ?sub9 o9 (.inr ⟨_, by k_mem, rfl, _, rfl⟩) ⟨rfl, (hstep _ hz).symm⟩
      (case sub9 => (walk_at "sub"))
    · repeat' (first | ((fail_if_success (fail_if_success k_unfold)); first | refine (?_ : wpAny _ _ (execs _ _) _ _ _) | (k_unfold; (try dsimp only))) | ((first | (with_reducible show wpAny _ _ (execs _ _) _ _ _) | (with_reducible show wpAny _ _ (exec _ _) _ _ _)); first | ((fail_if_success k_fold); refine wpAny_tok ?_; intro tk0) | ((fail_if_success (fail_if_success k_fold)); refine (let q0 := _; (?_ : wpAny _ _ _ q0 _ _)))) | ((with_reducible show wpAny _ _ (subscriptTail _ _ (Value.ref _) (Value.int _ _)) _ _ _); k_dflt (refine' item_at ?k1 ?k2 ?k3 ?k4 ?k5 ?_; (case k1 => k_asm); (case k2 => k_mem); (case k5 => first | assumption | exact rfl); (case k3 => first | omega | decide); (case k4 => first | omega | decide))) | ((with_reducible show wpAny _ _ (eval (PySem.Expr.ListComp ..) _) _ _ _); (k_dflt (refine comp_start (by k_asm) (by with_unfolding_all rfl) (by decide) (by rfl) (by decide) (by rfl) (by intro _; rfl) ?_))) | ((with_reducible show wpAny _ _ (binaryOp _ _ _) _ _ _); first | ((with_reducible show wpAny _ _ (binaryOp Operator.Mult (Value.ref _) (Value.int 3 _)) _ _ _); k_dflt (refine' mul_3 ?k1 ?k2 ?k3 ?_; (case k1 => k_asm); (case k2 => k_asm); (case k3 => k_mem); k_whole); intro _ _ F' N' l1; (try k_lt l1); (try k_sweep)) | ((with_reducible show wpAny _ _ (binaryOp Operator.Mult (Value.ref _) (Value.int 2 _)) _ _ _); k_dflt (refine' mul_2 ?k1 ?k2 ?k3 ?_; (case k1 => k_asm); (case k2 => k_asm); (case k3 => k_mem); k_whole); intro _ _ F' N' l1; (try k_lt l1); (try k_sweep))) | walk1 | (dsimp only; first | (k_unfold; (try dsimp only)) | walk1) | (leave1; (try dsimp only)) | fail "no step")
      refine LCg.CompEnd.intro (by assumption) (by assumption) news ?sub9 o9 (.inr ⟨_, by k_mem, rfl, _, rfl⟩) ⟨rfl, (hstep _ hz).symm⟩
      (case sub9 => (walk_at "sub")))
  (case fin =>
    rintro ys news tl h9 tk9 ⟨rfl, rfl⟩ F9 N9 o9
    replace N9 : News g L' h9 ((tl, listOf #[.none, .none, .str (Str.ofString "which") tt] 3) :: news) := N9
    repeat' (first | ((fail_if_success (fail_if_success k_unfold)); first | refine (?_ : wpAny _ _ (execs _ _) _ _ _) | (k_unfold; (try dsimp only))) | ((first | (with_reducible show wpAny _ _ (execs _ _) _ _ _) | (with_reducible show wpAny _ _ (exec _ _) _ _ _)); first | ((fail_if_success k_fold); refine wpAny_tok ?_; intro tk0) | ((fail_if_success (fail_if_success k_fold)); refine (let q0 := _; (?_ : wpAny _ _ _ q0 _ _)))) | ((with_reducible show wpAny _ _ (subscriptTail _ _ (Value.ref _) (Value.int _ _)) _ _ _); k_dflt (refine' item_at ?k1 ?k2 ?k3 ?k4 ?k5 ?_; (case k1 => k_asm); (case k2 => k_mem); (case k5 => first | assumption | exact rfl); (case k3 => first | omega | decide); (case k4 => first | omega | decide))) | ((with_reducible show wpAny _ _ (eval (PySem.Expr.ListComp ..) _) _ _ _); (k_dflt (refine comp_start (by k_asm) (by with_unfolding_all rfl) (by decide) (by rfl) (by decide) (by rfl) (by intro _; rfl) ?_))) | ((with_reducible show wpAny _ _ (binaryOp _ _ _) _ _ _); first | ((with_reducible show wpAny _ _ (binaryOp Operator.Mult (Value.ref _) (Value.int 3 _)) _ _ _); k_dflt (refine' mul_3 ?k1 ?k2 ?k3 ?_; (case k1 => k_asm); (case k2 => k_asm); (case k3 => k_mem); k_whole); intro _ _ F' N' l1; (try k_lt l1); (try k_sweep)) | ((with_reducible show wpAny _ _ (binaryOp Operator.Mult (Value.ref _) (Value.int 2 _)) _ _ _); k_dflt (refine' mul_2 ?k1 ?k2 ?k3 ?_; (case k1 => k_asm); (case k2 => k_asm); (case k3 => k_mem); k_whole); intro _ _ F' N' l1; (try k_lt l1); (try k_sweep))) | walk1 | (dsimp only; first | (k_unfold; (try dsimp only)) | walk1) | (leave1; (try dsimp only)) | fail "no step")
    rename News _ _ _ _ => N1
    rename_i mo dm _ _ _ _ _ _ _ _ _ _ _ _ _ _ _ _ _ z0 _ _ ul _ _ _ _ pd _ _ _ _ _ _ _ _ _ _ _ _ _ _ _ _
    rename_i oP _ _ _ _ _ _ _ _ _ _ _ _ _ _
    rename (pd == sysModules) = false => lP
    rename Obj.IsDictOf (PySem.strKind _ _) oP _ => hP0
    have hup : @Ne Nat ul pd := by walk_at "om"
    have hul0 : Off ul [(mo, oP), (dm, oP), (tl, oP)] := Off.cons (by walk_at "om") (Off.cons (by walk_at "om") (Off.cons (by walk_at "om") Off.nil))
    have hul1 : Off ul news := Off.of_lt (by assumption) (by (walk_at "sub"))
    have hpl0 : Off pd [(mo, oP), (dm, oP), (tl, oP)] := Off.cons (by walk_at "om") (Off.cons (by walk_at "om") (Off.cons (by walk_at "om") Off.nil))
    have hpl1 : Off pd news := Off.of_lt (by assumption) (by (walk_at "sub"))
    have offU : ∀ o1 o2 o3, Off ul ((mo, o1) :: (dm, o2) :: (tl, o3) :: news) := fun o1 o2 o3 => Off.cons (hul0.ne (.head _)) (Off.cons (hul0.ne (.tail _ (.head _))) (Off.cons (hul0.ne (.tail _ (.tail _ (.head _)))) hul1))
    have offP : ∀ o1 o2 o3, Off pd ((mo, o1) :: (dm, o2) :: (tl, o3) :: news) := fun o1 o2 o3 => Off.cons (hpl0.ne (.head _)) (Off.cons (hpl0.ne (.tail _ (.head _))) (Off.cons (hpl0.ne (.tail _ (.tail _ (.head _)))) hpl1))
    refine repackM3 N1 fun h1 h2 h3 h4 t1 t2 t3 t4 ta tb tc N2 => ?_
    clear N1
    (refine' callAt_use (c_exact3 w ((mo, instObj 280 dm) :: (dm, matD h1 h2 h3 h4 t1 t2 t3 t4 fl tl ul pd) :: (tl, listOf #[.none, .none, .str (Str.ofString "which") tt] 3) :: news) mo dm fl tl ul pd h1 h2 h3 h4 t1 t2 t3 t4 nf 3 0 tx tw ti tt ta tb tc oP (by k_mem) (by k_mem) (by k_mem) (by k_mem) hP0 lP hup (offU _ _ _) (offP _ _ _)) ([]) ?B ?F ?X ?N ?T ?hk ?hin ?off ?hd ?hu ?_; (case B => k_asm); (case F => k_asm); (case X => k_asm); (case N => k_asm); (case T => k_asm); (case hk => exact rfl); (case hin => (walk_at "sub")); (case off => exact Apart.nilR); (case hd => k_room); (case hu => k_units))
    refine elN3 ?_
    intro oP1 tz tc1 hd1 h8 tk8 F8 N8 ap8
    simp only [List.cons_append, List.append_nil] at N8
    dsimp only
    repeat' (first | ((fail_if_success (fail_if_success k_unfold)); first | refine (?_ : wpAny _ _ (execs _ _) _ _ _) | (k_unfold; (try dsimp only))) | ((first | (with_reducible show wpAny _ _ (execs _ _) _ _ _) | (with_reducible show wpAny _ _ (exec _ _) _ _ _)); first | ((fail_if_success k_fold); refine wpAny_tok ?_; intro tk0) | ((fail_if_success (fail_if_success k_fold)); refine (let q0 := _; (?_ : wpAny _ _ _ q0 _ _)))) | ((with_reducible show wpAny _ _ (subscriptTail _ _ (Value.ref _) (Value.int _ _)) _ _ _); k_dflt (refine' item_at ?k1 ?k2 ?k3 ?k4 ?k5 ?_; (case k1 => k_asm); (case k2 => k_mem); (case k5 => first | assumption | exact rfl); (case k3 => first | omega | decide); (case k4 => first | omega | decide))) | ((with_reducible show wpAny _ _ (eval (PySem.Expr.ListComp ..) _) _ _ _); (k_dflt (refine comp_start (by k_asm) (by with_unfolding_all rfl) (by decide) (by rfl) (by decide) (by rfl) (by intro _; rfl) ?_))) | ((with_reducible show wpAny _ _ (binaryOp _ _ _) _ _ _); first | ((with_reducible show wpAny _ _ (binaryOp Operator.Mult (Value.ref _) (Value.int 3 _)) _ _ _); k_dflt (refine' mul_3 ?k1 ?k2 ?k3 ?_; (case k1 => k_asm); (case k2 => k_asm); (case k3 => k_mem); k_whole); intro _ _ F' N' l1; (try k_lt l1); (try k_sweep)) | ((with_reducible show wpAny _ _ (binaryOp Operator.Mult (Value.ref _) (Value.int 2 _)) _ _ _); k_dflt (refine' mul_2 ?k1 ?k2 ?k3 ?_; (case k1 => k_asm); (case k2 => k_asm); (case k3 => k_mem); k_whole); intro _ _ F' N' l1; (try k_lt l1); (try k_sweep))) | walk1 | (dsimp only; first | (k_unfold; (try dsimp only)) | walk1) | (leave1; (try dsimp only)) | fail "no step")
    (refine' callAt_useN ?N ?C ?B ?F ?X ?T ?hk ?hd ?hu ?_; (case B => k_asm); (case F => k_asm); (case X => k_asm); (case N => k_asm); (case T => k_asm); (case hk => exact rfl); (case C => exact (c_partial w _ mo dm fl tl ul pd h1 h2 h3 h4 t1 t2 t3 t4 nf 3 0 tx tw ti [.none, .none, .str (Str.ofString "which") tt] [.int 0 ta, .int 0 tb, .int 2 tc1] oP1 [(Str.ofString "which", .int 2 tz)] (by k_mem) (by k_mem) (by k_mem) (by k_mem) (by k_mem) (by k_mem) hd1 lP (by simp) Blank.three)); (case hd => k_room); (case hu => k_units))
    refine el0 ?_
    intro h9 tk9 F9 N9
    dsimp only
    repeat' (first | ((fail_if_success (fail_if_success k_unfold)); first | refine (?_ : wpAny _ _ (execs _ _) _ _ _) | (k_unfold; (try dsimp only))) | ((first | (with_reducible show wpAny _ _ (execs _ _) _ _ _) | (with_reducible show wpAny _ _ (exec _ _) _ _ _)); first | ((fail_if_success k_fold); refine wpAny_tok ?_; intro tk0) | ((fail_if_success (fail_if_success k_fold)); refine (let q0 := _; (?_ : wpAny _ _ _ q0 _ _)))) | ((with_reducible show wpAny _ _ (subscriptTail _ _ (Value.ref _) (Value.int _ _)) _ _ _); k_dflt (refine' item_at ?k1 ?k2 ?k3 ?k4 ?k5 ?_; (case k1 => k_asm); (case k2 => k_mem); (case k5 => first | assumption | exact rfl); (case k3 => first | omega | decide); (case k4 => first | omega | decide))) | ((with_reducible show wpAny _ _ (eval (PySem.Expr.ListComp ..) _) _ _ _); (k_dflt (refine comp_start (by k_asm) (by with_unfolding_all rfl) (by decide) (by rfl) (by decide) (by rfl) (by intro _; rfl) ?_))) | ((with_reducible show wpAny _ _ (binaryOp _ _ _) _ _ _); first | ((with_reducible show wpAny _ _ (binaryOp Operator.Mult (Value.ref _) (Value.int 3 _)) _ _ _); k_dflt (refine' mul_3 ?k1 ?k2 ?k3 ?_; (case k1 => k_asm); (case k2 => k_asm); (case k3 => k_mem); k_whole); intro _ _ F' N' l1; (try k_lt l1); (try k_sweep)) | ((with_reducible show wpAny _ _ (binaryOp Operator.Mult (Value.ref _) (Value.int 2 _)) _ _ _); k_dflt (refine' mul_2 ?k1 ?k2 ?k3 ?_; (case k1 => k_asm); (case k2 => k_asm); (case k3 => k_mem); k_whole); intro _ _ F' N' l1; (try k_lt l1); (try k_sweep))) | walk1 | (dsimp only; first | (k_unfold; (try dsimp only)) | walk1) | (leave1; (try dsimp only)) | fail "no step")
    (refine' callAt_use (c_pos3 w ((mo, instObj 280 dm) :: (dm, matD h1 h2 h3 h4 t1 t2 t3 t4 fl tl ul pd) :: (tl, listOf #[.none, .none, .str (Str.ofString "which") tt] 3) :: news) mo dm fl tl ul pd h1 h2 h3 h4 t1 t2 t3 t4 nf 3 0 tx tw ti tt ta tb tc1 tz oP1 (by k_mem) (by k_mem) (by k_mem) (by k_mem) hd1 lP hup (offU _ _ _) (offP _ _ _)) ([]) ?B ?F ?X ?N ?T ?hk ?hin ?off ?hd ?hu ?_; (case B => k_asm); (case F => k_asm); (case X => k_asm); (case N => k_asm); (case T => k_asm); (case hk => exact rfl); (case hin => (walk_at "sub")); (case off => exact Apart.nilR); (case hd => k_room); (case hu => k_units))
    refine elN5 ?_
    intro oP2 t5 t6 t7 t8 hd2 h10 tk10 F10 N10 ap10
    simp only [List.cons_append, List.append_nil] at N10
    dsimp only
    repeat' (first | ((fail_if_success (fail_if_success k_unfold)); first | refine (?_ : wpAny _ _ (execs _ _) _ _ _) | (k_unfold; (try dsimp only))) | ((first | (with_reducible show wpAny _ _ (execs _ _) _ _ _) | (with_reducible show wpAny _ _ (exec _ _) _ _ _)); first | ((fail_if_success k_fold); refine wpAny_tok ?_; intro tk0) | ((fail_if_success (fail_if_success k_fold)); refine (let q0 := _; (?_ : wpAny _ _ _ q0 _ _)))) | ((with_reducible show wpAny _ _ (subscriptTail _ _ (Value.ref _) (Value.int _ _)) _ _ _); k_dflt (refine' item_at ?k1 ?k2 ?k3 ?k4 ?k5 ?_; (case k1 => k_asm); (case k2 => k_mem); (case k5 => first | assumption | exact rfl); (case k3 => first | omega | decide); (case k4 => first | omega | decide))) | ((with_reducible show wpAny _ _ (eval (PySem.Expr.ListComp ..) _) _ _ _); (k_dflt (refine comp_start (by k_asm) (by with_unfolding_all rfl) (by decide) (by rfl) (by decide) (by rfl) (by intro _; rfl) ?_))) | ((with_reducible show wpAny _ _ (binaryOp _ _ _) _ _ _); first | ((with_reducible show wpAny _ _ (binaryOp Operator.Mult (Value.ref _) (Value.int 3 _)) _ _ _); k_dflt (refine' mul_3 ?k1 ?k2 ?k3 ?_; (case k1 => k_asm); (case k2 => k_asm); (case k3 => k_mem); k_whole); intro _ _ F' N' l1; (try k_lt l1); (try k_sweep)) | ((with_reducible show wpAny _ _ (binaryOp Operator.Mult (Value.ref _) (Value.int 2 _)) _ _ _); k_dflt (refine' mul_2 ?k1 ?k2 ?k3 ?_; (case k1 => k_asm); (case k2 => k_asm); (case k3 => k_mem); k_whole); intro _ _ F' N' l1; (try k_lt l1); (try k_sweep))) | walk1 | (dsimp only; first | (k_unfold; (try dsimp only)) | walk1) | (leave1; (try dsimp only)) | fail "no step")
    (refine' callAt_useN ?N ?C ?B ?F ?X ?T ?hk ?hd ?hu ?_; (case B => k_asm); (case F => k_asm); (case X => k_asm); (case N => k_asm); (case T => k_asm); (case hk => exact rfl); (case C => exact (c_rest w _ mo dm fl tl ul pd h1 h2 h3 h4 t1 t2 t3 t4 3 0 [.none, .none, .str (Str.ofString "which") tt] [.int 2 t7, .int 2 t8, .int 2 tc1] (by k_mem) (by k_mem) (by k_mem) (by k_mem) (by simp) twos3)); (case hd => k_room); (case hu => k_units))
    refine el2 ?_
    intro R n h11 tk11 F11 N11
    dsimp only
    repeat' (first | ((fail_if_success (fail_if_success k_unfold)); first | refine (?_ : wpAny _ _ (execs _ _) _ _ _) | (k_unfold; (try dsimp only))) | ((first | (with_reducible show wpAny _ _ (execs _ _) _ _ _) | (with_reducible show wpAny _ _ (exec _ _) _ _ _)); first | ((fail_if_success k_fold); refine wpAny_tok ?_; intro tk0) | ((fail_if_success (fail_if_success k_fold)); refine (let q0 := _; (?_ : wpAny _ _ _ q0 _ _)))) | ((with_reducible show wpAny _ _ (subscriptTail _ _ (Value.ref _) (Value.int _ _)) _ _ _); k_dflt (refine' item_at ?k1 ?k2 ?k3 ?k4 ?k5 ?_; (case k1 => k_asm); (case k2 => k_mem); (case k5 => first | assumption | exact rfl); (case k3 => first | omega | decide); (case k4 => first | omega | decide))) | ((with_reducible show wpAny _ _ (eval (PySem.Expr.ListComp ..) _) _ _ _); (k_dflt (refine comp_start (by k_asm) (by with_unfolding_all rfl) (by decide) (by rfl) (by decide) (by rfl) (by intro _; rfl) ?_))) | ((with_reducible show wpAny _ _ (binaryOp _ _ _) _ _ _); first | ((with_reducible show wpAny _ _ (binaryOp Operator.Mult (Value.ref _) (Value.int 3 _)) _ _ _); k_dflt (refine' mul_3 ?k1 ?k2 ?k3 ?_; (case k1 => k_asm); (case k2 => k_asm); (case k3 => k_mem); k_whole); intro _ _ F' N' l1; (try k_lt l1); (try k_sweep)) | ((with_reducible show wpAny _ _ (binaryOp Operator.Mult (Value.ref _) (Value.int 2 _)) _ _ _); k_dflt (refine' mul_2 ?k1 ?k2 ?k3 ?_; (case k1 => k_asm); (case k2 => k_asm); (case k3 => k_mem); k_whole); intro _ _ F' N' l1; (try k_lt l1); (try k_sweep))) | walk1 | (dsimp only; first | (k_unfold; (try dsimp only)) | walk1) | (leave1; (try dsimp only)) | fail "no step")
    rename News _ _ _ _ => N12
    refine Fin.mk ((_, tupOf [.ref pd, .ref R]) :: (R, listOf #[] n) :: (pd, oP2) :: news) (by assumption) N12 ?subY ⟨_, R, pd, oP2, n, t5, t6, rfl, rfl, lP, tz, hd2⟩
    (case subY => (walk_at "sub")))
end

-- C_take2
section
structure TkSt where
  its : List Value
  n : Nat
set_option maxHeartbeats 8000000 in
theorem c_take2 (w : World) {mean : ExcName → Option Value} {mg mb : Str → Option Value} (led : List (Addr × Obj)) (ar a1 a2 fl : Addr) (v1 v2 : Value) (na nf : Nat) (tx tw ti : Tok) (m1 : (ar, listOf #[.ref a1, .ref a2] na) ∈ led) (m2 : (a1, tupOf [.none, v1]) ∈ led) (m3 : (a2, tupOf [.none, v2]) ∈ led) (m4 : (fl, listOf #[.str (Str.ofString "x") tx, .str (Str.ofString "what") tw, .str (Str.ofString "which") ti] nf) ∈ led) :
  Tells1 PySem.Challenge.rw_pq1424_01.row.prog w (Mine.kAt w.params) Mine.viewQ (looseW Mine.viewQ [Str.ofString "match_names", Str.ofString "take"]) mean mg mb 329 [.ref ar, .ref fl] [] 16 led (fun r out => ∃ l n, r = .ref l ∧ out = (l, listOf #[v1, v2, .none] n) :: led) := by
  k_fill
  refine' tells1_enterC (binds := [(Str.ofString "args", .ref ar), (Str.ofString "formals", .ref fl), (Str.ofString "show", .none)]) ?k6 ?k7 ?kr ?k9 ?kB ?kD ?c2 ?c3 ?c4 ?_
  (case k6 => k_is)
  (case k7 => k_is)
  (case kr => decide)
  (case k9 => intro s hX; first | exact BindsTo.of_eq rfl | exact binds_K (by k_in) rfl (by k_is) rfl rfl rfl)
  (case kB => exact rfl)
  (case kD => decide +kernel)
  (case c2 => exact rfl)
  (case c3 => exact rfl)
  (case c4 => exact rfl)
  intro dp un gd cn cs a ccd cl outer base g L L' h₁ s tk cells' hd hu F' N' Y' B' X' T' l1'
  obtain ⟨oc, hE', hdc⟩ := CellsAre.one Y'
  subst hE'
  (try simp only [List.cons_append, List.nil_append] at N')
  (try dsimp only)
  (try k_fold)
  refine (let A1 := _; (?_ : wpAny _ A1 _ _ _ _))
  repeat' (first | ((fail_if_success (fail_if_success k_unfold)); first | refine (?_ : wpAny _ _ (execs _ _) _ _ _) | (k_unfold; (try dsimp only))) | ((first | (with_reducible show wpAny _ _ (execs _ _) _ _ _) | (with_reducible show wpAny _ _ (exec _ _) _ _ _)); first | ((fail_if_success k_fold); refine wpAny_tok ?_; intro tk0) | ((fail_if_success (fail_if_success k_fold)); refine (let q0 := _; (?_ : wpAny _ _ _ q0 _ _)))) | ((with_reducible show wpAny _ _ (subscriptTail _ _ (Value.ref _) (Value.int _ _)) _ _ _); k_dflt (refine' item_at ?k1 ?k2 ?k3 ?k4 ?k5 ?_; (case k1 => k_asm); (case k2 => k_mem); (case k5 => first | assumption | exact rfl); (case k3 => first | omega | decide); (case k4 => first | omega | decide))) | ((with_reducible show wpAny _ _ (exec (Stmt.For (PySem.Expr.Name ..) (PySem.Expr.Name ..) _ [] _) _) _ _ _); walk_at "for0") | ((with_reducible show wpAny _ _ (call (Value.type _) [Value.ref _]) _ _ _); k_dflt (refine' list_copyM ?k1 ?k2 ?k3 ?z ?_; (case k1 => k_asm); (case k2 => k_asm); (case k3 => k_mem); (case z => (rw [sizeLine_eq]; (try simp only [List.size_toArray]); omega))); intro _ _ _ F' N' l1; (try k_lt l1); (try k_sweep)) | ((with_reducible show wpAny _ _ (getItem (Value.ref _) (Value.str _ _)) _ _ _); (k_dflt (refine kdt_getItem (knd := PySem.strKind _ _) (by k_asm) (by k_mem) (by k_asm) (strKind_is _ _ _ _) (by assumption) ?_))) | ((with_reducible show wpAny _ _ (compareOp CmpOp.In (Value.str _ _) (Value.ref _)) _ _ _); (k_dflt (refine kda_in (knd := PySem.strKind _ _) (by k_asm) (by k_mem) (by k_asm) (by k_asm) (strKind_is _ _ _ _) _ (by assumption) ?_))) | walk1 | (dsimp only; first | (k_unfold; (try dsimp only)) | walk1) | (leave1; (try dsimp only)) | fail "no step")
  rename News _ _ _ _ => N1
  rename_i f2 _ _ _ _
  (refine' callAt_use (c_match2 w ((f2, formals tx tw ti _) :: led) ar a1 a2 f2 _ v1 v2 na _ tx tw ti (by k_mem) (by k_mem) (by k_mem) (by k_mem)) ([(L' + 1, oc)]) ?B ?F ?X ?N ?T ?hk ?hin ?off ?hd ?hu ?_; (case B => k_asm); (case F => k_asm); (case X => k_asm); (case N => k_asm); (case T => k_asm); (case hk => exact rfl); (case hin => (walk_at "sub")); (case off => (refine Apart.symm (Apart.cons (Off.cons (by walk_at "om") (Off.of_lt (a := L' + 1) (news := led) (fun p hp => Nat.lt_succ_of_lt (l1' p hp)) (fun _ h => h))) Apart.nil))); (case hd => k_room); (case hu => k_units))
  refine el7R ?_
  intro T R P oP n t5 t6 hR9 h8 tk8 F8 N8 ap8
  have hd := hR9.1
  have lP := hR9.2
  clear hR9
  have N9 : News g L' h8 ((T, tupOf [.ref P, .ref R]) :: (P, oP) :: (L' + 1, oc) :: led) := newsPick N8 (by (walk_at "sub"))
  have hdc1 : oc.data = .cell (some (.ref ar)) := hdc
  clear N8 N1 hdc
  have hb0 : (valueAt [(Str.ofString "x", Value.int 0 t5), (Str.ofString "what", Value.int 1 t6)] (Str.ofString "x")).isSome = true := rfl
  have hb1 : (valueAt [(Str.ofString "x", Value.int 0 t5), (Str.ofString "what", Value.int 1 t6)] (Str.ofString "what")).isSome = true := rfl
  have hb2 : (valueAt [(Str.ofString "x", Value.int 0 t5), (Str.ofString "what", Value.int 1 t6)] (Str.ofString "which")).isSome = false := rfl
  have hv0 : valueAt [(Str.ofString "x", Value.int 0 t5), (Str.ofString "what", Value.int 1 t6)] (Str.ofString "x") = some (.int 0 t5) := rfl
  have hv1 : valueAt [(Str.ofString "x", Value.int 0 t5), (Str.ofString "what", Value.int 1 t6)] (Str.ofString "what") = some (.int 1 t6) := rfl
  repeat' (first | ((fail_if_success (fail_if_success k_unfold)); first | refine (?_ : wpAny _ _ (execs _ _) _ _ _) | (k_unfold; (try dsimp only))) | ((first | (with_reducible show wpAny _ _ (execs _ _) _ _ _) | (with_reducible show wpAny _ _ (exec _ _) _ _ _)); first | ((fail_if_success k_fold); refine wpAny_tok ?_; intro tk0) | ((fail_if_success (fail_if_success k_fold)); refine (let q0 := _; (?_ : wpAny _ _ _ q0 _ _)))) | ((with_reducible show wpAny _ _ (subscriptTail _ _ (Value.ref _) (Value.int _ _)) _ _ _); k_dflt (refine' item_at ?k1 ?k2 ?k3 ?k4 ?k5 ?_; (case k1 => k_asm); (case k2 => k_mem); (case k5 => first | assumption | exact rfl); (case k3 => first | omega | decide); (case k4 => first | omega | decide))) | ((with_reducible show wpAny _ _ (exec (Stmt.For (PySem.Expr.Name ..) (PySem.Expr.Name ..) _ [] _) _) _ _ _); walk_at "for0") | ((with_reducible show wpAny _ _ (call (Value.type _) [Value.ref _]) _ _ _); k_dflt (refine' list_copyM ?k1 ?k2 ?k3 ?z ?_; (case k1 => k_asm); (case k2 => k_asm); (case k3 => k_mem); (case z => (rw [sizeLine_eq]; (try simp only [List.size_toArray]); omega))); intro _ _ _ F' N' l1; (try k_lt l1); (try k_sweep)) | ((with_reducible show wpAny _ _ (getItem (Value.ref _) (Value.str _ _)) _ _ _); (k_dflt (refine kdt_getItem (knd := PySem.strKind _ _) (by k_asm) (by k_mem) (by k_asm) (strKind_is _ _ _ _) (by assumption) ?_))) | ((with_reducible show wpAny _ _ (compareOp CmpOp.In (Value.str _ _) (Value.ref _)) _ _ _); (k_dflt (refine kda_in (knd := PySem.strKind _ _) (by k_asm) (by k_mem) (by k_asm) (by k_asm) (strKind_is _ _ _ _) _ (by assumption) ?_))) | walk1 | (dsimp only; first | (k_unfold; (try dsimp only)) | walk1) | (leave1; (try dsimp only)) | fail "no step")
  rename News _ _ _ _ => N2
  rename Fr _ _ _ _ => F2
  rename_i V _ _ _
  refine' for_listC (σ := TkSt) (nn := nf) (items := #[.str (Str.ofString "x") tx, .str (Str.ofString "what") tw, .str (Str.ofString "which") ti]) (fun c => [(V, listOf c.its.toArray c.n)]) [Str.ofString "name"] (fun j c => c.its = ([v1, v2, .none] : List Value).take j) ((L' + 1, oc) :: (P, oP) :: led) ⟨[], 0⟩ rfl PassesOwn.never (.inl ⟨_, _, rfl⟩) F2 N2 ?hin ?ap (.inr fun _ => ?hl) rfl ?turn ?done
  (case hin => (walk_at "sub"))
  (case ap => exact Apart.cons (Off.of_lt (by assumption) (by (walk_at "sub"))) Apart.nil)
  (case hl => k_mem)
  (case turn =>
    intro j v c u4 I oI hp4 tk4 hj hPP F4 N4 ap4
    (try refine (let q0 := _; (?_ : wpAny _ _ _ q0 _ _)))
    obtain ⟨its, n4⟩ := c
    have oI1 := ap4.off (.head _)
    dsimp only at *
    subst hPP
    rcases j with _ | _ | _ | j
    · obtain rfl : Value.str (Str.ofString "x") tx = v := by simpa using hj
      simp only [List.cons_append, List.nil_append, List.take_zero] at N4
      repeat' (first | ((fail_if_success (fail_if_success k_unfold)); first | refine (?_ : wpAny _ _ (execs _ _) _ _ _) | (k_unfold; (try dsimp only))) | ((first | (with_reducible show wpAny _ _ (execs _ _) _ _ _) | (with_reducible show wpAny _ _ (exec _ _) _ _ _)); first | ((fail_if_success k_fold); refine wpAny_tok ?_; intro tk0) | ((fail_if_success (fail_if_success k_fold)); refine (let q0 := _; (?_ : wpAny _ _ _ q0 _ _)))) | ((with_reducible show wpAny _ _ (subscriptTail _ _ (Value.ref _) (Value.int _ _)) _ _ _); k_dflt (refine' item_at ?k1 ?k2 ?k3 ?k4 ?k5 ?_; (case k1 => k_asm); (case k2 => k_mem); (case k5 => first | assumption | exact rfl); (case k3 => first | omega | decide); (case k4 => first | omega | decide))) | ((with_reducible show wpAny _ _ (exec (Stmt.For (PySem.Expr.Name ..) (PySem.Expr.Name ..) _ [] _) _) _ _ _); walk_at "for0") | ((with_reducible show wpAny _ _ (call (Value.type _) [Value.ref _]) _ _ _); k_dflt (refine' list_copyM ?k1 ?k2 ?k3 ?z ?_; (case k1 => k_asm); (case k2 => k_asm); (case k3 => k_mem); (case z => (rw [sizeLine_eq]; (try simp only [List.size_toArray]); omega))); intro _ _ _ F' N' l1; (try k_lt l1); (try k_sweep)) | ((with_reducible show wpAny _ _ (getItem (Value.ref _) (Value.str _ _)) _ _ _); (k_dflt (refine kdt_getItem (knd := PySem.strKind _ _) (by k_asm) (by k_mem) (by k_asm) (strKind_is _ _ _ _) (by assumption) ?_))) | ((with_reducible show wpAny _ _ (compareOp CmpOp.In (Value.str _ _) (Value.ref _)) _ _ _); (k_dflt (refine kda_in (knd := PySem.strKind _ _) (by k_asm) (by k_mem) (by k_asm) (by k_asm) (strKind_is _ _ _ _) _ (by assumption) ?_))) | walk1 | (dsimp only; first | (k_unfold; (try dsimp only)) | walk1) | (leave1; (try dsimp only)) | fail "no step")
      refine TurnEnd.next ⟨[v1], n4 + 1⟩ (by assumption) ?misA (by assumption) ?subA (Apart.cons oI1 Apart.nil) rfl
      (case misA => (repeat' (first | exact Mis.mix | (refine Mis.put rfl ?_) | (refine Mis.mixIn rfl ?_) | exact Mis.rfl')))
      (case subA => (walk_at "sub"))
    · obtain rfl : Value.str (Str.ofString "what") tw = v := by simpa using hj
      replace N4 : News g L' hp4 ((V, listOf [v1].toArray n4) :: (I, oI) :: (L' + 1, oc) :: (P, oP) :: led) := N4
      repeat' (first | ((fail_if_success (fail_if_success k_unfold)); first | refine (?_ : wpAny _ _ (execs _ _) _ _ _) | (k_unfold; (try dsimp only))) | ((first | (with_reducible show wpAny _ _ (execs _ _) _ _ _) | (with_reducible show wpAny _ _ (exec _ _) _ _ _)); first | ((fail_if_success k_fold); refine wpAny_tok ?_; intro tk0) | ((fail_if_success (fail_if_success k_fold)); refine (let q0 := _; (?_ : wpAny _ _ _ q0 _ _)))) | ((with_reducible show wpAny _ _ (subscriptTail _ _ (Value.ref _) (Value.int _ _)) _ _ _); k_dflt (refine' item_at ?k1 ?k2 ?k3 ?k4 ?k5 ?_; (case k1 => k_asm); (case k2 => k_mem); (case k5 => first | assumption | exact rfl); (case k3 => first | omega | decide); (case k4 => first | omega | decide))) | ((with_reducible show wpAny _ _ (exec (Stmt.For (PySem.Expr.Name ..) (PySem.Expr.Name ..) _ [] _) _) _ _ _); walk_at "for0") | ((with_reducible show wpAny _ _ (call (Value.type _) [Value.ref _]) _ _ _); k_dflt (refine' list_copyM ?k1 ?k2 ?k3 ?z ?_; (case k1 => k_asm); (case k2 => k_asm); (case k3 => k_mem); (case z => (rw [sizeLine_eq]; (try simp only [List.size_toArray]); omega))); intro _ _ _ F' N' l1; (try k_lt l1); (try k_sweep)) | ((with_reducible show wpAny _ _ (getItem (Value.ref _) (Value.str _ _)) _ _ _); (k_dflt (refine kdt_getItem (knd := PySem.strKind _ _) (by k_asm) (by k_mem) (by k_asm) (strKind_is _ _ _ _) (by assumption) ?_))) | ((with_reducible show wpAny _ _ (compareOp CmpOp.In (Value.str _ _) (Value.ref _)) _ _ _); (k_dflt (refine kda_in (knd := PySem.strKind _ _) (by k_asm) (by k_mem) (by k_asm) (by k_asm) (strKind_is _ _ _ _) _ (by assumption) ?_))) | walk1 | (dsimp only; first | (k_unfold; (try dsimp only)) | walk1) | (leave1; (try dsimp only)) | fail "no step")
      refine TurnEnd.next ⟨[v1, v2], n4 + 1⟩ (by assumption) ?misB (by assumption) ?subB (Apart.cons oI1 Apart.nil) rfl
      (case misB => (repeat' (first | exact Mis.mix | (refine Mis.put rfl ?_) | (refine Mis.mixIn rfl ?_) | exact Mis.rfl')))
      (case subB => (walk_at "sub"))
    · obtain rfl : Value.str (Str.ofString "which") ti = v := by simpa using hj
      replace N4 : News g L' hp4 ((V, listOf [v1, v2].toArray n4) :: (I, oI) :: (L' + 1, oc) :: (P, oP) :: led) := N4
      repeat' (first | ((fail_if_success (fail_if_success k_unfold)); first | refine (?_ : wpAny _ _ (execs _ _) _ _ _) | (k_unfold; (try dsimp only))) | ((first | (with_reducible show wpAny _ _ (execs _ _) _ _ _) | (with_reducible show wpAny _ _ (exec _ _) _ _ _)); first | ((fail_if_success k_fold); refine wpAny_tok ?_; intro tk0) | ((fail_if_success (fail_if_success k_fold)); refine (let q0 := _; (?_ : wpAny _ _ _ q0 _ _)))) | ((with_reducible show wpAny _ _ (subscriptTail _ _ (Value.ref _) (Value.int _ _)) _ _ _); k_dflt (refine' item_at ?k1 ?k2 ?k3 ?k4 ?k5 ?_; (case k1 => k_asm); (case k2 => k_mem); (case k5 => first | assumption | exact rfl); (case k3 => first | omega | decide); (case k4 => first | omega | decide))) | ((with_reducible show wpAny _ _ (exec (Stmt.For (PySem.Expr.Name ..) (PySem.Expr.Name ..) _ [] _) _) _ _ _); walk_at "for0") | ((with_reducible show wpAny _ _ (call (Value.type _) [Value.ref _]) _ _ _); k_dflt (refine' list_copyM ?k1 ?k2 ?k3 ?z ?_; (case k1 => k_asm); (case k2 => k_asm); (case k3 => k_mem); (case z => (rw [sizeLine_eq]; (try simp only [List.size_toArray]); omega))); intro _ _ _ F' N' l1; (try k_lt l1); (try k_sweep)) | ((with_reducible show wpAny _ _ (getItem (Value.ref _) (Value.str _ _)) _ _ _); (k_dflt (refine kdt_getItem (knd := PySem.strKind _ _) (by k_asm) (by k_mem) (by k_asm) (strKind_is _ _ _ _) (by assumption) ?_))) | ((with_reducible show wpAny _ _ (compareOp CmpOp.In (Value.str _ _) (Value.ref _)) _ _ _); (k_dflt (refine kda_in (knd := PySem.strKind _ _) (by k_asm) (by k_mem) (by k_asm) (by k_asm) (strKind_is _ _ _ _) _ (by assumption) ?_))) | walk1 | (dsimp only; first | (k_unfold; (try dsimp only)) | walk1) | (leave1; (try dsimp only)) | fail "no step")
      refine TurnEnd.next ⟨[v1, v2, .none], n4 + 1⟩ (by assumption) ?misC (by assumption) ?subC (Apart.cons oI1 Apart.nil) rfl
      (case misC => (repeat' (first | exact Mis.mix | (refine Mis.put rfl ?_) | (refine Mis.mixIn rfl ?_) | exact Mis.rfl')))
      (case subC => (walk_at "sub"))
    · simp at hj)
  (case done =>
    intro c u5 h5 tk5 hP5 F5 N5 ap5
    obtain ⟨its, n5⟩ := c
    dsimp only at *
    subst hP5
    replace N5 : News g L' h5 ((V, listOf [v1, v2, .none].toArray n5) :: (L' + 1, oc) :: (P, oP) :: led) := N5
    repeat' (first | ((fail_if_success (fail_if_success k_unfold)); first | refine (?_ : wpAny _ _ (execs _ _) _ _ _) | (k_unfold; (try dsimp only))) | ((first | (with_reducible show wpAny _ _ (execs _ _) _ _ _) | (with_reducible show wpAny _ _ (exec _ _) _ _ _)); first | ((fail_if_success k_fold); refine wpAny_tok ?_; intro tk0) | ((fail_if_success (fail_if_success k_fold)); refine (let q0 := _; (?_ : wpAny _ _ _ q0 _ _)))) | ((with_reducible show wpAny _ _ (subscriptTail _ _ (Value.ref _) (Value.int _ _)) _ _ _); k_dflt (refine' item_at ?k1 ?k2 ?k3 ?k4 ?k5 ?_; (case k1 => k_asm); (case k2 => k_mem); (case k5 => first | assumption | exact rfl); (case k3 => first | omega | decide); (case k4 => first | omega | decide))) | ((with_reducible show wpAny _ _ (exec (Stmt.For (PySem.Expr.Name ..) (PySem.Expr.Name ..) _ [] _) _) _ _ _); walk_at "for0") | ((with_reducible show wpAny _ _ (call (Value.type _) [Value.ref _]) _ _ _); k_dflt (refine' list_copyM ?k1 ?k2 ?k3 ?z ?_; (case k1 => k_asm); (case k2 => k_asm); (case k3 => k_mem); (case z => (rw [sizeLine_eq]; (try simp only [List.size_toArray]); omega))); intro _ _ _ F' N' l1; (try k_lt l1); (try k_sweep)) | ((with_reducible show wpAny _ _ (getItem (Value.ref _) (Value.str _ _)) _ _ _); (k_dflt (refine kdt_getItem (knd := PySem.strKind _ _) (by k_asm) (by k_mem) (by k_asm) (strKind_is _ _ _ _) (by assumption) ?_))) | ((with_reducible show wpAny _ _ (compareOp CmpOp.In (Value.str _ _) (Value.ref _)) _ _ _); (k_dflt (refine kda_in (knd := PySem.strKind _ _) (by k_asm) (by k_mem) (by k_asm) (by k_asm) (strKind_is _ _ _ _) _ (by assumption) ?_))) | walk1 | (dsimp only; first | (k_unfold; (try dsimp only)) | walk1) | (leave1; (try dsimp only)) | fail "no step")
    refine Fin.mk ((V, listOf [v1, v2, .none].toArray n5) :: led) (by assumption) (by assumption) ?subZ ⟨V, n5, rfl, rfl⟩
    (case subZ => (walk_at "sub")))
end

-- C_take3
section
local macro_rules | `(tactic| walk_at "pad0") => `(tactic| fail "pad")
local macro_rules | `(tactic| walk_at "pad1") => `(tactic| fail "pad")
local macro_rules | `(tactic| walk_at "pad2") => `(tactic| fail "pad")
structure TkSt3 where
  its : List Value
  n : Nat
set_option maxHeartbeats 8000000 in
theorem c_take3 (w : World) {mean : ExcName → Option Value} {mg mb : Str → Option Value} (led : List (Addr × Obj)) (ar a1 a2 a3 fl : Addr) (v1 v2 v3 : Value) (na nf : Nat) (t3 tx tw ti : Tok) (m1 : (ar, listOf #[.ref a1, .ref a2, .ref a3] na) ∈ led) (m2 : (a1, tupOf [.none, v1]) ∈ led) (m3 : (a2, tupOf [.none, v2]) ∈ led) (m5 : (a3, tupOf [.str (Str.ofString "which") t3, v3]) ∈ led) (m4 : (fl, listOf #[.str (Str.ofString "x") tx, .str (Str.ofString "what") tw, .str (Str.ofString "which") ti] nf) ∈ led) :
  Tells1 PySem.Challenge.rw_pq1424_01.row.prog w (Mine.kAt w.params) Mine.viewQ (looseW Mine.viewQ [Str.ofString "match_names", Str.ofString "take"]) mean mg mb 329 [.ref ar, .ref fl] [] 16 led (fun r out => ∃ l n, r = .ref l ∧ out = (l, listOf #[v1, v2, v3] n) :: led) := by
  k_fill
  refine' tells1_enterC (binds := [(Str.ofString "args", .ref ar), (Str.ofString "formals", .ref fl), (Str.ofString "show", .none)]) ?k6 ?k7 ?kr ?k9 ?kB ?kD ?c2 ?c3 ?c4 ?_
  (case k6 => k_is)
  (case k7 => k_is)
  (case kr => decide)
  (case k9 => intro s hX; first | exact BindsTo.of_eq rfl | exact binds_K (by k_in) rfl (by k_is) rfl rfl rfl)
  (case kB => exact rfl)
  (case kD => decide +kernel)
  (case c2 => exact rfl)
  (case c3 => exact rfl)
  (case c4 => exact rfl)
  intro dp un gd cn cs a ccd cl outer base g L L' h₁ s tk cells' hd hu F' N' Y' B' X' T' l1'
  obtain ⟨oc, hE', hdc⟩ := CellsAre.one Y'
  subst hE'
  (try simp only [List.cons_append, List.nil_append] at N')
  (try dsimp only)
  (try k_fold)
  refine (let A1 := _; (?_ : wpAny _ A1 _ _ _ _))
  repeat' (first | ((fail_if_success (fail_if_success k_unfold)); first | refine (?_ : wpAny _ _ (execs _ _) _ _ _) | (k_unfold; (try dsimp only))) | ((first | (with_reducible show wpAny _ _ (execs _ _) _ _ _) | (with_reducible show wpAny _ _ (exec _ _) _ _ _)); first | ((fail_if_success k_fold); refine wpAny_tok ?_; intro tk0) | ((fail_if_success (fail_if_success k_fold)); refine (let q0 := _; (?_ : wpAny _ _ _ q0 _ _)))) | ((with_reducible show wpAny _ _ (subscriptTail _ _ (Value.ref _) (Value.int _ _)) _ _ _); k_dflt (refine' item_at ?k1 ?k2 ?k3 ?k4 ?k5 ?_; (case k1 => k_asm); (case k2 => k_mem); (case k5 => first | assumption | exact rfl); (case k3 => first | omega | decide); (case k4 => first | omega | decide))) | ((with_reducible show wpAny _ _ (exec (Stmt.For (PySem.Expr.Name ..) (PySem.Expr.Name ..) _ [] _) _) _ _ _); walk_at "for0") | ((with_reducible show wpAny _ _ (call (Value.type _) [Value.ref _]) _ _ _); k_dflt (refine' list_copyM ?k1 ?k2 ?k3 ?z ?_; (case k1 => k_asm); (case k2 => k_asm); (case k3 => k_mem); (case z => (rw [sizeLine_eq]; (try simp only [List.size_toArray]); omega))); intro _ _ _ F' N' l1; (try k_lt l1); (try k_sweep)) | ((with_reducible show wpAny _ _ (getItem (Value.ref _) (Value.str _ _)) _ _ _); (k_dflt (refine kdt_getItem (knd := PySem.strKind _ _) (by k_asm) (by k_mem) (by k_asm) (strKind_is _ _ _ _) (by assumption) ?_))) | ((with_reducible show wpAny _ _ (compareOp CmpOp.In (Value.str _ _) (Value.ref _)) _ _ _); (k_dflt (refine kda_in (knd := PySem.strKind _ _) (by k_asm) (by k_mem) (by k_asm) (by k_asm) (strKind_is _ _ _ _) _ (by assumption) ?_))) | walk1 | (dsimp only; first | (k_unfold; (try dsimp only)) | walk1) | (leave1; (try dsimp only)) | fail "no step")
  rename News _ _ _ _ => N1
  rename_i f2 _ _ _ _
  (refine' callAt_use (c_match3 w ((f2, formals tx tw ti _) :: led) ar a1 a2 a3 f2 _ v1 v2 v3 na _ t3 tx tw ti (by k_mem) (by k_mem) (by k_mem) (by k_mem) (by k_mem)) ([(L' + 1, oc)]) ?B ?F ?X ?N ?T ?hk ?hin ?off ?hd ?hu ?_; (case B => k_asm); (case F => k_asm); (case X => k_asm); (case N => k_asm); (case T => k_asm); (case hk => exact rfl); (case hin => (walk_at "sub")); (case off => (refine Apart.symm (Apart.cons (Off.cons (by walk_at "om") (Off.of_lt (a := L' + 1) (news := led) (fun p hp => Nat.lt_succ_of_lt (l1' p hp)) (fun _ h => h))) Apart.nil))); (case hd => k_room); (case hu => k_units))
  refine el7R ?_
  intro T R P oP n t5 t6 hR9 h8 tk8 F8 N8 ap8
  obtain ⟨lP, t7, hd⟩ := hR9
  have N9 : News g L' h8 ((T, tupOf [.ref P, .ref R]) :: (P, oP) :: (L' + 1, oc) :: led) := newsPick N8 (by (walk_at "sub"))
  have hdc1 : oc.data = .cell (some (.ref ar)) := hdc
  clear N8 N1 hdc
  have hb0 : (valueAt [(Str.ofString "which", Value.int 2 t7), (Str.ofString "x", Value.int 0 t5), (Str.ofString "what", Value.int 1 t6)] (Str.ofString "x")).isSome = true := rfl
  have hb1 : (valueAt [(Str.ofString "which", Value.int 2 t7), (Str.ofString "x", Value.int 0 t5), (Str.ofString "what", Value.int 1 t6)] (Str.ofString "what")).isSome = true := rfl
  have hb2 : (valueAt [(Str.ofString "which", Value.int 2 t7), (Str.ofString "x", Value.int 0 t5), (Str.ofString "what", Value.int 1 t6)] (Str.ofString "which")).isSome = true := rfl
  have hv0 : valueAt [(Str.ofString "which", Value.int 2 t7), (Str.ofString "x", Value.int 0 t5), (Str.ofString "what", Value.int 1 t6)] (Str.ofString "x") = some (.int 0 t5) := rfl
  have hv1 : valueAt [(Str.ofString "which", Value.int 2 t7), (Str.ofString "x", Value.int 0 t5), (Str.ofString "what", Value.int 1 t6)] (Str.ofString "what") = some (.int 1 t6) := rfl
  have hv2 : valueAt [(Str.ofString "which", Value.int 2 t7), (Str.ofString "x", Value.int 0 t5), (Str.ofString "what", Value.int 1 t6)] (Str.ofString "which") = some (.int 2 t7) := rfl
  repeat' (first | ((fail_if_success (fail_if_success k_unfold)); first | refine (?_ : wpAny _ _ (execs _ _) _ _ _) | (k_unfold; (try dsimp only))) | ((first | (with_reducible show wpAny _ _ (execs _ _) _ _ _) | (with_reducible show wpAny _ _ (exec _ _) _ _ _)); first | ((fail_if_success k_fold); refine wpAny_tok ?_; intro tk0) | ((fail_if_success (fail_if_success k_fold)); refine (let q0 := _; (?_ : wpAny _ _ _ q0 _ _)))) | ((with_reducible show wpAny _ _ (subscriptTail _ _ (Value.ref _) (Value.int _ _)) _ _ _); k_dflt (refine' item_at ?k1 ?k2 ?k3 ?k4 ?k5 ?_; (case k1 => k_asm); (case k2 => k_mem); (case k5 => first | assumption | exact rfl); (case k3 => first | omega | decide); (case k4 => first | omega | decide))) | ((with_reducible show wpAny _ _ (exec (Stmt.For (PySem.Expr.Name ..) (PySem.Expr.Name ..) _ [] _) _) _ _ _); walk_at "for0") | ((with_reducible show wpAny _ _ (call (Value.type _) [Value.ref _]) _ _ _); k_dflt (refine' list_copyM ?k1 ?k2 ?k3 ?z ?_; (case k1 => k_asm); (case k2 => k_asm); (case k3 => k_mem); (case z => (rw [sizeLine_eq]; (try simp only [List.size_toArray]); omega))); intro _ _ _ F' N' l1; (try k_lt l1); (try k_sweep)) | ((with_reducible show wpAny _ _ (getItem (Value.ref _) (Value.str _ _)) _ _ _); (k_dflt (refine kdt_getItem (knd := PySem.strKind _ _) (by k_asm) (by k_mem) (by k_asm) (strKind_is _ _ _ _) (by assumption) ?_))) | ((with_reducible show wpAny _ _ (compareOp CmpOp.In (Value.str _ _) (Value.ref _)) _ _ _); (k_dflt (refine kda_in (knd := PySem.strKind _ _) (by k_asm) (by k_mem) (by k_asm) (by k_asm) (strKind_is _ _ _ _) _ (by assumption) ?_))) | walk1 | (dsimp only; first | (k_unfold; (try dsimp only)) | walk1) | (leave1; (try dsimp only)) | fail "no step")
  rename News _ _ _ _ => N2
  rename Fr _ _ _ _ => F2
  rename_i V _ _ _
  refine' for_listC (σ := TkSt3) (nn := nf) (items := #[.str (Str.ofString "x") tx, .str (Str.ofString "what") tw, .str (Str.ofString "which") ti]) (fun c => [(V, listOf c.its.toArray c.n)]) [Str.ofString "name"] (fun j c => c.its = ([v1, v2, v3] : List Value).take j) ((L' + 1, oc) :: (P, oP) :: led) ⟨[], 0⟩ rfl PassesOwn.never (.inl ⟨_, _, rfl⟩) F2 N2 ?hin ?ap (.inr fun _ => ?hl) rfl ?turn ?done
  (case hin => (walk_at "sub"))
  (case ap => exact Apart.cons (Off.of_lt (by assumption) (by (walk_at "sub"))) Apart.nil)
  (case hl => k_mem)
  (case turn =>
    intro j v c u4 I oI hp4 tk4 hj hPP F4 N4 ap4
    (try refine (let q0 := _; (?_ : wpAny _ _ _ q0 _ _)))
    obtain ⟨its, n4⟩ := c
    have oI1 := ap4.off (.head _)
    dsimp only at *
    subst hPP
    rcases j with _ | _ | _ | j
    · obtain rfl : Value.str (Str.ofString "x") tx = v := by simpa using hj
      simp only [List.cons_append, List.nil_append, List.take_zero] at N4
      repeat' (first | ((fail_if_success (fail_if_success k_unfold)); first | refine (?_ : wpAny _ _ (execs _ _) _ _ _) | (k_unfold; (try dsimp only))) | ((first | (with_reducible show wpAny _ _ (execs _ _) _ _ _) | (with_reducible show wpAny _ _ (exec _ _) _ _ _)); first | ((fail_if_success k_fold); refine wpAny_tok ?_; intro tk0) | ((fail_if_success (fail_if_success k_fold)); refine (let q0 := _; (?_ : wpAny _ _ _ q0 _ _)))) | ((with_reducible show wpAny _ _ (subscriptTail _ _ (Value.ref _) (Value.int _ _)) _ _ _); k_dflt (refine' item_at ?k1 ?k2 ?k3 ?k4 ?k5 ?_; (case k1 => k_asm); (case k2 => k_mem); (case k5 => first | assumption | exact rfl); (case k3 => first | omega | decide); (case k4 => first | omega | decide))) | ((with_reducible show wpAny _ _ (exec (Stmt.For (PySem.Expr.Name ..) (PySem.Expr.Name ..) _ [] _) _) _ _ _); walk_at "for0") | ((with_reducible show wpAny _ _ (call (Value.type _) [Value.ref _]) _ _ _); k_dflt (refine' list_copyM ?k1 ?k2 ?k3 ?z ?_; (case k1 => k_asm); (case k2 => k_asm); (case k3 => k_mem); (case z => (rw [sizeLine_eq]; (try simp only [List.size_toArray]); omega))); intro _ _ _ F' N' l1; (try k_lt l1); (try k_sweep)) | ((with_reducible show wpAny _ _ (getItem (Value.ref _) (Value.str _ _)) _ _ _); (k_dflt (refine kdt_getItem (knd := PySem.strKind _ _) (by k_asm) (by k_mem) (by k_asm) (strKind_is _ _ _ _) (by assumption) ?_))) | ((with_reducible show wpAny _ _ (compareOp CmpOp.In (Value.str _ _) (Value.ref _)) _ _ _); (k_dflt (refine kda_in (knd := PySem.strKind _ _) (by k_asm) (by k_mem) (by k_asm) (by k_asm) (strKind_is _ _ _ _) _ (by assumption) ?_))) | walk1 | (dsimp only; first | (k_unfold; (try dsimp only)) | walk1) | (leave1; (try dsimp only)) | fail "no step")
      refine TurnEnd.next ⟨[v1], n4 + 1⟩ (by assumption) ?misA (by assumption) ?subA (Apart.cons oI1 Apart.nil) rfl
      (case misA => (repeat' (first | exact Mis.mix | (refine Mis.put rfl ?_) | (refine Mis.mixIn rfl ?_) | exact Mis.rfl')))
      (case subA => (walk_at "sub"))
    · obtain rfl : Value.str (Str.ofString "what") tw = v := by simpa using hj
      replace N4 : News g L' hp4 ((V, listOf [v1].toArray n4) :: (I, oI) :: (L' + 1, oc) :: (P, oP) :: led) := N4
      repeat' (first | ((fail_if_success (fail_if_success k_unfold)); first | refine (?_ : wpAny _ _ (execs _ _) _ _ _) | (k_unfold; (try dsimp only))) | ((first | (with_reducible show wpAny _ _ (execs _ _) _ _ _) | (with_reducible show wpAny _ _ (exec _ _) _ _ _)); first | ((fail_if_success k_fold); refine wpAny_tok ?_; intro tk0) | ((fail_if_success (fail_if_success k_fold)); refine (let q0 := _; (?_ : wpAny _ _ _ q0 _ _)))) | ((with_reducible show wpAny _ _ (subscriptTail _ _ (Value.ref _) (Value.int _ _)) _ _ _); k_dflt (refine' item_at ?k1 ?k2 ?k3 ?k4 ?k5 ?_; (case k1 => k_asm); (case k2 => k_mem); (case k5 => first | assumption | exact rfl); (case k3 => first | omega | decide); (case k4 => first | omega | decide))) | ((with_reducible show wpAny _ _ (exec (Stmt.For (PySem.Expr.Name ..) (PySem.Expr.Name ..) _ [] _) _) _ _ _); walk_at "for0") | ((with_reducible show wpAny _ _ (call (Value.type _) [Value.ref _]) _ _ _); k_dflt (refine' list_copyM ?k1 ?k2 ?k3 ?z ?_; (case k1 => k_asm); (case k2 => k_asm); (case k3 => k_mem); (case z => (rw [sizeLine_eq]; (try simp only [List.size_toArray]); omega))); intro _ _ _ F' N' l1; (try k_lt l1); (try k_sweep)) | ((with_reducible show wpAny _ _ (getItem (Value.ref _) (Value.str _ _)) _ _ _); (k_dflt (refine kdt_getItem (knd := PySem.strKind _ _) (by k_asm) (by k_mem) (by k_asm) (strKind_is _ _ _ _) (by assumption) ?_))) | ((with_reducible show wpAny _ _ (compareOp CmpOp.In (Value.str _ _) (Value.ref _)) _ _ _); (k_dflt (refine kda_in (knd := PySem.strKind _ _) (by k_asm) (by k_mem) (by k_asm) (by k_asm) (strKind_is _ _ _ _) _ (by assumption) ?_))) | walk1 | (dsimp only; first | (k_unfold; (try dsimp only)) | walk1) | (leave1; (try dsimp only)) | fail "no step")
      refine TurnEnd.next ⟨[v1, v2], n4 + 1⟩ (by assumption) ?misB (by assumption) ?subB (Apart.cons oI1 Apart.nil) rfl
      (case misB => (repeat' (first | exact Mis.mix | (refine Mis.put rfl ?_) | (refine Mis.mixIn rfl ?_) | exact Mis.rfl')))
      (case subB => (walk_at "sub"))
    · obtain rfl : Value.str (Str.ofString "which") ti = v := by simpa using hj
      replace N4 : News g L' hp4 ((V, listOf [v1, v2].toArray n4) :: (I, oI) :: (L' + 1, oc) :: (P, oP) :: led) := N4
      repeat' (first | ((fail_if_success (fail_if_success k_unfold)); first | refine (?_ : wpAny _ _ (execs _ _) _ _ _) | (k_unfold; (try dsimp only))) | ((first | (with_reducible show wpAny _ _ (execs _ _) _ _ _) | (with_reducible show wpAny _ _ (exec _ _) _ _ _)); first | ((fail_if_success k_fold); refine wpAny_tok ?_; intro tk0) | ((fail_if_success (fail_if_success k_fold)); refine (let q0 := _; (?_ : wpAny _ _ _ q0 _ _)))) | ((with_reducible show wpAny _ _ (subscriptTail _ _ (Value.ref _) (Value.int _ _)) _ _ _); k_dflt (refine' item_at ?k1 ?k2 ?k3 ?k4 ?k5 ?_; (case k1 => k_asm); (case k2 => k_mem); (case k5 => first | assumption | exact rfl); (case k3 => first | omega | decide); (case k4 => first | omega | decide))) | ((with_reducible show wpAny _ _ (exec (Stmt.For (PySem.Expr.Name ..) (PySem.Expr.Name ..) _ [] _) _) _ _ _); walk_at "for0") | ((with_reducible show wpAny _ _ (call (Value.type _) [Value.ref _]) _ _ _); k_dflt (refine' list_copyM ?k1 ?k2 ?k3 ?z ?_; (case k1 => k_asm); (case k2 => k_asm); (case k3 => k_mem); (case z => (rw [sizeLine_eq]; (try simp only [List.size_toArray]); omega))); intro _ _ _ F' N' l1; (try k_lt l1); (try k_sweep)) | ((with_reducible show wpAny _ _ (getItem (Value.ref _) (Value.str _ _)) _ _ _); (k_dflt (refine kdt_getItem (knd := PySem.strKind _ _) (by k_asm) (by k_mem) (by k_asm) (strKind_is _ _ _ _) (by assumption) ?_))) | ((with_reducible show wpAny _ _ (compareOp CmpOp.In (Value.str _ _) (Value.ref _)) _ _ _); (k_dflt (refine kda_in (knd := PySem.strKind _ _) (by k_asm) (by k_mem) (by k_asm) (by k_asm) (strKind_is _ _ _ _) _ (by assumption) ?_))) | walk1 | (dsimp only; first | (k_unfold; (try dsimp only)) | walk1) | (leave1; (try dsimp only)) | fail "no step")
      refine TurnEnd.next ⟨[v1, v2, v3], n4 + 1⟩ (by assumption) ?misC (by assumption) ?subC (Apart.cons oI1 Apart.nil) rfl
      (case misC => (repeat' (first | exact Mis.mix | (refine Mis.put rfl ?_) | (refine Mis.mixIn rfl ?_) | exact Mis.rfl')))
      (case subC => (walk_at "sub"))
    · simp at hj)
  (case done =>
    intro c u5 h5 tk5 hP5 F5 N5 ap5
    obtain ⟨its, n5⟩ := c
    dsimp only at *
    subst hP5
    replace N5 : News g L' h5 ((V, listOf [v1, v2, v3].toArray n5) :: (L' + 1, oc) :: (P, oP) :: led) := N5
    repeat' (first | ((fail_if_success (fail_if_success k_unfold)); first | refine (?_ : wpAny _ _ (execs _ _) _ _ _) | (k_unfold; (try dsimp only))) | ((first | (with_reducible show wpAny _ _ (execs _ _) _ _ _) | (with_reducible show wpAny _ _ (exec _ _) _ _ _)); first | ((fail_if_success k_fold); refine wpAny_tok ?_; intro tk0) | ((fail_if_success (fail_if_success k_fold)); refine (let q0 := _; (?_ : wpAny _ _ _ q0 _ _)))) | ((with_reducible show wpAny _ _ (subscriptTail _ _ (Value.ref _) (Value.int _ _)) _ _ _); k_dflt (refine' item_at ?k1 ?k2 ?k3 ?k4 ?k5 ?_; (case k1 => k_asm); (case k2 => k_mem); (case k5 => first | assumption | exact rfl); (case k3 => first | omega | decide); (case k4 => first | omega | decide))) | ((with_reducible show wpAny _ _ (exec (Stmt.For (PySem.Expr.Name ..) (PySem.Expr.Name ..) _ [] _) _) _ _ _); walk_at "for0") | ((with_reducible show wpAny _ _ (call (Value.type _) [Value.ref _]) _ _ _); k_dflt (refine' list_copyM ?k1 ?k2 ?k3 ?z ?_; (case k1 => k_asm); (case k2 => k_asm); (case k3 => k_mem); (case z => (rw [sizeLine_eq]; (try simp only [List.size_toArray]); omega))); intro _ _ _ F' N' l1; (try k_lt l1); (try k_sweep)) | ((with_reducible show wpAny _ _ (getItem (Value.ref _) (Value.str _ _)) _ _ _); (k_dflt (refine kdt_getItem (knd := PySem.strKind _ _) (by k_asm) (by k_mem) (by k_asm) (strKind_is _ _ _ _) (by assumption) ?_))) | ((with_reducible show wpAny _ _ (compareOp CmpOp.In (Value.str _ _) (Value.ref _)) _ _ _); (k_dflt (refine kda_in (knd := PySem.strKind _ _) (by k_asm) (by k_mem) (by k_asm) (by k_asm) (strKind_is _ _ _ _) _ (by assumption) ?_))) | walk1 | (dsimp only; first | (k_unfold; (try dsimp only)) | walk1) | (leave1; (try dsimp only)) | fail "no step")
    refine Fin.mk ((V, listOf [v1, v2, v3].toArray n5) :: led) (by assumption) (by assumption) ?subZ ⟨V, n5, rfl, rfl⟩
    (case subZ => (walk_at "sub")))
end

-- C_inhflag
section
local macro_rules | `(tactic| walk_at "pad0") => `(tactic| fail "pad")
local macro_rules | `(tactic| k_get) => `(tactic| first | with_reducible assumption | exact putL_get (by with_reducible assumption))



set_option maxHeartbeats 8000000 in
theorem c_inh_flag (w : World) {mean : ExcName → Option Value} {mg mb : Str → Option Value} (led : List (Addr × Obj)) (iv : Value) (v ar a1 a2 wv dwv wl : Addr) (esw : List DictEntry) (nw nwl na : Nat) (wits : List Value) (asks : List (Option Str)) (row : List Str) (tkk : Tok)
  (m1 : (ar, listOf #[.ref a1, .ref a2] na) ∈ led) (m2 : (a1, tupOf [.none, .ref v]) ∈ led) (m3 : (a2, tupOf [.none, .ref wv]) ∈ led) (m4 : (wv, instObj 127 dwv) ∈ led) (m5 : (dwv, dictOf esw nw) ∈ led) (m6 : (wl, listOf wits.toArray nwl) ∈ led)
  (hk : getL (Str.ofString "kind") esw = some (some (.str (Str.ofString "character") tkk))) (hi : getL (Str.ofString "items") esw = some (some (.ref wl))) (hW : AsksAre wits asks) (hwl : asks.length ≤ 64)
  (hAll : Tells1 PySem.Challenge.rw_pq1424_01.row.prog w (Mine.kAt w.params) Mine.viewQ (looseW Mine.viewQ [Str.ofString "match_names", Str.ofString "take"]) mean mg mb 364 [iv, .ref v] [] 12 led (RowPost led row)) (hr : row.length ≤ 64) :
  Tells1 PySem.Challenge.rw_pq1424_01.row.prog w (Mine.kAt w.params) Mine.viewQ (looseW Mine.viewQ [Str.ofString "match_names", Str.ofString "take"]) mean mg mb 369 [iv, .ref ar, .none] [] 30 led (fun r out => ∃ V dV es ne il t n, r = .ref V ∧ out = (V, instObj 127 dV) :: (dV, dictOf es ne) :: (il, listOf #[.int (if decide (true ∈ asks.map (askIn row)) = true then 1 else 0) t] n) :: led ∧ getL (Str.ofString "items") es = some (some (.ref il))) := by
  k_fill
  refine' tells1_enterC (binds := [(Str.ofString "interp", iv), (Str.ofString "args", .ref ar), (Str.ofString "env", .none)]) ?k6 ?k7 ?kr ?k9 ?kB ?kD ?c2 ?c3 ?c4 ?_
  (case k6 => k_is)
  (case k7 => k_is)
  (case kr => decide)
  (case k9 => intro s hX; first | exact BindsTo.of_eq rfl | exact binds_K (by k_in) rfl (by k_is) rfl rfl rfl)
  (case kB => exact rfl)
  (case kD => decide +kernel)
  (case c2 => exact rfl)
  (case c3 => exact rfl)
  (case c4 => exact rfl)
  intro dp un gd cn cs a ccd cl outer base g L L' h₁ s tk cells' hd hu F' N' Y' B' X' T' l1'
  obtain ⟨oc, hE', hdc⟩ := CellsAre.one Y'
  subst hE'
  (try simp only [List.cons_append, List.nil_append] at N')
  (try dsimp only)
  (try k_fold)
  refine (let A1 := _; (?_ : wpAny _ A1 _ _ _ _))
  repeat' (first | ((fail_if_success (fail_if_success k_unfold)); first | refine (?_ : wpAny _ _ (execs _ _) _ _ _) | (k_unfold; (try dsimp only))) | ((first | (with_reducible show wpAny _ _ (execs _ _) _ _ _) | (with_reducible show wpAny _ _ (exec _ _) _ _ _)); first | ((fail_if_success k_fold); refine wpAny_tok ?_; intro tk0) | ((fail_if_success (fail_if_success k_fold)); refine (let q0 := _; (?_ : wpAny _ _ _ q0 _ _)))) | ((with_reducible show wpAny _ _ (eval _ _) _ _ _); first | ((with_reducible show wpAny _ _ (eval (PySem.Expr.IfExp ..) _) _ _ _); (refine ifexp_10 ?_)) | ((with_reducible show wpAny _ _ (eval (PySem.Expr.ListComp ..) _) _ _ _); (k_dflt (refine comp_start (by k_asm) (by with_unfolding_all rfl) (by decide) (by rfl) (by decide) (by rfl) (by intro _; rfl) ?_)))) | ((with_reducible show wpAny _ _ (compareOp _ _ _) _ _ _); first | ((with_reducible show wpAny _ _ (compareOp CmpOp.In (Value.bool _) (Value.ref _)) _ _ _); (k_dflt (first | (refine' true_inB ?k1 ?k2 ?k3 ?k4 ?_; (case k1 => k_asm); (case k2 => k_mem); (case k3 => assumption); (case k4 => assumption)) | (refine' true_in ?k1 ?k2 ?k3 ?_; (case k1 => k_asm); (case k2 => k_mem); (case k3 => assumption))))) | ((with_reducible show wpAny _ _ (compareOp CmpOp.In Value.none (Value.ref _)) _ _ _); (k_dflt (refine' none_in_strs ?k1 ?k2 ?k3 ?_; (case k1 => k_asm); (case k2 => k_mem); (case k3 => assumption)))) | ((with_reducible show wpAny _ _ (compareOp CmpOp.In (Value.str _ _) (Value.ref _)) _ _ _); k_dflt (first | (refine' in_strsB ?k1 ?k2 ?k3 ?k4 ?_; (case k1 => k_asm); (case k2 => k_mem); (case k3 => assumption); (case k4 => assumption)) | (refine' in_strs ?k1 ?k2 ?k3 ?_; (case k1 => k_asm); (case k2 => k_mem); (case k3 => assumption)))) | ((with_reducible show wpAny _ _ (compareOp CmpOp.In (Value.str _ _) (Value.ref _)) _ _ _); (k_dflt (refine kda_in (knd := PySem.strKind _ _) (by k_asm) (by k_mem) (by k_asm) (by k_asm) (strKind_is _ _ _ _) _ (by assumption) ?_)))) | walk1 | (dsimp only; first | (k_unfold; (try dsimp only)) | walk1) | (leave1; (try dsimp only)) | fail "no step")
  (refine' callAt_useN ?N ?C ?B ?F ?X ?T ?hk ?hd ?hu ?_; (case B => k_asm); (case F => k_asm); (case X => k_asm); (case N => k_asm); (case T => k_asm); (case hk => exact rfl); (case C => exact (c_take2 w _ ar a1 a2 _ (.ref v) (.ref wv) na 0 _ _ _ (by k_mem) (by k_mem) (by k_mem) (by k_mem))); (case hd => k_room); (case hu => k_units))
  refine el2 ?_
  intro l n h3 tk3 F3 N3
  dsimp only
  repeat' (first | ((fail_if_success (fail_if_success k_unfold)); first | refine (?_ : wpAny _ _ (execs _ _) _ _ _) | (k_unfold; (try dsimp only))) | ((first | (with_reducible show wpAny _ _ (execs _ _) _ _ _) | (with_reducible show wpAny _ _ (exec _ _) _ _ _)); first | ((fail_if_success k_fold); refine wpAny_tok ?_; intro tk0) | ((fail_if_success (fail_if_success k_fold)); refine (let q0 := _; (?_ : wpAny _ _ _ q0 _ _)))) | ((with_reducible show wpAny _ _ (eval _ _) _ _ _); first | ((with_reducible show wpAny _ _ (eval (PySem.Expr.IfExp ..) _) _ _ _); (refine ifexp_10 ?_)) | ((with_reducible show wpAny _ _ (eval (PySem.Expr.ListComp ..) _) _ _ _); (k_dflt (refine comp_start (by k_asm) (by with_unfolding_all rfl) (by decide) (by rfl) (by decide) (by rfl) (by intro _; rfl) ?_)))) | ((with_reducible show wpAny _ _ (compareOp _ _ _) _ _ _); first | ((with_reducible show wpAny _ _ (compareOp CmpOp.In (Value.bool _) (Value.ref _)) _ _ _); (k_dflt (first | (refine' true_inB ?k1 ?k2 ?k3 ?k4 ?_; (case k1 => k_asm); (case k2 => k_mem); (case k3 => assumption); (case k4 => assumption)) | (refine' true_in ?k1 ?k2 ?k3 ?_; (case k1 => k_asm); (case k2 => k_mem); (case k3 => assumption))))) | ((with_reducible show wpAny _ _ (compareOp CmpOp.In Value.none (Value.ref _)) _ _ _); (k_dflt (refine' none_in_strs ?k1 ?k2 ?k3 ?_; (case k1 => k_asm); (case k2 => k_mem); (case k3 => assumption)))) | ((with_reducible show wpAny _ _ (compareOp CmpOp.In (Value.str _ _) (Value.ref _)) _ _ _); k_dflt (first | (refine' in_strsB ?k1 ?k2 ?k3 ?k4 ?_; (case k1 => k_asm); (case k2 => k_mem); (case k3 => assumption); (case k4 => assumption)) | (refine' in_strs ?k1 ?k2 ?k3 ?_; (case k1 => k_asm); (case k2 => k_mem); (case k3 => assumption)))) | ((with_reducible show wpAny _ _ (compareOp CmpOp.In (Value.str _ _) (Value.ref _)) _ _ _); (k_dflt (refine kda_in (knd := PySem.strKind _ _) (by k_asm) (by k_mem) (by k_asm) (by k_asm) (strKind_is _ _ _ _) _ (by assumption) ?_)))) | walk1 | (dsimp only; first | (k_unfold; (try dsimp only)) | walk1) | (leave1; (try dsimp only)) | fail "no step")
  have offc : Apart led [(L' + 1, oc)] := Apart.symm (Apart.cons (Off.of_lt (a := L' + 1) (news := led) (fun p hp => Nat.lt_succ_of_lt (l1' p hp)) (fun _ h => h)) Apart.nil)
  (refine' callAt_use (hAll) ([(L' + 1, oc)]) ?B ?F ?X ?N ?T ?hk ?hin ?off ?hd ?hu ?_; (case B => k_asm); (case F => k_asm); (case X => k_asm); (case N => k_asm); (case T => k_asm); (case hk => exact rfl); (case hin => (walk_at "sub")); (case off => exact offc); (case hd => k_room); (case hu => k_units))
  refine el3R ?_
  intro lc cits nc hS h4 tk4 F4 N4 ap4
  have N5 : News g L' h4 ((L' + 1, oc) :: (lc, listOf cits.toArray nc) :: led) := newsPick N4 (by (walk_at "sub"))
  have oCC : Off (L' + 1) ((lc, listOf cits.toArray nc) :: led) := ap4.symm.off (.head _)
  clear N4 l1'
  dsimp only
  repeat' (first | ((fail_if_success (fail_if_success k_unfold)); first | refine (?_ : wpAny _ _ (execs _ _) _ _ _) | (k_unfold; (try dsimp only))) | ((first | (with_reducible show wpAny _ _ (execs _ _) _ _ _) | (with_reducible show wpAny _ _ (exec _ _) _ _ _)); first | ((fail_if_success k_fold); refine wpAny_tok ?_; intro tk0) | ((fail_if_success (fail_if_success k_fold)); refine (let q0 := _; (?_ : wpAny _ _ _ q0 _ _)))) | ((with_reducible show wpAny _ _ (eval _ _) _ _ _); first | ((with_reducible show wpAny _ _ (eval (PySem.Expr.IfExp ..) _) _ _ _); (refine ifexp_10 ?_)) | ((with_reducible show wpAny _ _ (eval (PySem.Expr.ListComp ..) _) _ _ _); (k_dflt (refine comp_start (by k_asm) (by with_unfolding_all rfl) (by decide) (by rfl) (by decide) (by rfl) (by intro _; rfl) ?_)))) | ((with_reducible show wpAny _ _ (compareOp _ _ _) _ _ _); first | ((with_reducible show wpAny _ _ (compareOp CmpOp.In (Value.bool _) (Value.ref _)) _ _ _); (k_dflt (first | (refine' true_inB ?k1 ?k2 ?k3 ?k4 ?_; (case k1 => k_asm); (case k2 => k_mem); (case k3 => assumption); (case k4 => assumption)) | (refine' true_in ?k1 ?k2 ?k3 ?_; (case k1 => k_asm); (case k2 => k_mem); (case k3 => assumption))))) | ((with_reducible show wpAny _ _ (compareOp CmpOp.In Value.none (Value.ref _)) _ _ _); (k_dflt (refine' none_in_strs ?k1 ?k2 ?k3 ?_; (case k1 => k_asm); (case k2 => k_mem); (case k3 => assumption)))) | ((with_reducible show wpAny _ _ (compareOp CmpOp.In (Value.str _ _) (Value.ref _)) _ _ _); k_dflt (first | (refine' in_strsB ?k1 ?k2 ?k3 ?k4 ?_; (case k1 => k_asm); (case k2 => k_mem); (case k3 => assumption); (case k4 => assumption)) | (refine' in_strs ?k1 ?k2 ?k3 ?_; (case k1 => k_asm); (case k2 => k_mem); (case k3 => assumption)))) | ((with_reducible show wpAny _ _ (compareOp CmpOp.In (Value.str _ _) (Value.ref _)) _ _ _); (k_dflt (refine kda_in (knd := PySem.strKind _ _) (by k_asm) (by k_mem) (by k_asm) (by k_asm) (strKind_is _ _ _ _) _ (by assumption) ?_)))) | walk1 | (dsimp only; first | (k_unfold; (try dsimp only)) | walk1) | (leave1; (try dsimp only)) | fail "no step")
  rename News _ _ _ _ => N6
  rename Fr _ _ _ _ => F6
  rename_i oc2 _ _
  have hwll := hW.length
  refine' comp_list (k := nwl) (its := wits.toArray) (fun i ys news => news = (L' + 1, oc2) :: (lc, listOf cits.toArray nc) :: led ∧ LSm.BoolsAre ys ((asks.take i).map (askIn row))) rfl F6 N6 ?hm ?hsz ⟨rfl, .nil⟩ ?turn ?fin
  (case hm => k_mem)
  (case hsz => rw [List.size_toArray]; omega)
  (case turn =>
    rintro i ys news hi9 ⟨rfl, hB⟩ v9 I oI Cc oC Da m₂ h9 tk9 E9 hv hC hx9 F9 N9 o9 n9
    (try refine (let q0 := _; (?_ : wpAny _ _ _ q0 _ _)))
    have hstep : ∀ z, asks[i]? = some z → (asks.take (i + 1)).map (askIn row) = (asks.take i).map (askIn row) ++ [askIn row z] := fun z hz => by rw [List.take_add_one, hz]; simp
    rcases hW.get (i := i) (v := v9) (by simpa using hv) with ⟨x, t, rfl, ha⟩ | ⟨rfl, ha⟩
    · repeat' (first | ((fail_if_success (fail_if_success k_unfold)); first | refine (?_ : wpAny _ _ (execs _ _) _ _ _) | (k_unfold; (try dsimp only))) | ((first | (with_reducible show wpAny _ _ (execs _ _) _ _ _) | (with_reducible show wpAny _ _ (exec _ _) _ _ _)); first | ((fail_if_success k_fold); refine wpAny_tok ?_; intro tk0) | ((fail_if_success (fail_if_success k_fold)); refine (let q0 := _; (?_ : wpAny _ _ _ q0 _ _)))) | ((with_reducible show wpAny _ _ (eval _ _) _ _ _); first | ((with_reducible show wpAny _ _ (eval (PySem.Expr.IfExp ..) _) _ _ _); (refine ifexp_10 ?_)) | ((with_reducible show wpAny _ _ (eval (PySem.Expr.ListComp ..) _) _ _ _); (k_dflt (refine comp_start (by k_asm) (by with_unfolding_all rfl) (by decide) (by rfl) (by decide) (by rfl) (by intro _; rfl) ?_)))) | ((with_reducible show wpAny _ _ (compareOp _ _ _) _ _ _); first | ((with_reducible show wpAny _ _ (compareOp CmpOp.In (Value.bool _) (Value.ref _)) _ _ _); (k_dflt (first | (refine' true_inB ?k1 ?k2 ?k3 ?k4 ?_; (case k1 => k_asm); (case k2 => k_mem); (case k3 => assumption); (case k4 => assumption)) | (refine' true_in ?k1 ?k2 ?k3 ?_; (case k1 => k_asm); (case k2 => k_mem); (case k3 => assumption))))) | ((with_reducible show wpAny _ _ (compareOp CmpOp.In Value.none (Value.ref _)) _ _ _); (k_dflt (refine' none_in_strs ?k1 ?k2 ?k3 ?_; (case k1 => k_asm); (case k2 => k_mem); (case k3 => assumption)))) | ((with_reducible show wpAny _ _ (compareOp CmpOp.In (Value.str _ _) (Value.ref _)) _ _ _); k_dflt (first | (refine' in_strsB ?k1 ?k2 ?k3 ?k4 ?_; (case k1 => k_asm); (case k2 => k_mem); (case k3 => assumption); (case k4 => assumption)) | (refine' in_strs ?k1 ?k2 ?k3 ?_; (case k1 => k_asm); (case k2 => k_mem); (case k3 => assumption)))) | ((with_reducible show wpAny _ _ (compareOp CmpOp.In (Value.str _ _) (Value.ref _)) _ _ _); (k_dflt (refine kda_in (knd := PySem.strKind _ _) (by k_asm) (by k_mem) (by k_asm) (by k_asm) (strKind_is _ _ _ _) _ (by assumption) ?_)))) | walk1 | (dsimp only; first | (k_unfold; (try dsimp only)) | walk1) | (leave1; (try dsimp only)) | fail "no step")
      refine LCg.CompEnd.intro (by assumption) (by assumption) ((L' + 1, oc2) :: (lc, listOf cits.toArray nc) :: led) ?sub9 o9 (.inr ⟨_, by k_mem, rfl, _, rfl⟩) ⟨rfl, ?b9⟩
      (case sub9 => (walk_at "sub"))
      (case b9 => rw [hstep _ ha]; exact boolsSnoc hB _)
    · repeat' (first | ((fail_if_success (fail_if_success k_unfold)); first | refine (?_ : wpAny _ _ (execs _ _) _ _ _) | (k_unfold; (try dsimp only))) | ((first | (with_reducible show wpAny _ _ (execs _ _) _ _ _) | (with_reducible show wpAny _ _ (exec _ _) _ _ _)); first | ((fail_if_success k_fold); refine wpAny_tok ?_; intro tk0) | ((fail_if_success (fail_if_success k_fold)); refine (let q0 := _; (?_ : wpAny _ _ _ q0 _ _)))) | ((with_reducible show wpAny _ _ (eval _ _) _ _ _); first | ((with_reducible show wpAny _ _ (eval (PySem.Expr.IfExp ..) _) _ _ _); (refine ifexp_10 ?_)) | ((with_reducible show wpAny _ _ (eval (PySem.Expr.ListComp ..) _) _ _ _); (k_dflt (refine comp_start (by k_asm) (by with_unfolding_all rfl) (by decide) (by rfl) (by decide) (by rfl) (by intro _; rfl) ?_)))) | ((with_reducible show wpAny _ _ (compareOp _ _ _) _ _ _); first | ((with_reducible show wpAny _ _ (compareOp CmpOp.In (Value.bool _) (Value.ref _)) _ _ _); (k_dflt (first | (refine' true_inB ?k1 ?k2 ?k3 ?k4 ?_; (case k1 => k_asm); (case k2 => k_mem); (case k3 => assumption); (case k4 => assumption)) | (refine' true_in ?k1 ?k2 ?k3 ?_; (case k1 => k_asm); (case k2 => k_mem); (case k3 => assumption))))) | ((with_reducible show wpAny _ _ (compareOp CmpOp.In Value.none (Value.ref _)) _ _ _); (k_dflt (refine' none_in_strs ?k1 ?k2 ?k3 ?_; (case k1 => k_asm); (case k2 => k_mem); (case k3 => assumption)))) | ((with_reducible show wpAny _ _ (compareOp CmpOp.In (Value.str _ _) (Value.ref _)) _ _ _); k_dflt (first | (refine' in_strsB ?k1 ?k2 ?k3 ?k4 ?_; (case k1 => k_asm); (case k2 => k_mem); (case k3 => assumption); (case k4 => assumption)) | (refine' in_strs ?k1 ?k2 ?k3 ?_; (case k1 => k_asm); (case k2 => k_mem); (case k3 => assumption)))) | ((with_reducible show wpAny _ _ (compareOp CmpOp.In (Value.str _ _) (Value.ref _)) _ _ _); (k_dflt (refine kda_in (knd := PySem.strKind _ _) (by k_asm) (by k_mem) (by k_asm) (by k_asm) (strKind_is _ _ _ _) _ (by assumption) ?_)))) | walk1 | (dsimp only; first | (k_unfold; (try dsimp only)) | walk1) | (leave1; (try dsimp only)) | fail "no step")
      refine LCg.CompEnd.intro (by assumption) (by assumption) ((L' + 1, oc2) :: (lc, listOf cits.toArray nc) :: led) ?sub9 o9 (.inr ⟨_, by k_mem, rfl, _, rfl⟩) ⟨rfl, ?b9⟩
      (case sub9 => (walk_at "sub"))
      (case b9 => rw [hstep _ ha]; exact boolsSnoc hB _))
  (case fin =>
    rintro ys news Da h9 tk9 ⟨rfl, hB⟩ F9 N9 o9
    rw [List.size_toArray, hwll, List.take_length] at hB
    repeat' (first | ((fail_if_success (fail_if_success k_unfold)); first | refine (?_ : wpAny _ _ (execs _ _) _ _ _) | (k_unfold; (try dsimp only))) | ((first | (with_reducible show wpAny _ _ (execs _ _) _ _ _) | (with_reducible show wpAny _ _ (exec _ _) _ _ _)); first | ((fail_if_success k_fold); refine wpAny_tok ?_; intro tk0) | ((fail_if_success (fail_if_success k_fold)); refine (let q0 := _; (?_ : wpAny _ _ _ q0 _ _)))) | ((with_reducible show wpAny _ _ (eval _ _) _ _ _); first | ((with_reducible show wpAny _ _ (eval (PySem.Expr.IfExp ..) _) _ _ _); (refine ifexp_10 ?_)) | ((with_reducible show wpAny _ _ (eval (PySem.Expr.ListComp ..) _) _ _ _); (k_dflt (refine comp_start (by k_asm) (by with_unfolding_all rfl) (by decide) (by rfl) (by decide) (by rfl) (by intro _; rfl) ?_)))) | ((with_reducible show wpAny _ _ (compareOp _ _ _) _ _ _); first | ((with_reducible show wpAny _ _ (compareOp CmpOp.In (Value.bool _) (Value.ref _)) _ _ _); (k_dflt (first | (refine' true_inB ?k1 ?k2 ?k3 ?k4 ?_; (case k1 => k_asm); (case k2 => k_mem); (case k3 => assumption); (case k4 => assumption)) | (refine' true_in ?k1 ?k2 ?k3 ?_; (case k1 => k_asm); (case k2 => k_mem); (case k3 => assumption))))) | ((with_reducible show wpAny _ _ (compareOp CmpOp.In Value.none (Value.ref _)) _ _ _); (k_dflt (refine' none_in_strs ?k1 ?k2 ?k3 ?_; (case k1 => k_asm); (case k2 => k_mem); (case k3 => assumption)))) | ((with_reducible show wpAny _ _ (compareOp CmpOp.In (Value.str _ _) (Value.ref _)) _ _ _); k_dflt (first | (refine' in_strsB ?k1 ?k2 ?k3 ?k4 ?_; (case k1 => k_asm); (case k2 => k_mem); (case k3 => assumption); (case k4 => assumption)) | (refine' in_strs ?k1 ?k2 ?k3 ?_; (case k1 => k_asm); (case k2 => k_mem); (case k3 => assumption)))) | ((with_reducible show wpAny _ _ (compareOp CmpOp.In (Value.str _ _) (Value.ref _)) _ _ _); (k_dflt (refine kda_in (knd := PySem.strKind _ _) (by k_asm) (by k_mem) (by k_asm) (by k_asm) (strKind_is _ _ _ _) _ (by assumption) ?_)))) | walk1 | (dsimp only; first | (k_unfold; (try dsimp only)) | walk1) | (leave1; (try dsimp only)) | fail "no step")
    rename News _ _ _ _ => N8
    rename_i il _ _ V dV _ _ _ _ _ _ _ _ _ _ _ _ _ _ _ _ _ _ _ _ _ _ _ _ _ _ _ _ _ _ _ _ _ _ _
    refine' Fin.mk ?o (by assumption) N8 ?sub8 ⟨V, dV, ?es, ?ne, il, ?t, ?n, rfl, rfl, ?ge⟩
    (case sub8 => (walk_at "sub"))
    (case ge => rfl))
end

-- C_inhplaces
section
local macro_rules | `(tactic| walk_at "pad0") => `(tactic| fail "pad")
local macro_rules | `(tactic| walk_at "pad1") => `(tactic| fail "pad")
local macro_rules | `(tactic| walk_at "pad2") => `(tactic| fail "pad")
local macro_rules | `(tactic| k_get) => `(tactic| first | with_reducible assumption | exact putL_get (by with_reducible assumption))


local macro_rules | `(tactic| walk_at "call builtin:len") => `(tactic| (k_here; (with_reducible show wpAny _ _ (call (Value.builtin "len") [Value.ref _]) _ _ _); k_dflt (first
  | (refine' len_0 ?k1 ?k2 ?_; (case k1 => k_asm); (case k2 => k_mem))
  | (refine' len_1 ?k1 ?k2 ?_; (case k1 => k_asm); (case k2 => k_mem))
  | (refine' len_2 ?k1 ?k2 ?_; (case k1 => k_asm); (case k2 => k_mem))
  | (refine' len_3 ?k1 ?k2 ?_; (case k1 => k_asm); (case k2 => k_mem)))))



structure PlSt where
  its : List Value
  n : Nat
set_option maxHeartbeats 8000000 in
theorem c_inh_places (w : World) {mean : ExcName → Option Value} {mg mb : Str → Option Value} (led : List (Addr × Obj)) (iv : Value) (v ar a1 a2 a3 wv dwv wl wh dwh hl : Addr) (esw esh : List DictEntry) (nw nh nwl nhl na : Nat) (wits : List Value) (asks : List (Option Str)) (row : List Str) (tkk tkh t3 th : Tok)
  (m1 : (ar, listOf #[.ref a1, .ref a2, .ref a3] na) ∈ led) (m2 : (a1, tupOf [.none, .ref v]) ∈ led) (m3 : (a2, tupOf [.none, .ref wv]) ∈ led) (m7 : (a3, tupOf [.str (Str.ofString "which") t3, .ref wh]) ∈ led) (m4 : (wv, instObj 127 dwv) ∈ led) (m5 : (dwv, dictOf esw nw) ∈ led) (m6 : (wl, listOf wits.toArray nwl) ∈ led)
  (m8 : (wh, instObj 127 dwh) ∈ led) (m9 : (dwh, dictOf esh nh) ∈ led) (m10 : (hl, listOf #[.int 1 th] nhl) ∈ led)
  (hk : getL (Str.ofString "kind") esw = some (some (.str (Str.ofString "character") tkk))) (hi : getL (Str.ofString "items") esw = some (some (.ref wl))) (hkh : getL (Str.ofString "kind") esh = some (some (.str (Str.ofString "logical") tkh))) (hih : getL (Str.ofString "items") esh = some (some (.ref hl)))
  (hW : AsksAre wits asks) (hwl : asks.length ≤ 64)
  (hAll : Tells1 PySem.Challenge.rw_pq1424_01.row.prog w (Mine.kAt w.params) Mine.viewQ (looseW Mine.viewQ [Str.ofString "match_names", Str.ofString "take"]) mean mg mb 364 [iv, .ref v] [] 12 led (RowPost led row)) (hr : row.length ≤ 64) :
  Tells1 PySem.Challenge.rw_pq1424_01.row.prog w (Mine.kAt w.params) Mine.viewQ (looseW Mine.viewQ [Str.ofString "match_names", Str.ofString "take"]) mean mg mb 369 [iv, .ref ar, .none] [] 30 led (fun r out => ∃ V dV es ne il its n, r = .ref V ∧ out = (V, instObj 127 dV) :: (dV, dictOf es ne) :: (il, listOf its.toArray n) :: led ∧ getL (Str.ofString "items") es = some (some (.ref il)) ∧ IntsAre its (asks.map (askAt row))) := by
  k_fill
  refine' tells1_enterC (binds := [(Str.ofString "interp", iv), (Str.ofString "args", .ref ar), (Str.ofString "env", .none)]) ?k6 ?k7 ?kr ?k9 ?kB ?kD ?c2 ?c3 ?c4 ?_
  (case k6 => k_is)
  (case k7 => k_is)
  (case kr => decide)
  (case k9 => intro s hX; first | exact BindsTo.of_eq rfl | exact binds_K (by k_in) rfl (by k_is) rfl rfl rfl)
  (case kB => exact rfl)
  (case kD => decide +kernel)
  (case c2 => exact rfl)
  (case c3 => exact rfl)
  (case c4 => exact rfl)
  intro dp un gd cn cs a ccd cl outer base g L L' h₁ s tk cells' hd hu F' N' Y' B' X' T' l1'
  obtain ⟨oc, hE', hdc⟩ := CellsAre.one Y'
  subst hE'
  (try simp only [List.cons_append, List.nil_append] at N')
  (try dsimp only)
  (try k_fold)
  refine (let A1 := _; (?_ : wpAny _ A1 _ _ _ _))
  repeat' (first | ((fail_if_success (fail_if_success k_unfold)); first | refine (?_ : wpAny _ _ (execs _ _) _ _ _) | (k_unfold; (try dsimp only))) | ((first | (with_reducible show wpAny _ _ (execs _ _) _ _ _) | (with_reducible show wpAny _ _ (exec _ _) _ _ _)); first | ((fail_if_success k_fold); refine wpAny_tok ?_; intro tk0) | ((fail_if_success (fail_if_success k_fold)); refine (let q0 := _; (?_ : wpAny _ _ _ q0 _ _)))) | ((with_reducible show wpAny _ _ (exec (Stmt.For (PySem.Expr.Name ..) (PySem.Expr.Attribute ..) _ [] _) _) _ _ _); walk_at "for0") | ((with_reducible show wpAny _ _ (subscriptTail _ _ (Value.ref _) (Value.int _ _)) _ _ _); k_dflt (refine' item_at ?k1 ?k2 ?k3 ?k4 ?k5 ?_; (case k1 => k_asm); (case k2 => k_mem); (case k5 => first | assumption | exact rfl); (case k3 => first | omega | decide); (case k4 => first | omega | decide))) | ((with_reducible show wpAny _ _ (eval (PySem.Expr.ListComp ..) _) _ _ _); (k_dflt (refine comp_start (by k_asm) (by with_unfolding_all rfl) (by decide) (by rfl) (by decide) (by rfl) (by intro _; rfl) ?_))) | ((with_reducible show wpAny _ _ (call _ _ _) _ _ _); first | ((with_reducible show wpAny _ _ (call (Value.builtin _) [Value.ref _, Value.str _ _]) _ _ _); k_dflt (refine' index_strs ?k1 ?k2 ?k3 ?k4 ?k5 ?_; (case k1 => k_asm); (case k2 => k_mem); (case k3 => assumption); (case k4 => assumption); (case k5 => omega))) | ((with_reducible show wpAny _ _ (call (Value.type _) [Value.ref _]) _ _ _); k_dflt (refine' list_copyM ?k1 ?k2 ?k3 ?z ?_; (case k1 => k_asm); (case k2 => k_asm); (case k3 => k_mem); (case z => (rw [sizeLine_eq]; (try simp only [List.size_toArray]); omega))); intro _ _ _ F' N' l1; (try k_lt l1); (try k_sweep))) | ((with_reducible show wpAny _ _ (compareOp _ _ _) _ _ _); first | ((with_reducible show wpAny _ _ (compareOp CmpOp.In Value.none (Value.ref _)) _ _ _); (k_dflt (refine' none_in_strs ?k1 ?k2 ?k3 ?_; (case k1 => k_asm); (case k2 => k_mem); (case k3 => assumption)))) | ((with_reducible show wpAny _ _ (compareOp CmpOp.In (Value.str _ _) (Value.ref _)) _ _ _); k_dflt (first | (refine' in_strsB ?k1 ?k2 ?k3 ?k4 ?_; (case k1 => k_asm); (case k2 => k_mem); (case k3 => assumption); (case k4 => assumption)) | (refine' in_strs ?k1 ?k2 ?k3 ?_; (case k1 => k_asm); (case k2 => k_mem); (case k3 => assumption)))) | ((with_reducible show wpAny _ _ (compareOp CmpOp.In (Value.str _ _) (Value.ref _)) _ _ _); (k_dflt (refine kda_in (knd := PySem.strKind _ _) (by k_asm) (by k_mem) (by k_asm) (by k_asm) (strKind_is _ _ _ _) _ (by assumption) ?_)))) | ((with_reducible show wpAny _ _ (getMethod (Value.ref _) (Str.ofString "get") _) _ _ _); k_dflt (refine kdg_method (knd := PySem.strKind _ _) (by k_asm) (by k_mem) (by k_asm) ?_)) | walk1 | (dsimp only; first | (k_unfold; (try dsimp only)) | walk1) | (leave1; (try dsimp only)) | fail "no step")
  (refine' callAt_useN ?N ?C ?B ?F ?X ?T ?hk ?hd ?hu ?_; (case B => k_asm); (case F => k_asm); (case X => k_asm); (case N => k_asm); (case T => k_asm); (case hk => exact rfl); (case C => exact (c_take3 w _ ar a1 a2 a3 _ (.ref v) (.ref wv) (.ref wh) na 0 t3 _ _ _ (by k_mem) (by k_mem) (by k_mem) (by k_mem) (by k_mem))); (case hd => k_room); (case hu => k_units))
  refine el2 ?_
  intro l n h3 tk3 F3 N3
  dsimp only
  repeat' (first | ((fail_if_success (fail_if_success k_unfold)); first | refine (?_ : wpAny _ _ (execs _ _) _ _ _) | (k_unfold; (try dsimp only))) | ((first | (with_reducible show wpAny _ _ (execs _ _) _ _ _) | (with_reducible show wpAny _ _ (exec _ _) _ _ _)); first | ((fail_if_success k_fold); refine wpAny_tok ?_; intro tk0) | ((fail_if_success (fail_if_success k_fold)); refine (let q0 := _; (?_ : wpAny _ _ _ q0 _ _)))) | ((with_reducible show wpAny _ _ (exec (Stmt.For (PySem.Expr.Name ..) (PySem.Expr.Attribute ..) _ [] _) _) _ _ _); walk_at "for0") | ((with_reducible show wpAny _ _ (subscriptTail _ _ (Value.ref _) (Value.int _ _)) _ _ _); k_dflt (refine' item_at ?k1 ?k2 ?k3 ?k4 ?k5 ?_; (case k1 => k_asm); (case k2 => k_mem); (case k5 => first | assumption | exact rfl); (case k3 => first | omega | decide); (case k4 => first | omega | decide))) | ((with_reducible show wpAny _ _ (eval (PySem.Expr.ListComp ..) _) _ _ _); (k_dflt (refine comp_start (by k_asm) (by with_unfolding_all rfl) (by decide) (by rfl) (by decide) (by rfl) (by intro _; rfl) ?_))) | ((with_reducible show wpAny _ _ (call _ _ _) _ _ _); first | ((with_reducible show wpAny _ _ (call (Value.builtin _) [Value.ref _, Value.str _ _]) _ _ _); k_dflt (refine' index_strs ?k1 ?k2 ?k3 ?k4 ?k5 ?_; (case k1 => k_asm); (case k2 => k_mem); (case k3 => assumption); (case k4 => assumption); (case k5 => omega))) | ((with_reducible show wpAny _ _ (call (Value.type _) [Value.ref _]) _ _ _); k_dflt (refine' list_copyM ?k1 ?k2 ?k3 ?z ?_; (case k1 => k_asm); (case k2 => k_asm); (case k3 => k_mem); (case z => (rw [sizeLine_eq]; (try simp only [List.size_toArray]); omega))); intro _ _ _ F' N' l1; (try k_lt l1); (try k_sweep))) | ((with_reducible show wpAny _ _ (compareOp _ _ _) _ _ _); first | ((with_reducible show wpAny _ _ (compareOp CmpOp.In Value.none (Value.ref _)) _ _ _); (k_dflt (refine' none_in_strs ?k1 ?k2 ?k3 ?_; (case k1 => k_asm); (case k2 => k_mem); (case k3 => assumption)))) | ((with_reducible show wpAny _ _ (compareOp CmpOp.In (Value.str _ _) (Value.ref _)) _ _ _); k_dflt (first | (refine' in_strsB ?k1 ?k2 ?k3 ?k4 ?_; (case k1 => k_asm); (case k2 => k_mem); (case k3 => assumption); (case k4 => assumption)) | (refine' in_strs ?k1 ?k2 ?k3 ?_; (case k1 => k_asm); (case k2 => k_mem); (case k3 => assumption)))) | ((with_reducible show wpAny _ _ (compareOp CmpOp.In (Value.str _ _) (Value.ref _)) _ _ _); (k_dflt (refine kda_in (knd := PySem.strKind _ _) (by k_asm) (by k_mem) (by k_asm) (by k_asm) (strKind_is _ _ _ _) _ (by assumption) ?_)))) | ((with_reducible show wpAny _ _ (getMethod (Value.ref _) (Str.ofString "get") _) _ _ _); k_dflt (refine kdg_method (knd := PySem.strKind _ _) (by k_asm) (by k_mem) (by k_asm) ?_)) | walk1 | (dsimp only; first | (k_unfold; (try dsimp only)) | walk1) | (leave1; (try dsimp only)) | fail "no step")
  have offc : Apart led [(L' + 1, oc)] := Apart.symm (Apart.cons (Off.of_lt (a := L' + 1) (news := led) (fun p hp => Nat.lt_succ_of_lt (l1' p hp)) (fun _ h => h)) Apart.nil)
  (refine' callAt_use (hAll) ([(L' + 1, oc)]) ?B ?F ?X ?N ?T ?hk ?hin ?off ?hd ?hu ?_; (case B => k_asm); (case F => k_asm); (case X => k_asm); (case N => k_asm); (case T => k_asm); (case hk => exact rfl); (case hin => (walk_at "sub")); (case off => exact offc); (case hd => k_room); (case hu => k_units))
  refine el3R ?_
  intro lc cits nc hS h4 tk4 F4 N4 ap4
  have N5 : News g L' h4 ((L' + 1, oc) :: (lc, listOf cits.toArray nc) :: led) := newsPick N4 (by (walk_at "sub"))
  have oCC : Off (L' + 1) ((lc, listOf cits.toArray nc) :: led) := ap4.symm.off (.head _)
  clear N4 l1'
  dsimp only
  repeat' (first | ((fail_if_success (fail_if_success k_unfold)); first | refine (?_ : wpAny _ _ (execs _ _) _ _ _) | (k_unfold; (try dsimp only))) | ((first | (with_reducible show wpAny _ _ (execs _ _) _ _ _) | (with_reducible show wpAny _ _ (exec _ _) _ _ _)); first | ((fail_if_success k_fold); refine wpAny_tok ?_; intro tk0) | ((fail_if_success (fail_if_success k_fold)); refine (let q0 := _; (?_ : wpAny _ _ _ q0 _ _)))) | ((with_reducible show wpAny _ _ (exec (Stmt.For (PySem.Expr.Name ..) (PySem.Expr.Attribute ..) _ [] _) _) _ _ _); walk_at "for0") | ((with_reducible show wpAny _ _ (subscriptTail _ _ (Value.ref _) (Value.int _ _)) _ _ _); k_dflt (refine' item_at ?k1 ?k2 ?k3 ?k4 ?k5 ?_; (case k1 => k_asm); (case k2 => k_mem); (case k5 => first | assumption | exact rfl); (case k3 => first | omega | decide); (case k4 => first | omega | decide))) | ((with_reducible show wpAny _ _ (eval (PySem.Expr.ListComp ..) _) _ _ _); (k_dflt (refine comp_start (by k_asm) (by with_unfolding_all rfl) (by decide) (by rfl) (by decide) (by rfl) (by intro _; rfl) ?_))) | ((with_reducible show wpAny _ _ (call _ _ _) _ _ _); first | ((with_reducible show wpAny _ _ (call (Value.builtin _) [Value.ref _, Value.str _ _]) _ _ _); k_dflt (refine' index_strs ?k1 ?k2 ?k3 ?k4 ?k5 ?_; (case k1 => k_asm); (case k2 => k_mem); (case k3 => assumption); (case k4 => assumption); (case k5 => omega))) | ((with_reducible show wpAny _ _ (call (Value.type _) [Value.ref _]) _ _ _); k_dflt (refine' list_copyM ?k1 ?k2 ?k3 ?z ?_; (case k1 => k_asm); (case k2 => k_asm); (case k3 => k_mem); (case z => (rw [sizeLine_eq]; (try simp only [List.size_toArray]); omega))); intro _ _ _ F' N' l1; (try k_lt l1); (try k_sweep))) | ((with_reducible show wpAny _ _ (compareOp _ _ _) _ _ _); first | ((with_reducible show wpAny _ _ (compareOp CmpOp.In Value.none (Value.ref _)) _ _ _); (k_dflt (refine' none_in_strs ?k1 ?k2 ?k3 ?_; (case k1 => k_asm); (case k2 => k_mem); (case k3 => assumption)))) | ((with_reducible show wpAny _ _ (compareOp CmpOp.In (Value.str _ _) (Value.ref _)) _ _ _); k_dflt (first | (refine' in_strsB ?k1 ?k2 ?k3 ?k4 ?_; (case k1 => k_asm); (case k2 => k_mem); (case k3 => assumption); (case k4 => assumption)) | (refine' in_strs ?k1 ?k2 ?k3 ?_; (case k1 => k_asm); (case k2 => k_mem); (case k3 => assumption)))) | ((with_reducible show wpAny _ _ (compareOp CmpOp.In (Value.str _ _) (Value.ref _)) _ _ _); (k_dflt (refine kda_in (knd := PySem.strKind _ _) (by k_asm) (by k_mem) (by k_asm) (by k_asm) (strKind_is _ _ _ _) _ (by assumption) ?_)))) | ((with_reducible show wpAny _ _ (getMethod (Value.ref _) (Str.ofString "get") _) _ _ _); k_dflt (refine kdg_method (knd := PySem.strKind _ _) (by k_asm) (by k_mem) (by k_asm) ?_)) | walk1 | (dsimp only; first | (k_unfold; (try dsimp only)) | walk1) | (leave1; (try dsimp only)) | fail "no step")
  rename News _ _ _ _ => N6
  rename Fr _ _ _ _ => F6
  rename_i Pl _ _ _
  have hPc : @Ne Nat Pl (L' + 1) := by walk_at "om"
  have N7 : News g L' _ ((Pl, listOf #[] 0) :: (L' + 1, _) :: (lc, listOf cits.toArray nc) :: led) := newsPick N6 (by (walk_at "sub"))
  clear N6
  rename_i oc2 _ _ _ _ _ _ _ _ _ _ _ _ _ _ _ _ _ _ _ _ _ _ _ _ _ _ _ _ _ _ _ _ _ _ _ _ _ _ _ _ _ _ _ _ _ _ _ _ _ _ _ _ _ _ _ _ _ _ _ _ _ _ _ _ _ _ _ _ _ _ _ _ _ _ _ _ _ _ _ _ _ _ _ _ _ _ _ _ _ _ _
  have hwll := hW.length
  have oPl : Off Pl ((L' + 1, oc2) :: (lc, listOf cits.toArray nc) :: led) := Off.of_lt (by assumption) (by (walk_at "sub"))
  refine' for_listC (σ := PlSt) (nn := nwl) (items := wits.toArray) (fun c => [(Pl, listOf c.its.toArray c.n)]) [Str.ofString "name"] (fun j c => IntsAre c.its ((asks.take j).map (askAt row))) ((L' + 1, oc2) :: (lc, listOf cits.toArray nc) :: led) ⟨[], 0⟩ rfl PassesOwn.never (.inl ⟨_, _, rfl⟩) F6 N7 ?hin ?ap (.inr fun _ => ?hl) .nil ?turn ?done
  (case hin => (walk_at "sub"))
  (case ap => exact Apart.cons oPl Apart.nil)
  (case hl => k_mem)
  (case turn =>
    intro j v9 c u4 I oI hp4 tk4 hj hPP F4 N4 ap4
    (try refine (let q0 := _; (?_ : wpAny _ _ _ q0 _ _)))
    obtain ⟨its, n4⟩ := c
    have oI1 := ap4.off (.head _)
    dsimp only at *
    simp only [List.cons_append, List.nil_append] at N4
    have hlP := IntsAre.length hPP
    rw [List.length_map, List.length_take] at hlP
    have hstep : ∀ z, asks[j]? = some z → (asks.take (j + 1)).map (askAt row) = (asks.take j).map (askAt row) ++ [askAt row z] := fun z hz => by rw [List.take_add_one, hz]; simp
    rcases hW.get (i := j) (v := v9) (by simpa using hj) with ⟨x, t, rfl, ha⟩ | ⟨rfl, ha⟩
    · by_cases hxr : x ∈ row
      · have hb : decide (x ∈ row) = true := decide_eq_true hxr
        have hat : askAt row (some x) = (row.idxOf x : Int) + 1 := by simp [askAt, hxr]
        repeat' (first | ((fail_if_success (fail_if_success k_unfold)); first | refine (?_ : wpAny _ _ (execs _ _) _ _ _) | (k_unfold; (try dsimp only))) | ((first | (with_reducible show wpAny _ _ (execs _ _) _ _ _) | (with_reducible show wpAny _ _ (exec _ _) _ _ _)); first | ((fail_if_success k_fold); refine wpAny_tok ?_; intro tk0) | ((fail_if_success (fail_if_success k_fold)); refine (let q0 := _; (?_ : wpAny _ _ _ q0 _ _)))) | ((with_reducible show wpAny _ _ (exec (Stmt.For (PySem.Expr.Name ..) (PySem.Expr.Attribute ..) _ [] _) _) _ _ _); walk_at "for0") | ((with_reducible show wpAny _ _ (subscriptTail _ _ (Value.ref _) (Value.int _ _)) _ _ _); k_dflt (refine' item_at ?k1 ?k2 ?k3 ?k4 ?k5 ?_; (case k1 => k_asm); (case k2 => k_mem); (case k5 => first | assumption | exact rfl); (case k3 => first | omega | decide); (case k4 => first | omega | decide))) | ((with_reducible show wpAny _ _ (eval (PySem.Expr.ListComp ..) _) _ _ _); (k_dflt (refine comp_start (by k_asm) (by with_unfolding_all rfl) (by decide) (by rfl) (by decide) (by rfl) (by intro _; rfl) ?_))) | ((with_reducible show wpAny _ _ (call _ _ _) _ _ _); first | ((with_reducible show wpAny _ _ (call (Value.builtin _) [Value.ref _, Value.str _ _]) _ _ _); k_dflt (refine' index_strs ?k1 ?k2 ?k3 ?k4 ?k5 ?_; (case k1 => k_asm); (case k2 => k_mem); (case k3 => assumption); (case k4 => assumption); (case k5 => omega))) | ((with_reducible show wpAny _ _ (call (Value.type _) [Value.ref _]) _ _ _); k_dflt (refine' list_copyM ?k1 ?k2 ?k3 ?z ?_; (case k1 => k_asm); (case k2 => k_asm); (case k3 => k_mem); (case z => (rw [sizeLine_eq]; (try simp only [List.size_toArray]); omega))); intro _ _ _ F' N' l1; (try k_lt l1); (try k_sweep))) | ((with_reducible show wpAny _ _ (compareOp _ _ _) _ _ _); first | ((with_reducible show wpAny _ _ (compareOp CmpOp.In Value.none (Value.ref _)) _ _ _); (k_dflt (refine' none_in_strs ?k1 ?k2 ?k3 ?_; (case k1 => k_asm); (case k2 => k_mem); (case k3 => assumption)))) | ((with_reducible show wpAny _ _ (compareOp CmpOp.In (Value.str _ _) (Value.ref _)) _ _ _); k_dflt (first | (refine' in_strsB ?k1 ?k2 ?k3 ?k4 ?_; (case k1 => k_asm); (case k2 => k_mem); (case k3 => assumption); (case k4 => assumption)) | (refine' in_strs ?k1 ?k2 ?k3 ?_; (case k1 => k_asm); (case k2 => k_mem); (case k3 => assumption)))) | ((with_reducible show wpAny _ _ (compareOp CmpOp.In (Value.str _ _) (Value.ref _)) _ _ _); (k_dflt (refine kda_in (knd := PySem.strKind _ _) (by k_asm) (by k_mem) (by k_asm) (by k_asm) (strKind_is _ _ _ _) _ (by assumption) ?_)))) | ((with_reducible show wpAny _ _ (getMethod (Value.ref _) (Str.ofString "get") _) _ _ _); k_dflt (refine kdg_method (knd := PySem.strKind _ _) (by k_asm) (by k_mem) (by k_asm) ?_)) | walk1 | (dsimp only; first | (k_unfold; (try dsimp only)) | walk1) | (leave1; (try dsimp only)) | fail "no step")
        refine' TurnEnd.next ⟨its ++ [.int ((row.idxOf x : Int) + 1) _], n4 + 1⟩ (by assumption) ?misA (by assumption) ?subA (Apart.cons oI1 Apart.nil) ?pA
        (case misA => (repeat' (first | exact Mis.mix | (refine Mis.put rfl ?_) | (refine Mis.mixIn rfl ?_) | exact Mis.rfl')))
        (case subA => (walk_at "sub"))
        (case pA => rw [hstep _ ha, hat]; exact intsSnoc hPP _ _)
      · have hb : decide (x ∈ row) = false := decide_eq_false hxr
        have hat : askAt row (some x) = 0 := by simp [askAt, hxr]
        repeat' (first | ((fail_if_success (fail_if_success k_unfold)); first | refine (?_ : wpAny _ _ (execs _ _) _ _ _) | (k_unfold; (try dsimp only))) | ((first | (with_reducible show wpAny _ _ (execs _ _) _ _ _) | (with_reducible show wpAny _ _ (exec _ _) _ _ _)); first | ((fail_if_success k_fold); refine wpAny_tok ?_; intro tk0) | ((fail_if_success (fail_if_success k_fold)); refine (let q0 := _; (?_ : wpAny _ _ _ q0 _ _)))) | ((with_reducible show wpAny _ _ (exec (Stmt.For (PySem.Expr.Name ..) (PySem.Expr.Attribute ..) _ [] _) _) _ _ _); walk_at "for0") | ((with_reducible show wpAny _ _ (subscriptTail _ _ (Value.ref _) (Value.int _ _)) _ _ _); k_dflt (refine' item_at ?k1 ?k2 ?k3 ?k4 ?k5 ?_; (case k1 => k_asm); (case k2 => k_mem); (case k5 => first | assumption | exact rfl); (case k3 => first | omega | decide); (case k4 => first | omega | decide))) | ((with_reducible show wpAny _ _ (eval (PySem.Expr.ListComp ..) _) _ _ _); (k_dflt (refine comp_start (by k_asm) (by with_unfolding_all rfl) (by decide) (by rfl) (by decide) (by rfl) (by intro _; rfl) ?_))) | ((with_reducible show wpAny _ _ (call _ _ _) _ _ _); first | ((with_reducible show wpAny _ _ (call (Value.builtin _) [Value.ref _, Value.str _ _]) _ _ _); k_dflt (refine' index_strs ?k1 ?k2 ?k3 ?k4 ?k5 ?_; (case k1 => k_asm); (case k2 => k_mem); (case k3 => assumption); (case k4 => assumption); (case k5 => omega))) | ((with_reducible show wpAny _ _ (call (Value.type _) [Value.ref _]) _ _ _); k_dflt (refine' list_copyM ?k1 ?k2 ?k3 ?z ?_; (case k1 => k_asm); (case k2 => k_asm); (case k3 => k_mem); (case z => (rw [sizeLine_eq]; (try simp only [List.size_toArray]); omega))); intro _ _ _ F' N' l1; (try k_lt l1); (try k_sweep))) | ((with_reducible show wpAny _ _ (compareOp _ _ _) _ _ _); first | ((with_reducible show wpAny _ _ (compareOp CmpOp.In Value.none (Value.ref _)) _ _ _); (k_dflt (refine' none_in_strs ?k1 ?k2 ?k3 ?_; (case k1 => k_asm); (case k2 => k_mem); (case k3 => assumption)))) | ((with_reducible show wpAny _ _ (compareOp CmpOp.In (Value.str _ _) (Value.ref _)) _ _ _); k_dflt (first | (refine' in_strsB ?k1 ?k2 ?k3 ?k4 ?_; (case k1 => k_asm); (case k2 => k_mem); (case k3 => assumption); (case k4 => assumption)) | (refine' in_strs ?k1 ?k2 ?k3 ?_; (case k1 => k_asm); (case k2 => k_mem); (case k3 => assumption)))) | ((with_reducible show wpAny _ _ (compareOp CmpOp.In (Value.str _ _) (Value.ref _)) _ _ _); (k_dflt (refine kda_in (knd := PySem.strKind _ _) (by k_asm) (by k_mem) (by k_asm) (by k_asm) (strKind_is _ _ _ _) _ (by assumption) ?_)))) | ((with_reducible show wpAny _ _ (getMethod (Value.ref _) (Str.ofString "get") _) _ _ _); k_dflt (refine kdg_method (knd := PySem.strKind _ _) (by k_asm) (by k_mem) (by k_asm) ?_)) | walk1 | (dsimp only; first | (k_unfold; (try dsimp only)) | walk1) | (leave1; (try dsimp only)) | fail "no step")
        refine' TurnEnd.next ⟨its ++ [.int 0 _], n4 + 1⟩ (by assumption) ?misB (by assumption) ?subB (Apart.cons oI1 Apart.nil) ?pB
        (case misB => (repeat' (first | exact Mis.mix | (refine Mis.put rfl ?_) | (refine Mis.mixIn rfl ?_) | exact Mis.rfl')))
        (case subB => (walk_at "sub"))
        (case pB => rw [hstep _ ha, hat]; exact intsSnoc hPP _ _)
    · repeat' (first | ((fail_if_success (fail_if_success k_unfold)); first | refine (?_ : wpAny _ _ (execs _ _) _ _ _) | (k_unfold; (try dsimp only))) | ((first | (with_reducible show wpAny _ _ (execs _ _) _ _ _) | (with_reducible show wpAny _ _ (exec _ _) _ _ _)); first | ((fail_if_success k_fold); refine wpAny_tok ?_; intro tk0) | ((fail_if_success (fail_if_success k_fold)); refine (let q0 := _; (?_ : wpAny _ _ _ q0 _ _)))) | ((with_reducible show wpAny _ _ (exec (Stmt.For (PySem.Expr.Name ..) (PySem.Expr.Attribute ..) _ [] _) _) _ _ _); walk_at "for0") | ((with_reducible show wpAny _ _ (subscriptTail _ _ (Value.ref _) (Value.int _ _)) _ _ _); k_dflt (refine' item_at ?k1 ?k2 ?k3 ?k4 ?k5 ?_; (case k1 => k_asm); (case k2 => k_mem); (case k5 => first | assumption | exact rfl); (case k3 => first | omega | decide); (case k4 => first | omega | decide))) | ((with_reducible show wpAny _ _ (eval (PySem.Expr.ListComp ..) _) _ _ _); (k_dflt (refine comp_start (by k_asm) (by with_unfolding_all rfl) (by decide) (by rfl) (by decide) (by rfl) (by intro _; rfl) ?_))) | ((with_reducible show wpAny _ _ (call _ _ _) _ _ _); first | ((with_reducible show wpAny _ _ (call (Value.builtin _) [Value.ref _, Value.str _ _]) _ _ _); k_dflt (refine' index_strs ?k1 ?k2 ?k3 ?k4 ?k5 ?_; (case k1 => k_asm); (case k2 => k_mem); (case k3 => assumption); (case k4 => assumption); (case k5 => omega))) | ((with_reducible show wpAny _ _ (call (Value.type _) [Value.ref _]) _ _ _); k_dflt (refine' list_copyM ?k1 ?k2 ?k3 ?z ?_; (case k1 => k_asm); (case k2 => k_asm); (case k3 => k_mem); (case z => (rw [sizeLine_eq]; (try simp only [List.size_toArray]); omega))); intro _ _ _ F' N' l1; (try k_lt l1); (try k_sweep))) | ((with_reducible show wpAny _ _ (compareOp _ _ _) _ _ _); first | ((with_reducible show wpAny _ _ (compareOp CmpOp.In Value.none (Value.ref _)) _ _ _); (k_dflt (refine' none_in_strs ?k1 ?k2 ?k3 ?_; (case k1 => k_asm); (case k2 => k_mem); (case k3 => assumption)))) | ((with_reducible show wpAny _ _ (compareOp CmpOp.In (Value.str _ _) (Value.ref _)) _ _ _); k_dflt (first | (refine' in_strsB ?k1 ?k2 ?k3 ?k4 ?_; (case k1 => k_asm); (case k2 => k_mem); (case k3 => assumption); (case k4 => assumption)) | (refine' in_strs ?k1 ?k2 ?k3 ?_; (case k1 => k_asm); (case k2 => k_mem); (case k3 => assumption)))) | ((with_reducible show wpAny _ _ (compareOp CmpOp.In (Value.str _ _) (Value.ref _)) _ _ _); (k_dflt (refine kda_in (knd := PySem.strKind _ _) (by k_asm) (by k_mem) (by k_asm) (by k_asm) (strKind_is _ _ _ _) _ (by assumption) ?_)))) | ((with_reducible show wpAny _ _ (getMethod (Value.ref _) (Str.ofString "get") _) _ _ _); k_dflt (refine kdg_method (knd := PySem.strKind _ _) (by k_asm) (by k_mem) (by k_asm) ?_)) | walk1 | (dsimp only; first | (k_unfold; (try dsimp only)) | walk1) | (leave1; (try dsimp only)) | fail "no step")
      refine' TurnEnd.next ⟨its ++ [.int 0 _], n4 + 1⟩ (by assumption) ?misC (by assumption) ?subC (Apart.cons oI1 Apart.nil) ?pC
      (case misC => (repeat' (first | exact Mis.mix | (refine Mis.put rfl ?_) | (refine Mis.mixIn rfl ?_) | exact Mis.rfl')))
      (case subC => (walk_at "sub"))
      (case pC => rw [hstep _ ha]; exact intsSnoc hPP _ _))
  (case done =>
    intro c u5 h5 tk5 hP5 F5 N5 ap5
    obtain ⟨its, n5⟩ := c
    dsimp only at *
    simp only [List.cons_append, List.nil_append] at N5
    rw [List.size_toArray, hwll, List.take_length] at hP5
    have hlP := IntsAre.length hP5
    rw [List.length_map] at hlP
    repeat' (first | ((fail_if_success (fail_if_success k_unfold)); first | refine (?_ : wpAny _ _ (execs _ _) _ _ _) | (k_unfold; (try dsimp only))) | ((first | (with_reducible show wpAny _ _ (execs _ _) _ _ _) | (with_reducible show wpAny _ _ (exec _ _) _ _ _)); first | ((fail_if_success k_fold); refine wpAny_tok ?_; intro tk0) | ((fail_if_success (fail_if_success k_fold)); refine (let q0 := _; (?_ : wpAny _ _ _ q0 _ _)))) | ((with_reducible show wpAny _ _ (exec (Stmt.For (PySem.Expr.Name ..) (PySem.Expr.Attribute ..) _ [] _) _) _ _ _); walk_at "for0") | ((with_reducible show wpAny _ _ (subscriptTail _ _ (Value.ref _) (Value.int _ _)) _ _ _); k_dflt (refine' item_at ?k1 ?k2 ?k3 ?k4 ?k5 ?_; (case k1 => k_asm); (case k2 => k_mem); (case k5 => first | assumption | exact rfl); (case k3 => first | omega | decide); (case k4 => first | omega | decide))) | ((with_reducible show wpAny _ _ (eval (PySem.Expr.ListComp ..) _) _ _ _); (k_dflt (refine comp_start (by k_asm) (by with_unfolding_all rfl) (by decide) (by rfl) (by decide) (by rfl) (by intro _; rfl) ?_))) | ((with_reducible show wpAny _ _ (call _ _ _) _ _ _); first | ((with_reducible show wpAny _ _ (call (Value.builtin _) [Value.ref _, Value.str _ _]) _ _ _); k_dflt (refine' index_strs ?k1 ?k2 ?k3 ?k4 ?k5 ?_; (case k1 => k_asm); (case k2 => k_mem); (case k3 => assumption); (case k4 => assumption); (case k5 => omega))) | ((with_reducible show wpAny _ _ (call (Value.type _) [Value.ref _]) _ _ _); k_dflt (refine' list_copyM ?k1 ?k2 ?k3 ?z ?_; (case k1 => k_asm); (case k2 => k_asm); (case k3 => k_mem); (case z => (rw [sizeLine_eq]; (try simp only [List.size_toArray]); omega))); intro _ _ _ F' N' l1; (try k_lt l1); (try k_sweep))) | ((with_reducible show wpAny _ _ (compareOp _ _ _) _ _ _); first | ((with_reducible show wpAny _ _ (compareOp CmpOp.In Value.none (Value.ref _)) _ _ _); (k_dflt (refine' none_in_strs ?k1 ?k2 ?k3 ?_; (case k1 => k_asm); (case k2 => k_mem); (case k3 => assumption)))) | ((with_reducible show wpAny _ _ (compareOp CmpOp.In (Value.str _ _) (Value.ref _)) _ _ _); k_dflt (first | (refine' in_strsB ?k1 ?k2 ?k3 ?k4 ?_; (case k1 => k_asm); (case k2 => k_mem); (case k3 => assumption); (case k4 => assumption)) | (refine' in_strs ?k1 ?k2 ?k3 ?_; (case k1 => k_asm); (case k2 => k_mem); (case k3 => assumption)))) | ((with_reducible show wpAny _ _ (compareOp CmpOp.In (Value.str _ _) (Value.ref _)) _ _ _); (k_dflt (refine kda_in (knd := PySem.strKind _ _) (by k_asm) (by k_mem) (by k_asm) (by k_asm) (strKind_is _ _ _ _) _ (by assumption) ?_)))) | ((with_reducible show wpAny _ _ (getMethod (Value.ref _) (Str.ofString "get") _) _ _ _); k_dflt (refine kdg_method (knd := PySem.strKind _ _) (by k_asm) (by k_mem) (by k_asm) ?_)) | walk1 | (dsimp only; first | (k_unfold; (try dsimp only)) | walk1) | (leave1; (try dsimp only)) | fail "no step")
    rename News _ _ _ _ => N8
    rename_i il _ _ V dV _ _ _ _ _ _ _ _ _ _ _ _ _ _ _ _ _ _ _ _ _ _ _ _ _ _ _ _ _ _ _ _ _ _ _
    refine' Fin.mk ?o (by assumption) N8 ?sub8 ⟨V, dV, ?es, ?ne, il, its, ?n, rfl, rfl, ?ge, hP5⟩
    (case sub8 => (walk_at "sub"))
    (case ge => rfl))
end

-- C_told
section
local macro_rules | `(tactic| walk_at "pad0") => `(tactic| fail "pad")
local macro_rules | `(tactic| k_get) => `(tactic| first | with_reducible assumption | exact putL_get (by with_reducible assumption))


local macro_rules | `(tactic| walk_at "call builtin:len") => `(tactic| (k_here; (with_reducible show wpAny _ _ (call (Value.builtin "len") [Value.ref _]) _ _ _); k_dflt (first
  | (refine' len_0 ?k1 ?k2 ?_; (case k1 => k_asm); (case k2 => k_mem))
  | (refine' len_1 ?k1 ?k2 ?_; (case k1 => k_asm); (case k2 => k_mem))
  | (refine' len_2 ?k1 ?k2 ?_; (case k1 => k_asm); (case k2 => k_mem))
  | (refine' len_3 ?k1 ?k2 ?_; (case k1 => k_asm); (case k2 => k_mem)))))




set_option maxHeartbeats 8000000 in
theorem c_told (w : World) {mean : ExcName → Option Value} {mg mb : Str → Option Value} (led : List (Addr × Obj)) (iv : Value) (v rw aw : Addr) (nr na : Nat) (rits aits : List Value) (asks : List (Option Str)) (row : List Str)
  (mr : (rw, listOf rits.toArray nr) ∈ led) (ma : (aw, listOf aits.toArray na) ∈ led) (hR : StrsAre rits row) (hW : AsksAre aits asks) (hwl : asks.length ≤ 64) (hr : row.length ≤ 64)
  (hAll : Tells1 PySem.Challenge.rw_pq1424_01.row.prog w (Mine.kAt w.params) Mine.viewQ (looseW Mine.viewQ [Str.ofString "match_names", Str.ofString "take"]) mean mg mb 364 [iv, .ref v] [] 12 led (RowPost led row)) :
  Tells1 PySem.Challenge.rw_pq1424_01.row.prog w (Mine.kAt w.params) Mine.viewQ (looseW Mine.viewQ [Str.ofString "match_names", Str.ofString "take"]) mean mg mb 850 [iv, .ref v, .ref rw, .ref aw] [] 40 led (fun r out => r = .bool true ∧ out = led) := by
  k_fill
  refine' tells1_enterC (binds := [(Str.ofString "interp", iv), (Str.ofString "v", .ref v), (Str.ofString "row", .ref rw), (Str.ofString "asked", .ref aw)]) ?k6 ?k7 ?kr ?k9 ?kB ?kD ?c2 ?c3 ?c4 ?_
  (case k6 => k_is)
  (case k7 => k_is)
  (case kr => decide)
  (case k9 => intro s hX; first | exact BindsTo.of_eq rfl | exact binds_K (by k_in) rfl (by k_is) rfl rfl rfl)
  (case kB => exact rfl)
  (case kD => decide +kernel)
  (case c2 => exact rfl)
  (case c3 => exact rfl)
  (case c4 => exact rfl)
  intro dp un gd cn cs a ccd cl outer base g L L' h₁ s tk cells' hd hu F' N' Y' B' X' T' l1'
  obtain ⟨oc, hE', hdc⟩ := CellsAre.one Y'
  subst hE'
  (try simp only [List.cons_append, List.nil_append] at N')
  (try dsimp only)
  (try k_fold)
  refine (let A1 := _; (?_ : wpAny _ A1 _ _ _ _))
  have hdc1 : oc.data = .cell (some (.ref rw)) := hdc
  clear hdc
  have offc : Off (L' + 1) led := Off.of_lt (a := L' + 1) (news := led) (fun p hp => Nat.lt_succ_of_lt (l1' p hp)) (fun _ h => h)
  clear l1'
  have hwll := hW.length
  repeat' (first | ((fail_if_success (fail_if_success k_unfold)); first | refine (?_ : wpAny _ _ (execs _ _) _ _ _) | (k_unfold; (try dsimp only))) | ((first | (with_reducible show wpAny _ _ (execs _ _) _ _ _) | (with_reducible show wpAny _ _ (exec _ _) _ _ _)); first | ((fail_if_success k_fold); refine wpAny_tok ?_; intro tk0) | ((fail_if_success (fail_if_success k_fold)); refine (let q0 := _; (?_ : wpAny _ _ _ q0 _ _)))) | ((with_reducible show wpAny _ _ (call _ _ _) _ _ _); first | ((with_reducible show wpAny _ _ (call (Value.ref 127) _ _) _ _ _); k_dflt (refine' call_cls ?k1 ?k2 ?k3 ?k4 ?k5 ?k6 ?_; (case k1 => k_asm); (case k2 => k_asm); (case k3 => k_asm); (case k4 => k_is); (case k5 => k_is); (case k6 => k_is); k_whole; intro _ _ _ F' N' l1 l2; (try k_lt l1); (try k_lt2 l2); (try k_sweep); k_enter)) | ((with_reducible show wpAny _ _ (call (Value.builtin _) [Value.ref _, Value.str _ _]) _ _ _); k_dflt (refine' index_strs ?k1 ?k2 ?k3 ?k4 ?k5 ?_; (case k1 => k_asm); (case k2 => k_mem); (case k3 => assumption); (case k4 => assumption); (case k5 => omega)))) | ((with_reducible show wpAny _ _ (eval _ _) _ _ _); first | ((with_reducible show wpAny _ _ (eval (PySem.Expr.IfExp ..) _) _ _ _); (refine ifexp_10 ?_)) | ((with_reducible show wpAny _ _ (eval (PySem.Expr.ListComp ..) _) _ _ _); (k_dflt (refine comp_start (by k_asm) (by with_unfolding_all rfl) (by decide) (by rfl) (by decide) (by rfl) (by intro _; rfl) ?_)))) | ((with_reducible show wpAny _ _ (compareOp _ _ _) _ _ _); first | ((with_reducible show wpAny _ _ (compareOp CmpOp.Eq (Value.ref _) (Value.ref _)) _ _ _); (k_dflt (refine' ints_eq (q := true) ?k1 ?k2 ?k3 ?k4 ?k5 ?k6 ?k7 ?_; (case k1 => k_asm); (case k2 => k_mem); (case k3 => k_mem); (case k4 => first | assumption | exact .cons _ _ .nil); (case k5 => first | assumption | exact .cons _ _ .nil); (case k6 => k_units); (case k7 => simp)))) | ((with_reducible show wpAny _ _ (compareOp CmpOp.NotEq (Value.ref _) (Value.ref _)) _ _ _); (k_dflt (refine' ints_ne (q := false) ?k1 ?k2 ?k3 ?k4 ?k5 ?k6 ?k7 ?_; (case k1 => k_asm); (case k2 => k_mem); (case k3 => k_mem); (case k4 => first | assumption | exact .cons _ _ .nil); (case k5 => first | assumption | exact .cons _ _ .nil); (case k6 => k_units); (case k7 => simp)))) | ((with_reducible show wpAny _ _ (compareOp CmpOp.NotEq (Value.ref _) (Value.ref _)) _ _ _); k_dflt (refine' ne_nil ?k1 ?k2 ?k3 ?k4 ?k5 ?k6 ?k7 ?_; (case k1 => k_asm); (case k2 => k_mem); (case k3 => k_mem); (case k4 => assumption); (case k5 => assumption); (case k6 => k_units); (case k7 => assumption))) | ((with_reducible show wpAny _ _ (compareOp CmpOp.In (Value.bool _) (Value.ref _)) _ _ _); (k_dflt (first | (refine' true_inB ?k1 ?k2 ?k3 ?k4 ?_; (case k1 => k_asm); (case k2 => k_mem); (case k3 => assumption); (case k4 => assumption)) | (refine' true_in ?k1 ?k2 ?k3 ?_; (case k1 => k_asm); (case k2 => k_mem); (case k3 => assumption))))) | ((with_reducible show wpAny _ _ (compareOp CmpOp.In Value.none (Value.ref _)) _ _ _); (k_dflt (refine' none_in_strs ?k1 ?k2 ?k3 ?_; (case k1 => k_asm); (case k2 => k_mem); (case k3 => assumption)))) | ((with_reducible show wpAny _ _ (compareOp CmpOp.In (Value.str _ _) (Value.ref _)) _ _ _); k_dflt (first | (refine' in_strsB ?k1 ?k2 ?k3 ?k4 ?_; (case k1 => k_asm); (case k2 => k_mem); (case k3 => assumption); (case k4 => assumption)) | (refine' in_strs ?k1 ?k2 ?k3 ?_; (case k1 => k_asm); (case k2 => k_mem); (case k3 => assumption)))) | ((with_reducible show wpAny _ _ (compareOp CmpOp.In (Value.str _ _) (Value.ref _)) _ _ _); (k_dflt (refine kda_in (knd := PySem.strKind _ _) (by k_asm) (by k_mem) (by k_asm) (by k_asm) (strKind_is _ _ _ _) _ (by assumption) ?_)))) | ((with_reducible show wpAny _ _ (getMethod (Value.ref _) (Str.ofString "get") _) _ _ _); k_dflt (refine kdg_method (knd := PySem.strKind _ _) (by k_asm) (by k_mem) (by k_asm) ?_)) | walk1 | (dsimp only; first | (k_unfold; (try dsimp only)) | walk1) | (leave1; (try dsimp only)) | fail "no step")
  rename News _ _ _ _ => N1
  rename_i V dV _ _ _ _ _ _ _ _ _ _ _ _ _ _ _ _ _ _ _ _ _ _ _ _ _ _ _ _ a1 _ _ a2 _ _ ar _ _ _
  have kdV : ∀ q ∈ (L' + 1, oc) :: led, q.1 < dV := by assumption
  have oVl : Off V led := fun q hq => Nat.ne_of_lt (Nat.lt_trans (kdV q (.tail _ hq)) (by walk_at "om"))
  have apE : ∀ o1 o2 o3 o4 o5, Apart led [(ar, o1), (a2, o2), (a1, o3), (V, o4), (dV, o5)] := fun o1 o2 o3 o4 o5 => Apart.symm (Apart.cons (Off.of_lt (by assumption) (by (walk_at "sub"))) (Apart.cons (Off.of_lt (by assumption) (by (walk_at "sub"))) (Apart.cons (Off.of_lt (by assumption) (by (walk_at "sub"))) (Apart.cons oVl (Apart.cons (Off.of_lt (by assumption) (by (walk_at "sub"))) Apart.nil)))))
  have oV1 : @Ne Nat V (L' + 1) := by walk_at "om"
  have oD1 : @Ne Nat dV (L' + 1) := by walk_at "om"
  have offE : ∀ o1 o2 o3 o4 o5, Off (L' + 1) [(ar, o1), (a2, o2), (a1, o3), (V, o4), (dV, o5)] := fun o1 o2 o3 o4 o5 => Off.cons (by walk_at "om") (Off.cons (by walk_at "om") (Off.cons (by walk_at "om") (Off.cons (by walk_at "om") (Off.cons (by walk_at "om") Off.nil))))
  refine repackV N1 rfl rfl fun es hk hi N2 => ?_
  clear N1
  (refine' callAt_use (c_inh_flag w (led ++ [(ar, _), (a2, _), (a1, _), (V, _), (dV, dictOf es 5)]) iv v ar a1 a2 V dV aw es 5 na _ aits asks row _ (by k_mem) (by k_mem) (by k_mem) (by k_mem) (by k_mem) (by k_mem) hk hi hW hwl (tells1_row hAll (apE _ _ _ _ _)) hr) ([(L' + 1, oc)]) ?B ?F ?X ?N ?T ?hk ?hin ?off ?hd ?hu ?_; (case B => k_asm); (case F => k_asm); (case X => k_asm); (case N => k_asm); (case T => k_asm); (case hk => exact rfl); (case hin => (walk_at "sub")); (case off => exact Apart.symm (Apart.cons (Off.app offc (offE _ _ _ _ _)) Apart.nil)); (case hd => k_room); (case hu => k_units))
  refine el7R ?_
  intro V1 dV1 es1 ne1 il1 t1 n1 hi1 h3 tk3 F3 N3 ap3
  have N4 : News g L' h3 ((il1, _) :: (V1, instObj 127 dV1) :: (dV1, dictOf es1 ne1) :: (V, instObj 127 dV) :: (dV, dictOf es 5) :: (L' + 1, oc) :: led) := newsPick N3 (by (walk_at "sub"))
  clear N3 ap3
  dsimp only
  repeat' (first | ((fail_if_success (fail_if_success k_unfold)); first | refine (?_ : wpAny _ _ (execs _ _) _ _ _) | (k_unfold; (try dsimp only))) | ((first | (with_reducible show wpAny _ _ (execs _ _) _ _ _) | (with_reducible show wpAny _ _ (exec _ _) _ _ _)); first | ((fail_if_success k_fold); refine wpAny_tok ?_; intro tk0) | ((fail_if_success (fail_if_success k_fold)); refine (let q0 := _; (?_ : wpAny _ _ _ q0 _ _)))) | ((with_reducible show wpAny _ _ (call _ _ _) _ _ _); first | ((with_reducible show wpAny _ _ (call (Value.ref 127) _ _) _ _ _); k_dflt (refine' call_cls ?k1 ?k2 ?k3 ?k4 ?k5 ?k6 ?_; (case k1 => k_asm); (case k2 => k_asm); (case k3 => k_asm); (case k4 => k_is); (case k5 => k_is); (case k6 => k_is); k_whole; intro _ _ _ F' N' l1 l2; (try k_lt l1); (try k_lt2 l2); (try k_sweep); k_enter)) | ((with_reducible show wpAny _ _ (call (Value.builtin _) [Value.ref _, Value.str _ _]) _ _ _); k_dflt (refine' index_strs ?k1 ?k2 ?k3 ?k4 ?k5 ?_; (case k1 => k_asm); (case k2 => k_mem); (case k3 => assumption); (case k4 => assumption); (case k5 => omega)))) | ((with_reducible show wpAny _ _ (eval _ _) _ _ _); first | ((with_reducible show wpAny _ _ (eval (PySem.Expr.IfExp ..) _) _ _ _); (refine ifexp_10 ?_)) | ((with_reducible show wpAny _ _ (eval (PySem.Expr.ListComp ..) _) _ _ _); (k_dflt (refine comp_start (by k_asm) (by with_unfolding_all rfl) (by decide) (by rfl) (by decide) (by rfl) (by intro _; rfl) ?_)))) | ((with_reducible show wpAny _ _ (compareOp _ _ _) _ _ _); first | ((with_reducible show wpAny _ _ (compareOp CmpOp.Eq (Value.ref _) (Value.ref _)) _ _ _); (k_dflt (refine' ints_eq (q := true) ?k1 ?k2 ?k3 ?k4 ?k5 ?k6 ?k7 ?_; (case k1 => k_asm); (case k2 => k_mem); (case k3 => k_mem); (case k4 => first | assumption | exact .cons _ _ .nil); (case k5 => first | assumption | exact .cons _ _ .nil); (case k6 => k_units); (case k7 => simp)))) | ((with_reducible show wpAny _ _ (compareOp CmpOp.NotEq (Value.ref _) (Value.ref _)) _ _ _); (k_dflt (refine' ints_ne (q := false) ?k1 ?k2 ?k3 ?k4 ?k5 ?k6 ?k7 ?_; (case k1 => k_asm); (case k2 => k_mem); (case k3 => k_mem); (case k4 => first | assumption | exact .cons _ _ .nil); (case k5 => first | assumption | exact .cons _ _ .nil); (case k6 => k_units); (case k7 => simp)))) | ((with_reducible show wpAny _ _ (compareOp CmpOp.NotEq (Value.ref _) (Value.ref _)) _ _ _); k_dflt (refine' ne_nil ?k1 ?k2 ?k3 ?k4 ?k5 ?k6 ?k7 ?_; (case k1 => k_asm); (case k2 => k_mem); (case k3 => k_mem); (case k4 => assumption); (case k5 => assumption); (case k6 => k_units); (case k7 => assumption))) | ((with_reducible show wpAny _ _ (compareOp CmpOp.In (Value.bool _) (Value.ref _)) _ _ _); (k_dflt (first | (refine' true_inB ?k1 ?k2 ?k3 ?k4 ?_; (case k1 => k_asm); (case k2 => k_mem); (case k3 => assumption); (case k4 => assumption)) | (refine' true_in ?k1 ?k2 ?k3 ?_; (case k1 => k_asm); (case k2 => k_mem); (case k3 => assumption))))) | ((with_reducible show wpAny _ _ (compareOp CmpOp.In Value.none (Value.ref _)) _ _ _); (k_dflt (refine' none_in_strs ?k1 ?k2 ?k3 ?_; (case k1 => k_asm); (case k2 => k_mem); (case k3 => assumption)))) | ((with_reducible show wpAny _ _ (compareOp CmpOp.In (Value.str _ _) (Value.ref _)) _ _ _); k_dflt (first | (refine' in_strsB ?k1 ?k2 ?k3 ?k4 ?_; (case k1 => k_asm); (case k2 => k_mem); (case k3 => assumption); (case k4 => assumption)) | (refine' in_strs ?k1 ?k2 ?k3 ?_; (case k1 => k_asm); (case k2 => k_mem); (case k3 => assumption)))) | ((with_reducible show wpAny _ _ (compareOp CmpOp.In (Value.str _ _) (Value.ref _)) _ _ _); (k_dflt (refine kda_in (knd := PySem.strKind _ _) (by k_asm) (by k_mem) (by k_asm) (by k_asm) (strKind_is _ _ _ _) _ (by assumption) ?_)))) | ((with_reducible show wpAny _ _ (getMethod (Value.ref _) (Str.ofString "get") _) _ _ _); k_dflt (refine kdg_method (knd := PySem.strKind _ _) (by k_asm) (by k_mem) (by k_asm) ?_)) | walk1 | (dsimp only; first | (k_unfold; (try dsimp only)) | walk1) | (leave1; (try dsimp only)) | fail "no step")
  rename News _ _ _ _ => N6
  rename Fr _ _ _ _ => F6
  refine' comp_list (k := na) (its := aits.toArray) (fun i ys news => news = (il1, _) :: (V1, instObj 127 dV1) :: (dV1, dictOf es1 ne1) :: (V, instObj 127 dV) :: (dV, dictOf es 5) :: (L' + 1, oc) :: led ∧ LSm.BoolsAre ys ((asks.take i).map (askIn row))) rfl F6 N6 ?hm ?hsz ⟨rfl, .nil⟩ ?turn ?fin
  (case hm => k_mem)
  (case hsz => rw [List.size_toArray]; omega)
  (case turn =>
    rintro i ys news hi9 ⟨rfl, hB⟩ v9 I oI Cc oC Da m₂ h9 tk9 E9 hv hC hx9 F9 N9 o9 n9
    (try refine (let q0 := _; (?_ : wpAny _ _ _ q0 _ _)))
    have hstep : ∀ z, asks[i]? = some z → (asks.take (i + 1)).map (askIn row) = (asks.take i).map (askIn row) ++ [askIn row z] := fun z hz => by rw [List.take_add_one, hz]; simp
    rcases hW.get (i := i) (v := v9) (by simpa using hv) with ⟨x, t, rfl, ha⟩ | ⟨rfl, ha⟩
    · repeat' (first | ((fail_if_success (fail_if_success k_unfold)); first | refine (?_ : wpAny _ _ (execs _ _) _ _ _) | (k_unfold; (try dsimp only))) | ((first | (with_reducible show wpAny _ _ (execs _ _) _ _ _) | (with_reducible show wpAny _ _ (exec _ _) _ _ _)); first | ((fail_if_success k_fold); refine wpAny_tok ?_; intro tk0) | ((fail_if_success (fail_if_success k_fold)); refine (let q0 := _; (?_ : wpAny _ _ _ q0 _ _)))) | ((with_reducible show wpAny _ _ (call _ _ _) _ _ _); first | ((with_reducible show wpAny _ _ (call (Value.ref 127) _ _) _ _ _); k_dflt (refine' call_cls ?k1 ?k2 ?k3 ?k4 ?k5 ?k6 ?_; (case k1 => k_asm); (case k2 => k_asm); (case k3 => k_asm); (case k4 => k_is); (case k5 => k_is); (case k6 => k_is); k_whole; intro _ _ _ F' N' l1 l2; (try k_lt l1); (try k_lt2 l2); (try k_sweep); k_enter)) | ((with_reducible show wpAny _ _ (call (Value.builtin _) [Value.ref _, Value.str _ _]) _ _ _); k_dflt (refine' index_strs ?k1 ?k2 ?k3 ?k4 ?k5 ?_; (case k1 => k_asm); (case k2 => k_mem); (case k3 => assumption); (case k4 => assumption); (case k5 => omega)))) | ((with_reducible show wpAny _ _ (eval _ _) _ _ _); first | ((with_reducible show wpAny _ _ (eval (PySem.Expr.IfExp ..) _) _ _ _); (refine ifexp_10 ?_)) | ((with_reducible show wpAny _ _ (eval (PySem.Expr.ListComp ..) _) _ _ _); (k_dflt (refine comp_start (by k_asm) (by with_unfolding_all rfl) (by decide) (by rfl) (by decide) (by rfl) (by intro _; rfl) ?_)))) | ((with_reducible show wpAny _ _ (compareOp _ _ _) _ _ _); first | ((with_reducible show wpAny _ _ (compareOp CmpOp.Eq (Value.ref _) (Value.ref _)) _ _ _); (k_dflt (refine' ints_eq (q := true) ?k1 ?k2 ?k3 ?k4 ?k5 ?k6 ?k7 ?_; (case k1 => k_asm); (case k2 => k_mem); (case k3 => k_mem); (case k4 => first | assumption | exact .cons _ _ .nil); (case k5 => first | assumption | exact .cons _ _ .nil); (case k6 => k_units); (case k7 => simp)))) | ((with_reducible show wpAny _ _ (compareOp CmpOp.NotEq (Value.ref _) (Value.ref _)) _ _ _); (k_dflt (refine' ints_ne (q := false) ?k1 ?k2 ?k3 ?k4 ?k5 ?k6 ?k7 ?_; (case k1 => k_asm); (case k2 => k_mem); (case k3 => k_mem); (case k4 => first | assumption | exact .cons _ _ .nil); (case k5 => first | assumption | exact .cons _ _ .nil); (case k6 => k_units); (case k7 => simp)))) | ((with_reducible show wpAny _ _ (compareOp CmpOp.NotEq (Value.ref _) (Value.ref _)) _ _ _); k_dflt (refine' ne_nil ?k1 ?k2 ?k3 ?k4 ?k5 ?k6 ?k7 ?_; (case k1 => k_asm); (case k2 => k_mem); (case k3 => k_mem); (case k4 => assumption); (case k5 => assumption); (case k6 => k_units); (case k7 => assumption))) | ((with_reducible show wpAny _ _ (compareOp CmpOp.In (Value.bool _) (Value.ref _)) _ _ _); (k_dflt (first | (refine' true_inB ?k1 ?k2 ?k3 ?k4 ?_; (case k1 => k_asm); (case k2 => k_mem); (case k3 => assumption); (case k4 => assumption)) | (refine' true_in ?k1 ?k2 ?k3 ?_; (case k1 => k_asm); (case k2 => k_mem); (case k3 => assumption))))) | ((with_reducible show wpAny _ _ (compareOp CmpOp.In Value.none (Value.ref _)) _ _ _); (k_dflt (refine' none_in_strs ?k1 ?k2 ?k3 ?_; (case k1 => k_asm); (case k2 => k_mem); (case k3 => assumption)))) | ((with_reducible show wpAny _ _ (compareOp CmpOp.In (Value.str _ _) (Value.ref _)) _ _ _); k_dflt (first | (refine' in_strsB ?k1 ?k2 ?k3 ?k4 ?_; (case k1 => k_asm); (case k2 => k_mem); (case k3 => assumption); (case k4 => assumption)) | (refine' in_strs ?k1 ?k2 ?k3 ?_; (case k1 => k_asm); (case k2 => k_mem); (case k3 => assumption)))) | ((with_reducible show wpAny _ _ (compareOp CmpOp.In (Value.str _ _) (Value.ref _)) _ _ _); (k_dflt (refine kda_in (knd := PySem.strKind _ _) (by k_asm) (by k_mem) (by k_asm) (by k_asm) (strKind_is _ _ _ _) _ (by assumption) ?_)))) | ((with_reducible show wpAny _ _ (getMethod (Value.ref _) (Str.ofString "get") _) _ _ _); k_dflt (refine kdg_method (knd := PySem.strKind _ _) (by k_asm) (by k_mem) (by k_asm) ?_)) | walk1 | (dsimp only; first | (k_unfold; (try dsimp only)) | walk1) | (leave1; (try dsimp only)) | fail "no step")
      refine LCg.CompEnd.intro (by assumption) (by assumption) _ ?sub9 o9 (.inr ⟨_, by k_mem, rfl, _, rfl⟩) ⟨rfl, ?b9⟩
      (case sub9 => (walk_at "sub"))
      (case b9 => rw [hstep _ ha]; exact boolsSnoc hB _)
    · repeat' (first | ((fail_if_success (fail_if_success k_unfold)); first | refine (?_ : wpAny _ _ (execs _ _) _ _ _) | (k_unfold; (try dsimp only))) | ((first | (with_reducible show wpAny _ _ (execs _ _) _ _ _) | (with_reducible show wpAny _ _ (exec _ _) _ _ _)); first | ((fail_if_success k_fold); refine wpAny_tok ?_; intro tk0) | ((fail_if_success (fail_if_success k_fold)); refine (let q0 := _; (?_ : wpAny _ _ _ q0 _ _)))) | ((with_reducible show wpAny _ _ (call _ _ _) _ _ _); first | ((with_reducible show wpAny _ _ (call (Value.ref 127) _ _) _ _ _); k_dflt (refine' call_cls ?k1 ?k2 ?k3 ?k4 ?k5 ?k6 ?_; (case k1 => k_asm); (case k2 => k_asm); (case k3 => k_asm); (case k4 => k_is); (case k5 => k_is); (case k6 => k_is); k_whole; intro _ _ _ F' N' l1 l2; (try k_lt l1); (try k_lt2 l2); (try k_sweep); k_enter)) | ((with_reducible show wpAny _ _ (call (Value.builtin _) [Value.ref _, Value.str _ _]) _ _ _); k_dflt (refine' index_strs ?k1 ?k2 ?k3 ?k4 ?k5 ?_; (case k1 => k_asm); (case k2 => k_mem); (case k3 => assumption); (case k4 => assumption); (case k5 => omega)))) | ((with_reducible show wpAny _ _ (eval _ _) _ _ _); first | ((with_reducible show wpAny _ _ (eval (PySem.Expr.IfExp ..) _) _ _ _); (refine ifexp_10 ?_)) | ((with_reducible show wpAny _ _ (eval (PySem.Expr.ListComp ..) _) _ _ _); (k_dflt (refine comp_start (by k_asm) (by with_unfolding_all rfl) (by decide) (by rfl) (by decide) (by rfl) (by intro _; rfl) ?_)))) | ((with_reducible show wpAny _ _ (compareOp _ _ _) _ _ _); first | ((with_reducible show wpAny _ _ (compareOp CmpOp.Eq (Value.ref _) (Value.ref _)) _ _ _); (k_dflt (refine' ints_eq (q := true) ?k1 ?k2 ?k3 ?k4 ?k5 ?k6 ?k7 ?_; (case k1 => k_asm); (case k2 => k_mem); (case k3 => k_mem); (case k4 => first | assumption | exact .cons _ _ .nil); (case k5 => first | assumption | exact .cons _ _ .nil); (case k6 => k_units); (case k7 => simp)))) | ((with_reducible show wpAny _ _ (compareOp CmpOp.NotEq (Value.ref _) (Value.ref _)) _ _ _); (k_dflt (refine' ints_ne (q := false) ?k1 ?k2 ?k3 ?k4 ?k5 ?k6 ?k7 ?_; (case k1 => k_asm); (case k2 => k_mem); (case k3 => k_mem); (case k4 => first | assumption | exact .cons _ _ .nil); (case k5 => first | assumption | exact .cons _ _ .nil); (case k6 => k_units); (case k7 => simp)))) | ((with_reducible show wpAny _ _ (compareOp CmpOp.NotEq (Value.ref _) (Value.ref _)) _ _ _); k_dflt (refine' ne_nil ?k1 ?k2 ?k3 ?k4 ?k5 ?k6 ?k7 ?_; (case k1 => k_asm); (case k2 => k_mem); (case k3 => k_mem); (case k4 => assumption); (case k5 => assumption); (case k6 => k_units); (case k7 => assumption))) | ((with_reducible show wpAny _ _ (compareOp CmpOp.In (Value.bool _) (Value.ref _)) _ _ _); (k_dflt (first | (refine' true_inB ?k1 ?k2 ?k3 ?k4 ?_; (case k1 => k_asm); (case k2 => k_mem); (case k3 => assumption); (case k4 => assumption)) | (refine' true_in ?k1 ?k2 ?k3 ?_; (case k1 => k_asm); (case k2 => k_mem); (case k3 => assumption))))) | ((with_reducible show wpAny _ _ (compareOp CmpOp.In Value.none (Value.ref _)) _ _ _); (k_dflt (refine' none_in_strs ?k1 ?k2 ?k3 ?_; (case k1 => k_asm); (case k2 => k_mem); (case k3 => assumption)))) | ((with_reducible show wpAny _ _ (compareOp CmpOp.In (Value.str _ _) (Value.ref _)) _ _ _); k_dflt (first | (refine' in_strsB ?k1 ?k2 ?k3 ?k4 ?_; (case k1 => k_asm); (case k2 => k_mem); (case k3 => assumption); (case k4 => assumption)) | (refine' in_strs ?k1 ?k2 ?k3 ?_; (case k1 => k_asm); (case k2 => k_mem); (case k3 => assumption)))) | ((with_reducible show wpAny _ _ (compareOp CmpOp.In (Value.str _ _) (Value.ref _)) _ _ _); (k_dflt (refine kda_in (knd := PySem.strKind _ _) (by k_asm) (by k_mem) (by k_asm) (by k_asm) (strKind_is _ _ _ _) _ (by assumption) ?_)))) | ((with_reducible show wpAny _ _ (getMethod (Value.ref _) (Str.ofString "get") _) _ _ _); k_dflt (refine kdg_method (knd := PySem.strKind _ _) (by k_asm) (by k_mem) (by k_asm) ?_)) | walk1 | (dsimp only; first | (k_unfold; (try dsimp only)) | walk1) | (leave1; (try dsimp only)) | fail "no step")
      refine LCg.CompEnd.intro (by assumption) (by assumption) _ ?sub9 o9 (.inr ⟨_, by k_mem, rfl, _, rfl⟩) ⟨rfl, ?b9⟩
      (case sub9 => (walk_at "sub"))
      (case b9 => rw [hstep _ ha]; exact boolsSnoc hB _))
  (case fin =>
    rintro ys news Da h9 tk9 ⟨rfl, hB⟩ F9 N9 o9
    rw [List.size_toArray, hwll, List.take_length] at hB
    repeat' (first | ((fail_if_success (fail_if_success k_unfold)); first | refine (?_ : wpAny _ _ (execs _ _) _ _ _) | (k_unfold; (try dsimp only))) | ((first | (with_reducible show wpAny _ _ (execs _ _) _ _ _) | (with_reducible show wpAny _ _ (exec _ _) _ _ _)); first | ((fail_if_success k_fold); refine wpAny_tok ?_; intro tk0) | ((fail_if_success (fail_if_success k_fold)); refine (let q0 := _; (?_ : wpAny _ _ _ q0 _ _)))) | ((with_reducible show wpAny _ _ (call _ _ _) _ _ _); first | ((with_reducible show wpAny _ _ (call (Value.ref 127) _ _) _ _ _); k_dflt (refine' call_cls ?k1 ?k2 ?k3 ?k4 ?k5 ?k6 ?_; (case k1 => k_asm); (case k2 => k_asm); (case k3 => k_asm); (case k4 => k_is); (case k5 => k_is); (case k6 => k_is); k_whole; intro _ _ _ F' N' l1 l2; (try k_lt l1); (try k_lt2 l2); (try k_sweep); k_enter)) | ((with_reducible show wpAny _ _ (call (Value.builtin _) [Value.ref _, Value.str _ _]) _ _ _); k_dflt (refine' index_strs ?k1 ?k2 ?k3 ?k4 ?k5 ?_; (case k1 => k_asm); (case k2 => k_mem); (case k3 => assumption); (case k4 => assumption); (case k5 => omega)))) | ((with_reducible show wpAny _ _ (eval _ _) _ _ _); first | ((with_reducible show wpAny _ _ (eval (PySem.Expr.IfExp ..) _) _ _ _); (refine ifexp_10 ?_)) | ((with_reducible show wpAny _ _ (eval (PySem.Expr.ListComp ..) _) _ _ _); (k_dflt (refine comp_start (by k_asm) (by with_unfolding_all rfl) (by decide) (by rfl) (by decide) (by rfl) (by intro _; rfl) ?_)))) | ((with_reducible show wpAny _ _ (compareOp _ _ _) _ _ _); first | ((with_reducible show wpAny _ _ (compareOp CmpOp.Eq (Value.ref _) (Value.ref _)) _ _ _); (k_dflt (refine' ints_eq (q := true) ?k1 ?k2 ?k3 ?k4 ?k5 ?k6 ?k7 ?_; (case k1 => k_asm); (case k2 => k_mem); (case k3 => k_mem); (case k4 => first | assumption | exact .cons _ _ .nil); (case k5 => first | assumption | exact .cons _ _ .nil); (case k6 => k_units); (case k7 => simp)))) | ((with_reducible show wpAny _ _ (compareOp CmpOp.NotEq (Value.ref _) (Value.ref _)) _ _ _); (k_dflt (refine' ints_ne (q := false) ?k1 ?k2 ?k3 ?k4 ?k5 ?k6 ?k7 ?_; (case k1 => k_asm); (case k2 => k_mem); (case k3 => k_mem); (case k4 => first | assumption | exact .cons _ _ .nil); (case k5 => first | assumption | exact .cons _ _ .nil); (case k6 => k_units); (case k7 => simp)))) | ((with_reducible show wpAny _ _ (compareOp CmpOp.NotEq (Value.ref _) (Value.ref _)) _ _ _); k_dflt (refine' ne_nil ?k1 ?k2 ?k3 ?k4 ?k5 ?k6 ?k7 ?_; (case k1 => k_asm); (case k2 => k_mem); (case k3 => k_mem); (case k4 => assumption); (case k5 => assumption); (case k6 => k_units); (case k7 => assumption))) | ((with_reducible show wpAny _ _ (compareOp CmpOp.In (Value.bool _) (Value.ref _)) _ _ _); (k_dflt (first | (refine' true_inB ?k1 ?k2 ?k3 ?k4 ?_; (case k1 => k_asm); (case k2 => k_mem); (case k3 => assumption); (case k4 => assumption)) | (refine' true_in ?k1 ?k2 ?k3 ?_; (case k1 => k_asm); (case k2 => k_mem); (case k3 => assumption))))) | ((with_reducible show wpAny _ _ (compareOp CmpOp.In Value.none (Value.ref _)) _ _ _); (k_dflt (refine' none_in_strs ?k1 ?k2 ?k3 ?_; (case k1 => k_asm); (case k2 => k_mem); (case k3 => assumption)))) | ((with_reducible show wpAny _ _ (compareOp CmpOp.In (Value.str _ _) (Value.ref _)) _ _ _); k_dflt (first | (refine' in_strsB ?k1 ?k2 ?k3 ?k4 ?_; (case k1 => k_asm); (case k2 => k_mem); (case k3 => assumption); (case k4 => assumption)) | (refine' in_strs ?k1 ?k2 ?k3 ?_; (case k1 => k_asm); (case k2 => k_mem); (case k3 => assumption)))) | ((with_reducible show wpAny _ _ (compareOp CmpOp.In (Value.str _ _) (Value.ref _)) _ _ _); (k_dflt (refine kda_in (knd := PySem.strKind _ _) (by k_asm) (by k_mem) (by k_asm) (by k_asm) (strKind_is _ _ _ _) _ (by assumption) ?_)))) | ((with_reducible show wpAny _ _ (getMethod (Value.ref _) (Str.ofString "get") _) _ _ _); k_dflt (refine kdg_method (knd := PySem.strKind _ _) (by k_asm) (by k_mem) (by k_asm) ?_)) | walk1 | (dsimp only; first | (k_unfold; (try dsimp only)) | walk1) | (leave1; (try dsimp only)) | fail "no step")
    rename News _ _ _ _ => N1
    rename_i a1b _ _ a2b _ _ _ _ _ _ _ _ _ _ _ _ _ hl2 _ _ wh dwh _ _ _ _ _ _ _ _ _ _ _ _ _ _ _ _ _ _ _ _ _ _ _ _ _ _ _ _ _ _ a3 _ _ ar2 _ _ _
    have offE2 : ∀ o1 o2 o3 o4 o5 o6 o7 o8 o9, Off (L' + 1) [(ar2, o1), (a3, o2), (wh, o3), (dwh, o4), (hl2, o5), (a2b, o6), (a1b, o7), (V, o8), (dV, o9)] := fun o1 o2 o3 o4 o5 o6 o7 o8 o9 => Off.cons (by walk_at "om") (Off.cons (by walk_at "om") (Off.cons (by walk_at "om") (Off.cons (by walk_at "om") (Off.cons (by walk_at "om") (Off.cons (by walk_at "om") (Off.cons (by walk_at "om") (Off.cons (by walk_at "om") (Off.cons (by walk_at "om") Off.nil))))))))
    have kdh : ∀ q ∈ led, q.1 < dwh := fun q hq => (‹∀ q ∈ _, q.1 < dwh› : _) q (by clear N1; revert hq; intro hq; k_mem)
    have oWl : Off wh led := fun q hq => Nat.ne_of_lt (Nat.lt_trans (kdh q hq) (by walk_at "om"))
    have apE2 : ∀ o1 o2 o3 o4 o5 o6 o7 o8 o9, Apart led [(ar2, o1), (a3, o2), (wh, o3), (dwh, o4), (hl2, o5), (a2b, o6), (a1b, o7), (V, o8), (dV, o9)] := fun o1 o2 o3 o4 o5 o6 o7 o8 o9 => Apart.symm (Apart.cons (Off.of_lt (by assumption) (by (walk_at "sub"))) (Apart.cons (Off.of_lt (by assumption) (by (walk_at "sub"))) (Apart.cons oWl (Apart.cons (Off.of_lt kdh (fun _ h => h)) (Apart.cons (Off.of_lt (by assumption) (by (walk_at "sub"))) (Apart.cons (Off.of_lt (by assumption) (by (walk_at "sub"))) (Apart.cons (Off.of_lt (by assumption) (by (walk_at "sub"))) (Apart.cons oVl (Apart.cons (Off.of_lt kdV (fun _ h => .tail _ h)) Apart.nil)))))))))
    refine repackV3 N1 rfl rfl fun esh hkh hih N2 => ?_
    clear N1
    (refine' callAt_use (c_inh_places w (led ++ [(ar2, _), (a3, _), (wh, _), (dwh, dictOf esh 5), (hl2, _), (a2b, _), (a1b, _), (V, _), (dV, dictOf es 5)]) iv v ar2 a1b a2b a3 V dV aw wh dwh hl2 es esh 5 5 na _ _ aits asks row _ _ _ _ (by k_mem) (by k_mem) (by k_mem) (by k_mem) (by k_mem) (by k_mem) (by k_mem) (by k_mem) (by k_mem) (by k_mem) hk hi hkh hih hW hwl (tells1_row hAll (apE2 _ _ _ _ _ _ _ _ _)) hr) ([(L' + 1, oc)]) ?B ?F ?X ?N ?T ?hk ?hin ?off ?hd ?hu ?_; (case B => k_asm); (case F => k_asm); (case X => k_asm); (case N => k_asm); (case T => k_asm); (case hk => exact rfl); (case hin => (walk_at "sub")); (case off => exact Apart.symm (Apart.cons (Off.app offc (offE2 _ _ _ _ _ _ _ _ _)) Apart.nil)); (case hd => k_room); (case hu => k_units))
    refine el7R ?_
    intro V2 dV2 es2 ne2 il2 its2 n2 hR9 h5 tk5 F5 N5 ap5
    have hi2 := hR9.1
    have hI2 := hR9.2
    clear hR9
    have N7 : News g L' h5 ((il2, _) :: (V2, instObj 127 dV2) :: (dV2, dictOf es2 ne2) :: (L' + 1, oc) :: led) := newsPick N5 (by (walk_at "sub"))
    clear N5 ap5 N2
    dsimp only
    repeat' (first | ((fail_if_success (fail_if_success k_unfold)); first | refine (?_ : wpAny _ _ (execs _ _) _ _ _) | (k_unfold; (try dsimp only))) | ((first | (with_reducible show wpAny _ _ (execs _ _) _ _ _) | (with_reducible show wpAny _ _ (exec _ _) _ _ _)); first | ((fail_if_success k_fold); refine wpAny_tok ?_; intro tk0) | ((fail_if_success (fail_if_success k_fold)); refine (let q0 := _; (?_ : wpAny _ _ _ q0 _ _)))) | ((with_reducible show wpAny _ _ (call _ _ _) _ _ _); first | ((with_reducible show wpAny _ _ (call (Value.ref 127) _ _) _ _ _); k_dflt (refine' call_cls ?k1 ?k2 ?k3 ?k4 ?k5 ?k6 ?_; (case k1 => k_asm); (case k2 => k_asm); (case k3 => k_asm); (case k4 => k_is); (case k5 => k_is); (case k6 => k_is); k_whole; intro _ _ _ F' N' l1 l2; (try k_lt l1); (try k_lt2 l2); (try k_sweep); k_enter)) | ((with_reducible show wpAny _ _ (call (Value.builtin _) [Value.ref _, Value.str _ _]) _ _ _); k_dflt (refine' index_strs ?k1 ?k2 ?k3 ?k4 ?k5 ?_; (case k1 => k_asm); (case k2 => k_mem); (case k3 => assumption); (case k4 => assumption); (case k5 => omega)))) | ((with_reducible show wpAny _ _ (eval _ _) _ _ _); first | ((with_reducible show wpAny _ _ (eval (PySem.Expr.IfExp ..) _) _ _ _); (refine ifexp_10 ?_)) | ((with_reducible show wpAny _ _ (eval (PySem.Expr.ListComp ..) _) _ _ _); (k_dflt (refine comp_start (by k_asm) (by with_unfolding_all rfl) (by decide) (by rfl) (by decide) (by rfl) (by intro _; rfl) ?_)))) | ((with_reducible show wpAny _ _ (compareOp _ _ _) _ _ _); first | ((with_reducible show wpAny _ _ (compareOp CmpOp.Eq (Value.ref _) (Value.ref _)) _ _ _); (k_dflt (refine' ints_eq (q := true) ?k1 ?k2 ?k3 ?k4 ?k5 ?k6 ?k7 ?_; (case k1 => k_asm); (case k2 => k_mem); (case k3 => k_mem); (case k4 => first | assumption | exact .cons _ _ .nil); (case k5 => first | assumption | exact .cons _ _ .nil); (case k6 => k_units); (case k7 => simp)))) | ((with_reducible show wpAny _ _ (compareOp CmpOp.NotEq (Value.ref _) (Value.ref _)) _ _ _); (k_dflt (refine' ints_ne (q := false) ?k1 ?k2 ?k3 ?k4 ?k5 ?k6 ?k7 ?_; (case k1 => k_asm); (case k2 => k_mem); (case k3 => k_mem); (case k4 => first | assumption | exact .cons _ _ .nil); (case k5 => first | assumption | exact .cons _ _ .nil); (case k6 => k_units); (case k7 => simp)))) | ((with_reducible show wpAny _ _ (compareOp CmpOp.NotEq (Value.ref _) (Value.ref _)) _ _ _); k_dflt (refine' ne_nil ?k1 ?k2 ?k3 ?k4 ?k5 ?k6 ?k7 ?_; (case k1 => k_asm); (case k2 => k_mem); (case k3 => k_mem); (case k4 => assumption); (case k5 => assumption); (case k6 => k_units); (case k7 => assumption))) | ((with_reducible show wpAny _ _ (compareOp CmpOp.In (Value.bool _) (Value.ref _)) _ _ _); (k_dflt (first | (refine' true_inB ?k1 ?k2 ?k3 ?k4 ?_; (case k1 => k_asm); (case k2 => k_mem); (case k3 => assumption); (case k4 => assumption)) | (refine' true_in ?k1 ?k2 ?k3 ?_; (case k1 => k_asm); (case k2 => k_mem); (case k3 => assumption))))) | ((with_reducible show wpAny _ _ (compareOp CmpOp.In Value.none (Value.ref _)) _ _ _); (k_dflt (refine' none_in_strs ?k1 ?k2 ?k3 ?_; (case k1 => k_asm); (case k2 => k_mem); (case k3 => assumption)))) | ((with_reducible show wpAny _ _ (compareOp CmpOp.In (Value.str _ _) (Value.ref _)) _ _ _); k_dflt (first | (refine' in_strsB ?k1 ?k2 ?k3 ?k4 ?_; (case k1 => k_asm); (case k2 => k_mem); (case k3 => assumption); (case k4 => assumption)) | (refine' in_strs ?k1 ?k2 ?k3 ?_; (case k1 => k_asm); (case k2 => k_mem); (case k3 => assumption)))) | ((with_reducible show wpAny _ _ (compareOp CmpOp.In (Value.str _ _) (Value.ref _)) _ _ _); (k_dflt (refine kda_in (knd := PySem.strKind _ _) (by k_asm) (by k_mem) (by k_asm) (by k_asm) (strKind_is _ _ _ _) _ (by assumption) ?_)))) | ((with_reducible show wpAny _ _ (getMethod (Value.ref _) (Str.ofString "get") _) _ _ _); k_dflt (refine kdg_method (knd := PySem.strKind _ _) (by k_asm) (by k_mem) (by k_asm) ?_)) | walk1 | (dsimp only; first | (k_unfold; (try dsimp only)) | walk1) | (leave1; (try dsimp only)) | fail "no step")
    rename News _ _ _ _ => N6
    rename Fr _ _ _ _ => F6
    refine' comp_list (k := na) (its := aits.toArray) (fun i ys news => news = (il2, _) :: (V2, instObj 127 dV2) :: (dV2, dictOf es2 ne2) :: (L' + 1, oc) :: led ∧ IntsAre ys ((asks.take i).map (askAt row))) rfl F6 N6 ?hm2 ?hsz2 ⟨rfl, .nil⟩ ?turn2 ?fin2
    (case hm2 => k_mem)
    (case hsz2 => rw [List.size_toArray]; omega)
    (case turn2 =>
      rintro i ys news hi9 ⟨rfl, hB2⟩ v9 I oI Cc oC Da2 m₂ h9 tk9 E9 hv hC hx9 F9 N9 o9 n9
      (try refine (let q0 := _; (?_ : wpAny _ _ _ q0 _ _)))
      have hstep : ∀ z, asks[i]? = some z → (asks.take (i + 1)).map (askAt row) = (asks.take i).map (askAt row) ++ [askAt row z] := fun z hz => by rw [List.take_add_one, hz]; simp
      rcases hW.get (i := i) (v := v9) (by simpa using hv) with ⟨x, t, rfl, ha⟩ | ⟨rfl, ha⟩
      · by_cases hxr : x ∈ row
        · have hb : decide (x ∈ row) = true := decide_eq_true hxr
          have hat : askAt row (some x) = (row.idxOf x : Int) + 1 := by simp [askAt, hxr]
          repeat' (first | ((fail_if_success (fail_if_success k_unfold)); first | refine (?_ : wpAny _ _ (execs _ _) _ _ _) | (k_unfold; (try dsimp only))) | ((first | (with_reducible show wpAny _ _ (execs _ _) _ _ _) | (with_reducible show wpAny _ _ (exec _ _) _ _ _)); first | ((fail_if_success k_fold); refine wpAny_tok ?_; intro tk0) | ((fail_if_success (fail_if_success k_fold)); refine (let q0 := _; (?_ : wpAny _ _ _ q0 _ _)))) | ((with_reducible show wpAny _ _ (call _ _ _) _ _ _); first | ((with_reducible show wpAny _ _ (call (Value.ref 127) _ _) _ _ _); k_dflt (refine' call_cls ?k1 ?k2 ?k3 ?k4 ?k5 ?k6 ?_; (case k1 => k_asm); (case k2 => k_asm); (case k3 => k_asm); (case k4 => k_is); (case k5 => k_is); (case k6 => k_is); k_whole; intro _ _ _ F' N' l1 l2; (try k_lt l1); (try k_lt2 l2); (try k_sweep); k_enter)) | ((with_reducible show wpAny _ _ (call (Value.builtin _) [Value.ref _, Value.str _ _]) _ _ _); k_dflt (refine' index_strs ?k1 ?k2 ?k3 ?k4 ?k5 ?_; (case k1 => k_asm); (case k2 => k_mem); (case k3 => assumption); (case k4 => assumption); (case k5 => omega)))) | ((with_reducible show wpAny _ _ (eval _ _) _ _ _); first | ((with_reducible show wpAny _ _ (eval (PySem.Expr.IfExp ..) _) _ _ _); (refine ifexp_10 ?_)) | ((with_reducible show wpAny _ _ (eval (PySem.Expr.ListComp ..) _) _ _ _); (k_dflt (refine comp_start (by k_asm) (by with_unfolding_all rfl) (by decide) (by rfl) (by decide) (by rfl) (by intro _; rfl) ?_)))) | ((with_reducible show wpAny _ _ (compareOp _ _ _) _ _ _); first | ((with_reducible show wpAny _ _ (compareOp CmpOp.Eq (Value.ref _) (Value.ref _)) _ _ _); (k_dflt (refine' ints_eq (q := true) ?k1 ?k2 ?k3 ?k4 ?k5 ?k6 ?k7 ?_; (case k1 => k_asm); (case k2 => k_mem); (case k3 => k_mem); (case k4 => first | assumption | exact .cons _ _ .nil); (case k5 => first | assumption | exact .cons _ _ .nil); (case k6 => k_units); (case k7 => simp)))) | ((with_reducible show wpAny _ _ (compareOp CmpOp.NotEq (Value.ref _) (Value.ref _)) _ _ _); (k_dflt (refine' ints_ne (q := false) ?k1 ?k2 ?k3 ?k4 ?k5 ?k6 ?k7 ?_; (case k1 => k_asm); (case k2 => k_mem); (case k3 => k_mem); (case k4 => first | assumption | exact .cons _ _ .nil); (case k5 => first | assumption | exact .cons _ _ .nil); (case k6 => k_units); (case k7 => simp)))) | ((with_reducible show wpAny _ _ (compareOp CmpOp.NotEq (Value.ref _) (Value.ref _)) _ _ _); k_dflt (refine' ne_nil ?k1 ?k2 ?k3 ?k4 ?k5 ?k6 ?k7 ?_; (case k1 => k_asm); (case k2 => k_mem); (case k3 => k_mem); (case k4 => assumption); (case k5 => assumption); (case k6 => k_units); (case k7 => assumption))) | ((with_reducible show wpAny _ _ (compareOp CmpOp.In (Value.bool _) (Value.ref _)) _ _ _); (k_dflt (first | (refine' true_inB ?k1 ?k2 ?k3 ?k4 ?_; (case k1 => k_asm); (case k2 => k_mem); (case k3 => assumption); (case k4 => assumption)) | (refine' true_in ?k1 ?k2 ?k3 ?_; (case k1 => k_asm); (case k2 => k_mem); (case k3 => assumption))))) | ((with_reducible show wpAny _ _ (compareOp CmpOp.In Value.none (Value.ref _)) _ _ _); (k_dflt (refine' none_in_strs ?k1 ?k2 ?k3 ?_; (case k1 => k_asm); (case k2 => k_mem); (case k3 => assumption)))) | ((with_reducible show wpAny _ _ (compareOp CmpOp.In (Value.str _ _) (Value.ref _)) _ _ _); k_dflt (first | (refine' in_strsB ?k1 ?k2 ?k3 ?k4 ?_; (case k1 => k_asm); (case k2 => k_mem); (case k3 => assumption); (case k4 => assumption)) | (refine' in_strs ?k1 ?k2 ?k3 ?_; (case k1 => k_asm); (case k2 => k_mem); (case k3 => assumption)))) | ((with_reducible show wpAny _ _ (compareOp CmpOp.In (Value.str _ _) (Value.ref _)) _ _ _); (k_dflt (refine kda_in (knd := PySem.strKind _ _) (by k_asm) (by k_mem) (by k_asm) (by k_asm) (strKind_is _ _ _ _) _ (by assumption) ?_)))) | ((with_reducible show wpAny _ _ (getMethod (Value.ref _) (Str.ofString "get") _) _ _ _); k_dflt (refine kdg_method (knd := PySem.strKind _ _) (by k_asm) (by k_mem) (by k_asm) ?_)) | walk1 | (dsimp only; first | (k_unfold; (try dsimp only)) | walk1) | (leave1; (try dsimp only)) | fail "no step")
          refine LCg.CompEnd.intro (by assumption) (by assumption) _ ?subA o9 (.inr ⟨_, by k_mem, rfl, _, rfl⟩) ⟨rfl, ?bA⟩
          (case subA => (walk_at "sub"))
          (case bA => rw [hstep _ ha, hat]; exact intsSnoc hB2 _ _)
        · have hb : decide (x ∈ row) = false := decide_eq_false hxr
          have hat : askAt row (some x) = 0 := by simp [askAt, hxr]
          repeat' (first | ((fail_if_success (fail_if_success k_unfold)); first | refine (?_ : wpAny _ _ (execs _ _) _ _ _) | (k_unfold; (try dsimp only))) | ((first | (with_reducible show wpAny _ _ (execs _ _) _ _ _) | (with_reducible show wpAny _ _ (exec _ _) _ _ _)); first | ((fail_if_success k_fold); refine wpAny_tok ?_; intro tk0) | ((fail_if_success (fail_if_success k_fold)); refine (let q0 := _; (?_ : wpAny _ _ _ q0 _ _)))) | ((with_reducible show wpAny _ _ (call _ _ _) _ _ _); first | ((with_reducible show wpAny _ _ (call (Value.ref 127) _ _) _ _ _); k_dflt (refine' call_cls ?k1 ?k2 ?k3 ?k4 ?k5 ?k6 ?_; (case k1 => k_asm); (case k2 => k_asm); (case k3 => k_asm); (case k4 => k_is); (case k5 => k_is); (case k6 => k_is); k_whole; intro _ _ _ F' N' l1 l2; (try k_lt l1); (try k_lt2 l2); (try k_sweep); k_enter)) | ((with_reducible show wpAny _ _ (call (Value.builtin _) [Value.ref _, Value.str _ _]) _ _ _); k_dflt (refine' index_strs ?k1 ?k2 ?k3 ?k4 ?k5 ?_; (case k1 => k_asm); (case k2 => k_mem); (case k3 => assumption); (case k4 => assumption); (case k5 => omega)))) | ((with_reducible show wpAny _ _ (eval _ _) _ _ _); first | ((with_reducible show wpAny _ _ (eval (PySem.Expr.IfExp ..) _) _ _ _); (refine ifexp_10 ?_)) | ((with_reducible show wpAny _ _ (eval (PySem.Expr.ListComp ..) _) _ _ _); (k_dflt (refine comp_start (by k_asm) (by with_unfolding_all rfl) (by decide) (by rfl) (by decide) (by rfl) (by intro _; rfl) ?_)))) | ((with_reducible show wpAny _ _ (compareOp _ _ _) _ _ _); first | ((with_reducible show wpAny _ _ (compareOp CmpOp.Eq (Value.ref _) (Value.ref _)) _ _ _); (k_dflt (refine' ints_eq (q := true) ?k1 ?k2 ?k3 ?k4 ?k5 ?k6 ?k7 ?_; (case k1 => k_asm); (case k2 => k_mem); (case k3 => k_mem); (case k4 => first | assumption | exact .cons _ _ .nil); (case k5 => first | assumption | exact .cons _ _ .nil); (case k6 => k_units); (case k7 => simp)))) | ((with_reducible show wpAny _ _ (compareOp CmpOp.NotEq (Value.ref _) (Value.ref _)) _ _ _); (k_dflt (refine' ints_ne (q := false) ?k1 ?k2 ?k3 ?k4 ?k5 ?k6 ?k7 ?_; (case k1 => k_asm); (case k2 => k_mem); (case k3 => k_mem); (case k4 => first | assumption | exact .cons _ _ .nil); (case k5 => first | assumption | exact .cons _ _ .nil); (case k6 => k_units); (case k7 => simp)))) | ((with_reducible show wpAny _ _ (compareOp CmpOp.NotEq (Value.ref _) (Value.ref _)) _ _ _); k_dflt (refine' ne_nil ?k1 ?k2 ?k3 ?k4 ?k5 ?k6 ?k7 ?_; (case k1 => k_asm); (case k2 => k_mem); (case k3 => k_mem); (case k4 => assumption); (case k5 => assumption); (case k6 => k_units); (case k7 => assumption))) | ((with_reducible show wpAny _ _ (compareOp CmpOp.In (Value.bool _) (Value.ref _)) _ _ _); (k_dflt (first | (refine' true_inB ?k1 ?k2 ?k3 ?k4 ?_; (case k1 => k_asm); (case k2 => k_mem); (case k3 => assumption); (case k4 => assumption)) | (refine' true_in ?k1 ?k2 ?k3 ?_; (case k1 => k_asm); (case k2 => k_mem); (case k3 => assumption))))) | ((with_reducible show wpAny _ _ (compareOp CmpOp.In Value.none (Value.ref _)) _ _ _); (k_dflt (refine' none_in_strs ?k1 ?k2 ?k3 ?_; (case k1 => k_asm); (case k2 => k_mem); (case k3 => assumption)))) | ((with_reducible show wpAny _ _ (compareOp CmpOp.In (Value.str _ _) (Value.ref _)) _ _ _); k_dflt (first | (refine' in_strsB ?k1 ?k2 ?k3 ?k4 ?_; (case k1 => k_asm); (case k2 => k_mem); (case k3 => assumption); (case k4 => assumption)) | (refine' in_strs ?k1 ?k2 ?k3 ?_; (case k1 => k_asm); (case k2 => k_mem); (case k3 => assumption)))) | ((with_reducible show wpAny _ _ (compareOp CmpOp.In (Value.str _ _) (Value.ref _)) _ _ _); (k_dflt (refine kda_in (knd := PySem.strKind _ _) (by k_asm) (by k_mem) (by k_asm) (by k_asm) (strKind_is _ _ _ _) _ (by assumption) ?_)))) | ((with_reducible show wpAny _ _ (getMethod (Value.ref _) (Str.ofString "get") _) _ _ _); k_dflt (refine kdg_method (knd := PySem.strKind _ _) (by k_asm) (by k_mem) (by k_asm) ?_)) | walk1 | (dsimp only; first | (k_unfold; (try dsimp only)) | walk1) | (leave1; (try dsimp only)) | fail "no step")
          refine LCg.CompEnd.intro (by assumption) (by assumption) _ ?subB o9 (.inr ⟨_, by k_mem, rfl, _, rfl⟩) ⟨rfl, ?bB⟩
          (case subB => (walk_at "sub"))
          (case bB => rw [hstep _ ha, hat]; exact intsSnoc hB2 _ _)
      · repeat' (first | ((fail_if_success (fail_if_success k_unfold)); first | refine (?_ : wpAny _ _ (execs _ _) _ _ _) | (k_unfold; (try dsimp only))) | ((first | (with_reducible show wpAny _ _ (execs _ _) _ _ _) | (with_reducible show wpAny _ _ (exec _ _) _ _ _)); first | ((fail_if_success k_fold); refine wpAny_tok ?_; intro tk0) | ((fail_if_success (fail_if_success k_fold)); refine (let q0 := _; (?_ : wpAny _ _ _ q0 _ _)))) | ((with_reducible show wpAny _ _ (call _ _ _) _ _ _); first | ((with_reducible show wpAny _ _ (call (Value.ref 127) _ _) _ _ _); k_dflt (refine' call_cls ?k1 ?k2 ?k3 ?k4 ?k5 ?k6 ?_; (case k1 => k_asm); (case k2 => k_asm); (case k3 => k_asm); (case k4 => k_is); (case k5 => k_is); (case k6 => k_is); k_whole; intro _ _ _ F' N' l1 l2; (try k_lt l1); (try k_lt2 l2); (try k_sweep); k_enter)) | ((with_reducible show wpAny _ _ (call (Value.builtin _) [Value.ref _, Value.str _ _]) _ _ _); k_dflt (refine' index_strs ?k1 ?k2 ?k3 ?k4 ?k5 ?_; (case k1 => k_asm); (case k2 => k_mem); (case k3 => assumption); (case k4 => assumption); (case k5 => omega)))) | ((with_reducible show wpAny _ _ (eval _ _) _ _ _); first | ((with_reducible show wpAny _ _ (eval (PySem.Expr.IfExp ..) _) _ _ _); (refine ifexp_10 ?_)) | ((with_reducible show wpAny _ _ (eval (PySem.Expr.ListComp ..) _) _ _ _); (k_dflt (refine comp_start (by k_asm) (by with_unfolding_all rfl) (by decide) (by rfl) (by decide) (by rfl) (by intro _; rfl) ?_)))) | ((with_reducible show wpAny _ _ (compareOp _ _ _) _ _ _); first | ((with_reducible show wpAny _ _ (compareOp CmpOp.Eq (Value.ref _) (Value.ref _)) _ _ _); (k_dflt (refine' ints_eq (q := true) ?k1 ?k2 ?k3 ?k4 ?k5 ?k6 ?k7 ?_; (case k1 => k_asm); (case k2 => k_mem); (case k3 => k_mem); (case k4 => first | assumption | exact .cons _ _ .nil); (case k5 => first | assumption | exact .cons _ _ .nil); (case k6 => k_units); (case k7 => simp)))) | ((with_reducible show wpAny _ _ (compareOp CmpOp.NotEq (Value.ref _) (Value.ref _)) _ _ _); (k_dflt (refine' ints_ne (q := false) ?k1 ?k2 ?k3 ?k4 ?k5 ?k6 ?k7 ?_; (case k1 => k_asm); (case k2 => k_mem); (case k3 => k_mem); (case k4 => first | assumption | exact .cons _ _ .nil); (case k5 => first | assumption | exact .cons _ _ .nil); (case k6 => k_units); (case k7 => simp)))) | ((with_reducible show wpAny _ _ (compareOp CmpOp.NotEq (Value.ref _) (Value.ref _)) _ _ _); k_dflt (refine' ne_nil ?k1 ?k2 ?k3 ?k4 ?k5 ?k6 ?k7 ?_; (case k1 => k_asm); (case k2 => k_mem); (case k3 => k_mem); (case k4 => assumption); (case k5 => assumption); (case k6 => k_units); (case k7 => assumption))) | ((with_reducible show wpAny _ _ (compareOp CmpOp.In (Value.bool _) (Value.ref _)) _ _ _); (k_dflt (first | (refine' true_inB ?k1 ?k2 ?k3 ?k4 ?_; (case k1 => k_asm); (case k2 => k_mem); (case k3 => assumption); (case k4 => assumption)) | (refine' true_in ?k1 ?k2 ?k3 ?_; (case k1 => k_asm); (case k2 => k_mem); (case k3 => assumption))))) | ((with_reducible show wpAny _ _ (compareOp CmpOp.In Value.none (Value.ref _)) _ _ _); (k_dflt (refine' none_in_strs ?k1 ?k2 ?k3 ?_; (case k1 => k_asm); (case k2 => k_mem); (case k3 => assumption)))) | ((with_reducible show wpAny _ _ (compareOp CmpOp.In (Value.str _ _) (Value.ref _)) _ _ _); k_dflt (first | (refine' in_strsB ?k1 ?k2 ?k3 ?k4 ?_; (case k1 => k_asm); (case k2 => k_mem); (case k3 => assumption); (case k4 => assumption)) | (refine' in_strs ?k1 ?k2 ?k3 ?_; (case k1 => k_asm); (case k2 => k_mem); (case k3 => assumption)))) | ((with_reducible show wpAny _ _ (compareOp CmpOp.In (Value.str _ _) (Value.ref _)) _ _ _); (k_dflt (refine kda_in (knd := PySem.strKind _ _) (by k_asm) (by k_mem) (by k_asm) (by k_asm) (strKind_is _ _ _ _) _ (by assumption) ?_)))) | ((with_reducible show wpAny _ _ (getMethod (Value.ref _) (Str.ofString "get") _) _ _ _); k_dflt (refine kdg_method (knd := PySem.strKind _ _) (by k_asm) (by k_mem) (by k_asm) ?_)) | walk1 | (dsimp only; first | (k_unfold; (try dsimp only)) | walk1) | (leave1; (try dsimp only)) | fail "no step")
        refine LCg.CompEnd.intro (by assumption) (by assumption) _ ?subC o9 (.inr ⟨_, by k_mem, rfl, _, rfl⟩) ⟨rfl, ?bC⟩
        (case subC => (walk_at "sub"))
        (case bC => rw [hstep _ ha]; exact intsSnoc hB2 _ _))
    (case fin2 =>
      rintro ys2 news2 Da2 h9 tk9 ⟨rfl, hB2⟩ F9 N9 o9
      rw [List.size_toArray, hwll, List.take_length] at hB2
      repeat' (first | ((fail_if_success (fail_if_success k_unfold)); first | refine (?_ : wpAny _ _ (execs _ _) _ _ _) | (k_unfold; (try dsimp only))) | ((first | (with_reducible show wpAny _ _ (execs _ _) _ _ _) | (with_reducible show wpAny _ _ (exec _ _) _ _ _)); first | ((fail_if_success k_fold); refine wpAny_tok ?_; intro tk0) | ((fail_if_success (fail_if_success k_fold)); refine (let q0 := _; (?_ : wpAny _ _ _ q0 _ _)))) | ((with_reducible show wpAny _ _ (call _ _ _) _ _ _); first | ((with_reducible show wpAny _ _ (call (Value.ref 127) _ _) _ _ _); k_dflt (refine' call_cls ?k1 ?k2 ?k3 ?k4 ?k5 ?k6 ?_; (case k1 => k_asm); (case k2 => k_asm); (case k3 => k_asm); (case k4 => k_is); (case k5 => k_is); (case k6 => k_is); k_whole; intro _ _ _ F' N' l1 l2; (try k_lt l1); (try k_lt2 l2); (try k_sweep); k_enter)) | ((with_reducible show wpAny _ _ (call (Value.builtin _) [Value.ref _, Value.str _ _]) _ _ _); k_dflt (refine' index_strs ?k1 ?k2 ?k3 ?k4 ?k5 ?_; (case k1 => k_asm); (case k2 => k_mem); (case k3 => assumption); (case k4 => assumption); (case k5 => omega)))) | ((with_reducible show wpAny _ _ (eval _ _) _ _ _); first | ((with_reducible show wpAny _ _ (eval (PySem.Expr.IfExp ..) _) _ _ _); (refine ifexp_10 ?_)) | ((with_reducible show wpAny _ _ (eval (PySem.Expr.ListComp ..) _) _ _ _); (k_dflt (refine comp_start (by k_asm) (by with_unfolding_all rfl) (by decide) (by rfl) (by decide) (by rfl) (by intro _; rfl) ?_)))) | ((with_reducible show wpAny _ _ (compareOp _ _ _) _ _ _); first | ((with_reducible show wpAny _ _ (compareOp CmpOp.Eq (Value.ref _) (Value.ref _)) _ _ _); (k_dflt (refine' ints_eq (q := true) ?k1 ?k2 ?k3 ?k4 ?k5 ?k6 ?k7 ?_; (case k1 => k_asm); (case k2 => k_mem); (case k3 => k_mem); (case k4 => first | assumption | exact .cons _ _ .nil); (case k5 => first | assumption | exact .cons _ _ .nil); (case k6 => k_units); (case k7 => simp)))) | ((with_reducible show wpAny _ _ (compareOp CmpOp.NotEq (Value.ref _) (Value.ref _)) _ _ _); (k_dflt (refine' ints_ne (q := false) ?k1 ?k2 ?k3 ?k4 ?k5 ?k6 ?k7 ?_; (case k1 => k_asm); (case k2 => k_mem); (case k3 => k_mem); (case k4 => first | assumption | exact .cons _ _ .nil); (case k5 => first | assumption | exact .cons _ _ .nil); (case k6 => k_units); (case k7 => simp)))) | ((with_reducible show wpAny _ _ (compareOp CmpOp.NotEq (Value.ref _) (Value.ref _)) _ _ _); k_dflt (refine' ne_nil ?k1 ?k2 ?k3 ?k4 ?k5 ?k6 ?k7 ?_; (case k1 => k_asm); (case k2 => k_mem); (case k3 => k_mem); (case k4 => assumption); (case k5 => assumption); (case k6 => k_units); (case k7 => assumption))) | ((with_reducible show wpAny _ _ (compareOp CmpOp.In (Value.bool _) (Value.ref _)) _ _ _); (k_dflt (first | (refine' true_inB ?k1 ?k2 ?k3 ?k4 ?_; (case k1 => k_asm); (case k2 => k_mem); (case k3 => assumption); (case k4 => assumption)) | (refine' true_in ?k1 ?k2 ?k3 ?_; (case k1 => k_asm); (case k2 => k_mem); (case k3 => assumption))))) | ((with_reducible show wpAny _ _ (compareOp CmpOp.In Value.none (Value.ref _)) _ _ _); (k_dflt (refine' none_in_strs ?k1 ?k2 ?k3 ?_; (case k1 => k_asm); (case k2 => k_mem); (case k3 => assumption)))) | ((with_reducible show wpAny _ _ (compareOp CmpOp.In (Value.str _ _) (Value.ref _)) _ _ _); k_dflt (first | (refine' in_strsB ?k1 ?k2 ?k3 ?k4 ?_; (case k1 => k_asm); (case k2 => k_mem); (case k3 => assumption); (case k4 => assumption)) | (refine' in_strs ?k1 ?k2 ?k3 ?_; (case k1 => k_asm); (case k2 => k_mem); (case k3 => assumption)))) | ((with_reducible show wpAny _ _ (compareOp CmpOp.In (Value.str _ _) (Value.ref _)) _ _ _); (k_dflt (refine kda_in (knd := PySem.strKind _ _) (by k_asm) (by k_mem) (by k_asm) (by k_asm) (strKind_is _ _ _ _) _ (by assumption) ?_)))) | ((with_reducible show wpAny _ _ (getMethod (Value.ref _) (Str.ofString "get") _) _ _ _); k_dflt (refine kdg_method (knd := PySem.strKind _ _) (by k_asm) (by k_mem) (by k_asm) ?_)) | walk1 | (dsimp only; first | (k_unfold; (try dsimp only)) | walk1) | (leave1; (try dsimp only)) | fail "no step")
      refine Fin.mk led (by assumption) (by assumption) ?subZ ⟨rfl, rfl⟩
      (case subZ => (walk_at "sub"))))
end

-- C_classes
section
local macro_rules | `(tactic| walk_at "pad0") => `(tactic| fail "pad")
local macro_rules | `(tactic| walk_at "pad1") => `(tactic| fail "pad")
local macro_rules | `(tactic| walk_at "pad2") => `(tactic| fail "pad")
local macro_rules | `(tactic| walk_at "pad3") => `(tactic| fail "pad")
local macro_rules | `(tactic| k_get) => `(tactic| first | with_reducible assumption | exact putL_get (by with_reducible assumption))


local macro_rules | `(tactic| walk_at "KdnMade") => `(tactic| (k_here; k_dflt (refine' kdn_made_str ?F ?N ?U ?d ?k ?n ?_; (case F => k_asm); (case N => k_asm); (case U => k_updF); (case d => k_asm); (case k => rfl); (case n => first | (with_unfolding_all assumption) | exact of_decide_eq_true (by first | rfl | kernel_rfl!)); intro h' o' F' N' hd'); (try dsimp only at N')))

theorem kns_basic : ∀ x ∈ kns, x ∉ basicNames := by decide +kernel
structure ClSt where
  c : Int
  tc : Tok
  nits : List Value
  nn : Nat
  oA : Obj
  kvsA : List (Str × Value)
  esI : List DictEntry
  nI : Nat
  made : List (Addr × Obj)
  gl : List (Addr × Obj)
  G : List (Str × List Str)
structure UpSt where
  c : Int
  tc : Tok
  uits : List Value
  un : Nat
  xs : List Str
structure UpP (G : List (Str × List Str)) (j : Nat) (c : UpSt) : Prop where
  c0 : 0 ≤ c.c
  txt : StrsAre c.uits c.xs
  ok : ∀ p ∈ c.xs, p ∈ keys G
  len : c.xs.length ≤ j
/-- the state of classes, made -/
structure S4P (prog : Program) (w : World) (S dS t dt D U : Addr) (h1 h2 : Int) (t1 t2 : Tok) (oD oU : Obj) (esS : List DictEntry) (nS : Nat) (kvs : List (Str × Value)) (esI : List DictEntry) (made gl : List (Addr × Obj)) (G : List (Str × List Str)) : Prop where
  made : made = (S, instObj 813 dS) :: (dS, dictOf esS nS) :: (tabLed t dt D U h1 h2 t1 t2 oD oU ++ gl)
  s4 : getL (Str.ofString "s4") esI = some (some (.ref S))
  cls : getL (Str.ofString "classes") esS = some (some (.ref t))
  dD : oD.IsDictOf (PySem.strKind prog w) kvs
  dU : oU.IsDictOf (PySem.strKind prog w) []
  lD : (D == sysModules) = false
  lU : (U == sysModules) = false
  tab : Tab gl kvs G
  offD : ∀ o, Off D [(S, o), (dS, o), (t, o), (dt, o), (U, o)]
  offDg : Off D gl
  offS : ∀ o, Off S [(t, o), (dt, o), (D, o), (U, o)]
  offSg : Off S gl
  offdS : ∀ o, Off dS [(t, o), (dt, o), (D, o), (U, o)]
  offdSg : Off dS gl
structure ClP (prog : Program) (w : World) (b l ln A it di : Addr) (i : Nat) (c : ClSt) : Prop where
  c0 : 0 ≤ c.c
  names : StrsAre c.nits (keys c.G)
  ks : keys c.G = kns.take i
  cl : Closed c.G
  up : ∀ x, (ups c.G x).length ≤ 64
  dA : c.oA.IsDictOf (PySem.strKind prog w) c.kvsA
  abv : Abv c.gl c.kvsA c.G
  offs : ∀ a ∈ [b, l, ln, A, it, di], Off a c.made
  zero : i = 0 → c.made = [] ∧ c.gl = [] ∧ getL (Str.ofString "s4") c.esI = some (some .none) ∧ c.esI.length ≤ 100
  more : 0 < i → ∃ S dS t dt D U h1 h2 t1 t2 oD oU esS nS kvs, S4P prog w S dS t dt D U h1 h2 t1 t2 oD oU esS nS kvs c.esI c.made c.gl c.G
/-- what the law has made -/
abbrev ClsPost (prog : Program) (w : World) (b l it di : Addr) (its : List Value) (nb nl : Nat) (r : Value) (out : List (Addr × Obj)) : Prop :=
  ∃ T ln A n, ∃ c : ClSt, r = .ref T ∧ out = (T, tupOf [.ref ln, .ref A]) :: (b, listOf #[.ref l, .int c.c c.tc] nb) :: (l, listOf its.toArray nl) :: (ln, listOf c.nits.toArray c.nn) :: (A, c.oA) :: (it, instObj 575 di) :: (di, dictOf c.esI c.nI) :: c.made ∧
    1 ≤ n ∧ n ≤ 6 ∧ ClP prog w b l ln A it di n c ∧ (A == sysModules) = false ∧ ∀ o, Off b [(ln, o), (A, o), (it, o), (di, o)] ∧ Off l [(ln, o), (A, o), (it, o), (di, o)]
set_option maxHeartbeats 8000000 in
theorem c_classes (w : World) {mean : ExcName → Option Value} {mg mb : Str → Option Value} (b l it di : Addr) (its : List Value) (ns : List Int) (nb nl : Nat) (c : Int) (tc : Tok) (esI : List DictEntry) (nI : Nat)
  (hI : IntsAre its ns) (hlen : ns.length ≤ 63) (h0 : 0 ≤ c) (hbl : @Ne Nat b l) (hs4 : getL (Str.ofString "s4") esI = some (some .none)) (hes : esI.length ≤ 100)
  (hap : Apart [(b, listOf #[.ref l, .int c tc] nb), (l, listOf its.toArray nl)] [(it, instObj 575 di), (di, dictOf esI nI)]) (hid : @Ne Nat it di) :
  Tells1 PySem.Challenge.rw_pq1424_01.row.prog w (Mine.kAt w.params) Mine.viewQ (looseW Mine.viewQ [Str.ofString "match_names", Str.ofString "take"]) mean mg mb 838 [.ref b, .ref it] [] 20 ([(b, listOf #[.ref l, .int c tc] nb), (l, listOf its.toArray nl)] ++ [(it, instObj 575 di), (di, dictOf esI nI)])
   (ClsPost PySem.Challenge.rw_pq1424_01.row.prog w b l it di its nb nl) := by
  k_fill
  refine' tells1_enter (binds := [(Str.ofString "barrel", .ref b), (Str.ofString "interp", .ref it)]) ?k6 ?k7 ?kr ?k9 ?kB ?c2 ?c3 ?c4 ?c5 ?_
  (case k6 => k_is)
  (case k7 => k_is)
  (case kr => decide)
  (case k9 => intro s hX; first | exact BindsTo.of_eq rfl | exact binds_K (by k_in) rfl (by k_is) rfl rfl rfl)
  (case kB => exact locs rfl)
  (case c2 => exact rfl)
  (case c3 => exact rfl)
  (case c4 => exact rfl)
  (case c5 => decide)
  intro dp un gd cn cs a ccd cl outer base g L L' h₁ s tk hd hu F' N' B' X' T'
  (try dsimp only)
  (try k_fold)
  refine (let A1 := _; (?_ : wpAny _ A1 _ _ _ _))
  simp only [List.cons_append, List.nil_append] at N'
  repeat' (first | ((fail_if_success (fail_if_success k_unfold)); first | refine (?_ : wpAny _ _ (execs _ _) _ _ _) | (k_unfold; (try dsimp only))) | ((first | (with_reducible show wpAny _ _ (execs _ _) _ _ _) | (with_reducible show wpAny _ _ (exec _ _) _ _ _)); first | ((fail_if_success k_fold); refine wpAny_tok ?_; intro tk0) | ((fail_if_success (fail_if_success k_fold)); refine (let q0 := _; (?_ : wpAny _ _ _ q0 _ _)))) | ((with_reducible show wpAny _ _ (eval _ _) _ _ _); first | ((with_reducible show wpAny _ _ (eval (PySem.Expr.Dict ..) _) _ _ _); (k_dflt (refine' kdn_eval (knd := PySem.strKind _ _) ?F ?N ?b ?a ?l ?e ?n ?_; (case F => k_asm); (case N => k_asm); (case b => exact Top.nolimit (by k_asm)); (case a => rfl); (case l => rfl); (case e => exact List.cons_ne_nil _ _); (case n => exact Nat.le_of_ble_eq_true rfl)); intro _ _ _ F' N' l1 _ _; (try k_lt l1))) | ((with_reducible show wpAny _ _ (eval (PySem.Expr.IfExp ..) _) _ _ _); (refine stop_eval ?_))) | ((with_reducible show wpAny _ _ (exec (Stmt.For (PySem.Expr.Name ..) (PySem.Expr.Call ..) _ [] _) _) _ _ _); walk_at "for0") | ((with_reducible show wpAny _ _ (compareOp _ _ _) _ _ _); first | ((with_reducible show wpAny _ _ (compareOp CmpOp.NotIn (Value.str _ _) (Value.ref _)) _ _ _); k_dflt (first | (refine' notin_strsB ?k1 ?k2 ?k3 ?k4 ?_; (case k1 => k_asm); (case k2 => k_mem); (case k3 => assumption); (case k4 => assumption)) | (refine' notin_strs ?k1 ?k2 ?k3 ?_; (case k1 => k_asm); (case k2 => k_mem); (case k3 => assumption)))) | ((with_reducible show wpAny _ _ (compareOp CmpOp.NotIn (Value.str _ _) (Value.ref _)) _ _ _); (k_dflt (refine kdg_notin (knd := PySem.strKind _ _) (by k_asm) (by k_mem) (by k_asm) (by k_asm) (strKind_is _ _ _ _) _ (by assumption) ?_); (try dsimp only [Bool.not_true, Bool.not_false])))) | ((with_reducible show wpAny _ _ (getMethod (Value.ref _) (Str.ofString "get") _) _ _ _); k_dflt (refine kdg_method (knd := PySem.strKind _ _) (by k_asm) (by k_mem) (by k_asm) ?_)) | walk1 | (dsimp only; first | (k_unfold; (try dsimp only)) | walk1) | (leave1; (try dsimp only)) | fail "no step")
  rename News _ _ _ _ => N1
  rename_i A _ _ _ _ _ _ _ _ _ _ _ ln _ _ _ _
  rename (A == sysModules) = false => lA
  rename Obj.IsDictOf (PySem.strKind _ _) _ _ => hA0
  have offbl : ∀ o1 o2 o3 o4, Apart [(b, listOf #[.ref l, .int c tc] nb), (l, listOf its.toArray nl)] [(ln, o1), (A, o2), (it, o3), (di, o4)] := fun o1 o2 o3 o4 =>
    Apart.cons (Off.cons (by walk_at "om") (Off.cons (by walk_at "om") ((hap.off (.head _)).cons2 o3 o4))) (Apart.cons (Off.cons (by walk_at "om") (Off.cons (by walk_at "om") ((hap.off (.tail _ (.head _))).cons2 o3 o4))) Apart.nil)
  have hlnA : @Ne Nat ln A := by walk_at "om"
  have hlni : @Ne Nat ln it := by walk_at "om"
  have hlnd : @Ne Nat ln di := by walk_at "om"
  have hAi : @Ne Nat A it := by walk_at "om"
  have hAd : @Ne Nat A di := by walk_at "om"
  (refine' callAt_use (c_tap w b l its ns nb nl c tc 6 _ hI hlen h0 (by decide) hbl) ([(ln, _), (A, _), (it, instObj 575 di), (di, dictOf esI nI)]) ?B ?F ?X ?N ?T ?hk ?hin ?off ?hd ?hu ?_; (case B => k_asm); (case F => k_asm); (case X => k_asm); (case N => k_asm); (case T => k_asm); (case hk => exact rfl); (case hin => (walk_at "sub")); (case off => exact offbl _ _ _ _); (case hd => k_room); (case hu => k_units))
  refine elT ?_
  intro r tr tc1 hr0 hr6 h3 tk3 F3 N3 ap3
  simp only [List.cons_append, List.nil_append] at N3
  dsimp only
  repeat' (first | ((fail_if_success (fail_if_success k_unfold)); first | refine (?_ : wpAny _ _ (execs _ _) _ _ _) | (k_unfold; (try dsimp only))) | ((first | (with_reducible show wpAny _ _ (execs _ _) _ _ _) | (with_reducible show wpAny _ _ (exec _ _) _ _ _)); first | ((fail_if_success k_fold); refine wpAny_tok ?_; intro tk0) | ((fail_if_success (fail_if_success k_fold)); refine (let q0 := _; (?_ : wpAny _ _ _ q0 _ _)))) | ((with_reducible show wpAny _ _ (eval _ _) _ _ _); first | ((with_reducible show wpAny _ _ (eval (PySem.Expr.Dict ..) _) _ _ _); (k_dflt (refine' kdn_eval (knd := PySem.strKind _ _) ?F ?N ?b ?a ?l ?e ?n ?_; (case F => k_asm); (case N => k_asm); (case b => exact Top.nolimit (by k_asm)); (case a => rfl); (case l => rfl); (case e => exact List.cons_ne_nil _ _); (case n => exact Nat.le_of_ble_eq_true rfl)); intro _ _ _ F' N' l1 _ _; (try k_lt l1))) | ((with_reducible show wpAny _ _ (eval (PySem.Expr.IfExp ..) _) _ _ _); (refine stop_eval ?_))) | ((with_reducible show wpAny _ _ (exec (Stmt.For (PySem.Expr.Name ..) (PySem.Expr.Call ..) _ [] _) _) _ _ _); walk_at "for0") | ((with_reducible show wpAny _ _ (compareOp _ _ _) _ _ _); first | ((with_reducible show wpAny _ _ (compareOp CmpOp.NotIn (Value.str _ _) (Value.ref _)) _ _ _); k_dflt (first | (refine' notin_strsB ?k1 ?k2 ?k3 ?k4 ?_; (case k1 => k_asm); (case k2 => k_mem); (case k3 => assumption); (case k4 => assumption)) | (refine' notin_strs ?k1 ?k2 ?k3 ?_; (case k1 => k_asm); (case k2 => k_mem); (case k3 => assumption)))) | ((with_reducible show wpAny _ _ (compareOp CmpOp.NotIn (Value.str _ _) (Value.ref _)) _ _ _); (k_dflt (refine kdg_notin (knd := PySem.strKind _ _) (by k_asm) (by k_mem) (by k_asm) (by k_asm) (strKind_is _ _ _ _) _ (by assumption) ?_); (try dsimp only [Bool.not_true, Bool.not_false])))) | ((with_reducible show wpAny _ _ (getMethod (Value.ref _) (Str.ofString "get") _) _ _ _); k_dflt (refine kdg_method (knd := PySem.strKind _ _) (by k_asm) (by k_mem) (by k_asm) ?_)) | walk1 | (dsimp only; first | (k_unfold; (try dsimp only)) | walk1) | (leave1; (try dsimp only)) | fail "no step")
  rename News _ _ _ _ => N4
  rename Fr _ _ _ _ => F4
  have hb1 : @Ne Nat b it := (hap.off (.head _)).ne (.head _) |>.symm
  have hb2 : @Ne Nat b di := (hap.off (.head _)).ne (.tail _ (.head _)) |>.symm
  have hl1 : @Ne Nat l it := (hap.off (.tail _ (.head _))).ne (.head _) |>.symm
  have hl2 : @Ne Nat l di := (hap.off (.tail _ (.head _))).ne (.tail _ (.head _)) |>.symm
  have hbA : @LT.lt Nat _ b A := by walk_at "om"
  have hlA : @LT.lt Nat _ l A := by walk_at "om"
  have hiA : @LT.lt Nat _ it A := by walk_at "om"
  have hdA : @LT.lt Nat _ di A := by walk_at "om"
  have hAln : @LT.lt Nat _ A ln := by walk_at "om"
  have hrn : (1 + r - 0).toNat = (1 + r).toNat := by simp
  refine' for_range (σ := ClSt) (n := (1 + r).toNat) (fun c => (b, listOf #[.ref l, .int c.c c.tc] nb) :: (l, listOf its.toArray nl) :: (ln, listOf c.nits.toArray c.nn) :: (A, c.oA) :: (it, instObj 575 di) :: (di, dictOf c.esI c.nI) :: c.made) (fun _ => _)
    [Str.ofString "step", Str.ofString "ups", Str.ofString "lap", Str.ofString "one", Str.ofString "name"] (ClP PySem.Challenge.rw_pq1424_01.row.prog w b l ln A it di) [] ⟨c + 1, tc1, [], 0, _, [], esI, nI, [], [], []⟩ rfl PassesOwn.never (by assumption) (small1 (by walk_at "om") (by walk_at "om") (by walk_at "om") (by walk_at "om")) (by rw [rangeSize_nat, hrn]) F4 N4 ?hin Apart.nilR Mis.rfl' ?h0 ?turn ?done
  (case hin => (walk_at "sub"))
  (case h0 => exact ⟨by dsimp only; omega, .nil, rfl, Closed.nil, fun x => by simp [ups], hA0, .nil, fun a _ => Off.nil, fun _ => ⟨rfl, rfl, hs4, hes⟩, fun h => absurd h (Nat.lt_irrefl 0)⟩)
  clear N4 F4
  (case turn =>
    intro i t9 cs9 u4 I oI hp4 tk4 hi4 hP F4 N4 ap4
    (try refine (let q0 := _; (?_ : wpAny _ _ _ q0 _ _)))
    obtain ⟨cc, tcc, nits, nn, oA, kvsA, es4, nI4, made, gl, G⟩ := cs9
    obtain ⟨p0, pn, pk, pc, pu, pd, pa, po, pz, pm⟩ := hP
    dsimp only at *
    have offI := ap4.symm.off (.head _)
    simp only [List.cons_append, List.nil_append, List.append_nil] at N4 offI
    have ez : (0 : Int) + (i : Nat) = (i : Int) := by walk_at "om"
    rw [ez]
    have hIb : @Ne Nat I b := (offI.ne (.head _)).symm
    have hIl : @Ne Nat I l := (offI.ne (.tail _ (.head _))).symm
    have hIn : @Ne Nat I ln := (offI.ne (.tail _ (.tail _ (.head _)))).symm
    have hIA : @Ne Nat I A := (offI.ne (.tail _ (.tail _ (.tail _ (.head _))))).symm
    have hIi : @Ne Nat I it := (offI.ne (.tail _ (.tail _ (.tail _ (.tail _ (.head _)))))).symm
    have hId : @Ne Nat I di := (offI.ne (.tail _ (.tail _ (.tail _ (.tail _ (.tail _ (.head _))))))).symm
    have oIm : Off I made := offI.sub fun _ h => .tail _ (.tail _ (.tail _ (.tail _ (.tail _ (.tail _ h)))))
    have ob := po b (by simp)
    have ol := po l (by simp)
    have oln := po ln (by simp)
    have oAm := po A (by simp)
    have oit := po it (by simp)
    have odi := po di (by simp)
    have N5 : News g L' hp4 ((I, oI) :: (b, listOf #[.ref l, .int cc tcc] nb) :: (l, listOf its.toArray nl) :: (ln, listOf nits.toArray nn) :: (A, oA) :: (it, instObj 575 di) :: (di, dictOf es4 nI4) :: made) := newsPick N4 (by (walk_at "sub"))
    clear N4 ap4 offI
    repeat' (first | ((fail_if_success (fail_if_success k_unfold)); first | refine (?_ : wpAny _ _ (execs _ _) _ _ _) | (k_unfold; (try dsimp only))) | ((first | (with_reducible show wpAny _ _ (execs _ _) _ _ _) | (with_reducible show wpAny _ _ (exec _ _) _ _ _)); first | ((fail_if_success k_fold); refine wpAny_tok ?_; intro tk0) | ((fail_if_success (fail_if_success k_fold)); refine (let q0 := _; (?_ : wpAny _ _ _ q0 _ _)))) | ((with_reducible show wpAny _ _ (eval _ _) _ _ _); first | ((with_reducible show wpAny _ _ (eval (PySem.Expr.Dict ..) _) _ _ _); (k_dflt (refine' kdn_eval (knd := PySem.strKind _ _) ?F ?N ?b ?a ?l ?e ?n ?_; (case F => k_asm); (case N => k_asm); (case b => exact Top.nolimit (by k_asm)); (case a => rfl); (case l => rfl); (case e => exact List.cons_ne_nil _ _); (case n => exact Nat.le_of_ble_eq_true rfl)); intro _ _ _ F' N' l1 _ _; (try k_lt l1))) | ((with_reducible show wpAny _ _ (eval (PySem.Expr.IfExp ..) _) _ _ _); (refine stop_eval ?_))) | ((with_reducible show wpAny _ _ (exec (Stmt.For (PySem.Expr.Name ..) (PySem.Expr.Call ..) _ [] _) _) _ _ _); walk_at "for0") | ((with_reducible show wpAny _ _ (compareOp _ _ _) _ _ _); first | ((with_reducible show wpAny _ _ (compareOp CmpOp.NotIn (Value.str _ _) (Value.ref _)) _ _ _); k_dflt (first | (refine' notin_strsB ?k1 ?k2 ?k3 ?k4 ?_; (case k1 => k_asm); (case k2 => k_mem); (case k3 => assumption); (case k4 => assumption)) | (refine' notin_strs ?k1 ?k2 ?k3 ?_; (case k1 => k_asm); (case k2 => k_mem); (case k3 => assumption)))) | ((with_reducible show wpAny _ _ (compareOp CmpOp.NotIn (Value.str _ _) (Value.ref _)) _ _ _); (k_dflt (refine kdg_notin (knd := PySem.strKind _ _) (by k_asm) (by k_mem) (by k_asm) (by k_asm) (strKind_is _ _ _ _) _ (by assumption) ?_); (try dsimp only [Bool.not_true, Bool.not_false])))) | ((with_reducible show wpAny _ _ (getMethod (Value.ref _) (Str.ofString "get") _) _ _ _); k_dflt (refine kdg_method (knd := PySem.strKind _ _) (by k_asm) (by k_mem) (by k_asm) ?_)) | walk1 | (dsimp only; first | (k_unfold; (try dsimp only)) | walk1) | (leave1; (try dsimp only)) | fail "no step")
    rename News _ _ _ _ => N6
    rename_i u _ _ _ _
    have hub : @LT.lt Nat _ b u := by walk_at "om"
    have hul : @LT.lt Nat _ l u := by walk_at "om"
    have hun : @LT.lt Nat _ ln u := by walk_at "om"
    have huA : @LT.lt Nat _ A u := by walk_at "om"
    have hui : @LT.lt Nat _ it u := by walk_at "om"
    have hud : @LT.lt Nat _ di u := by walk_at "om"
    have hIu : @LT.lt Nat _ I u := by walk_at "om"
    have oum : Off u made := Off.of_lt (by assumption) (by (walk_at "sub"))
    rename Fr _ _ _ _ => F6
    obtain ⟨m0, hm0⟩ := capture F6
    refine' eval_join (fun v s' => Hold (∃ r' tr' cc' tcc' h' tk', v = .int r' tr' ∧ s' = { s with heap := h', toks := tk' } ∧ 0 ≤ r' ∧ r' < 3 ∧ (i = 0 → r' = 0) ∧ 0 ≤ cc' ∧ Fr g L' h' m0 ∧ News g L' h' ((b, listOf #[.ref l, .int cc' tcc'] nb) :: (u, listOf #[] 0) :: (I, oI) :: (l, listOf its.toArray nl) :: (ln, listOf nits.toArray nn) :: (A, oA) :: (it, instObj 575 di) :: (di, dictOf es4 nI4) :: made))) ?arms ?go
    (case arms =>
      refine IfExp_ ?_
      rcases Nat.eq_zero_or_pos i with rfl | hip
      · repeat' (first | ((fail_if_success (fail_if_success k_unfold)); first | refine (?_ : wpAny _ _ (execs _ _) _ _ _) | (k_unfold; (try dsimp only))) | ((first | (with_reducible show wpAny _ _ (execs _ _) _ _ _) | (with_reducible show wpAny _ _ (exec _ _) _ _ _)); first | ((fail_if_success k_fold); refine wpAny_tok ?_; intro tk0) | ((fail_if_success (fail_if_success k_fold)); refine (let q0 := _; (?_ : wpAny _ _ _ q0 _ _)))) | ((with_reducible show wpAny _ _ (eval _ _) _ _ _); first | ((with_reducible show wpAny _ _ (eval (PySem.Expr.Dict ..) _) _ _ _); (k_dflt (refine' kdn_eval (knd := PySem.strKind _ _) ?F ?N ?b ?a ?l ?e ?n ?_; (case F => k_asm); (case N => k_asm); (case b => exact Top.nolimit (by k_asm)); (case a => rfl); (case l => rfl); (case e => exact List.cons_ne_nil _ _); (case n => exact Nat.le_of_ble_eq_true rfl)); intro _ _ _ F' N' l1 _ _; (try k_lt l1))) | ((with_reducible show wpAny _ _ (eval (PySem.Expr.IfExp ..) _) _ _ _); (refine stop_eval ?_))) | ((with_reducible show wpAny _ _ (exec (Stmt.For (PySem.Expr.Name ..) (PySem.Expr.Call ..) _ [] _) _) _ _ _); walk_at "for0") | ((with_reducible show wpAny _ _ (compareOp _ _ _) _ _ _); first | ((with_reducible show wpAny _ _ (compareOp CmpOp.NotIn (Value.str _ _) (Value.ref _)) _ _ _); k_dflt (first | (refine' notin_strsB ?k1 ?k2 ?k3 ?k4 ?_; (case k1 => k_asm); (case k2 => k_mem); (case k3 => assumption); (case k4 => assumption)) | (refine' notin_strs ?k1 ?k2 ?k3 ?_; (case k1 => k_asm); (case k2 => k_mem); (case k3 => assumption)))) | ((with_reducible show wpAny _ _ (compareOp CmpOp.NotIn (Value.str _ _) (Value.ref _)) _ _ _); (k_dflt (refine kdg_notin (knd := PySem.strKind _ _) (by k_asm) (by k_mem) (by k_asm) (by k_asm) (strKind_is _ _ _ _) _ (by assumption) ?_); (try dsimp only [Bool.not_true, Bool.not_false])))) | ((with_reducible show wpAny _ _ (getMethod (Value.ref _) (Str.ofString "get") _) _ _ _); k_dflt (refine kdg_method (knd := PySem.strKind _ _) (by k_asm) (by k_mem) (by k_asm) ?_)) | walk1 | (dsimp only; first | (k_unfold; (try dsimp only)) | walk1) | (leave1; (try dsimp only)) | fail "no step")
        exact Hold.mk ⟨0, _, cc, tcc, _, _, rfl, rfl, Int.le_refl _, by decide, fun _ => rfl, p0, by rw [hm0]; assumption, newsPick N6 (by (walk_at "sub"))⟩
      · have hip2 : (0 : Int) < i := by walk_at "om"
        repeat' (first | ((fail_if_success (fail_if_success k_unfold)); first | refine (?_ : wpAny _ _ (execs _ _) _ _ _) | (k_unfold; (try dsimp only))) | ((first | (with_reducible show wpAny _ _ (execs _ _) _ _ _) | (with_reducible show wpAny _ _ (exec _ _) _ _ _)); first | ((fail_if_success k_fold); refine wpAny_tok ?_; intro tk0) | ((fail_if_success (fail_if_success k_fold)); refine (let q0 := _; (?_ : wpAny _ _ _ q0 _ _)))) | ((with_reducible show wpAny _ _ (eval _ _) _ _ _); first | ((with_reducible show wpAny _ _ (eval (PySem.Expr.Dict ..) _) _ _ _); (k_dflt (refine' kdn_eval (knd := PySem.strKind _ _) ?F ?N ?b ?a ?l ?e ?n ?_; (case F => k_asm); (case N => k_asm); (case b => exact Top.nolimit (by k_asm)); (case a => rfl); (case l => rfl); (case e => exact List.cons_ne_nil _ _); (case n => exact Nat.le_of_ble_eq_true rfl)); intro _ _ _ F' N' l1 _ _; (try k_lt l1))) | ((with_reducible show wpAny _ _ (eval (PySem.Expr.IfExp ..) _) _ _ _); (refine stop_eval ?_))) | ((with_reducible show wpAny _ _ (exec (Stmt.For (PySem.Expr.Name ..) (PySem.Expr.Call ..) _ [] _) _) _ _ _); walk_at "for0") | ((with_reducible show wpAny _ _ (compareOp _ _ _) _ _ _); first | ((with_reducible show wpAny _ _ (compareOp CmpOp.NotIn (Value.str _ _) (Value.ref _)) _ _ _); k_dflt (first | (refine' notin_strsB ?k1 ?k2 ?k3 ?k4 ?_; (case k1 => k_asm); (case k2 => k_mem); (case k3 => assumption); (case k4 => assumption)) | (refine' notin_strs ?k1 ?k2 ?k3 ?_; (case k1 => k_asm); (case k2 => k_mem); (case k3 => assumption)))) | ((with_reducible show wpAny _ _ (compareOp CmpOp.NotIn (Value.str _ _) (Value.ref _)) _ _ _); (k_dflt (refine kdg_notin (knd := PySem.strKind _ _) (by k_asm) (by k_mem) (by k_asm) (by k_asm) (strKind_is _ _ _ _) _ (by assumption) ?_); (try dsimp only [Bool.not_true, Bool.not_false])))) | ((with_reducible show wpAny _ _ (getMethod (Value.ref _) (Str.ofString "get") _) _ _ _); k_dflt (refine kdg_method (knd := PySem.strKind _ _) (by k_asm) (by k_mem) (by k_asm) ?_)) | walk1 | (dsimp only; first | (k_unfold; (try dsimp only)) | walk1) | (leave1; (try dsimp only)) | fail "no step")
        (refine' callAt_use (c_tap w b l its ns nb nl cc tcc 3 _ hI hlen p0 (by decide) hbl) ((u, listOf #[] 0) :: (I, oI) :: (ln, listOf nits.toArray nn) :: (A, oA) :: (it, instObj 575 di) :: (di, dictOf es4 nI4) :: made) ?B ?F ?X ?N ?T ?hk ?hin ?off ?hd ?hu ?_; (case B => k_asm); (case F => k_asm); (case X => k_asm); (case N => k_asm); (case T => k_asm); (case hk => exact rfl); (case hin => (walk_at "sub")); (case off => (repeat' (first | assumption | exact Apart.nil | exact Apart.nilR | (refine Apart.cons ?_ ?_) | (refine Apart.app ?_ ?_) | (refine Apart.symm ?_; assumption) | ((refine Off.of_lt (by assumption) ?_; (walk_at "sub")); done) | k_all))); (case hd => k_room); (case hu => k_units))
        refine elT ?_
        intro r5 tr5 tc5 hr50 hr53 h3 tk3 F3 N3 ap3
        exact Hold.mk ⟨r5, tr5, cc + 1, tc5, _, _, rfl, rfl, hr50, hr53, fun e => absurd e (by walk_at "om"), by omega, by rw [hm0]; assumption, newsPick N3 (by (walk_at "sub"))⟩)
    (case go =>
      intro v s' hJ
      obtain ⟨r', tr', cc', tcc', h', tk', rfl, rfl, q0, q3, qz, qc, F7, N7⟩ := hJ.out
      clear hJ
      subst hm0
      (try dsimp only)
      repeat' (first | ((fail_if_success (fail_if_success k_unfold)); first | refine (?_ : wpAny _ _ (execs _ _) _ _ _) | (k_unfold; (try dsimp only))) | ((first | (with_reducible show wpAny _ _ (execs _ _) _ _ _) | (with_reducible show wpAny _ _ (exec _ _) _ _ _)); first | ((fail_if_success k_fold); refine wpAny_tok ?_; intro tk0) | ((fail_if_success (fail_if_success k_fold)); refine (let q0 := _; (?_ : wpAny _ _ _ q0 _ _)))) | ((with_reducible show wpAny _ _ (eval _ _) _ _ _); first | ((with_reducible show wpAny _ _ (eval (PySem.Expr.Dict ..) _) _ _ _); (k_dflt (refine' kdn_eval (knd := PySem.strKind _ _) ?F ?N ?b ?a ?l ?e ?n ?_; (case F => k_asm); (case N => k_asm); (case b => exact Top.nolimit (by k_asm)); (case a => rfl); (case l => rfl); (case e => exact List.cons_ne_nil _ _); (case n => exact Nat.le_of_ble_eq_true rfl)); intro _ _ _ F' N' l1 _ _; (try k_lt l1))) | ((with_reducible show wpAny _ _ (eval (PySem.Expr.IfExp ..) _) _ _ _); (refine stop_eval ?_))) | ((with_reducible show wpAny _ _ (exec (Stmt.For (PySem.Expr.Name ..) (PySem.Expr.Call ..) _ [] _) _) _ _ _); walk_at "for0") | ((with_reducible show wpAny _ _ (compareOp _ _ _) _ _ _); first | ((with_reducible show wpAny _ _ (compareOp CmpOp.NotIn (Value.str _ _) (Value.ref _)) _ _ _); k_dflt (first | (refine' notin_strsB ?k1 ?k2 ?k3 ?k4 ?_; (case k1 => k_asm); (case k2 => k_mem); (case k3 => assumption); (case k4 => assumption)) | (refine' notin_strs ?k1 ?k2 ?k3 ?_; (case k1 => k_asm); (case k2 => k_mem); (case k3 => assumption)))) | ((with_reducible show wpAny _ _ (compareOp CmpOp.NotIn (Value.str _ _) (Value.ref _)) _ _ _); (k_dflt (refine kdg_notin (knd := PySem.strKind _ _) (by k_asm) (by k_mem) (by k_asm) (by k_asm) (strKind_is _ _ _ _) _ (by assumption) ?_); (try dsimp only [Bool.not_true, Bool.not_false])))) | ((with_reducible show wpAny _ _ (getMethod (Value.ref _) (Str.ofString "get") _) _ _ _); k_dflt (refine kdg_method (knd := PySem.strKind _ _) (by k_asm) (by k_mem) (by k_asm) ?_)) | walk1 | (dsimp only; first | (k_unfold; (try dsimp only)) | walk1) | (leave1; (try dsimp only)) | fail "no step")
      rename News _ _ _ _ => N8
      rename Fr _ _ _ _ => F8
      have hnl : nits.length = (keys G).length := pn.length
      have hnk : (keys G).length = min i 6 := by rw [pk, List.length_take]; rfl
      have hi6 : i < 6 := by walk_at "om"
      refine' for_range (σ := UpSt) (n := (r' - 0).toNat) (fun c => [(b, listOf #[.ref l, .int c.c c.tc] nb), (l, listOf its.toArray nl), (u, listOf c.uits.toArray c.un)]) (fun _ => _) [Str.ofString "lap", Str.ofString "one"] (UpP G)
        ((I, oI) :: (ln, listOf nits.toArray nn) :: (A, oA) :: (it, instObj 575 di) :: (di, dictOf es4 nI4) :: made) ⟨cc', tcc', [], 0, []⟩ rfl PassesOwn.never (by assumption) (small1 (by walk_at "om") (by walk_at "om") (by walk_at "om") (by walk_at "om")) (rangeSize_nat _ _) F8 N8 ?hin2 ?ap2 Mis.rfl' ⟨qc, .nil, (fun _ h => nomatch h), Nat.le_refl 0⟩ ?turn2 ?done2
      (case hin2 => (walk_at "sub"))
      (case ap2 => (repeat' (first | assumption | exact Apart.nil | exact Apart.nilR | (refine Apart.cons ?_ ?_) | (refine Apart.app ?_ ?_) | (refine Apart.symm ?_; assumption) | ((refine Off.of_lt (by assumption) ?_; (walk_at "sub")); done) | k_all)))
      (case turn2 =>
        intro j t10 c u6 I6 oI6 hp6 tk6 hj6 hP6 F6 N6 ap6
        (try refine (let q0 := _; (?_ : wpAny _ _ _ q0 _ _)))
        obtain ⟨c6, tc6, uits, un, xs⟩ := c
        obtain ⟨w0, ws, wk, wl⟩ := hP6
        dsimp only at *
        simp only [List.cons_append, List.nil_append] at N6
        have hpos : 0 < i := by
          rcases Nat.eq_zero_or_pos i with e | e
          · have := qz e; omega
          · exact e
        have hbI6 : @Ne Nat I6 b := (ap6.off (.head _)).ne (.head _)
        have hlI6 : @Ne Nat I6 l := (ap6.off (.tail _ (.head _))).ne (.head _)
        have huI6 : @Ne Nat I6 u := (ap6.off (.tail _ (.tail _ (.head _)))).ne (.head _)
        have hwl := ws.length
        repeat' (first | ((fail_if_success (fail_if_success k_unfold)); first | refine (?_ : wpAny _ _ (execs _ _) _ _ _) | (k_unfold; (try dsimp only))) | ((first | (with_reducible show wpAny _ _ (execs _ _) _ _ _) | (with_reducible show wpAny _ _ (exec _ _) _ _ _)); first | ((fail_if_success k_fold); refine wpAny_tok ?_; intro tk0) | ((fail_if_success (fail_if_success k_fold)); refine (let q0 := _; (?_ : wpAny _ _ _ q0 _ _)))) | ((with_reducible show wpAny _ _ (eval _ _) _ _ _); first | ((with_reducible show wpAny _ _ (eval (PySem.Expr.Dict ..) _) _ _ _); (k_dflt (refine' kdn_eval (knd := PySem.strKind _ _) ?F ?N ?b ?a ?l ?e ?n ?_; (case F => k_asm); (case N => k_asm); (case b => exact Top.nolimit (by k_asm)); (case a => rfl); (case l => rfl); (case e => exact List.cons_ne_nil _ _); (case n => exact Nat.le_of_ble_eq_true rfl)); intro _ _ _ F' N' l1 _ _; (try k_lt l1))) | ((with_reducible show wpAny _ _ (eval (PySem.Expr.IfExp ..) _) _ _ _); (refine stop_eval ?_))) | ((with_reducible show wpAny _ _ (exec (Stmt.For (PySem.Expr.Name ..) (PySem.Expr.Call ..) _ [] _) _) _ _ _); walk_at "for0") | ((with_reducible show wpAny _ _ (compareOp _ _ _) _ _ _); first | ((with_reducible show wpAny _ _ (compareOp CmpOp.NotIn (Value.str _ _) (Value.ref _)) _ _ _); k_dflt (first | (refine' notin_strsB ?k1 ?k2 ?k3 ?k4 ?_; (case k1 => k_asm); (case k2 => k_mem); (case k3 => assumption); (case k4 => assumption)) | (refine' notin_strs ?k1 ?k2 ?k3 ?_; (case k1 => k_asm); (case k2 => k_mem); (case k3 => assumption)))) | ((with_reducible show wpAny _ _ (compareOp CmpOp.NotIn (Value.str _ _) (Value.ref _)) _ _ _); (k_dflt (refine kdg_notin (knd := PySem.strKind _ _) (by k_asm) (by k_mem) (by k_asm) (by k_asm) (strKind_is _ _ _ _) _ (by assumption) ?_); (try dsimp only [Bool.not_true, Bool.not_false])))) | ((with_reducible show wpAny _ _ (getMethod (Value.ref _) (Str.ofString "get") _) _ _ _); k_dflt (refine kdg_method (knd := PySem.strKind _ _) (by k_asm) (by k_mem) (by k_asm) ?_)) | walk1 | (dsimp only; first | (k_unfold; (try dsimp only)) | walk1) | (leave1; (try dsimp only)) | fail "no step")
        (refine' callAt_use (c_tap w b l its ns nb nl c6 tc6 (nits.length : Int) _ hI hlen w0 (by walk_at "om") hbl) ((u, listOf uits.toArray un) :: (I6, oI6) :: (I, oI) :: (ln, listOf nits.toArray nn) :: (A, oA) :: (it, instObj 575 di) :: (di, dictOf es4 nI4) :: made) ?B ?F ?X ?N ?T ?hk ?hin ?off ?hd ?hu ?_; (case B => k_asm); (case F => k_asm); (case X => k_asm); (case N => k_asm); (case T => k_asm); (case hk => exact rfl); (case hin => (walk_at "sub")); (case off => (repeat' (first | assumption | exact Apart.nil | exact Apart.nilR | (refine Apart.cons ?_ ?_) | (refine Apart.app ?_ ?_) | (refine Apart.symm ?_; assumption) | ((refine Off.of_lt (by assumption) ?_; (walk_at "sub")); done) | k_all))); (case hd => k_room); (case hu => k_units))
        refine elT ?_
        intro r5 tr5 tc5 hr50 hr53 h3 tk3 F3 N3 ap3
        obtain ⟨y, hy⟩ : ∃ y, (keys G)[r5.toNat]? = some y := ⟨_, List.getElem?_eq_getElem (by walk_at "om")⟩
        obtain ⟨ty, hyv⟩ := pn.get r5.toNat y hy
        simp only [List.cons_append, List.nil_append] at N3
        dsimp only
        by_cases hyx : y ∈ xs
        · have hb : (!decide (y ∈ xs)) = false := by simp [hyx]
          repeat' (first | ((fail_if_success (fail_if_success k_unfold)); first | refine (?_ : wpAny _ _ (execs _ _) _ _ _) | (k_unfold; (try dsimp only))) | ((first | (with_reducible show wpAny _ _ (execs _ _) _ _ _) | (with_reducible show wpAny _ _ (exec _ _) _ _ _)); first | ((fail_if_success k_fold); refine wpAny_tok ?_; intro tk0) | ((fail_if_success (fail_if_success k_fold)); refine (let q0 := _; (?_ : wpAny _ _ _ q0 _ _)))) | ((with_reducible show wpAny _ _ (eval _ _) _ _ _); first | ((with_reducible show wpAny _ _ (eval (PySem.Expr.Dict ..) _) _ _ _); (k_dflt (refine' kdn_eval (knd := PySem.strKind _ _) ?F ?N ?b ?a ?l ?e ?n ?_; (case F => k_asm); (case N => k_asm); (case b => exact Top.nolimit (by k_asm)); (case a => rfl); (case l => rfl); (case e => exact List.cons_ne_nil _ _); (case n => exact Nat.le_of_ble_eq_true rfl)); intro _ _ _ F' N' l1 _ _; (try k_lt l1))) | ((with_reducible show wpAny _ _ (eval (PySem.Expr.IfExp ..) _) _ _ _); (refine stop_eval ?_))) | ((with_reducible show wpAny _ _ (exec (Stmt.For (PySem.Expr.Name ..) (PySem.Expr.Call ..) _ [] _) _) _ _ _); walk_at "for0") | ((with_reducible show wpAny _ _ (compareOp _ _ _) _ _ _); first | ((with_reducible show wpAny _ _ (compareOp CmpOp.NotIn (Value.str _ _) (Value.ref _)) _ _ _); k_dflt (first | (refine' notin_strsB ?k1 ?k2 ?k3 ?k4 ?_; (case k1 => k_asm); (case k2 => k_mem); (case k3 => assumption); (case k4 => assumption)) | (refine' notin_strs ?k1 ?k2 ?k3 ?_; (case k1 => k_asm); (case k2 => k_mem); (case k3 => assumption)))) | ((with_reducible show wpAny _ _ (compareOp CmpOp.NotIn (Value.str _ _) (Value.ref _)) _ _ _); (k_dflt (refine kdg_notin (knd := PySem.strKind _ _) (by k_asm) (by k_mem) (by k_asm) (by k_asm) (strKind_is _ _ _ _) _ (by assumption) ?_); (try dsimp only [Bool.not_true, Bool.not_false])))) | ((with_reducible show wpAny _ _ (getMethod (Value.ref _) (Str.ofString "get") _) _ _ _); k_dflt (refine kdg_method (knd := PySem.strKind _ _) (by k_asm) (by k_mem) (by k_asm) ?_)) | walk1 | (dsimp only; first | (k_unfold; (try dsimp only)) | walk1) | (leave1; (try dsimp only)) | fail "no step")
          refine TurnEnd.next ⟨c6 + 1, tc5, uits, un, xs⟩ (by assumption) ?misA (by assumption) ?subA ap6.retype ⟨by dsimp only; omega, ws, wk, Nat.le_succ_of_le wl⟩
          (case misA => (repeat' (first | exact Mis.mix | (refine Mis.put rfl ?_) | (refine Mis.mixIn rfl ?_) | exact Mis.rfl')))
          (case subA => (walk_at "sub"))
        · have hb : (!decide (y ∈ xs)) = true := by simp [hyx]
          repeat' (first | ((fail_if_success (fail_if_success k_unfold)); first | refine (?_ : wpAny _ _ (execs _ _) _ _ _) | (k_unfold; (try dsimp only))) | ((first | (with_reducible show wpAny _ _ (execs _ _) _ _ _) | (with_reducible show wpAny _ _ (exec _ _) _ _ _)); first | ((fail_if_success k_fold); refine wpAny_tok ?_; intro tk0) | ((fail_if_success (fail_if_success k_fold)); refine (let q0 := _; (?_ : wpAny _ _ _ q0 _ _)))) | ((with_reducible show wpAny _ _ (eval _ _) _ _ _); first | ((with_reducible show wpAny _ _ (eval (PySem.Expr.Dict ..) _) _ _ _); (k_dflt (refine' kdn_eval (knd := PySem.strKind _ _) ?F ?N ?b ?a ?l ?e ?n ?_; (case F => k_asm); (case N => k_asm); (case b => exact Top.nolimit (by k_asm)); (case a => rfl); (case l => rfl); (case e => exact List.cons_ne_nil _ _); (case n => exact Nat.le_of_ble_eq_true rfl)); intro _ _ _ F' N' l1 _ _; (try k_lt l1))) | ((with_reducible show wpAny _ _ (eval (PySem.Expr.IfExp ..) _) _ _ _); (refine stop_eval ?_))) | ((with_reducible show wpAny _ _ (exec (Stmt.For (PySem.Expr.Name ..) (PySem.Expr.Call ..) _ [] _) _) _ _ _); walk_at "for0") | ((with_reducible show wpAny _ _ (compareOp _ _ _) _ _ _); first | ((with_reducible show wpAny _ _ (compareOp CmpOp.NotIn (Value.str _ _) (Value.ref _)) _ _ _); k_dflt (first | (refine' notin_strsB ?k1 ?k2 ?k3 ?k4 ?_; (case k1 => k_asm); (case k2 => k_mem); (case k3 => assumption); (case k4 => assumption)) | (refine' notin_strs ?k1 ?k2 ?k3 ?_; (case k1 => k_asm); (case k2 => k_mem); (case k3 => assumption)))) | ((with_reducible show wpAny _ _ (compareOp CmpOp.NotIn (Value.str _ _) (Value.ref _)) _ _ _); (k_dflt (refine kdg_notin (knd := PySem.strKind _ _) (by k_asm) (by k_mem) (by k_asm) (by k_asm) (strKind_is _ _ _ _) _ (by assumption) ?_); (try dsimp only [Bool.not_true, Bool.not_false])))) | ((with_reducible show wpAny _ _ (getMethod (Value.ref _) (Str.ofString "get") _) _ _ _); k_dflt (refine kdg_method (knd := PySem.strKind _ _) (by k_asm) (by k_mem) (by k_asm) ?_)) | walk1 | (dsimp only; first | (k_unfold; (try dsimp only)) | walk1) | (leave1; (try dsimp only)) | fail "no step")
          refine TurnEnd.next ⟨c6 + 1, tc5, uits ++ [.str y ty], un + 1, xs ++ [y]⟩ (by assumption) ?misB (by assumption) ?subB ?apB ⟨by dsimp only; omega, StrsAre.snoc ws y ty, ?okB, by dsimp only; rw [List.length_append]; exact Nat.succ_le_succ wl⟩
          (case misB => (repeat' (first | exact Mis.mix | (refine Mis.put rfl ?_) | (refine Mis.mixIn rfl ?_) | exact Mis.rfl')))
          (case subB => (walk_at "sub"))
          (case apB => exact ap6.retype)
          (case okB =>
            intro p hp
            rcases List.mem_append.mp hp with hp | hp
            · exact wk p hp
            · rw [List.mem_singleton.mp hp]; exact List.mem_of_getElem? hy))
      (case done2 =>
        intro c u7 h7 tk7 hP7 F9 N9 ap7
        obtain ⟨c7, tc7, uits, un, xs⟩ := c
        obtain ⟨w0, ws, wk, wl⟩ := hP7
        dsimp only at *
        simp only [List.cons_append, List.nil_append] at N9
        repeat' (first | ((fail_if_success (fail_if_success k_unfold)); first | refine (?_ : wpAny _ _ (execs _ _) _ _ _) | (k_unfold; (try dsimp only))) | ((first | (with_reducible show wpAny _ _ (execs _ _) _ _ _) | (with_reducible show wpAny _ _ (exec _ _) _ _ _)); first | ((fail_if_success k_fold); refine wpAny_tok ?_; intro tk0) | ((fail_if_success (fail_if_success k_fold)); refine (let q0 := _; (?_ : wpAny _ _ _ q0 _ _)))) | ((with_reducible show wpAny _ _ (eval _ _) _ _ _); first | ((with_reducible show wpAny _ _ (eval (PySem.Expr.Dict ..) _) _ _ _); (k_dflt (refine' kdn_eval (knd := PySem.strKind _ _) ?F ?N ?b ?a ?l ?e ?n ?_; (case F => k_asm); (case N => k_asm); (case b => exact Top.nolimit (by k_asm)); (case a => rfl); (case l => rfl); (case e => exact List.cons_ne_nil _ _); (case n => exact Nat.le_of_ble_eq_true rfl)); intro _ _ _ F' N' l1 _ _; (try k_lt l1))) | ((with_reducible show wpAny _ _ (eval (PySem.Expr.IfExp ..) _) _ _ _); (refine stop_eval ?_))) | ((with_reducible show wpAny _ _ (exec (Stmt.For (PySem.Expr.Name ..) (PySem.Expr.Call ..) _ [] _) _) _ _ _); walk_at "for0") | ((with_reducible show wpAny _ _ (compareOp _ _ _) _ _ _); first | ((with_reducible show wpAny _ _ (compareOp CmpOp.NotIn (Value.str _ _) (Value.ref _)) _ _ _); k_dflt (first | (refine' notin_strsB ?k1 ?k2 ?k3 ?k4 ?_; (case k1 => k_asm); (case k2 => k_mem); (case k3 => assumption); (case k4 => assumption)) | (refine' notin_strs ?k1 ?k2 ?k3 ?_; (case k1 => k_asm); (case k2 => k_mem); (case k3 => assumption)))) | ((with_reducible show wpAny _ _ (compareOp CmpOp.NotIn (Value.str _ _) (Value.ref _)) _ _ _); (k_dflt (refine kdg_notin (knd := PySem.strKind _ _) (by k_asm) (by k_mem) (by k_asm) (by k_asm) (strKind_is _ _ _ _) _ (by assumption) ?_); (try dsimp only [Bool.not_true, Bool.not_false])))) | ((with_reducible show wpAny _ _ (getMethod (Value.ref _) (Str.ofString "get") _) _ _ _); k_dflt (refine kdg_method (knd := PySem.strKind _ _) (by k_asm) (by k_mem) (by k_asm) ?_)) | walk1 | (dsimp only; first | (k_unfold; (try dsimp only)) | walk1) | (leave1; (try dsimp only)) | fail "no step")
        rename News _ _ _ _ => N10
        rename Fr _ _ _ _ => F10
        rw [kn_eq hi6] at F10
        obtain ⟨m1, hm1⟩ := capture F10
        refine' call_join (fun v s' => Hold (∃ S dS t dt D U h1 h2 t1 t2 oD oU esS nS kvs esI' nI' M h' tk', v = .ref S ∧ s' = { s with heap := h', toks := tk' } ∧ Fr g L' h' m1 ∧
          News g L' h' ((b, listOf #[.ref l, .int c7 tc7] nb) :: (l, listOf its.toArray nl) :: (u, listOf uits.toArray un) :: (I, oI) :: (ln, listOf nits.toArray nn) :: (A, oA) :: (it, instObj 575 di) :: (di, dictOf esI' nI') :: M) ∧
          S4P PySem.Challenge.rw_pq1424_01.row.prog w S dS t dt D U h1 h2 t1 t2 oD oU esS nS kvs esI' M gl G ∧ (∀ a ∈ [b, l, u, I, ln, A, it, di], Off a M))) ?s4 ?go2
        (case s4 =>
          rcases Nat.eq_zero_or_pos i with rfl | hip
          · obtain ⟨rfl, rfl, z1, z2⟩ := pz rfl
            obtain rfl : G = [] := keys_nil pk
            (refine' callAt_use (c_s4_first w it di es4 nI4 z1 z2 hid) ((b, listOf #[.ref l, .int c7 tc7] nb) :: (l, listOf its.toArray nl) :: (u, listOf uits.toArray un) :: (I, oI) :: (ln, listOf nits.toArray nn) :: (A, oA) :: []) ?B ?F ?X ?N ?T ?hk ?hin ?off ?hd ?hu ?_; (case B => k_asm); (case F => k_asm); (case X => k_asm); (case N => k_asm); (case T => k_asm); (case hk => exact rfl); (case hin => (walk_at "sub")); (case off => (repeat' (first | assumption | exact Apart.nil | exact Apart.nilR | (refine Apart.cons ?_ ?_) | (refine Apart.app ?_ ?_) | (refine Apart.symm ?_; assumption) | ((refine Off.of_lt (by assumption) ?_; (walk_at "sub")); done) | k_all))); (case hd => k_room); (case hu => k_units))
            refine el16R ?_
            intro S dS t dt D U h1 h2 t1 t2 oD oU esI' nI' esS nS hR9 h3 tk3 F3 N3 ap3
            have y1 := hR9.1
            have y2 := hR9.2.1
            have y3 := hR9.2.2.1
            have y4 := hR9.2.2.2.1
            have y5 := hR9.2.2.2.2.1
            have y6 := hR9.2.2.2.2.2.1
            have y7 := hR9.2.2.2.2.2.2
            clear hR9
            have apM : Apart ((S, instObj 813 dS) :: (dS, dictOf esS nS) :: tabLed t dt D U h1 h2 t1 t2 oD oU) ((b, listOf #[.ref l, .int c7 tc7] nb) :: (l, listOf its.toArray nl) :: (u, listOf uits.toArray un) :: (I, oI) :: (ln, listOf nits.toArray nn) :: (A, oA) :: []) := ap3.sub (by (walk_at "sub")) (fun _ h => h)
            refine Hold.mk ⟨S, dS, t, dt, D, U, h1, h2, t1, t2, oD, oU, esS, nS, [], esI', nI', (S, instObj 813 dS) :: (dS, dictOf esS nS) :: (tabLed t dt D U h1 h2 t1 t2 oD oU ++ []), _, _, rfl, rfl, by rw [hm1]; assumption, newsPick N3 (by (walk_at "sub")), ⟨rfl, y1, y2, y3, y4, y5, y6, .nil, fun o => (y7 o).1, Off.nil, fun o => (y7 o).2.1, Off.nil, fun o => (y7 o).2.2.1, Off.nil⟩, fun a ha => ?_⟩
            rw [List.append_nil]
            have apN := apM.symm
            have yi := (y7 oU).2.2.2.1
            have yd := (y7 oU).2.2.2.2
            simp only [List.mem_cons, List.not_mem_nil, or_false] at ha
            rcases ha with rfl | rfl | rfl | rfl | rfl | rfl | rfl | rfl
            · exact apN.off (.head _)
            · exact apN.off (.tail _ (.head _))
            · exact apN.off (.tail _ (.tail _ (.head _)))
            · exact apN.off (.tail _ (.tail _ (.tail _ (.head _))))
            · exact apN.off (.tail _ (.tail _ (.tail _ (.tail _ (.head _)))))
            · exact apN.off (.tail _ (.tail _ (.tail _ (.tail _ (.tail _ (.head _))))))
            · exact Off.six yi
            · exact Off.six yd
          · obtain ⟨S, dS, t, dt, D, U, h1, h2, t1, t2, oD, oU, esS, nS, kvs, hS4⟩ := pm hip
            (refine' callAt_useN ?N ?C ?B ?F ?X ?T ?hk ?hd ?hu ?_; (case B => k_asm); (case F => k_asm); (case X => k_asm); (case N => k_asm); (case T => k_asm); (case hk => exact rfl); (case C => exact (c_s4_next w _ it di S es4 nI4 hS4.s4 (by k_mem) (by k_mem))); (case hd => k_room); (case hu => k_units))
            refine el0 ?_
            intro h3 tk3 F3 N3
            refine Hold.mk ⟨S, dS, t, dt, D, U, h1, h2, t1, t2, oD, oU, esS, nS, kvs, es4, nI4, made, _, _, rfl, rfl, by rw [hm1]; assumption, newsPick N3 (by (walk_at "sub")), hS4, fun a ha => ?_⟩
            simp only [List.mem_cons, List.not_mem_nil, or_false] at ha
            rcases ha with rfl | rfl | rfl | rfl | rfl | rfl | rfl | rfl <;> assumption)
        (case go2 =>
          intro v s' hJ
          obtain ⟨S, dS, t, dt, D, U, h1, h2, t1, t2, oD, oU, esS, nS, kvs, esI', nI', M, h', tk', rfl, rfl, F11, N11, ⟨hM, z1, z2, z3, z4, z5, z6, z7, z8, z9, z10, z11, z12, z13⟩, hoff⟩ := hJ.out
          clear hJ
          subst hm1
          subst hM
          simp only [List.cons_append, List.nil_append] at N11
          (try dsimp only)
          repeat' (first | ((fail_if_success (fail_if_success k_unfold)); first | refine (?_ : wpAny _ _ (execs _ _) _ _ _) | (k_unfold; (try dsimp only))) | ((first | (with_reducible show wpAny _ _ (execs _ _) _ _ _) | (with_reducible show wpAny _ _ (exec _ _) _ _ _)); first | ((fail_if_success k_fold); refine wpAny_tok ?_; intro tk0) | ((fail_if_success (fail_if_success k_fold)); refine (let q0 := _; (?_ : wpAny _ _ _ q0 _ _)))) | ((with_reducible show wpAny _ _ (eval _ _) _ _ _); first | ((with_reducible show wpAny _ _ (eval (PySem.Expr.Dict ..) _) _ _ _); (k_dflt (refine' kdn_eval (knd := PySem.strKind _ _) ?F ?N ?b ?a ?l ?e ?n ?_; (case F => k_asm); (case N => k_asm); (case b => exact Top.nolimit (by k_asm)); (case a => rfl); (case l => rfl); (case e => exact List.cons_ne_nil _ _); (case n => exact Nat.le_of_ble_eq_true rfl)); intro _ _ _ F' N' l1 _ _; (try k_lt l1))) | ((with_reducible show wpAny _ _ (eval (PySem.Expr.IfExp ..) _) _ _ _); (refine stop_eval ?_))) | ((with_reducible show wpAny _ _ (exec (Stmt.For (PySem.Expr.Name ..) (PySem.Expr.Call ..) _ [] _) _) _ _ _); walk_at "for0") | ((with_reducible show wpAny _ _ (compareOp _ _ _) _ _ _); first | ((with_reducible show wpAny _ _ (compareOp CmpOp.NotIn (Value.str _ _) (Value.ref _)) _ _ _); k_dflt (first | (refine' notin_strsB ?k1 ?k2 ?k3 ?k4 ?_; (case k1 => k_asm); (case k2 => k_mem); (case k3 => assumption); (case k4 => assumption)) | (refine' notin_strs ?k1 ?k2 ?k3 ?_; (case k1 => k_asm); (case k2 => k_mem); (case k3 => assumption)))) | ((with_reducible show wpAny _ _ (compareOp CmpOp.NotIn (Value.str _ _) (Value.ref _)) _ _ _); (k_dflt (refine kdg_notin (knd := PySem.strKind _ _) (by k_asm) (by k_mem) (by k_asm) (by k_asm) (strKind_is _ _ _ _) _ (by assumption) ?_); (try dsimp only [Bool.not_true, Bool.not_false])))) | ((with_reducible show wpAny _ _ (getMethod (Value.ref _) (Str.ofString "get") _) _ _ _); k_dflt (refine kdg_method (knd := PySem.strKind _ _) (by k_asm) (by k_mem) (by k_asm) ?_)) | walk1 | (dsimp only; first | (k_unfold; (try dsimp only)) | walk1) | (leave1; (try dsimp only)) | fail "no step")
          rename News _ _ _ _ => N12
          rename_i tp _ _ sl _ _ pr _ _ _ _ _ _ _ _ cO dc _ _ _ _ _ _ _ _ _ _ _ _ _ _ _ _ _ _ _ _ _ _ _ _ _ _ _ _ _ _ _ _ _ _
          refine repackC N12 fun k1 k2 k3 k4 k5 k6 s1 s2 s3 s4 s5 s6 sn ts tq N13 => ?_
          clear N12
          have hM_b := hoff b (by simp)
          have hM_l := hoff l (by simp)
          have hM_u := hoff u (by simp)
          have hM_I := hoff I (by simp)
          have hM_ln := hoff ln (by simp)
          have hM_A := hoff A (by simp)
          have hM_it := hoff it (by simp)
          have hM_di := hoff di (by simp)
          simp only [List.cons_append, List.nil_append] at hM_b hM_l hM_u hM_I hM_ln hM_A hM_it hM_di
          clear hoff
          have huS : @Ne Nat u S := (hM_u.ne (.head _)).symm
          have hudS : @Ne Nat u dS := (hM_u.ne (.tail _ (.head _))).symm
          have hut : @Ne Nat u t := (hM_u.ne (.tail _ (.tail _ (.head _)))).symm
          have hudt : @Ne Nat u dt := (hM_u.ne (.tail _ (.tail _ (.tail _ (.head _))))).symm
          have huD : @Ne Nat u D := (hM_u.ne (.tail _ (.tail _ (.tail _ (.tail _ (.head _)))))).symm
          have huU : @Ne Nat u U := (hM_u.ne (.tail _ (.tail _ (.tail _ (.tail _ (.tail _ (.head _))))))).symm
          have hG_b := fun p1 p2 p3 p4 p5 p6 => offGrow (c := cO) (dc := dc) (sl := sl) (tp := tp) (u := u) (p1 := p1) (p2 := p2) (p3 := p3) (p4 := p4) (p5 := p5) (p6 := p6) hM_b (by walk_at "om") (by walk_at "om") (by walk_at "om") (by walk_at "om") (by first | omega | (refine Ne.symm ?_; omega))
          have hG_l := fun p1 p2 p3 p4 p5 p6 => offGrow (c := cO) (dc := dc) (sl := sl) (tp := tp) (u := u) (p1 := p1) (p2 := p2) (p3 := p3) (p4 := p4) (p5 := p5) (p6 := p6) hM_l (by walk_at "om") (by walk_at "om") (by walk_at "om") (by walk_at "om") (by first | omega | (refine Ne.symm ?_; omega))
          have hG_I := fun p1 p2 p3 p4 p5 p6 => offGrow (c := cO) (dc := dc) (sl := sl) (tp := tp) (u := u) (p1 := p1) (p2 := p2) (p3 := p3) (p4 := p4) (p5 := p5) (p6 := p6) hM_I (by walk_at "om") (by walk_at "om") (by walk_at "om") (by walk_at "om") (by first | omega | (refine Ne.symm ?_; omega))
          have hG_ln := fun p1 p2 p3 p4 p5 p6 => offGrow (c := cO) (dc := dc) (sl := sl) (tp := tp) (u := u) (p1 := p1) (p2 := p2) (p3 := p3) (p4 := p4) (p5 := p5) (p6 := p6) hM_ln (by walk_at "om") (by walk_at "om") (by walk_at "om") (by walk_at "om") (by first | omega | (refine Ne.symm ?_; omega))
          have hG_A := fun p1 p2 p3 p4 p5 p6 => offGrow (c := cO) (dc := dc) (sl := sl) (tp := tp) (u := u) (p1 := p1) (p2 := p2) (p3 := p3) (p4 := p4) (p5 := p5) (p6 := p6) hM_A (by walk_at "om") (by walk_at "om") (by walk_at "om") (by walk_at "om") (by first | omega | (refine Ne.symm ?_; omega))
          have hG_it := fun p1 p2 p3 p4 p5 p6 => offGrow (c := cO) (dc := dc) (sl := sl) (tp := tp) (u := u) (p1 := p1) (p2 := p2) (p3 := p3) (p4 := p4) (p5 := p5) (p6 := p6) hM_it (by walk_at "om") (by walk_at "om") (by walk_at "om") (by walk_at "om") (by first | omega | (refine Ne.symm ?_; omega))
          have hG_di := fun p1 p2 p3 p4 p5 p6 => offGrow (c := cO) (dc := dc) (sl := sl) (tp := tp) (u := u) (p1 := p1) (p2 := p2) (p3 := p3) (p4 := p4) (p5 := p5) (p6 := p6) hM_di (by walk_at "om") (by walk_at "om") (by walk_at "om") (by walk_at "om") (by first | omega | (refine Ne.symm ?_; omega))
          have hG_S := fun o3 o4 o5 o6 => offGrow4 (c := cO) (dc := dc) (sl := sl) (tp := tp) (u := u) (o3 := o3) (o4 := o4) (o5 := o5) (o6 := o6) (z10 oU) z11 (by walk_at "om") (by walk_at "om") (by walk_at "om") (by walk_at "om") huS
          have hG_dS := fun o3 o4 o5 o6 => offGrow4 (c := cO) (dc := dc) (sl := sl) (tp := tp) (u := u) (o3 := o3) (o4 := o4) (o5 := o5) (o6 := o6) (z12 oU) z13 (by walk_at "om") (by walk_at "om") (by walk_at "om") (by walk_at "om") hudS
          have hDg : ∀ q1 q2 q3 q4 q5, Off D ((cO, q1) :: (dc, q2) :: (sl, q3) :: (tp, q4) :: (u, q5) :: gl) := fun q1 q2 q3 q4 q5 => Off.cons (by walk_at "om") (Off.cons (by walk_at "om") (Off.cons (by walk_at "om") (Off.cons (by walk_at "om") (Off.cons huD z9))))
          have hxk : ∀ p ∈ xs, p ∈ keys G := wk
          have hkt : kn i ∉ keys G := by rw [pk]; exact kn_fresh hi6
          have hkk : ∀ x ∈ keys G, x ∈ kns := fun x hx => List.mem_of_mem_take (pk ▸ hx)
          have hcls : ClsAt ((cO, instObj 596 dc) :: (dc, clsD k1 k2 k3 k4 k5 k6 s1 s2 s3 s4 s5 s6 sn (kn i) sl u pr) :: (sl, listOf #[.ref tp] 0) :: (tp, tupOf [.str (Str.ofString "s") ts, .str (Str.ofString "numeric") tq]) :: (u, listOf uits.toArray un) :: gl) (.ref cO) (kn i) xs :=
            .mk (.head _) (.tail _ (.head _)) (.tail _ (.tail _ (.head _))) (.tail _ (.tail _ (.tail _ (.head _)))) (.tail _ (.tail _ (.tail _ (.tail _ (.head _))))) ws
          have hT2 := z7.mono (gl' := (cO, instObj 596 dc) :: (dc, clsD k1 k2 k3 k4 k5 k6 s1 s2 s3 s4 s5 s6 sn (kn i) sl u pr) :: (sl, listOf #[.ref tp] 0) :: (tp, tupOf [.str (Str.ofString "s") ts, .str (Str.ofString "numeric") tq]) :: (u, listOf uits.toArray un) :: gl) (fun x h => .tail _ (.tail _ (.tail _ (.tail _ (.tail _ h)))))
          (refine' callAt_use (c_define w t dt D U h1 h2 t1 t2 oD oU kvs ((cO, instObj 596 dc) :: (dc, clsD k1 k2 k3 k4 k5 k6 s1 s2 s3 s4 s5 s6 sn (kn i) sl u pr) :: (sl, listOf #[.ref tp] 0) :: (tp, tupOf [.str (Str.ofString "s") ts, .str (Str.ofString "numeric") tq]) :: (u, listOf uits.toArray un) :: gl) G z3 z4 z5 z6 hT2 pc (by walk_at "om") (fun h => kns_any _ (hkk _ h) rfl) pu cO (kn i) xs hcls hxk hkt (kns_any _ (kn_mem hi6)) (kns_basic _ (kn_mem hi6)) (by walk_at "om") ((z8 oU).ne (.tail _ (.tail _ (.head _)))) ((z8 oU).ne (.tail _ (.tail _ (.tail _ (.head _))))) ((z8 oU).ne (.tail _ (.tail _ (.tail _ (.tail _ (.head _)))))) (hDg _ _ _ _ _)) ((b, listOf #[.ref l, .int c7 tc7] nb) :: (l, listOf its.toArray nl) :: (I, oI) :: (ln, listOf nits.toArray nn) :: (A, oA) :: (it, instObj 575 di) :: (di, dictOf esI' nI') :: (S, instObj 813 dS) :: (dS, dictOf esS nS) :: []) ?B ?F ?X ?N ?T ?hk ?hin ?off ?hd ?hu ?_; (case B => k_asm); (case F => k_asm); (case X => k_asm); (case N => k_asm); (case T => k_asm); (case hk => exact rfl); (case hin => (walk_at "sub")); (case off => exact Apart.symm (Apart.cons ((hG_b oU oU _ _ _ _ _ _ _ _ _).sub fun _ h => .tail _ (.tail _ h)) (Apart.cons ((hG_l oU oU _ _ _ _ _ _ _ _ _).sub fun _ h => .tail _ (.tail _ h)) (Apart.cons ((hG_I oU oU _ _ _ _ _ _ _ _ _).sub fun _ h => .tail _ (.tail _ h)) (Apart.cons ((hG_ln oU oU _ _ _ _ _ _ _ _ _).sub fun _ h => .tail _ (.tail _ h)) (Apart.cons ((hG_A oU oU _ _ _ _ _ _ _ _ _).sub fun _ h => .tail _ (.tail _ h)) (Apart.cons ((hG_it oU oU _ _ _ _ _ _ _ _ _).sub fun _ h => .tail _ (.tail _ h)) (Apart.cons ((hG_di oU oU _ _ _ _ _ _ _ _ _).sub fun _ h => .tail _ (.tail _ h)) (Apart.cons (hG_S _ _ _ _ _ _ _ _ _) (Apart.cons (hG_dS _ _ _ _ _ _ _ _ _) Apart.nil)))))))))); (case hd => k_room); (case hu => k_units))
          refine elN1 ?_
          intro oD' hd' h20 tk20 F20 N20 ap20
          have N21 : News g L' h20 ((A, oA) :: (ln, listOf nits.toArray nn) :: (b, listOf #[.ref l, .int c7 tc7] nb) :: (l, listOf its.toArray nl) :: (I, oI) :: (it, instObj 575 di) :: (di, dictOf esI' nI') :: (S, instObj 813 dS) :: (dS, dictOf esS nS) :: (tabLed t dt D U h1 h2 t1 t2 oD' oU ++ ((cO, instObj 596 dc) :: (dc, clsD k1 k2 k3 k4 k5 k6 s1 s2 s3 s4 s5 s6 sn (kn i) sl u pr) :: (sl, listOf #[.ref tp] 0) :: (tp, tupOf [.str (Str.ofString "s") ts, .str (Str.ofString "numeric") tq]) :: (u, listOf uits.toArray un) :: gl))) := newsPick N20 (by (walk_at "sub"))
          clear N20 ap20 N13
          simp only [List.cons_append, List.nil_append] at N21
          have hA0 : Off A ((b, listOf #[.ref l, .int c7 tc7] nb) :: (l, listOf its.toArray nl) :: (I, oI) :: (it, instObj 575 di) :: (di, dictOf esI' nI') :: _) := Off.cons (by walk_at "om") (Off.cons (by walk_at "om") (Off.cons hIA (Off.cons (by walk_at "om") (Off.cons (by walk_at "om") (hG_A (instObj 813 dS) (dictOf esS nS) (instObj 708 dt) (dictOf [⟨h1, .str (Str.ofString "classes") t1, .ref D⟩, ⟨h2, .str (Str.ofString "unions") t2, .ref U⟩] 2) oD' oU (instObj 596 dc) (clsD k1 k2 k3 k4 k5 k6 s1 s2 s3 s4 s5 s6 sn (kn i) sl u pr) (listOf #[.ref tp] 0) (tupOf [.str (Str.ofString "s") ts, .str (Str.ofString "numeric") tq]) (listOf uits.toArray un))))))
          have hn0 : Off ln ((b, listOf #[.ref l, .int c7 tc7] nb) :: (l, listOf its.toArray nl) :: (I, oI) :: (it, instObj 575 di) :: (di, dictOf esI' nI') :: _) := Off.cons (by walk_at "om") (Off.cons (by walk_at "om") (Off.cons hIn (Off.cons (by walk_at "om") (Off.cons (by walk_at "om") (hG_ln (instObj 813 dS) (dictOf esS nS) (instObj 708 dt) (dictOf [⟨h1, .str (Str.ofString "classes") t1, .ref D⟩, ⟨h2, .str (Str.ofString "unions") t2, .ref U⟩] 2) oD' oU (instObj 596 dc) (clsD k1 k2 k3 k4 k5 k6 s1 s2 s3 s4 s5 s6 sn (kn i) sl u pr) (listOf #[.ref tp] 0) (tupOf [.str (Str.ofString "s") ts, .str (Str.ofString "numeric") tq]) (listOf uits.toArray un))))))
          have hvA : valueAt kvsA (kn i) = none := pa.none hkt
          have hkl : kvsA.length = (keys G).length := by rw [← pa.names, List.length_map]
          (try dsimp only)
          repeat' (first | ((fail_if_success (fail_if_success k_unfold)); first | refine (?_ : wpAny _ _ (execs _ _) _ _ _) | (k_unfold; (try dsimp only))) | ((first | (with_reducible show wpAny _ _ (execs _ _) _ _ _) | (with_reducible show wpAny _ _ (exec _ _) _ _ _)); first | ((fail_if_success k_fold); refine wpAny_tok ?_; intro tk0) | ((fail_if_success (fail_if_success k_fold)); refine (let q0 := _; (?_ : wpAny _ _ _ q0 _ _)))) | ((with_reducible show wpAny _ _ (eval _ _) _ _ _); first | ((with_reducible show wpAny _ _ (eval (PySem.Expr.Dict ..) _) _ _ _); (k_dflt (refine' kdn_eval (knd := PySem.strKind _ _) ?F ?N ?b ?a ?l ?e ?n ?_; (case F => k_asm); (case N => k_asm); (case b => exact Top.nolimit (by k_asm)); (case a => rfl); (case l => rfl); (case e => exact List.cons_ne_nil _ _); (case n => exact Nat.le_of_ble_eq_true rfl)); intro _ _ _ F' N' l1 _ _; (try k_lt l1))) | ((with_reducible show wpAny _ _ (eval (PySem.Expr.IfExp ..) _) _ _ _); (refine stop_eval ?_))) | ((with_reducible show wpAny _ _ (exec (Stmt.For (PySem.Expr.Name ..) (PySem.Expr.Call ..) _ [] _) _) _ _ _); walk_at "for0") | ((with_reducible show wpAny _ _ (compareOp _ _ _) _ _ _); first | ((with_reducible show wpAny _ _ (compareOp CmpOp.NotIn (Value.str _ _) (Value.ref _)) _ _ _); k_dflt (first | (refine' notin_strsB ?k1 ?k2 ?k3 ?k4 ?_; (case k1 => k_asm); (case k2 => k_mem); (case k3 => assumption); (case k4 => assumption)) | (refine' notin_strs ?k1 ?k2 ?k3 ?_; (case k1 => k_asm); (case k2 => k_mem); (case k3 => assumption)))) | ((with_reducible show wpAny _ _ (compareOp CmpOp.NotIn (Value.str _ _) (Value.ref _)) _ _ _); (k_dflt (refine kdg_notin (knd := PySem.strKind _ _) (by k_asm) (by k_mem) (by k_asm) (by k_asm) (strKind_is _ _ _ _) _ (by assumption) ?_); (try dsimp only [Bool.not_true, Bool.not_false])))) | ((with_reducible show wpAny _ _ (getMethod (Value.ref _) (Str.ofString "get") _) _ _ _); k_dflt (refine kdg_method (knd := PySem.strKind _ _) (by k_asm) (by k_mem) (by k_asm) ?_)) | walk1 | (dsimp only; first | (k_unfold; (try dsimp only)) | walk1) | (leave1; (try dsimp only)) | fail "no step")
          rename Obj.IsDictOf _ _ (stored _ _ _) => hd9
          rw [stored_new hvA] at hd9
          have hmono : ∀ x ∈ gl, x ∈ ((cO, instObj 596 dc) :: (dc, clsD k1 k2 k3 k4 k5 k6 s1 s2 s3 s4 s5 s6 sn (kn i) sl u pr) :: (sl, listOf #[.ref tp] 0) :: (tp, tupOf [.str (Str.ofString "s") ts, .str (Str.ofString "numeric") tq]) :: (u, listOf uits.toArray un) :: gl) := fun x h => .tail _ (.tail _ (.tail _ (.tail _ (.tail _ h))))
          refine' TurnEnd.next ⟨c7, tc7, nits ++ [.str (kn i) _], nn + 1, _, kvsA ++ [(kn i, .ref u)], esI', nI', (S, instObj 813 dS) :: (dS, dictOf esS nS) :: (tabLed t dt D U h1 h2 t1 t2 oD' oU ++ ((cO, instObj 596 dc) :: (dc, clsD k1 k2 k3 k4 k5 k6 s1 s2 s3 s4 s5 s6 sn (kn i) sl u pr) :: (sl, listOf #[.ref tp] 0) :: (tp, tupOf [.str (Str.ofString "s") ts, .str (Str.ofString "numeric") tq]) :: (u, listOf uits.toArray un) :: gl)), ((cO, instObj 596 dc) :: (dc, clsD k1 k2 k3 k4 k5 k6 s1 s2 s3 s4 s5 s6 sn (kn i) sl u pr) :: (sl, listOf #[.ref tp] 0) :: (tp, tupOf [.str (Str.ofString "s") ts, .str (Str.ofString "numeric") tq]) :: (u, listOf uits.toArray un) :: gl), G ++ [(kn i, xs)]⟩ (by assumption) ?misZ (by assumption) ?subZ ?apZ
            ⟨w0, ?nmZ, ?ksZ, pc.snoc hkt hxk, ?upZ, hd9, (pa.mono hmono).snoc (.mk (.tail _ (.tail _ (.tail _ (.tail _ (.head _))))) ws), ?offZ, (fun h => nomatch h), fun _ => ⟨S, dS, t, dt, D, U, h1, h2, t1, t2, oD', oU, esS, nS, kvs ++ [(kn i, .ref cO)], rfl, z1, z2, hd', z4, z5, z6, hT2.snoc hcls, z8, hDg _ _ _ _ _, z10, ?sgZ, z12, ?dgZ⟩⟩
          (case misZ => (repeat' (first | exact Mis.mix | (refine Mis.put rfl ?_) | (refine Mis.mixIn rfl ?_) | exact Mis.rfl')))
          (case subZ => (walk_at "sub"))
          (case apZ => exact Apart.symm (Apart.cons (Off.cons hIb.symm (Off.cons hIl.symm (Off.cons hIn.symm (Off.cons hIA.symm (Off.cons hIi.symm (Off.cons hId.symm (hG_I _ _ _ _ _ _ _ _ _ _ _))))))) Apart.nil))
          (case nmZ => rw [keys_snoc]; exact StrsAre.snoc pn _ _)
          (case ksZ => rw [keys_snoc, pk]; exact kn_take hi6)
          (case upZ =>
            intro x
            rw [ups_snoc hkt]
            split
            · omega
            · exact pu x)
          (case offZ =>
            intro a ha
            simp only [List.mem_cons, List.not_mem_nil, or_false] at ha
            rcases ha with rfl | rfl | rfl | rfl | rfl | rfl
            · exact hG_b _ _ _ _ _ _ _ _ _ _ _
            · exact hG_l _ _ _ _ _ _ _ _ _ _ _
            · exact hG_ln _ _ _ _ _ _ _ _ _ _ _
            · exact hG_A _ _ _ _ _ _ _ _ _ _ _
            · exact hG_it _ _ _ _ _ _ _ _ _ _ _
            · exact hG_di _ _ _ _ _ _ _ _ _ _ _)
          (case sgZ => exact Off.cons (by walk_at "om") (Off.cons (by walk_at "om") (Off.cons (by walk_at "om") (Off.cons (by walk_at "om") (Off.cons huS z11)))))
          (case dgZ => exact Off.cons (by walk_at "om") (Off.cons (by walk_at "om") (Off.cons (by walk_at "om") (Off.cons (by walk_at "om") (Off.cons hudS z13)))))))))
  (case done =>
    intro cs9 u5 h5 tk5 hP5 F5 N5 ap5
    simp only [List.append_nil] at N5
    (try dsimp only)
    repeat' (first | ((fail_if_success (fail_if_success k_unfold)); first | refine (?_ : wpAny _ _ (execs _ _) _ _ _) | (k_unfold; (try dsimp only))) | ((first | (with_reducible show wpAny _ _ (execs _ _) _ _ _) | (with_reducible show wpAny _ _ (exec _ _) _ _ _)); first | ((fail_if_success k_fold); refine wpAny_tok ?_; intro tk0) | ((fail_if_success (fail_if_success k_fold)); refine (let q0 := _; (?_ : wpAny _ _ _ q0 _ _)))) | ((with_reducible show wpAny _ _ (eval _ _) _ _ _); first | ((with_reducible show wpAny _ _ (eval (PySem.Expr.Dict ..) _) _ _ _); (k_dflt (refine' kdn_eval (knd := PySem.strKind _ _) ?F ?N ?b ?a ?l ?e ?n ?_; (case F => k_asm); (case N => k_asm); (case b => exact Top.nolimit (by k_asm)); (case a => rfl); (case l => rfl); (case e => exact List.cons_ne_nil _ _); (case n => exact Nat.le_of_ble_eq_true rfl)); intro _ _ _ F' N' l1 _ _; (try k_lt l1))) | ((with_reducible show wpAny _ _ (eval (PySem.Expr.IfExp ..) _) _ _ _); (refine stop_eval ?_))) | ((with_reducible show wpAny _ _ (exec (Stmt.For (PySem.Expr.Name ..) (PySem.Expr.Call ..) _ [] _) _) _ _ _); walk_at "for0") | ((with_reducible show wpAny _ _ (compareOp _ _ _) _ _ _); first | ((with_reducible show wpAny _ _ (compareOp CmpOp.NotIn (Value.str _ _) (Value.ref _)) _ _ _); k_dflt (first | (refine' notin_strsB ?k1 ?k2 ?k3 ?k4 ?_; (case k1 => k_asm); (case k2 => k_mem); (case k3 => assumption); (case k4 => assumption)) | (refine' notin_strs ?k1 ?k2 ?k3 ?_; (case k1 => k_asm); (case k2 => k_mem); (case k3 => assumption)))) | ((with_reducible show wpAny _ _ (compareOp CmpOp.NotIn (Value.str _ _) (Value.ref _)) _ _ _); (k_dflt (refine kdg_notin (knd := PySem.strKind _ _) (by k_asm) (by k_mem) (by k_asm) (by k_asm) (strKind_is _ _ _ _) _ (by assumption) ?_); (try dsimp only [Bool.not_true, Bool.not_false])))) | ((with_reducible show wpAny _ _ (getMethod (Value.ref _) (Str.ofString "get") _) _ _ _); k_dflt (refine kdg_method (knd := PySem.strKind _ _) (by k_asm) (by k_mem) (by k_asm) ?_)) | walk1 | (dsimp only; first | (k_unfold; (try dsimp only)) | walk1) | (leave1; (try dsimp only)) | fail "no step")
    rename News _ _ _ _ => N6
    refine Fin.mk ((_, tupOf [.ref ln, .ref A]) :: (b, listOf #[.ref l, .int cs9.c cs9.tc] nb) :: (l, listOf its.toArray nl) :: (ln, listOf cs9.nits.toArray cs9.nn) :: (A, cs9.oA) :: (it, instObj 575 di) :: (di, dictOf cs9.esI cs9.nI) :: cs9.made) (by assumption) N6 ?subY ⟨_, ln, A, (1 + r).toNat, cs9, rfl, rfl, by omega, by omega, hP5, lA, fun o => ⟨(offbl o o o o).off (.head _), (offbl o o o o).off (.tail _ (.head _))⟩⟩
    (case subY => (walk_at "sub")))
end

-- C_eval
section
/-- a dict of an instance, of which the size alone is told -/
def NkD (k : Nat) (es : List DictEntry) : Prop := (es.any fun e => e.refKey) = false ∧ es.length ≤ k
theorem nk_get {k : Nat} {es : List DictEntry} {x : Str} (h : NkD k es) : (getL x es).isSome = true := by
  unfold getL
  rw [h.1]
  split <;> rfl
theorem nk_put {k : Nat} {x : Str} {hs : Int} {t : Tok} {v : Value} : ∀ {es : List DictEntry}, NkD k es → NkD (k + 1) (putL x hs (.str x t) v es) := by
  intro es
  induction es generalizing k with
  | nil => intro h; exact ⟨rfl, by simp [putL]⟩
  | cons e r ih =>
    rintro ⟨h1, h2⟩
    simp only [List.any_cons, Bool.or_eq_false_iff] at h1
    unfold putL
    split
    · refine ⟨?_, ?_⟩
      · simp only [List.any_cons, Bool.or_eq_false_iff]
        exact ⟨h1.1, h1.2⟩
      · simp only [List.length_cons] at h2 ⊢
        omega
    · have := ih (k := r.length) ⟨h1.2, Nat.le_refl _⟩
      refine ⟨?_, ?_⟩
      · simp only [List.any_cons, Bool.or_eq_false_iff]
        exact ⟨h1.1, this.1⟩
      · have := this.2
        simp only [List.length_cons] at h2 ⊢
        omega
theorem nk_at {x : Str} {hs : Int} {t : Tok} {v : Value} : ∀ {es : List DictEntry}, getL x (putL x hs (.str x t) v es) = some (some v)
  | [] => by
    have : (Value.str x t).isStr x = true := by simp [Value.isStr]
    simp [putL, getL, this]
  | e :: r => by
    unfold putL
    cases he : e.key.isStr x with
    | true => simp [getL, he]
    | false =>
      have := nk_at (x := x) (hs := hs) (t := t) (v := v) (es := r)
      unfold getL at this ⊢
      simp only [Bool.false_eq_true, if_false, List.find?_cons, he]
      split at this
      · rename_i e' h'
        rw [h']; exact this
      · split at this <;> cases this
theorem set_abs {prog : Program} {w : World} {A : Around} {E : Value → Shared → Prop} {s : Shared} {K : Frag} {x C dx L : Addr} {h₀ : Heap} {m : Str → Option Value} {news rest : List (Addr × Obj)} {es : List DictEntry} {n k : Nat} {name : Str} {v : Value} {Q : Unit → Shared → Prop}
    (F : Fr h₀ L s.heap m) (X : K.In h₀) (N : News h₀ L s.heap news) (O : NkD k es) (mx : (x, instObj C dx) ∈ news) (md : (dx, dictOf es n) ∈ news) (hx : @Ne Nat x dx) (oR : Off dx rest) (hs : ∀ y ∈ rest, y ∈ news) (hk : Nat.ble k 100 = true)
    (k6 : findIn K (.ref C) (Str.ofString "__setattr__") = some (some (.builtin "object.__setattr__"))) (k7 : plainOver K C = true) (k8 : takerIn K C name = some none) (k9 : hasDictIn K C = true)
    (h : ∀ h' es' n', NkD (k + 1) es' → getL name es' = some (some v) → Fr h₀ L h' m → News h₀ L h' ((x, instObj C dx) :: (dx, dictOf es' n') :: rest) → Q () { heap := h', gens := s.gens, drawn := s.drawn, toks := s.toks + 2, os := s.os }) :
    wpAny (model prog w) A (setAttr (.ref x) name v) Q E s :=
  set_dict (news := (dx, dictOf es n) :: (x, instObj C dx) :: rest) F X (newsPick N fun y hy => by
      rcases List.mem_cons.mp hy with rfl | hy
      · exact md
      · rcases List.mem_cons.mp hy with rfl | hy
        · exact mx
        · exact hs y hy) (InstAt.of_news N mx md) rfl k6 k7 k8 k9 (nk_get O) rfl (.head fun p hp => by
      rcases List.mem_cons.mp hp with rfl | hp
      · exact hx
      · exact oR p hp) (by have := (nk_put (x := name) (hs := PyData.keyHash w.params name) (t := s.toks + 1) (v := v) O).2; have := Nat.le_of_ble_eq_true hk; omega)
    fun h' F' N' => h h' _ _ (nk_put O) nk_at F' (newsPick N' fun y hy => by
      rcases List.mem_cons.mp hy with rfl | hy
      · exact .tail _ (.head _)
      · rcases List.mem_cons.mp hy with rfl | hy
        · exact .head _
        · exact .tail _ (.tail _ hy))
theorem absStart {h₀ h : Heap} {L x C dx : Addr} {news rest : List (Addr × Obj)} {es : List DictEntry} {n k : Nat} {P : Prop} (N : News h₀ L h news) (mx : (x, instObj C dx) ∈ news) (md : (dx, dictOf es n) ∈ news) (ho : (es.any fun e => e.refKey) = false) (hl : Nat.ble es.length k = true) (hs : ∀ y ∈ rest, y ∈ news)
    (go : ∀ es n, NkD k es → News h₀ L h ((x, instObj C dx) :: (dx, dictOf es n) :: rest) → P) : P :=
  go es n ⟨ho, Nat.le_of_ble_eq_true hl⟩ (newsPick N fun y hy => by
    rcases List.mem_cons.mp hy with rfl | hy
    · exact mx
    · rcases List.mem_cons.mp hy with rfl | hy
      · exact md
      · exact hs y hy)
def Halt (P : Prop) : Prop := P
theorem unhalt {P : Prop} (h : P) : Halt P := h
theorem halt {P : Prop} (h : Halt P) : P := h
theorem units_under (A : Around) (C : Addr) (vals : List Value) (kw : List (Str × Value)) : (A.under (.builtin "type.__call__" ⟨.ref C :: vals, kw⟩)).units = A.units + 1 := rfl
theorem el1 {α0 : Sort u0} {C : Value → List (Addr × Obj) → Prop} {X : α0 → Value} {Y : α0 → List (Addr × Obj)} (h : ∀ a0, C (X a0) (Y a0)) : ∀ r out, (∃ a0, r = X a0 ∧ out = Y a0) → C r out := by
  rintro _ _ ⟨a0, rfl, rfl⟩
  exact h a0
set_option maxHeartbeats 8000000 in
theorem c_env (w : World) {mean : ExcName → Option Value} {mg mb : Str → Option Value} (led : List (Addr × Obj)) (n : Int) (tn : Tok) (pv : Value) : Tells1 PySem.Challenge.rw_pq1424_01.row.prog w (Mine.kAt w.params) Mine.viewQ (looseW Mine.viewQ [Str.ofString "match_names", Str.ofString "take"]) mean mg mb 170 [.int n tn, pv] [] 3 led (fun r out => ∃ x : Addr, r = .ref x ∧ out = led) := by
  k_fill
  intro dp un gd cn cs a ccd cl outer A₀ base h₀ L m rest s Q E B F X N T hck off hd hu ret
  obtain ⟨k0, names0, g0, c0, more0⟩ := cs
  simp only at hck
  subst hck
  repeat' (first | ((fail_if_success (fail_if_success k_unfold)); first | refine (?_ : wpAny _ _ (execs _ _) _ _ _) | (k_unfold; (try dsimp only))) | ((first | (with_reducible show wpAny _ _ (execs _ _) _ _ _) | (with_reducible show wpAny _ _ (exec _ _) _ _ _)); first | ((fail_if_success k_fold); refine wpAny_tok ?_; intro tk0) | ((fail_if_success (fail_if_success k_fold)); refine (let q0 := _; (?_ : wpAny _ _ _ q0 _ _)))) | ((with_reducible show wpAny _ _ (setAttr _ _ _) _ _ _); first | ((with_reducible show wpAny _ _ (setAttr (Value.ref _) _ _) _ _ _); (k_dflt (refine' set_abs (by k_asm) (by k_asm) (by k_asm) (by with_reducible assumption) (by k_mem) (by k_mem) (by k_ne) (by with_reducible assumption) (by walk_at "sub") rfl (by k_is) (by k_is) (by k_is) (by k_is) ?_; k_whole; intro _ _ _ _ _ F' N'; (try k_sweep)))) | ((with_reducible show wpAny _ _ (setAttr _ (Str.ofString "frames") _) _ _ _); refine halt ?_)) | walk1 | (dsimp only; first | (k_unfold; (try dsimp only)) | walk1) | (leave1; (try dsimp only)) | fail "no step")
  rename News _ _ _ _ => N9
  refine' ret _ led _ _ (by assumption) (newsPick N9 ?sub) off ⟨_, rfl, rfl⟩
  (case sub => (walk_at "sub"))
set_option maxHeartbeats 8000000 in
theorem c_eval (w : World) {mean : ExcName → Option Value} {mg mb : Str → Option Value} (t5 : Tok) : Tells1 PySem.Challenge.rw_pq1424_01.row.prog w (Mine.kAt w.params) Mine.viewQ (looseW Mine.viewQ [Str.ofString "match_names", Str.ofString "take"]) mean mg mb 575 [.int 500 t5] [] 6 [] (fun r out => ∃ it di esI nI, r = .ref it ∧ out = [(it, instObj 575 di), (di, dictOf esI nI)] ∧ getL (Str.ofString "s4") esI = some (some .none) ∧ esI.length ≤ 100 ∧ @Ne Nat it di) := by
  k_fill
  intro dp un gd cn cs a ccd cl outer A₀ base h₀ L m rest s Q E B F X N T hck off hd hu ret
  obtain ⟨k0, names0, g0, c0, more0⟩ := cs
  simp only at hck
  subst hck
  simp only [List.nil_append] at N
  repeat' (first | ((fail_if_success (fail_if_success k_unfold)); first | refine (?_ : wpAny _ _ (execs _ _) _ _ _) | (k_unfold; (try dsimp only))) | ((first | (with_reducible show wpAny _ _ (execs _ _) _ _ _) | (with_reducible show wpAny _ _ (exec _ _) _ _ _)); first | ((fail_if_success k_fold); refine wpAny_tok ?_; intro tk0) | ((fail_if_success (fail_if_success k_fold)); refine (let q0 := _; (?_ : wpAny _ _ _ q0 _ _)))) | ((with_reducible show wpAny _ _ (call (Value.ref _) _ _) _ _ _); (refine stop_call 170 ?_)) | ((with_reducible show wpAny _ _ (setAttr _ _ _) _ _ _); first | ((with_reducible show wpAny _ _ (setAttr (Value.ref _) _ _) _ _ _); (k_dflt (refine' set_abs (by k_asm) (by k_asm) (by k_asm) (by with_reducible assumption) (by k_mem) (by k_mem) (by k_ne) (by with_reducible assumption) (by walk_at "sub") rfl (by k_is) (by k_is) (by k_is) (by k_is) ?_; k_whole; intro _ _ _ _ _ F' N'; (try k_sweep)))) | ((with_reducible show wpAny _ _ (setAttr _ (Str.ofString "frames") _) _ _ _); refine halt ?_)) | walk1 | (dsimp only; first | (k_unfold; (try dsimp only)) | walk1) | (leave1; (try dsimp only)) | fail "no step")
  (refine' callAt_useN ?N ?C ?B ?F ?X ?T ?hk ?hd ?hu ?_; (case B => k_asm); (case F => k_asm); (case X => k_asm); (case N => k_asm); (case T => k_asm); (case hk => exact rfl); (case C => exact (c_env w _ 0 _ .none)); (case hd => k_room); (case hu => ((have hcL9 := cLine_is); simp only [units_under, units_deeper, units_in1]; (try dsimp only [ktrTop]); omega)))
  refine el1 ?_
  intro x1 h1 tk1 F1 N1
  dsimp only
  repeat' (first | ((fail_if_success (fail_if_success k_unfold)); first | refine (?_ : wpAny _ _ (execs _ _) _ _ _) | (k_unfold; (try dsimp only))) | ((first | (with_reducible show wpAny _ _ (execs _ _) _ _ _) | (with_reducible show wpAny _ _ (exec _ _) _ _ _)); first | ((fail_if_success k_fold); refine wpAny_tok ?_; intro tk0) | ((fail_if_success (fail_if_success k_fold)); refine (let q0 := _; (?_ : wpAny _ _ _ q0 _ _)))) | ((with_reducible show wpAny _ _ (call (Value.ref _) _ _) _ _ _); (refine stop_call 170 ?_)) | ((with_reducible show wpAny _ _ (setAttr _ _ _) _ _ _); first | ((with_reducible show wpAny _ _ (setAttr (Value.ref _) _ _) _ _ _); (k_dflt (refine' set_abs (by k_asm) (by k_asm) (by k_asm) (by with_reducible assumption) (by k_mem) (by k_mem) (by k_ne) (by with_reducible assumption) (by walk_at "sub") rfl (by k_is) (by k_is) (by k_is) (by k_is) ?_; k_whole; intro _ _ _ _ _ F' N'; (try k_sweep)))) | ((with_reducible show wpAny _ _ (setAttr _ (Str.ofString "frames") _) _ _ _); refine halt ?_)) | walk1 | (dsimp only; first | (k_unfold; (try dsimp only)) | walk1) | (leave1; (try dsimp only)) | fail "no step")
  (refine' callAt_useN ?N ?C ?B ?F ?X ?T ?hk ?hd ?hu ?_; (case B => k_asm); (case F => k_asm); (case X => k_asm); (case N => k_asm); (case T => k_asm); (case hk => exact rfl); (case C => exact (c_env w _ 1 _ (.ref x1))); (case hd => k_room); (case hu => ((have hcL9 := cLine_is); simp only [units_under, units_deeper, units_in1]; (try dsimp only [ktrTop]); omega)))
  refine el1 ?_
  intro x2 h2 tk2 F2 N2
  dsimp only
  repeat' (first | ((fail_if_success (fail_if_success k_unfold)); first | refine (?_ : wpAny _ _ (execs _ _) _ _ _) | (k_unfold; (try dsimp only))) | ((first | (with_reducible show wpAny _ _ (execs _ _) _ _ _) | (with_reducible show wpAny _ _ (exec _ _) _ _ _)); first | ((fail_if_success k_fold); refine wpAny_tok ?_; intro tk0) | ((fail_if_success (fail_if_success k_fold)); refine (let q0 := _; (?_ : wpAny _ _ _ q0 _ _)))) | ((with_reducible show wpAny _ _ (call (Value.ref _) _ _) _ _ _); (refine stop_call 170 ?_)) | ((with_reducible show wpAny _ _ (setAttr _ _ _) _ _ _); first | ((with_reducible show wpAny _ _ (setAttr (Value.ref _) _ _) _ _ _); (k_dflt (refine' set_abs (by k_asm) (by k_asm) (by k_asm) (by with_reducible assumption) (by k_mem) (by k_mem) (by k_ne) (by with_reducible assumption) (by walk_at "sub") rfl (by k_is) (by k_is) (by k_is) (by k_is) ?_; k_whole; intro _ _ _ _ _ F' N'; (try k_sweep)))) | ((with_reducible show wpAny _ _ (setAttr _ (Str.ofString "frames") _) _ _ _); refine halt ?_)) | walk1 | (dsimp only; first | (k_unfold; (try dsimp only)) | walk1) | (leave1; (try dsimp only)) | fail "no step")
  rename News _ _ _ _ => N1
  refine' absStart (C := 575) (k := 6) (rest := rest) N1 ?mx ?md ?ho ?hl ?hs fun es n O N2 => ?_
  (case mx => k_mem)
  (case md => k_mem)
  (case ho => rfl)
  (case hl => rfl)
  (case hs => (walk_at "sub"))
  have oR : Off _ rest := Off.of_lt (news := rest) (by assumption) (fun _ h => h)
  clear N1
  refine unhalt ?_
  repeat' (first | ((fail_if_success (fail_if_success k_unfold)); first | refine (?_ : wpAny _ _ (execs _ _) _ _ _) | (k_unfold; (try dsimp only))) | ((first | (with_reducible show wpAny _ _ (execs _ _) _ _ _) | (with_reducible show wpAny _ _ (exec _ _) _ _ _)); first | ((fail_if_success k_fold); refine wpAny_tok ?_; intro tk0) | ((fail_if_success (fail_if_success k_fold)); refine (let q0 := _; (?_ : wpAny _ _ _ q0 _ _)))) | ((with_reducible show wpAny _ _ (call (Value.ref _) _ _) _ _ _); (refine stop_call 170 ?_)) | ((with_reducible show wpAny _ _ (setAttr _ _ _) _ _ _); first | ((with_reducible show wpAny _ _ (setAttr (Value.ref _) _ _) _ _ _); (k_dflt (refine' set_abs (by k_asm) (by k_asm) (by k_asm) (by with_reducible assumption) (by k_mem) (by k_mem) (by k_ne) (by with_reducible assumption) (by walk_at "sub") rfl (by k_is) (by k_is) (by k_is) (by k_is) ?_; k_whole; intro _ _ _ _ _ F' N'; (try k_sweep)))) | ((with_reducible show wpAny _ _ (setAttr _ (Str.ofString "frames") _) _ _ _); refine halt ?_)) | walk1 | (dsimp only; first | (k_unfold; (try dsimp only)) | walk1) | (leave1; (try dsimp only)) | fail "no step")
  rename News _ _ _ _ => N9
  refine' ret _ [(_, instObj 575 ?di), (?di, dictOf ?es ?n)] _ _ (by assumption) (newsPick N9 ?sub) ?ap ⟨_, ?di, ?es, ?n, rfl, rfl, ?g, ?l, ?ne⟩
  (case sub => (walk_at "sub"))
  (case g => assumption)
  (case l => exact Nat.le_trans (‹NkD _ _› : NkD _ _).2 (by decide))
  (case ne => k_ne)
  (case ap => exact Apart.cons (Off.of_lt2 (by assumption) (by assumption)) (Apart.cons (Off.of_lt (by assumption) (fun _ h => h)) Apart.nil))
end

-- C_alllaw
section
local macro_rules | `(tactic| walk_at "pad0") => `(tactic| fail "pad")
theorem c_all_law (w : World) {mean : ExcName → Option Value} {mg mb : Str → Option Value} (led : List (Addr × Obj)) {S dS t dt D U it di v dv : Addr} {h1 h2 : Int} {t1 t2 tk1 tn : Tok} {oD oU : Obj} {esS esI es : List DictEntry} {nS nI ne : Nat} {kvs : List (Str × Value)} {made gl : List (Addr × Obj)} {G : List (Str × List Str)} {nm : Str}
  (hS : S4P PySem.Challenge.rw_pq1424_01.row.prog w S dS t dt D U h1 h2 t1 t2 oD oU esS nS kvs esI made gl G) (C : Closed G) (hk : (keys G).length ≤ 6) (hA : Str.ofString "ANY" ∉ keys G) (hup : ∀ x, (ups G x).length ≤ 64) (hx : nm ∈ keys G)
  (hkd : getL (Str.ofString "kind") es = some (some (.str (Str.ofString "S4") tk1))) (hnm : getL (Str.ofString "name") es = some (some (.str nm tn))) (ha : getL (Str.ofString "attrs") es = some (some .none))
  (mm : ∀ x ∈ made, x ∈ led) (m1 : (it, instObj 575 di) ∈ led) (m2 : (di, dictOf esI nI) ∈ led) (m5 : (v, instObj 191 dv) ∈ led) (m6 : (dv, dictOf es ne) ∈ led) :
  Tells1 PySem.Challenge.rw_pq1424_01.row.prog w (Mine.kAt w.params) Mine.viewQ (looseW Mine.viewQ [Str.ofString "match_names", Str.ofString "take"]) mean mg mb 364 [.ref it, .ref v] [] 12 led (RowPost led (rowOf G nm)) := by
  have mt : ∀ x ∈ tabLed t dt D U h1 h2 t1 t2 oD oU ++ gl, x ∈ led := fun x hx => mm x (by rw [hS.made]; exact .tail _ (.tail _ hx))
  have mS : (S, instObj 813 dS) ∈ led := mm _ (by rw [hS.made]; exact .head _)
  have mD : (dS, dictOf esS nS) ∈ led := mm _ (by rw [hS.made]; exact .tail _ (.head _))
  exact tells1_perm (c_all_s4 w t dt D U h1 h2 t1 t2 oD oU kvs led G hS.dD hS.dU hS.lD hS.lU (hS.tab.mono (fun x h => mt x (List.mem_append_right _ h))) C hk hA hup it di S dS v dv esI esS es nI nS ne nm tk1 tn hx hS.s4 hS.cls hkd hnm m1 m2 mS mD m5 m6
      (c_class_s4 w (tabLed t dt D U h1 h2 t1 t2 oD oU ++ led) v dv es ne nm tk1 tn hkd hnm ha (List.mem_append_right _ m5) (List.mem_append_right _ m6)))
    (fun x h => by
      rcases List.mem_append.mp h with h | h
      · exact mt x (List.mem_append_left _ h)
      · exact h)
    (fun x h => List.mem_append_right _ h)
end

-- C_int
section
local macro_rules | `(tactic| walk_at "pad0") => `(tactic| fail "pad")
local macro_rules | `(tactic| walk_at "pad1") => `(tactic| fail "pad")
local macro_rules | `(tactic| walk_at "pad2") => `(tactic| fail "pad")
local macro_rules | `(tactic| k_get) => `(tactic| first | with_reducible assumption | exact putL_get (by with_reducible assumption))

set_option maxHeartbeats 8000000 in
theorem c_integer (w : World) {mean : ExcName → Option Value} {mg mb : Str → Option Value} (led : List (Addr × Obj)) (l : Addr) (its : List Value) (n : Nat) (m : (l, listOf its.toArray n) ∈ led) (hl : its.length ≤ 64) :
  Tells1 PySem.Challenge.rw_pq1424_01.row.prog w (Mine.kAt w.params) Mine.viewQ (looseW Mine.viewQ [Str.ofString "match_names", Str.ofString "take"]) mean mg mb 202 [.ref l] [] 8 led (fun r out => ∃ v dv c es t1 nc, r = .ref v ∧ out = (v, instObj 127 dv) :: (dv, dictOf es 5) :: (c, listOf its.toArray nc) :: led ∧ getL (Str.ofString "kind") es = some (some (.str (Str.ofString "integer") t1)) ∧ getL (Str.ofString "attrs") es = some (some .none) ∧ es.length ≤ 100 ∧ @Ne Nat v dv ∧ (∀ q ∈ led, q.1 < dv) ∧ (∀ q ∈ led, q.1 < v)) := by
  k_fill
  refine' tells1_enter (binds := [(Str.ofString "items", .ref l)]) ?k6 ?k7 ?kr ?k9 ?kB ?c2 ?c3 ?c4 ?c5 ?_
  (case k6 => k_is)
  (case k7 => k_is)
  (case kr => decide)
  (case k9 => intro s hX; first | exact BindsTo.of_eq rfl | exact binds_K (by k_in) rfl (by k_is) rfl rfl rfl)
  (case kB => exact locs rfl)
  (case c2 => exact rfl)
  (case c3 => exact rfl)
  (case c4 => exact rfl)
  (case c5 => decide)
  intro dp un gd cn cs a ccd cl outer base g L L' h₁ s tk hd hu F' N' B' X' T'
  (try dsimp only)
  (try k_fold)
  refine (let A1 := _; (?_ : wpAny _ A1 _ _ _ _))
  repeat' (first | ((fail_if_success (fail_if_success k_unfold)); first | refine (?_ : wpAny _ _ (execs _ _) _ _ _) | (k_unfold; (try dsimp only))) | ((first | (with_reducible show wpAny _ _ (execs _ _) _ _ _) | (with_reducible show wpAny _ _ (exec _ _) _ _ _)); first | ((fail_if_success k_fold); refine wpAny_tok ?_; intro tk0) | ((fail_if_success (fail_if_success k_fold)); refine (let q0 := _; (?_ : wpAny _ _ _ q0 _ _)))) | ((with_reducible show wpAny _ _ (call _ _ _) _ _ _); first | ((with_reducible show wpAny _ _ (call (Value.ref _) _ _) _ _ _); (refine stop_call 202 ?_)) | ((with_reducible show wpAny _ _ (call (Value.type _) [Value.ref _]) _ _ _); k_dflt (refine' list_copyM ?k1 ?k2 ?k3 ?z ?_; (case k1 => k_asm); (case k2 => k_asm); (case k3 => k_mem); (case z => (rw [sizeLine_eq]; (try simp only [List.size_toArray]); omega))); intro _ _ _ F' N' l1; (try k_lt l1); (try k_sweep))) | walk1 | (dsimp only; first | (k_unfold; (try dsimp only)) | walk1) | (leave1; (try dsimp only)) | fail "no step")
  rename News _ _ _ _ => N1
  rename_i c _ _ v dv _ _ _ _ _ _ _ _ _ _ _ _ _ _ _ _ _ _ _ _ _ _ _ _ _ _ _ _ _ _ _
  have k1 : ∀ q ∈ led, q.1 < dv := ltTail (by assumption)
  have k2 : @LT.lt Nat _ dv v := by walk_at "om"
  refine' Fin.mk ?o (by assumption) N1 ?sub ⟨v, dv, c, ?es, ?t1, ?nc, rfl, rfl, ?g1, ?g2, ?len, ?n1, ?n2, ?n3⟩
  (case sub => (walk_at "sub"))
  (case g1 => exact rfl)
  (case g2 => exact rfl)
  (case len => exact Nat.le_of_ble_eq_true rfl)
  (case n1 => omega)
  (case n2 => exact fun q hq => k1 q hq)
  (case n3 => exact fun q hq => Nat.lt_trans (k1 q hq) k2)
end

-- Law
section
local macro_rules | `(tactic| k_get) => `(tactic| first | with_reducible assumption | exact putL_get (by with_reducible assumption))



local macro_rules | `(tactic| walk_at "KdnMade") => `(tactic| (k_here; k_dflt (refine' kdn_made_str ?F ?N ?U ?d ?k ?n ?_; (case F => k_asm); (case N => k_asm); (case U => k_updF); (case d => k_asm); (case k => rfl); (case n => first | (with_unfolding_all assumption) | exact of_decide_eq_true (by first | rfl | kernel_rfl!)); intro h' o' F' N' hd'); (try dsimp only at N')))


local macro_rules | `(tactic| walk_at "exec Assign cons ListComp") => `(tactic| (k_here; k_dflt (refine compA_start (by k_asm) (by rfl) (by with_unfolding_all rfl) (by with_unfolding_all rfl) (by decide) (by rfl) (by decide) (by rfl) (by rfl) (by rfl) (by intro _; rfl) ?_)))
theorem law_split {prog : Program} {w : World} {A : Around} {ss : List Stmt} {env : Env} {Q : Flow → Shared → Prop} {E : Value → Shared → Prop} {h₀ h₁ : Heap} {L : Addr} {m : Str → Option Value} {tk : Nat} {s : Shared} (_F : Fr h₀ L h₁ m)
    (hend : ∀ h' tk' m', Fr h₀ L h' m' → Q (.ret (.bool true)) { s with heap := h', toks := tk' })
    (go : ∀ (Q' : Flow → Shared → Prop) (E' : Value → Shared → Prop), (∀ h' tk' m', Fr h₀ L h' m' → Q' (.ret (.bool true)) { s with heap := h', toks := tk' }) → wpAny (model prog w) A (execs ss env) Q' E' { s with heap := h₁, toks := tk }) :
    wpAny (model prog w) A (execs ss env) Q E { s with heap := h₁, toks := tk } := go Q E hend
set_option maxHeartbeats 8000000 in
theorem lawHolds : PySem.Challenge.rw_pq1424_01.Holds := by
  w_on
  refine holds_law said fun _ => ?_
  refine holds_open (q := viewQ) (loose := [Str.ofString "match_names", Str.ofString "take"]) (Xt := fun s => xlAt viewQ [] s && recOk PySem.Challenge.rw_pq1424_01.row.records s) (XP := XL viewQ []) (Yf := Hook.obs kHk) (Ya := Hook.val kHk) (YP := Hook.says kHk) (N := 11278) leftQ (Hook.of kHk) (Hook.keeps kHk) (fun s e => xl_of s (Bool.and_eq_true_iff.mp e).1) XL.keeps (by rfl) (by rfl) (by rfl) (fun s e => recFacts_of (Bool.and_eq_true_iff.mp e).2) (by rfl) (by first | assumption | decide +kernel) (by decide +kernel) ⟨rfl, rfl, rfl, rfl, rfl, by decide +kernel⟩ ?hw ?hc
  (case hw => w_witness2)
  delta kHk
  k_fill
  intro w s₀ s₁ mg mb G Y fa o pm cd doc dV kV ho hd hcd hD hmg hg args vals as hpre hlay hrd hwl hlo
  have KX := kIn_of Y
  have X := (Ground.X G).1
  have V := (Ground.X G).2
  refine Ground.open G ?_
  intro T B D TE TW
  try (refine guard_noD D (by decide +kernel) ?_; clear D)
  obtain ⟨_, _, M⟩ := bmod_of_top T
  have TA := at_of_top T
  try (obtain ⟨_, _, he, B0⟩ := based_of_top T rfl hmg ho hd; have he' : cd = _ := he; subst he'; clear he)
  clear hmg
  wrow_args hpre hlay hrd hwl hlo
  refine enter_call ?_
  w_top on
  try refine codeAny_mono ?_ (fun _ _ g => GoodW.toG g)
  have K0 := below_caller (Top.heap T)
  w_call any ho hd hcd hD T F
  clear hd TA
  k_drop
  rename Fr _ _ _ _ => F0
  refine law_split F0 ?hend ?go
  (case hend =>
    intro h' tk' m' F9
    (try dsimp only)
    (k_end; wrow_close))
  (case go =>
    intro Q' E' hret
    (try (rename (Dflts ..) => xC; clear xC))
    (try (rename (ReadsAllW ..) => xC; clear xC))
    (try (rename (Well ..) => xC; clear xC))
    (try (rename (Reads ..) => xC; clear xC))
    (try (rename (ReadsAll ..) => xC; clear xC))
    (try (rename (BMod ..) => xC; clear xC))
    (try (rename (TopW ..) => xC; clear xC))
    (try (rename (TopE ..) => xC; clear xC))
    (try (rename (Tables ..) => xC; clear xC))
    (try (rename (Glob ..) => xC; clear xC))
    (try (rename (LooseAre ..) => xC; clear xC))
    (try (rename (Flt.MathXP ..) => xC; clear xC))
    (try (rename (Heap.CodeRec ..) => xC; clear xC))
    (try (rename (CellsAre ..) => xC; clear xC))
    (try (rename (Hook.says ..) => xC; clear xC))
    (try (rename (Ground ..) => xC; clear xC))
    (try (rename (_ = true) => xC; clear xC))
    (try (rename (_ = true) => xC; clear xC))
    (try (rename (_ = true) => xC; clear xC))
    (try (rename (_ = true) => xC; clear xC))
    (try (rename (_ = true) => xC; clear xC))
    (try (rename (_ = true) => xC; clear xC))
    (try dsimp only)
    (try k_fold)
    repeat' (first | ((fail_if_success (fail_if_success k_unfold)); first | refine (?_ : wpAny _ _ (execs _ _) _ _ _) | (k_unfold; (try dsimp only))) | ((first | (with_reducible show wpAny _ _ (execs _ _) _ _ _) | (with_reducible show wpAny _ _ (exec _ _) _ _ _)); first | ((fail_if_success k_fold); refine wpAny_tok ?_; intro tk0) | ((fail_if_success (fail_if_success k_fold)); refine (let q0 := _; (?_ : wpAny _ _ _ q0 _ _)))) | ((with_reducible show wpAny _ _ (setAttr _ (Str.ofString "attrs") _) _ _ _); k_dflt (refine' set_dict ?k1 ?k2 ?k3 ?k4 ?k5 ?k6 ?k7 ?k8 ?k9 ?k10 ?k11 ?k12 ?k13 ?_; (case k1 => k_asm); (case k2 => k_asm); (case k3 => k_asm); (case k4 => k_inst); (case k5 => exact rfl); (case k6 => k_is); (case k7 => k_is); (case k8 => k_is); (case k9 => k_is); (case k10 => assumption); (case k11 => exact rfl); (case k12 => k_upd); (case k13 => exact putL_len (by assumption)); k_whole; intro _ F' N'; (try k_sweep))) | ((with_reducible show wpAny _ _ (subscriptTail _ _ _ _) _ _ _); first | ((with_reducible show wpAny _ _ (subscriptTail _ (PySem.Expr.Slice _ _ none _) (Value.ref _) (Value.ref _)) _ _ _); k_dflt (refine' slice_strs ?F ?N ?m ?hS ?hok ?z0 ?zl ?y ?n ?s; (case F => k_asm); (case N => k_asm); (case m => k_mem); (case hS => exact .cons _ _ (.cons _ _ (.cons _ _ .nil))); (case hok => decide +kernel); (case z0 => assumption); (case zl => decide); (case s => with_unfolding_all rfl)); (all_goals (intro _ _ _ _ F' N' l1 _ _ _ _ _; (try k_lt l1); (try k_sweep)))) | ((with_reducible show wpAny _ _ (subscriptTail _ _ (Value.ref _) (Value.int (-1) _)) _ _ _); k_dflt (refine' last_at ?k1 ?k2 ?k3 ?_; (case k1 => k_asm); (case k2 => k_mem); (case k3 => first | with_reducible assumption | assumption))) | ((with_reducible show wpAny _ _ (subscriptTail _ _ (Value.ref _) (Value.int _ _)) _ _ _); k_dflt (refine' item_at ?k1 ?k2 ?k3 ?k4 ?k5 ?_; (case k1 => k_asm); (case k2 => k_mem); (case k5 => first | assumption | exact rfl); (case k3 => first | omega | decide); (case k4 => first | omega | decide)))) | ((with_reducible show wpAny _ _ (call _ _ _) _ _ _); first | ((with_reducible show wpAny _ _ (call (Value.ref _) _ _) _ _ _); ((first | (with_reducible show wpAny _ _ (call (Value.ref 127) _ _) _ _ _) | (with_reducible show wpAny _ _ (call (Value.ref 191) _ _) _ _ _)); k_dflt (refine' call_cls ?k1 ?k2 ?k3 ?k4 ?k5 ?k6 ?_; (case k1 => k_asm); (case k2 => k_asm); (case k3 => k_asm); (case k4 => k_is); (case k5 => k_is); (case k6 => k_is); k_whole; intro _ _ _ F' N' l1 l2; (try k_lt l1); (try k_lt2 l2); (try k_sweep); k_enter))) | ((with_reducible show wpAny _ _ (call (Value.ref _) _ _) _ _ _); (refine stop_call 202 ?_)) | ((with_reducible show wpAny _ _ (call (Value.ref _) _ _) _ _ _); (refine stop_call 575 ?_))) | ((with_reducible show wpAny _ _ (eval _ _) _ _ _); first | ((with_reducible show wpAny _ _ (eval (PySem.Expr.Dict ..) _) _ _ _); (k_dflt (refine' kdn_eval (knd := PySem.strKind _ _) ?F ?N ?b ?a ?l ?e ?n ?_; (case F => k_asm); (case N => k_asm); (case b => exact Top.nolimit (by k_asm)); (case a => rfl); (case l => rfl); (case e => exact List.cons_ne_nil _ _); (case n => exact Nat.le_of_ble_eq_true rfl)); intro _ _ _ F' N' l1 _ _; (try k_lt l1))) | ((with_reducible show wpAny _ _ (eval (PySem.Expr.ListComp ..) _) _ _ _); (k_dflt (refine comp_start (by k_asm) (by with_unfolding_all rfl) (by decide) (by rfl) (by decide) (by rfl) (by intro _; rfl) ?_)))) | ((with_reducible show wpAny _ _ (compareOp CmpOp.NotEq (Value.ref _) (Value.ref _)) _ _ _); k_dflt (refine' ne_nil ?k1 ?k2 ?k3 ?k4 ?k5 ?k6 ?k7 ?_; (case k1 => k_asm); (case k2 => k_mem); (case k3 => k_mem); (case k4 => assumption); (case k5 => assumption); (case k6 => k_units); (case k7 => assumption))) | ((with_reducible show wpAny _ _ (binaryOp _ (Value.ref _) (Value.ref _)) _ _ _); k_dflt (refine' add_at ?k1 ?k2 ?k3 ?k4 ?k5 ?_; (case k1 => k_asm); (case k2 => k_asm); (case k3 => k_mem); (case k4 => k_mem); (case k5 => first | omega | ((try simp only [List.length_append, List.length_cons, List.length_nil]); omega)); k_whole); intro _ _ F' N' l1; (try k_lt l1); (try k_sweep)) | walk1 | (dsimp only; first | (k_unfold; (try dsimp only)) | walk1) | (leave1; (try dsimp only)) | fail "no step")
    skip
    rename News _ _ _ _ => N1
    rename_i l _ _ _ _ _ _ b _ _ _ _ _ _
    have d1 : @Ne Nat b l := by walk_at "om"
    (refine' callAt_useE ?N ?C ?B ?F ?X ?T ?hk ?hd ?hu ?_; (case B => k_asm); (case F => k_asm); (case X => k_asm); (case N => k_asm); (case T => k_asm); (case hk => exact rfl); (case C => exact (c_eval _ _)); (case hd => k_room); (case hu => k_units))
    skip
    refine el4R ?_
    intro it di esI nI hR9 h2 tk2 F2 N2 ap2
    have hs4 := hR9.1
    have hes := hR9.2.1
    have d6 := hR9.2.2
    clear hR9
    clear N1
    have hap := ap2.symm.sub (xs' := [(b, _), (l, _)]) (by (walk_at "sub")) (fun _ h => h)
    have hc1 := ap2.symm.off (.tail _ (.tail _ (.head _)))
    have hc2 := ap2.symm.off (.tail _ (.tail _ (.tail _ (.head _))))
    replace N2 := newsRot N2
    clear ap2
    dsimp only
    repeat' (first | ((fail_if_success (fail_if_success k_unfold)); first | refine (?_ : wpAny _ _ (execs _ _) _ _ _) | (k_unfold; (try dsimp only))) | ((first | (with_reducible show wpAny _ _ (execs _ _) _ _ _) | (with_reducible show wpAny _ _ (exec _ _) _ _ _)); first | ((fail_if_success k_fold); refine wpAny_tok ?_; intro tk0) | ((fail_if_success (fail_if_success k_fold)); refine (let q0 := _; (?_ : wpAny _ _ _ q0 _ _)))) | ((with_reducible show wpAny _ _ (setAttr _ (Str.ofString "attrs") _) _ _ _); k_dflt (refine' set_dict ?k1 ?k2 ?k3 ?k4 ?k5 ?k6 ?k7 ?k8 ?k9 ?k10 ?k11 ?k12 ?k13 ?_; (case k1 => k_asm); (case k2 => k_asm); (case k3 => k_asm); (case k4 => k_inst); (case k5 => exact rfl); (case k6 => k_is); (case k7 => k_is); (case k8 => k_is); (case k9 => k_is); (case k10 => assumption); (case k11 => exact rfl); (case k12 => k_upd); (case k13 => exact putL_len (by assumption)); k_whole; intro _ F' N'; (try k_sweep))) | ((with_reducible show wpAny _ _ (subscriptTail _ _ _ _) _ _ _); first | ((with_reducible show wpAny _ _ (subscriptTail _ (PySem.Expr.Slice _ _ none _) (Value.ref _) (Value.ref _)) _ _ _); k_dflt (refine' slice_strs ?F ?N ?m ?hS ?hok ?z0 ?zl ?y ?n ?s; (case F => k_asm); (case N => k_asm); (case m => k_mem); (case hS => exact .cons _ _ (.cons _ _ (.cons _ _ .nil))); (case hok => decide +kernel); (case z0 => assumption); (case zl => decide); (case s => with_unfolding_all rfl)); (all_goals (intro _ _ _ _ F' N' l1 _ _ _ _ _; (try k_lt l1); (try k_sweep)))) | ((with_reducible show wpAny _ _ (subscriptTail _ _ (Value.ref _) (Value.int (-1) _)) _ _ _); k_dflt (refine' last_at ?k1 ?k2 ?k3 ?_; (case k1 => k_asm); (case k2 => k_mem); (case k3 => first | with_reducible assumption | assumption))) | ((with_reducible show wpAny _ _ (subscriptTail _ _ (Value.ref _) (Value.int _ _)) _ _ _); k_dflt (refine' item_at ?k1 ?k2 ?k3 ?k4 ?k5 ?_; (case k1 => k_asm); (case k2 => k_mem); (case k5 => first | assumption | exact rfl); (case k3 => first | omega | decide); (case k4 => first | omega | decide)))) | ((with_reducible show wpAny _ _ (call _ _ _) _ _ _); first | ((with_reducible show wpAny _ _ (call (Value.ref _) _ _) _ _ _); ((first | (with_reducible show wpAny _ _ (call (Value.ref 127) _ _) _ _ _) | (with_reducible show wpAny _ _ (call (Value.ref 191) _ _) _ _ _)); k_dflt (refine' call_cls ?k1 ?k2 ?k3 ?k4 ?k5 ?k6 ?_; (case k1 => k_asm); (case k2 => k_asm); (case k3 => k_asm); (case k4 => k_is); (case k5 => k_is); (case k6 => k_is); k_whole; intro _ _ _ F' N' l1 l2; (try k_lt l1); (try k_lt2 l2); (try k_sweep); k_enter))) | ((with_reducible show wpAny _ _ (call (Value.ref _) _ _) _ _ _); (refine stop_call 202 ?_)) | ((with_reducible show wpAny _ _ (call (Value.ref _) _ _) _ _ _); (refine stop_call 575 ?_))) | ((with_reducible show wpAny _ _ (eval _ _) _ _ _); first | ((with_reducible show wpAny _ _ (eval (PySem.Expr.Dict ..) _) _ _ _); (k_dflt (refine' kdn_eval (knd := PySem.strKind _ _) ?F ?N ?b ?a ?l ?e ?n ?_; (case F => k_asm); (case N => k_asm); (case b => exact Top.nolimit (by k_asm)); (case a => rfl); (case l => rfl); (case e => exact List.cons_ne_nil _ _); (case n => exact Nat.le_of_ble_eq_true rfl)); intro _ _ _ F' N' l1 _ _; (try k_lt l1))) | ((with_reducible show wpAny _ _ (eval (PySem.Expr.ListComp ..) _) _ _ _); (k_dflt (refine comp_start (by k_asm) (by with_unfolding_all rfl) (by decide) (by rfl) (by decide) (by rfl) (by intro _; rfl) ?_)))) | ((with_reducible show wpAny _ _ (compareOp CmpOp.NotEq (Value.ref _) (Value.ref _)) _ _ _); k_dflt (refine' ne_nil ?k1 ?k2 ?k3 ?k4 ?k5 ?k6 ?k7 ?_; (case k1 => k_asm); (case k2 => k_mem); (case k3 => k_mem); (case k4 => assumption); (case k5 => assumption); (case k6 => k_units); (case k7 => assumption))) | ((with_reducible show wpAny _ _ (binaryOp _ (Value.ref _) (Value.ref _)) _ _ _); k_dflt (refine' add_at ?k1 ?k2 ?k3 ?k4 ?k5 ?_; (case k1 => k_asm); (case k2 => k_asm); (case k3 => k_mem); (case k4 => k_mem); (case k5 => first | omega | ((try simp only [List.length_append, List.length_cons, List.length_nil]); omega)); k_whole); intro _ _ F' N' l1; (try k_lt l1); (try k_sweep)) | walk1 | (dsimp only; first | (k_unfold; (try dsimp only)) | walk1) | (leave1; (try dsimp only)) | fail "no step")
    skip
    (refine' callAt_useC ?N ?C ([]) ?B ?F ?X ?T ?hk ?hin ?o1 ?o2 ?off ?hd ?hu ?_; (case B => k_asm); (case F => k_asm); (case X => k_asm); (case N => k_asm); (case T => k_asm); (case hk => exact rfl); (case C => exact (c_classes _ b l it di _ _ _ _ 0 _ esI nI (by assumption) (take60 _) (by decide) d1 hs4 hes hap d6)); (case hin => (walk_at "sub")); (case o1 => (repeat' (first | assumption | exact Apart.nil | exact Apart.nilR | (refine Apart.cons ?_ ?_) | (refine Apart.app ?_ ?_) | (refine Apart.symm ?_; assumption) | ((refine Off.of_lt (by assumption) ?_; (walk_at "sub")); done) | k_all))); (case o2 => (repeat' (first | assumption | exact Apart.nil | exact Apart.nilR | (refine Apart.cons ?_ ?_) | (refine Apart.app ?_ ?_) | (refine Apart.symm ?_; assumption) | ((refine Off.of_lt (by assumption) ?_; (walk_at "sub")); done) | k_all))); (case off => (repeat' (first | assumption | exact Apart.nil | exact Apart.nilR | (refine Apart.cons ?_ ?_) | (refine Apart.app ?_ ?_) | (refine Apart.symm ?_; assumption) | ((refine Off.of_lt (by assumption) ?_; (walk_at "sub")); done) | k_all))); (case hd => k_room); (case hu => k_units))
    skip
    refine el5R ?_
    intro T ln A n cs9 hR9 h3 tk3 F3 N3 hq1 hq2 ap3
    obtain ⟨c0, tc0, nits, nn, oA, kvsA, es4, nI4, made, gl, G⟩ := cs9
    have hn1 := hR9.1
    have hn6 := hR9.2.1
    have hP := hR9.2.2.1
    have lA := hR9.2.2.2.1
    have hoff := hR9.2.2.2.2
    clear hR9
    clear ap3 hc1 hc2
    dsimp only at N3 hq1 hq2
    simp only [List.cons_append, List.append_nil] at N3
    have hkl : (keys G).length = n := by rw [hP.ks, List.length_take]; have := kns_len; omega
    have hnl : nits.length = n := by rw [hP.names.length]; exact hkl
    obtain ⟨nm, hnm⟩ : ∃ nm, (keys G)[nits.length - 1]? = some nm := ⟨_, List.getElem?_eq_getElem (by walk_at "om")⟩
    obtain ⟨tnm, hlast⟩ := hP.names.get _ nm hnm
    have hx : nm ∈ keys G := List.mem_of_getElem? hnm
    (try dsimp only)
    repeat' (first | ((fail_if_success (fail_if_success k_unfold)); first | refine (?_ : wpAny _ _ (execs _ _) _ _ _) | (k_unfold; (try dsimp only))) | ((first | (with_reducible show wpAny _ _ (execs _ _) _ _ _) | (with_reducible show wpAny _ _ (exec _ _) _ _ _)); first | ((fail_if_success k_fold); refine wpAny_tok ?_; intro tk0) | ((fail_if_success (fail_if_success k_fold)); refine (let q0 := _; (?_ : wpAny _ _ _ q0 _ _)))) | ((with_reducible show wpAny _ _ (setAttr _ (Str.ofString "attrs") _) _ _ _); k_dflt (refine' set_dict ?k1 ?k2 ?k3 ?k4 ?k5 ?k6 ?k7 ?k8 ?k9 ?k10 ?k11 ?k12 ?k13 ?_; (case k1 => k_asm); (case k2 => k_asm); (case k3 => k_asm); (case k4 => k_inst); (case k5 => exact rfl); (case k6 => k_is); (case k7 => k_is); (case k8 => k_is); (case k9 => k_is); (case k10 => assumption); (case k11 => exact rfl); (case k12 => k_upd); (case k13 => exact putL_len (by assumption)); k_whole; intro _ F' N'; (try k_sweep))) | ((with_reducible show wpAny _ _ (subscriptTail _ _ _ _) _ _ _); first | ((with_reducible show wpAny _ _ (subscriptTail _ (PySem.Expr.Slice _ _ none _) (Value.ref _) (Value.ref _)) _ _ _); k_dflt (refine' slice_strs ?F ?N ?m ?hS ?hok ?z0 ?zl ?y ?n ?s; (case F => k_asm); (case N => k_asm); (case m => k_mem); (case hS => exact .cons _ _ (.cons _ _ (.cons _ _ .nil))); (case hok => decide +kernel); (case z0 => assumption); (case zl => decide); (case s => with_unfolding_all rfl)); (all_goals (intro _ _ _ _ F' N' l1 _ _ _ _ _; (try k_lt l1); (try k_sweep)))) | ((with_reducible show wpAny _ _ (subscriptTail _ _ (Value.ref _) (Value.int (-1) _)) _ _ _); k_dflt (refine' last_at ?k1 ?k2 ?k3 ?_; (case k1 => k_asm); (case k2 => k_mem); (case k3 => first | with_reducible assumption | assumption))) | ((with_reducible show wpAny _ _ (subscriptTail _ _ (Value.ref _) (Value.int _ _)) _ _ _); k_dflt (refine' item_at ?k1 ?k2 ?k3 ?k4 ?k5 ?_; (case k1 => k_asm); (case k2 => k_mem); (case k5 => first | assumption | exact rfl); (case k3 => first | omega | decide); (case k4 => first | omega | decide)))) | ((with_reducible show wpAny _ _ (call _ _ _) _ _ _); first | ((with_reducible show wpAny _ _ (call (Value.ref _) _ _) _ _ _); ((first | (with_reducible show wpAny _ _ (call (Value.ref 127) _ _) _ _ _) | (with_reducible show wpAny _ _ (call (Value.ref 191) _ _) _ _ _)); k_dflt (refine' call_cls ?k1 ?k2 ?k3 ?k4 ?k5 ?k6 ?_; (case k1 => k_asm); (case k2 => k_asm); (case k3 => k_asm); (case k4 => k_is); (case k5 => k_is); (case k6 => k_is); k_whole; intro _ _ _ F' N' l1 l2; (try k_lt l1); (try k_lt2 l2); (try k_sweep); k_enter))) | ((with_reducible show wpAny _ _ (call (Value.ref _) _ _) _ _ _); (refine stop_call 202 ?_)) | ((with_reducible show wpAny _ _ (call (Value.ref _) _ _) _ _ _); (refine stop_call 575 ?_))) | ((with_reducible show wpAny _ _ (eval _ _) _ _ _); first | ((with_reducible show wpAny _ _ (eval (PySem.Expr.Dict ..) _) _ _ _); (k_dflt (refine' kdn_eval (knd := PySem.strKind _ _) ?F ?N ?b ?a ?l ?e ?n ?_; (case F => k_asm); (case N => k_asm); (case b => exact Top.nolimit (by k_asm)); (case a => rfl); (case l => rfl); (case e => exact List.cons_ne_nil _ _); (case n => exact Nat.le_of_ble_eq_true rfl)); intro _ _ _ F' N' l1 _ _; (try k_lt l1))) | ((with_reducible show wpAny _ _ (eval (PySem.Expr.ListComp ..) _) _ _ _); (k_dflt (refine comp_start (by k_asm) (by with_unfolding_all rfl) (by decide) (by rfl) (by decide) (by rfl) (by intro _; rfl) ?_)))) | ((with_reducible show wpAny _ _ (compareOp CmpOp.NotEq (Value.ref _) (Value.ref _)) _ _ _); k_dflt (refine' ne_nil ?k1 ?k2 ?k3 ?k4 ?k5 ?k6 ?k7 ?_; (case k1 => k_asm); (case k2 => k_mem); (case k3 => k_mem); (case k4 => assumption); (case k5 => assumption); (case k6 => k_units); (case k7 => assumption))) | ((with_reducible show wpAny _ _ (binaryOp _ (Value.ref _) (Value.ref _)) _ _ _); k_dflt (refine' add_at ?k1 ?k2 ?k3 ?k4 ?k5 ?_; (case k1 => k_asm); (case k2 => k_asm); (case k3 => k_mem); (case k4 => k_mem); (case k5 => first | omega | ((try simp only [List.length_append, List.length_cons, List.length_nil]); omega)); k_whole); intro _ _ F' N' l1; (try k_lt l1); (try k_sweep)) | walk1 | (dsimp only; first | (k_unfold; (try dsimp only)) | walk1) | (leave1; (try dsimp only)) | fail "no step")
    skip
    rename News _ _ _ _ => N5
    rename Fr _ _ _ _ => F5
    rename_i v dv _ _ _ _ _ _ _ _ _ _ _ _ _ _ _ sd _ _ _ _ _ _ _ _ _ _ _ _ _ _ _ _ _ _
    refine repackS2 N5 rfl rfl rfl fun es hk hn ha N6 => ?_
    clear N5
    have hob := (hoff (tupOf [])).1
    have hol := (hoff (tupOf [])).2
    have omb := hP.offs b (by simp)
    have oml := hP.offs l (by simp)
    have hc0 : (0 : Int) ≤ c0 := hP.c0
    have vb : @Ne Nat v b := by walk_at "om"
    have vl : @Ne Nat v l := by walk_at "om"
    have wb : @Ne Nat dv b := by walk_at "om"
    have wl : @Ne Nat dv l := by walk_at "om"
    have offb : ∀ o1 o2 o3 o4 o5 o6, Off b ((v, o1) :: (dv, o2) :: (ln, o3) :: (A, o4) :: (it, o5) :: (di, o6) :: made) := fun o1 o2 o3 o4 o5 o6 =>
      Off.cons vb (Off.cons wb (Off.cons (hob.ne (.head _)) (Off.cons (hob.ne (.tail _ (.head _))) (Off.cons (hob.ne (.tail _ (.tail _ (.head _)))) (Off.cons (hob.ne (.tail _ (.tail _ (.tail _ (.head _))))) omb)))))
    have offl : ∀ o1 o2 o3 o4 o5 o6, Off l ((v, o1) :: (dv, o2) :: (ln, o3) :: (A, o4) :: (it, o5) :: (di, o6) :: made) := fun o1 o2 o3 o4 o5 o6 =>
      Off.cons vl (Off.cons wl (Off.cons (hol.ne (.head _)) (Off.cons (hol.ne (.tail _ (.head _))) (Off.cons (hol.ne (.tail _ (.tail _ (.head _)))) (Off.cons (hol.ne (.tail _ (.tail _ (.tail _ (.head _))))) oml)))))
    (refine' callAt_useC ?N ?C ((v, _) :: (dv, _) :: (ln, _) :: (A, _) :: (it, _) :: (di, _) :: made) ?B ?F ?X ?T ?hk ?hin ?o1 ?o2 ?off ?hd ?hu ?_; (case B => k_asm); (case F => k_asm); (case X => k_asm); (case N => exact N6); (case T => k_asm); (case hk => exact rfl); (case C => exact (c_tap _ b l _ _ 0 0 c0 tc0 5 _ (by assumption) (take60 _) hP.c0 (by decide) d1)); (case hin => (walk_at "sub")); (case o1 => exact Off.cons (by walk_at "om") (Off.cons (by walk_at "om") Off.nil)); (case o2 => exact Off.cons (by walk_at "om") (Off.cons (by walk_at "om") Off.nil)); (case off => exact Apart.cons (offb _ _ _ _ _ _) (Apart.cons (offl _ _ _ _ _ _) Apart.nil)); (case hd => k_room); (case hu => k_units))
    skip
    refine elT ?_
    intro r tr tc1 hr0 hr5 h7 tk7 F7 N7 hq3 hq4 ap7
    clear hq3 hq4 ap7 hq1 hq2 N6
    simp only [List.cons_append, List.nil_append] at N7
    dsimp only
    repeat' (first | ((fail_if_success (fail_if_success k_unfold)); first | refine (?_ : wpAny _ _ (execs _ _) _ _ _) | (k_unfold; (try dsimp only))) | ((first | (with_reducible show wpAny _ _ (execs _ _) _ _ _) | (with_reducible show wpAny _ _ (exec _ _) _ _ _)); first | ((fail_if_success k_fold); refine wpAny_tok ?_; intro tk0) | ((fail_if_success (fail_if_success k_fold)); refine (let q0 := _; (?_ : wpAny _ _ _ q0 _ _)))) | ((with_reducible show wpAny _ _ (setAttr _ (Str.ofString "attrs") _) _ _ _); k_dflt (refine' set_dict ?k1 ?k2 ?k3 ?k4 ?k5 ?k6 ?k7 ?k8 ?k9 ?k10 ?k11 ?k12 ?k13 ?_; (case k1 => k_asm); (case k2 => k_asm); (case k3 => k_asm); (case k4 => k_inst); (case k5 => exact rfl); (case k6 => k_is); (case k7 => k_is); (case k8 => k_is); (case k9 => k_is); (case k10 => assumption); (case k11 => exact rfl); (case k12 => k_upd); (case k13 => exact putL_len (by assumption)); k_whole; intro _ F' N'; (try k_sweep))) | ((with_reducible show wpAny _ _ (subscriptTail _ _ _ _) _ _ _); first | ((with_reducible show wpAny _ _ (subscriptTail _ (PySem.Expr.Slice _ _ none _) (Value.ref _) (Value.ref _)) _ _ _); k_dflt (refine' slice_strs ?F ?N ?m ?hS ?hok ?z0 ?zl ?y ?n ?s; (case F => k_asm); (case N => k_asm); (case m => k_mem); (case hS => exact .cons _ _ (.cons _ _ (.cons _ _ .nil))); (case hok => decide +kernel); (case z0 => assumption); (case zl => decide); (case s => with_unfolding_all rfl)); (all_goals (intro _ _ _ _ F' N' l1 _ _ _ _ _; (try k_lt l1); (try k_sweep)))) | ((with_reducible show wpAny _ _ (subscriptTail _ _ (Value.ref _) (Value.int (-1) _)) _ _ _); k_dflt (refine' last_at ?k1 ?k2 ?k3 ?_; (case k1 => k_asm); (case k2 => k_mem); (case k3 => first | with_reducible assumption | assumption))) | ((with_reducible show wpAny _ _ (subscriptTail _ _ (Value.ref _) (Value.int _ _)) _ _ _); k_dflt (refine' item_at ?k1 ?k2 ?k3 ?k4 ?k5 ?_; (case k1 => k_asm); (case k2 => k_mem); (case k5 => first | assumption | exact rfl); (case k3 => first | omega | decide); (case k4 => first | omega | decide)))) | ((with_reducible show wpAny _ _ (call _ _ _) _ _ _); first | ((with_reducible show wpAny _ _ (call (Value.ref _) _ _) _ _ _); ((first | (with_reducible show wpAny _ _ (call (Value.ref 127) _ _) _ _ _) | (with_reducible show wpAny _ _ (call (Value.ref 191) _ _) _ _ _)); k_dflt (refine' call_cls ?k1 ?k2 ?k3 ?k4 ?k5 ?k6 ?_; (case k1 => k_asm); (case k2 => k_asm); (case k3 => k_asm); (case k4 => k_is); (case k5 => k_is); (case k6 => k_is); k_whole; intro _ _ _ F' N' l1 l2; (try k_lt l1); (try k_lt2 l2); (try k_sweep); k_enter))) | ((with_reducible show wpAny _ _ (call (Value.ref _) _ _) _ _ _); (refine stop_call 202 ?_)) | ((with_reducible show wpAny _ _ (call (Value.ref _) _ _) _ _ _); (refine stop_call 575 ?_))) | ((with_reducible show wpAny _ _ (eval _ _) _ _ _); first | ((with_reducible show wpAny _ _ (eval (PySem.Expr.Dict ..) _) _ _ _); (k_dflt (refine' kdn_eval (knd := PySem.strKind _ _) ?F ?N ?b ?a ?l ?e ?n ?_; (case F => k_asm); (case N => k_asm); (case b => exact Top.nolimit (by k_asm)); (case a => rfl); (case l => rfl); (case e => exact List.cons_ne_nil _ _); (case n => exact Nat.le_of_ble_eq_true rfl)); intro _ _ _ F' N' l1 _ _; (try k_lt l1))) | ((with_reducible show wpAny _ _ (eval (PySem.Expr.ListComp ..) _) _ _ _); (k_dflt (refine comp_start (by k_asm) (by with_unfolding_all rfl) (by decide) (by rfl) (by decide) (by rfl) (by intro _; rfl) ?_)))) | ((with_reducible show wpAny _ _ (compareOp CmpOp.NotEq (Value.ref _) (Value.ref _)) _ _ _); k_dflt (refine' ne_nil ?k1 ?k2 ?k3 ?k4 ?k5 ?k6 ?k7 ?_; (case k1 => k_asm); (case k2 => k_mem); (case k3 => k_mem); (case k4 => assumption); (case k5 => assumption); (case k6 => k_units); (case k7 => assumption))) | ((with_reducible show wpAny _ _ (binaryOp _ (Value.ref _) (Value.ref _)) _ _ _); k_dflt (refine' add_at ?k1 ?k2 ?k3 ?k4 ?k5 ?_; (case k1 => k_asm); (case k2 => k_asm); (case k3 => k_mem); (case k4 => k_mem); (case k5 => first | omega | ((try simp only [List.length_append, List.length_cons, List.length_nil]); omega)); k_whole); intro _ _ F' N' l1; (try k_lt l1); (try k_sweep)) | walk1 | (dsimp only; first | (k_unfold; (try dsimp only)) | walk1) | (leave1; (try dsimp only)) | fail "no step")
    skip
    rename News _ _ _ _ => N8
    rename Fr _ _ _ _ => F8
    have hrn : (1 + r - 0).toNat = (1 + r).toNat := by simp
    refine' compA_range (n := (1 + r).toNat) (fun i ys news => ∃ c tc, news = (_, _) :: (_, _) :: (b, listOf #[.ref l, .int c tc] 0) :: (l, _) :: (v, _) :: (dv, _) :: (ln, _) :: (A, _) :: (it, _) :: (di, _) :: made ∧ 0 ≤ c ∧ ∃ as, AsksAre ys as ∧ as.length = i) rfl F8 N8 (by assumption) (small1 (by walk_at "om") (by walk_at "om") (by walk_at "om") (by walk_at "om")) (by rw [rangeSize_nat, hrn]) (by walk_at "om") ⟨c0 + 1, tc1, rfl, by omega, [], .nil, rfl⟩ ?turn ?fin
    (case turn =>
      rintro i ys news hi9 ⟨c, tc, rfl, hc, as, hA, hl⟩ v9 I oI Cc oC Da m₂ h9 tk9 E9 ⟨t9, hv⟩ hC hx9 F9 N9 o9 n9
      (try refine (let q0 := _; (?_ : wpAny _ _ _ q0 _ _)))
      have ob9 := o9.2.2.1
      have ol9 := o9.2.2.2.1
      have bI : @Ne Nat b I := ob9.1
      have bC : @Ne Nat b Cc := ob9.2.1
      have bD : @Ne Nat b Da := ob9.2.2
      have lI : @Ne Nat l I := ol9.1
      have lC : @Ne Nat l Cc := ol9.2.1
      have lD : @Ne Nat l Da := ol9.2.2
      clear ob9 ol9
      repeat' (first | ((fail_if_success (fail_if_success k_unfold)); first | refine (?_ : wpAny _ _ (execs _ _) _ _ _) | (k_unfold; (try dsimp only))) | ((first | (with_reducible show wpAny _ _ (execs _ _) _ _ _) | (with_reducible show wpAny _ _ (exec _ _) _ _ _)); first | ((fail_if_success k_fold); refine wpAny_tok ?_; intro tk0) | ((fail_if_success (fail_if_success k_fold)); refine (let q0 := _; (?_ : wpAny _ _ _ q0 _ _)))) | ((with_reducible show wpAny _ _ (setAttr _ (Str.ofString "attrs") _) _ _ _); k_dflt (refine' set_dict ?k1 ?k2 ?k3 ?k4 ?k5 ?k6 ?k7 ?k8 ?k9 ?k10 ?k11 ?k12 ?k13 ?_; (case k1 => k_asm); (case k2 => k_asm); (case k3 => k_asm); (case k4 => k_inst); (case k5 => exact rfl); (case k6 => k_is); (case k7 => k_is); (case k8 => k_is); (case k9 => k_is); (case k10 => assumption); (case k11 => exact rfl); (case k12 => k_upd); (case k13 => exact putL_len (by assumption)); k_whole; intro _ F' N'; (try k_sweep))) | ((with_reducible show wpAny _ _ (subscriptTail _ _ _ _) _ _ _); first | ((with_reducible show wpAny _ _ (subscriptTail _ (PySem.Expr.Slice _ _ none _) (Value.ref _) (Value.ref _)) _ _ _); k_dflt (refine' slice_strs ?F ?N ?m ?hS ?hok ?z0 ?zl ?y ?n ?s; (case F => k_asm); (case N => k_asm); (case m => k_mem); (case hS => exact .cons _ _ (.cons _ _ (.cons _ _ .nil))); (case hok => decide +kernel); (case z0 => assumption); (case zl => decide); (case s => with_unfolding_all rfl)); (all_goals (intro _ _ _ _ F' N' l1 _ _ _ _ _; (try k_lt l1); (try k_sweep)))) | ((with_reducible show wpAny _ _ (subscriptTail _ _ (Value.ref _) (Value.int (-1) _)) _ _ _); k_dflt (refine' last_at ?k1 ?k2 ?k3 ?_; (case k1 => k_asm); (case k2 => k_mem); (case k3 => first | with_reducible assumption | assumption))) | ((with_reducible show wpAny _ _ (subscriptTail _ _ (Value.ref _) (Value.int _ _)) _ _ _); k_dflt (refine' item_at ?k1 ?k2 ?k3 ?k4 ?k5 ?_; (case k1 => k_asm); (case k2 => k_mem); (case k5 => first | assumption | exact rfl); (case k3 => first | omega | decide); (case k4 => first | omega | decide)))) | ((with_reducible show wpAny _ _ (call _ _ _) _ _ _); first | ((with_reducible show wpAny _ _ (call (Value.ref _) _ _) _ _ _); ((first | (with_reducible show wpAny _ _ (call (Value.ref 127) _ _) _ _ _) | (with_reducible show wpAny _ _ (call (Value.ref 191) _ _) _ _ _)); k_dflt (refine' call_cls ?k1 ?k2 ?k3 ?k4 ?k5 ?k6 ?_; (case k1 => k_asm); (case k2 => k_asm); (case k3 => k_asm); (case k4 => k_is); (case k5 => k_is); (case k6 => k_is); k_whole; intro _ _ _ F' N' l1 l2; (try k_lt l1); (try k_lt2 l2); (try k_sweep); k_enter))) | ((with_reducible show wpAny _ _ (call (Value.ref _) _ _) _ _ _); (refine stop_call 202 ?_)) | ((with_reducible show wpAny _ _ (call (Value.ref _) _ _) _ _ _); (refine stop_call 575 ?_))) | ((with_reducible show wpAny _ _ (eval _ _) _ _ _); first | ((with_reducible show wpAny _ _ (eval (PySem.Expr.Dict ..) _) _ _ _); (k_dflt (refine' kdn_eval (knd := PySem.strKind _ _) ?F ?N ?b ?a ?l ?e ?n ?_; (case F => k_asm); (case N => k_asm); (case b => exact Top.nolimit (by k_asm)); (case a => rfl); (case l => rfl); (case e => exact List.cons_ne_nil _ _); (case n => exact Nat.le_of_ble_eq_true rfl)); intro _ _ _ F' N' l1 _ _; (try k_lt l1))) | ((with_reducible show wpAny _ _ (eval (PySem.Expr.ListComp ..) _) _ _ _); (k_dflt (refine comp_start (by k_asm) (by with_unfolding_all rfl) (by decide) (by rfl) (by decide) (by rfl) (by intro _; rfl) ?_)))) | ((with_reducible show wpAny _ _ (compareOp CmpOp.NotEq (Value.ref _) (Value.ref _)) _ _ _); k_dflt (refine' ne_nil ?k1 ?k2 ?k3 ?k4 ?k5 ?k6 ?k7 ?_; (case k1 => k_asm); (case k2 => k_mem); (case k3 => k_mem); (case k4 => assumption); (case k5 => assumption); (case k6 => k_units); (case k7 => assumption))) | ((with_reducible show wpAny _ _ (binaryOp _ (Value.ref _) (Value.ref _)) _ _ _); k_dflt (refine' add_at ?k1 ?k2 ?k3 ?k4 ?k5 ?_; (case k1 => k_asm); (case k2 => k_asm); (case k3 => k_mem); (case k4 => k_mem); (case k5 => first | omega | ((try simp only [List.length_append, List.length_cons, List.length_nil]); omega)); k_whole); intro _ _ F' N' l1; (try k_lt l1); (try k_sweep)) | walk1 | (dsimp only; first | (k_unfold; (try dsimp only)) | walk1) | (leave1; (try dsimp only)) | fail "no step")
      rename News _ _ _ _ => N10
      refine tokOther N10 fun t8 N11 => ?_
      clear N10
      have ob8 := offb (instObj 191 dv) (dictOf es 4) (listOf nits.toArray nn) oA (instObj 575 di) (dictOf es4 nI4)
      have ol8 := offl (instObj 191 dv) (dictOf es 4) (listOf nits.toArray nn) oA (instObj 575 di) (dictOf es4 nI4)
      (refine' callAt_use7 ?N ?C ?B ?F ?X ?T ?hk ?o1 ?o2 ?hd ?hu ?_; (case B => k_asm); (case F => k_asm); (case X => k_asm); (case N => exact N11); (case T => k_asm); (case hk => exact rfl); (case C => exact (c_tap _ b l _ _ 0 0 c tc ((nits.length : Int) + 2) _ (by assumption) (take60 _) hc (by walk_at "om") d1)); (case o1 => exact Off.cons (by walk_at "om") (Off.cons (by walk_at "om") (Off.cons (by walk_at "om") (Off.cons (by walk_at "om") (Off.cons (by walk_at "om") (Off.cons (by walk_at "om") (Off.cons (by walk_at "om") ob8))))))); (case o2 => exact Off.cons (by walk_at "om") (Off.cons (by walk_at "om") (Off.cons (by walk_at "om") (Off.cons (by walk_at "om") (Off.cons (by walk_at "om") (Off.cons (by walk_at "om") (Off.cons (by walk_at "om") ol8))))))); (case hd => k_room); (case hu => k_units))
      refine elT ?_
      intro r5 tr5 tc5 hr50 hr53 h3 tk3 F3 N3
      simp only [List.cons_append, List.nil_append] at N3
      obtain ⟨v8, a8, hv8, hA8⟩ := (AsksAre.app (AsksAre.ofStrs hP.names) (AsksAre.str (x := Str.ofString "other") (t := t8) (AsksAre.non .nil))).at (i := r5.toNat) (by simp only [List.length_append, List.length_cons, List.length_nil]; omega)
      dsimp only
      k_unfold
      (try dsimp only)
      (refine' item_at ?k1 ?k2 ?k3 ?k4 ?k5 ?_; (case k1 => exact N3); (case k2 => k_mem); (case k5 => exact hv8); (case k3 => omega); (case k4 => omega))
      (try k_unfold)
      (try dsimp only)
      refine' LCg.CompEnd.intro (by assumption) (by assumption) ?nw ?sub9 (off3_retype o9 ?rt) trivial ⟨c + 1, tc5, rfl, by omega, as ++ [a8], AsksAre.app hA hA8, by rw [List.length_append, hl]; rfl⟩
      (case rt => exact rfl)
      (case sub9 => (walk_at "sub")))
    (case fin =>
      rintro ys news Da h9 tk9 ⟨c, tc, rfl, hc, as, hA, hl⟩ F9 N9 o9
      (try (rename IsRange _ _ _ _ _ _ _ _ => xR; clear xR))
      (try (rename ∀ (b : Addr) (o : Obj), _ = some o → _ = some o => xA; clear xA))
      repeat' (first | ((fail_if_success (fail_if_success k_unfold)); first | refine (?_ : wpAny _ _ (execs _ _) _ _ _) | (k_unfold; (try dsimp only))) | ((first | (with_reducible show wpAny _ _ (execs _ _) _ _ _) | (with_reducible show wpAny _ _ (exec _ _) _ _ _)); first | ((fail_if_success k_fold); refine wpAny_tok ?_; intro tk0) | ((fail_if_success (fail_if_success k_fold)); refine (let q0 := _; (?_ : wpAny _ _ _ q0 _ _)))) | ((with_reducible show wpAny _ _ (setAttr _ (Str.ofString "attrs") _) _ _ _); k_dflt (refine' set_dict ?k1 ?k2 ?k3 ?k4 ?k5 ?k6 ?k7 ?k8 ?k9 ?k10 ?k11 ?k12 ?k13 ?_; (case k1 => k_asm); (case k2 => k_asm); (case k3 => k_asm); (case k4 => k_inst); (case k5 => exact rfl); (case k6 => k_is); (case k7 => k_is); (case k8 => k_is); (case k9 => k_is); (case k10 => assumption); (case k11 => exact rfl); (case k12 => k_upd); (case k13 => exact putL_len (by assumption)); k_whole; intro _ F' N'; (try k_sweep))) | ((with_reducible show wpAny _ _ (subscriptTail _ _ _ _) _ _ _); first | ((with_reducible show wpAny _ _ (subscriptTail _ (PySem.Expr.Slice _ _ none _) (Value.ref _) (Value.ref _)) _ _ _); k_dflt (refine' slice_strs ?F ?N ?m ?hS ?hok ?z0 ?zl ?y ?n ?s; (case F => k_asm); (case N => k_asm); (case m => k_mem); (case hS => exact .cons _ _ (.cons _ _ (.cons _ _ .nil))); (case hok => decide +kernel); (case z0 => assumption); (case zl => decide); (case s => with_unfolding_all rfl)); (all_goals (intro _ _ _ _ F' N' l1 _ _ _ _ _; (try k_lt l1); (try k_sweep)))) | ((with_reducible show wpAny _ _ (subscriptTail _ _ (Value.ref _) (Value.int (-1) _)) _ _ _); k_dflt (refine' last_at ?k1 ?k2 ?k3 ?_; (case k1 => k_asm); (case k2 => k_mem); (case k3 => first | with_reducible assumption | assumption))) | ((with_reducible show wpAny _ _ (subscriptTail _ _ (Value.ref _) (Value.int _ _)) _ _ _); k_dflt (refine' item_at ?k1 ?k2 ?k3 ?k4 ?k5 ?_; (case k1 => k_asm); (case k2 => k_mem); (case k5 => first | assumption | exact rfl); (case k3 => first | omega | decide); (case k4 => first | omega | decide)))) | ((with_reducible show wpAny _ _ (call _ _ _) _ _ _); first | ((with_reducible show wpAny _ _ (call (Value.ref _) _ _) _ _ _); ((first | (with_reducible show wpAny _ _ (call (Value.ref 127) _ _) _ _ _) | (with_reducible show wpAny _ _ (call (Value.ref 191) _ _) _ _ _)); k_dflt (refine' call_cls ?k1 ?k2 ?k3 ?k4 ?k5 ?k6 ?_; (case k1 => k_asm); (case k2 => k_asm); (case k3 => k_asm); (case k4 => k_is); (case k5 => k_is); (case k6 => k_is); k_whole; intro _ _ _ F' N' l1 l2; (try k_lt l1); (try k_lt2 l2); (try k_sweep); k_enter))) | ((with_reducible show wpAny _ _ (call (Value.ref _) _ _) _ _ _); (refine stop_call 202 ?_)) | ((with_reducible show wpAny _ _ (call (Value.ref _) _ _) _ _ _); (refine stop_call 575 ?_))) | ((with_reducible show wpAny _ _ (eval _ _) _ _ _); first | ((with_reducible show wpAny _ _ (eval (PySem.Expr.Dict ..) _) _ _ _); (k_dflt (refine' kdn_eval (knd := PySem.strKind _ _) ?F ?N ?b ?a ?l ?e ?n ?_; (case F => k_asm); (case N => k_asm); (case b => exact Top.nolimit (by k_asm)); (case a => rfl); (case l => rfl); (case e => exact List.cons_ne_nil _ _); (case n => exact Nat.le_of_ble_eq_true rfl)); intro _ _ _ F' N' l1 _ _; (try k_lt l1))) | ((with_reducible show wpAny _ _ (eval (PySem.Expr.ListComp ..) _) _ _ _); (k_dflt (refine comp_start (by k_asm) (by with_unfolding_all rfl) (by decide) (by rfl) (by decide) (by rfl) (by intro _; rfl) ?_)))) | ((with_reducible show wpAny _ _ (compareOp CmpOp.NotEq (Value.ref _) (Value.ref _)) _ _ _); k_dflt (refine' ne_nil ?k1 ?k2 ?k3 ?k4 ?k5 ?k6 ?k7 ?_; (case k1 => k_asm); (case k2 => k_mem); (case k3 => k_mem); (case k4 => assumption); (case k5 => assumption); (case k6 => k_units); (case k7 => assumption))) | ((with_reducible show wpAny _ _ (binaryOp _ (Value.ref _) (Value.ref _)) _ _ _); k_dflt (refine' add_at ?k1 ?k2 ?k3 ?k4 ?k5 ?_; (case k1 => k_asm); (case k2 => k_asm); (case k3 => k_mem); (case k4 => k_mem); (case k5 => first | omega | ((try simp only [List.length_append, List.length_cons, List.length_nil]); omega)); k_whole); intro _ _ F' N' l1; (try k_lt l1); (try k_sweep)) | walk1 | (dsimp only; first | (k_unfold; (try dsimp only)) | walk1) | (leave1; (try dsimp only)) | fail "no step")
      skip
      obtain ⟨S, dS, t, dt, Dt, U, g1, g2, t1, t2, oD, oU, esS, nS, kvs, hS4⟩ := hP.more (by walk_at "om")
      dsimp only at hS4
      have hgl : ∀ x ∈ gl, x ∈ made := fun x h => by rw [hS4.made]; exact .tail _ (.tail _ (List.mem_append_right _ h))
      have hk6 : (keys G).length ≤ 6 := by walk_at "om"
      have hkn : ∀ x ∈ keys G, x ∈ kns := fun x h => List.mem_of_mem_take (by have h2 := h; rw [hP.ks] at h2; exact h2)
      have hasl : as.length ≤ 8 := by walk_at "om"
      have hyl := hA.length
      (refine' callAt_useN ?N ?C ?B ?F ?X ?T ?hk ?hd ?hu ?_; (case B => k_asm); (case F => k_asm); (case X => k_asm); (case N => k_asm); (case T => k_asm); (case hk => exact rfl); (case C => exact (c_row _ A oA kvsA _ G nm tnm hP.dA lA (by k_mem) (hP.abv.mono (by intro x h; (repeat (first | exact (hgl x h) | apply List.Mem.tail)))) hP.cl hk6 (fun x h => kns_ok x (hkn x h)) hP.up hx)); (case hd => k_room); (case hu => k_units))
      skip
      refine el3R ?_
      intro rw1 rits1 nr1 hR1 h6 tk6 F6 N6
      dsimp only
      skip
      repeat' (first | ((fail_if_success (fail_if_success k_unfold)); first | refine (?_ : wpAny _ _ (execs _ _) _ _ _) | (k_unfold; (try dsimp only))) | ((first | (with_reducible show wpAny _ _ (execs _ _) _ _ _) | (with_reducible show wpAny _ _ (exec _ _) _ _ _)); first | ((fail_if_success k_fold); refine wpAny_tok ?_; intro tk0) | ((fail_if_success (fail_if_success k_fold)); refine (let q0 := _; (?_ : wpAny _ _ _ q0 _ _)))) | ((with_reducible show wpAny _ _ (setAttr _ (Str.ofString "attrs") _) _ _ _); k_dflt (refine' set_dict ?k1 ?k2 ?k3 ?k4 ?k5 ?k6 ?k7 ?k8 ?k9 ?k10 ?k11 ?k12 ?k13 ?_; (case k1 => k_asm); (case k2 => k_asm); (case k3 => k_asm); (case k4 => k_inst); (case k5 => exact rfl); (case k6 => k_is); (case k7 => k_is); (case k8 => k_is); (case k9 => k_is); (case k10 => assumption); (case k11 => exact rfl); (case k12 => k_upd); (case k13 => exact putL_len (by assumption)); k_whole; intro _ F' N'; (try k_sweep))) | ((with_reducible show wpAny _ _ (subscriptTail _ _ _ _) _ _ _); first | ((with_reducible show wpAny _ _ (subscriptTail _ (PySem.Expr.Slice _ _ none _) (Value.ref _) (Value.ref _)) _ _ _); k_dflt (refine' slice_strs ?F ?N ?m ?hS ?hok ?z0 ?zl ?y ?n ?s; (case F => k_asm); (case N => k_asm); (case m => k_mem); (case hS => exact .cons _ _ (.cons _ _ (.cons _ _ .nil))); (case hok => decide +kernel); (case z0 => assumption); (case zl => decide); (case s => with_unfolding_all rfl)); (all_goals (intro _ _ _ _ F' N' l1 _ _ _ _ _; (try k_lt l1); (try k_sweep)))) | ((with_reducible show wpAny _ _ (subscriptTail _ _ (Value.ref _) (Value.int (-1) _)) _ _ _); k_dflt (refine' last_at ?k1 ?k2 ?k3 ?_; (case k1 => k_asm); (case k2 => k_mem); (case k3 => first | with_reducible assumption | assumption))) | ((with_reducible show wpAny _ _ (subscriptTail _ _ (Value.ref _) (Value.int _ _)) _ _ _); k_dflt (refine' item_at ?k1 ?k2 ?k3 ?k4 ?k5 ?_; (case k1 => k_asm); (case k2 => k_mem); (case k5 => first | assumption | exact rfl); (case k3 => first | omega | decide); (case k4 => first | omega | decide)))) | ((with_reducible show wpAny _ _ (call _ _ _) _ _ _); first | ((with_reducible show wpAny _ _ (call (Value.ref _) _ _) _ _ _); ((first | (with_reducible show wpAny _ _ (call (Value.ref 127) _ _) _ _ _) | (with_reducible show wpAny _ _ (call (Value.ref 191) _ _) _ _ _)); k_dflt (refine' call_cls ?k1 ?k2 ?k3 ?k4 ?k5 ?k6 ?_; (case k1 => k_asm); (case k2 => k_asm); (case k3 => k_asm); (case k4 => k_is); (case k5 => k_is); (case k6 => k_is); k_whole; intro _ _ _ F' N' l1 l2; (try k_lt l1); (try k_lt2 l2); (try k_sweep); k_enter))) | ((with_reducible show wpAny _ _ (call (Value.ref _) _ _) _ _ _); (refine stop_call 202 ?_)) | ((with_reducible show wpAny _ _ (call (Value.ref _) _ _) _ _ _); (refine stop_call 575 ?_))) | ((with_reducible show wpAny _ _ (eval _ _) _ _ _); first | ((with_reducible show wpAny _ _ (eval (PySem.Expr.Dict ..) _) _ _ _); (k_dflt (refine' kdn_eval (knd := PySem.strKind _ _) ?F ?N ?b ?a ?l ?e ?n ?_; (case F => k_asm); (case N => k_asm); (case b => exact Top.nolimit (by k_asm)); (case a => rfl); (case l => rfl); (case e => exact List.cons_ne_nil _ _); (case n => exact Nat.le_of_ble_eq_true rfl)); intro _ _ _ F' N' l1 _ _; (try k_lt l1))) | ((with_reducible show wpAny _ _ (eval (PySem.Expr.ListComp ..) _) _ _ _); (k_dflt (refine comp_start (by k_asm) (by with_unfolding_all rfl) (by decide) (by rfl) (by decide) (by rfl) (by intro _; rfl) ?_)))) | ((with_reducible show wpAny _ _ (compareOp CmpOp.NotEq (Value.ref _) (Value.ref _)) _ _ _); k_dflt (refine' ne_nil ?k1 ?k2 ?k3 ?k4 ?k5 ?k6 ?k7 ?_; (case k1 => k_asm); (case k2 => k_mem); (case k3 => k_mem); (case k4 => assumption); (case k5 => assumption); (case k6 => k_units); (case k7 => assumption))) | ((with_reducible show wpAny _ _ (binaryOp _ (Value.ref _) (Value.ref _)) _ _ _); k_dflt (refine' add_at ?k1 ?k2 ?k3 ?k4 ?k5 ?_; (case k1 => k_asm); (case k2 => k_asm); (case k3 => k_mem); (case k4 => k_mem); (case k5 => first | omega | ((try simp only [List.length_append, List.length_cons, List.length_nil]); omega)); k_whole); intro _ _ F' N' l1; (try k_lt l1); (try k_sweep)) | walk1 | (dsimp only; first | (k_unfold; (try dsimp only)) | walk1) | (leave1; (try dsimp only)) | fail "no step")
      skip
      (refine' callAt_useN ?N ?C ?B ?F ?X ?T ?hk ?hd ?hu ?_; (case B => k_asm); (case F => k_asm); (case X => k_asm); (case N => k_asm); (case T => k_asm); (case hk => exact rfl); (case C => exact (c_told _ _ (.ref it) v rw1 _ nr1 _ rits1 (ys ++ nits) (as ++ (keys G).map some) (rowOf G nm) (by k_mem) (by k_mem) hR1 (AsksAre.app hA (AsksAre.ofStrs hP.names)) (by rw [List.length_append, List.length_map]; omega) (Nat.le_trans (rowOf_len hP.cl hx) (by walk_at "om")) (c_all_law _ _ hS4 hP.cl hk6 (fun h => kns_any _ (hkn _ h) rfl) hP.up hx hk hn ha (by intro x h; (repeat (first | exact (h) | apply List.Mem.tail))) (by k_mem) (by k_mem) (by k_mem) (by k_mem)))); (case hd => k_room); (case hu => k_units))
      skip
      refine el0 ?_
      intro h7 tk7 F7 N7
      dsimp only
      skip
      repeat' (first | ((fail_if_success (fail_if_success k_unfold)); first | refine (?_ : wpAny _ _ (execs _ _) _ _ _) | (k_unfold; (try dsimp only))) | ((first | (with_reducible show wpAny _ _ (execs _ _) _ _ _) | (with_reducible show wpAny _ _ (exec _ _) _ _ _)); first | ((fail_if_success k_fold); refine wpAny_tok ?_; intro tk0) | ((fail_if_success (fail_if_success k_fold)); refine (let q0 := _; (?_ : wpAny _ _ _ q0 _ _)))) | ((with_reducible show wpAny _ _ (setAttr _ (Str.ofString "attrs") _) _ _ _); k_dflt (refine' set_dict ?k1 ?k2 ?k3 ?k4 ?k5 ?k6 ?k7 ?k8 ?k9 ?k10 ?k11 ?k12 ?k13 ?_; (case k1 => k_asm); (case k2 => k_asm); (case k3 => k_asm); (case k4 => k_inst); (case k5 => exact rfl); (case k6 => k_is); (case k7 => k_is); (case k8 => k_is); (case k9 => k_is); (case k10 => assumption); (case k11 => exact rfl); (case k12 => k_upd); (case k13 => exact putL_len (by assumption)); k_whole; intro _ F' N'; (try k_sweep))) | ((with_reducible show wpAny _ _ (subscriptTail _ _ _ _) _ _ _); first | ((with_reducible show wpAny _ _ (subscriptTail _ (PySem.Expr.Slice _ _ none _) (Value.ref _) (Value.ref _)) _ _ _); k_dflt (refine' slice_strs ?F ?N ?m ?hS ?hok ?z0 ?zl ?y ?n ?s; (case F => k_asm); (case N => k_asm); (case m => k_mem); (case hS => exact .cons _ _ (.cons _ _ (.cons _ _ .nil))); (case hok => decide +kernel); (case z0 => assumption); (case zl => decide); (case s => with_unfolding_all rfl)); (all_goals (intro _ _ _ _ F' N' l1 _ _ _ _ _; (try k_lt l1); (try k_sweep)))) | ((with_reducible show wpAny _ _ (subscriptTail _ _ (Value.ref _) (Value.int (-1) _)) _ _ _); k_dflt (refine' last_at ?k1 ?k2 ?k3 ?_; (case k1 => k_asm); (case k2 => k_mem); (case k3 => first | with_reducible assumption | assumption))) | ((with_reducible show wpAny _ _ (subscriptTail _ _ (Value.ref _) (Value.int _ _)) _ _ _); k_dflt (refine' item_at ?k1 ?k2 ?k3 ?k4 ?k5 ?_; (case k1 => k_asm); (case k2 => k_mem); (case k5 => first | assumption | exact rfl); (case k3 => first | omega | decide); (case k4 => first | omega | decide)))) | ((with_reducible show wpAny _ _ (call _ _ _) _ _ _); first | ((with_reducible show wpAny _ _ (call (Value.ref _) _ _) _ _ _); ((first | (with_reducible show wpAny _ _ (call (Value.ref 127) _ _) _ _ _) | (with_reducible show wpAny _ _ (call (Value.ref 191) _ _) _ _ _)); k_dflt (refine' call_cls ?k1 ?k2 ?k3 ?k4 ?k5 ?k6 ?_; (case k1 => k_asm); (case k2 => k_asm); (case k3 => k_asm); (case k4 => k_is); (case k5 => k_is); (case k6 => k_is); k_whole; intro _ _ _ F' N' l1 l2; (try k_lt l1); (try k_lt2 l2); (try k_sweep); k_enter))) | ((with_reducible show wpAny _ _ (call (Value.ref _) _ _) _ _ _); (refine stop_call 202 ?_)) | ((with_reducible show wpAny _ _ (call (Value.ref _) _ _) _ _ _); (refine stop_call 575 ?_))) | ((with_reducible show wpAny _ _ (eval _ _) _ _ _); first | ((with_reducible show wpAny _ _ (eval (PySem.Expr.Dict ..) _) _ _ _); (k_dflt (refine' kdn_eval (knd := PySem.strKind _ _) ?F ?N ?b ?a ?l ?e ?n ?_; (case F => k_asm); (case N => k_asm); (case b => exact Top.nolimit (by k_asm)); (case a => rfl); (case l => rfl); (case e => exact List.cons_ne_nil _ _); (case n => exact Nat.le_of_ble_eq_true rfl)); intro _ _ _ F' N' l1 _ _; (try k_lt l1))) | ((with_reducible show wpAny _ _ (eval (PySem.Expr.ListComp ..) _) _ _ _); (k_dflt (refine comp_start (by k_asm) (by with_unfolding_all rfl) (by decide) (by rfl) (by decide) (by rfl) (by intro _; rfl) ?_)))) | ((with_reducible show wpAny _ _ (compareOp CmpOp.NotEq (Value.ref _) (Value.ref _)) _ _ _); k_dflt (refine' ne_nil ?k1 ?k2 ?k3 ?k4 ?k5 ?k6 ?k7 ?_; (case k1 => k_asm); (case k2 => k_mem); (case k3 => k_mem); (case k4 => assumption); (case k5 => assumption); (case k6 => k_units); (case k7 => assumption))) | ((with_reducible show wpAny _ _ (binaryOp _ (Value.ref _) (Value.ref _)) _ _ _); k_dflt (refine' add_at ?k1 ?k2 ?k3 ?k4 ?k5 ?_; (case k1 => k_asm); (case k2 => k_asm); (case k3 => k_mem); (case k4 => k_mem); (case k5 => first | omega | ((try simp only [List.length_append, List.length_cons, List.length_nil]); omega)); k_whole); intro _ _ F' N' l1; (try k_lt l1); (try k_sweep)) | walk1 | (dsimp only; first | (k_unfold; (try dsimp only)) | walk1) | (leave1; (try dsimp only)) | fail "no step")
      skip
      (refine' callAt_useN ?N ?C ?B ?F ?X ?T ?hk ?hd ?hu ?_; (case B => k_asm); (case F => k_asm); (case X => k_asm); (case N => k_asm); (case T => k_asm); (case hk => exact rfl); (case C => exact (c_told _ _ .none v _ _ _ _ [.str nm tnm] (ys ++ nits) (as ++ (keys G).map some) [nm] (by k_mem) (by k_mem) (.cons _ _ .nil) (AsksAre.app hA (AsksAre.ofStrs hP.names)) (by rw [List.length_append, List.length_map]; omega) (by simp) (c_all_none _ _ v dv es 4 _ [nm] hk (by k_mem) (by k_mem) (c_class_s4 _ _ v dv es 4 nm _ _ hk hn ha (by k_mem) (by k_mem)) (by simp)))); (case hd => k_room); (case hu => k_units))
      refine el0 ?_
      intro h7 tk7 F7 N7
      dsimp only
      skip
      repeat' (first | ((fail_if_success (fail_if_success k_unfold)); first | refine (?_ : wpAny _ _ (execs _ _) _ _ _) | (k_unfold; (try dsimp only))) | ((first | (with_reducible show wpAny _ _ (execs _ _) _ _ _) | (with_reducible show wpAny _ _ (exec _ _) _ _ _)); first | ((fail_if_success k_fold); refine wpAny_tok ?_; intro tk0) | ((fail_if_success (fail_if_success k_fold)); refine (let q0 := _; (?_ : wpAny _ _ _ q0 _ _)))) | ((with_reducible show wpAny _ _ (setAttr _ (Str.ofString "attrs") _) _ _ _); k_dflt (refine' set_dict ?k1 ?k2 ?k3 ?k4 ?k5 ?k6 ?k7 ?k8 ?k9 ?k10 ?k11 ?k12 ?k13 ?_; (case k1 => k_asm); (case k2 => k_asm); (case k3 => k_asm); (case k4 => k_inst); (case k5 => exact rfl); (case k6 => k_is); (case k7 => k_is); (case k8 => k_is); (case k9 => k_is); (case k10 => assumption); (case k11 => exact rfl); (case k12 => k_upd); (case k13 => exact putL_len (by assumption)); k_whole; intro _ F' N'; (try k_sweep))) | ((with_reducible show wpAny _ _ (subscriptTail _ _ _ _) _ _ _); first | ((with_reducible show wpAny _ _ (subscriptTail _ (PySem.Expr.Slice _ _ none _) (Value.ref _) (Value.ref _)) _ _ _); k_dflt (refine' slice_strs ?F ?N ?m ?hS ?hok ?z0 ?zl ?y ?n ?s; (case F => k_asm); (case N => k_asm); (case m => k_mem); (case hS => exact .cons _ _ (.cons _ _ (.cons _ _ .nil))); (case hok => decide +kernel); (case z0 => assumption); (case zl => decide); (case s => with_unfolding_all rfl)); (all_goals (intro _ _ _ _ F' N' l1 _ _ _ _ _; (try k_lt l1); (try k_sweep)))) | ((with_reducible show wpAny _ _ (subscriptTail _ _ (Value.ref _) (Value.int (-1) _)) _ _ _); k_dflt (refine' last_at ?k1 ?k2 ?k3 ?_; (case k1 => k_asm); (case k2 => k_mem); (case k3 => first | with_reducible assumption | assumption))) | ((with_reducible show wpAny _ _ (subscriptTail _ _ (Value.ref _) (Value.int _ _)) _ _ _); k_dflt (refine' item_at ?k1 ?k2 ?k3 ?k4 ?k5 ?_; (case k1 => k_asm); (case k2 => k_mem); (case k5 => first | assumption | exact rfl); (case k3 => first | omega | decide); (case k4 => first | omega | decide)))) | ((with_reducible show wpAny _ _ (call _ _ _) _ _ _); first | ((with_reducible show wpAny _ _ (call (Value.ref _) _ _) _ _ _); ((first | (with_reducible show wpAny _ _ (call (Value.ref 127) _ _) _ _ _) | (with_reducible show wpAny _ _ (call (Value.ref 191) _ _) _ _ _)); k_dflt (refine' call_cls ?k1 ?k2 ?k3 ?k4 ?k5 ?k6 ?_; (case k1 => k_asm); (case k2 => k_asm); (case k3 => k_asm); (case k4 => k_is); (case k5 => k_is); (case k6 => k_is); k_whole; intro _ _ _ F' N' l1 l2; (try k_lt l1); (try k_lt2 l2); (try k_sweep); k_enter))) | ((with_reducible show wpAny _ _ (call (Value.ref _) _ _) _ _ _); (refine stop_call 202 ?_)) | ((with_reducible show wpAny _ _ (call (Value.ref _) _ _) _ _ _); (refine stop_call 575 ?_))) | ((with_reducible show wpAny _ _ (eval _ _) _ _ _); first | ((with_reducible show wpAny _ _ (eval (PySem.Expr.Dict ..) _) _ _ _); (k_dflt (refine' kdn_eval (knd := PySem.strKind _ _) ?F ?N ?b ?a ?l ?e ?n ?_; (case F => k_asm); (case N => k_asm); (case b => exact Top.nolimit (by k_asm)); (case a => rfl); (case l => rfl); (case e => exact List.cons_ne_nil _ _); (case n => exact Nat.le_of_ble_eq_true rfl)); intro _ _ _ F' N' l1 _ _; (try k_lt l1))) | ((with_reducible show wpAny _ _ (eval (PySem.Expr.ListComp ..) _) _ _ _); (k_dflt (refine comp_start (by k_asm) (by with_unfolding_all rfl) (by decide) (by rfl) (by decide) (by rfl) (by intro _; rfl) ?_)))) | ((with_reducible show wpAny _ _ (compareOp CmpOp.NotEq (Value.ref _) (Value.ref _)) _ _ _); k_dflt (refine' ne_nil ?k1 ?k2 ?k3 ?k4 ?k5 ?k6 ?k7 ?_; (case k1 => k_asm); (case k2 => k_mem); (case k3 => k_mem); (case k4 => assumption); (case k5 => assumption); (case k6 => k_units); (case k7 => assumption))) | ((with_reducible show wpAny _ _ (binaryOp _ (Value.ref _) (Value.ref _)) _ _ _); k_dflt (refine' add_at ?k1 ?k2 ?k3 ?k4 ?k5 ?_; (case k1 => k_asm); (case k2 => k_asm); (case k3 => k_mem); (case k4 => k_mem); (case k5 => first | omega | ((try simp only [List.length_append, List.length_cons, List.length_nil]); omega)); k_whole); intro _ _ F' N' l1; (try k_lt l1); (try k_sweep)) | walk1 | (dsimp only; first | (k_unfold; (try dsimp only)) | walk1) | (leave1; (try dsimp only)) | fail "no step")
      skip
      (refine' callAt_useN ?N ?C ?B ?F ?X ?T ?hk ?hd ?hu ?_; (case B => k_asm); (case F => k_asm); (case X => k_asm); (case N => k_asm); (case T => k_asm); (case hk => exact rfl); (case C => exact (c_integer _ _ _ [.int 3 _] _ (by k_mem) (Nat.le_of_ble_eq_true rfl))); (case hd => k_room); (case hu => k_units))
      refine el6R ?_
      intro v2 dv2 c2 es2 t2 nc2 hR9 h8 tk8 F8 N8
      have hk2 := hR9.1
      have ha2 := hR9.2.1
      have hl2 := hR9.2.2.1
      have e1 := hR9.2.2.2.1
      have hv1 := hR9.2.2.2.2.1
      have hv2 := hR9.2.2.2.2.2
      clear hR9
      have q1 : @LT.lt Nat _ b v2 := hv2 (b, _) (by k_mem)
      have q2 : @LT.lt Nat _ l v2 := hv2 (l, _) (by k_mem)
      have q3 : @LT.lt Nat _ Da v2 := hv2 (Da, _) (by k_mem)
      have q4 : @LT.lt Nat _ b dv2 := hv1 (b, _) (by k_mem)
      have q5 : @LT.lt Nat _ l dv2 := hv1 (l, _) (by k_mem)
      have q6 : @LT.lt Nat _ Da dv2 := hv1 (Da, _) (by k_mem)
      have q9 : @LT.lt Nat _ (s₁.heap.objs.size + 1) dv2 := hv1 (s₁.heap.objs.size + 1, _) (by k_mem)
      have q10 : @LT.lt Nat _ (s₁.heap.objs.size + 1 + 1) dv2 := hv1 (s₁.heap.objs.size + 1 + 1, _) (by k_mem)
      have q11 : @LT.lt Nat _ (s₁.heap.objs.size + 1) v2 := hv2 (s₁.heap.objs.size + 1, _) (by k_mem)
      have q12 : @LT.lt Nat _ (s₁.heap.objs.size + 1 + 1) v2 := hv2 (s₁.heap.objs.size + 1 + 1, _) (by k_mem)
      have q7 : @Ne Nat b Da := o9 _ (.tail _ (.tail _ (.head _)))
      have q8 : @Ne Nat l Da := o9 _ (.tail _ (.tail _ (.tail _ (.head _))))
      have hs2 : (getL (Str.ofString "attrs") es2).isSome = true := by rw [ha2]; rfl
      clear hv1 hv2
      dsimp only
      replace N8 := repackT N8
      skip
      repeat' (first | ((fail_if_success (fail_if_success k_unfold)); first | refine (?_ : wpAny _ _ (execs _ _) _ _ _) | (k_unfold; (try dsimp only))) | ((first | (with_reducible show wpAny _ _ (execs _ _) _ _ _) | (with_reducible show wpAny _ _ (exec _ _) _ _ _)); first | ((fail_if_success k_fold); refine wpAny_tok ?_; intro tk0) | ((fail_if_success (fail_if_success k_fold)); refine (let q0 := _; (?_ : wpAny _ _ _ q0 _ _)))) | ((with_reducible show wpAny _ _ (setAttr _ (Str.ofString "attrs") _) _ _ _); k_dflt (refine' set_dict ?k1 ?k2 ?k3 ?k4 ?k5 ?k6 ?k7 ?k8 ?k9 ?k10 ?k11 ?k12 ?k13 ?_; (case k1 => k_asm); (case k2 => k_asm); (case k3 => k_asm); (case k4 => k_inst); (case k5 => exact rfl); (case k6 => k_is); (case k7 => k_is); (case k8 => k_is); (case k9 => k_is); (case k10 => assumption); (case k11 => exact rfl); (case k12 => k_upd); (case k13 => exact putL_len (by assumption)); k_whole; intro _ F' N'; (try k_sweep))) | ((with_reducible show wpAny _ _ (subscriptTail _ _ _ _) _ _ _); first | ((with_reducible show wpAny _ _ (subscriptTail _ (PySem.Expr.Slice _ _ none _) (Value.ref _) (Value.ref _)) _ _ _); k_dflt (refine' slice_strs ?F ?N ?m ?hS ?hok ?z0 ?zl ?y ?n ?s; (case F => k_asm); (case N => k_asm); (case m => k_mem); (case hS => exact .cons _ _ (.cons _ _ (.cons _ _ .nil))); (case hok => decide +kernel); (case z0 => assumption); (case zl => decide); (case s => with_unfolding_all rfl)); (all_goals (intro _ _ _ _ F' N' l1 _ _ _ _ _; (try k_lt l1); (try k_sweep)))) | ((with_reducible show wpAny _ _ (subscriptTail _ _ (Value.ref _) (Value.int (-1) _)) _ _ _); k_dflt (refine' last_at ?k1 ?k2 ?k3 ?_; (case k1 => k_asm); (case k2 => k_mem); (case k3 => first | with_reducible assumption | assumption))) | ((with_reducible show wpAny _ _ (subscriptTail _ _ (Value.ref _) (Value.int _ _)) _ _ _); k_dflt (refine' item_at ?k1 ?k2 ?k3 ?k4 ?k5 ?_; (case k1 => k_asm); (case k2 => k_mem); (case k5 => first | assumption | exact rfl); (case k3 => first | omega | decide); (case k4 => first | omega | decide)))) | ((with_reducible show wpAny _ _ (call _ _ _) _ _ _); first | ((with_reducible show wpAny _ _ (call (Value.ref _) _ _) _ _ _); ((first | (with_reducible show wpAny _ _ (call (Value.ref 127) _ _) _ _ _) | (with_reducible show wpAny _ _ (call (Value.ref 191) _ _) _ _ _)); k_dflt (refine' call_cls ?k1 ?k2 ?k3 ?k4 ?k5 ?k6 ?_; (case k1 => k_asm); (case k2 => k_asm); (case k3 => k_asm); (case k4 => k_is); (case k5 => k_is); (case k6 => k_is); k_whole; intro _ _ _ F' N' l1 l2; (try k_lt l1); (try k_lt2 l2); (try k_sweep); k_enter))) | ((with_reducible show wpAny _ _ (call (Value.ref _) _ _) _ _ _); (refine stop_call 202 ?_)) | ((with_reducible show wpAny _ _ (call (Value.ref _) _ _) _ _ _); (refine stop_call 575 ?_))) | ((with_reducible show wpAny _ _ (eval _ _) _ _ _); first | ((with_reducible show wpAny _ _ (eval (PySem.Expr.Dict ..) _) _ _ _); (k_dflt (refine' kdn_eval (knd := PySem.strKind _ _) ?F ?N ?b ?a ?l ?e ?n ?_; (case F => k_asm); (case N => k_asm); (case b => exact Top.nolimit (by k_asm)); (case a => rfl); (case l => rfl); (case e => exact List.cons_ne_nil _ _); (case n => exact Nat.le_of_ble_eq_true rfl)); intro _ _ _ F' N' l1 _ _; (try k_lt l1))) | ((with_reducible show wpAny _ _ (eval (PySem.Expr.ListComp ..) _) _ _ _); (k_dflt (refine comp_start (by k_asm) (by with_unfolding_all rfl) (by decide) (by rfl) (by decide) (by rfl) (by intro _; rfl) ?_)))) | ((with_reducible show wpAny _ _ (compareOp CmpOp.NotEq (Value.ref _) (Value.ref _)) _ _ _); k_dflt (refine' ne_nil ?k1 ?k2 ?k3 ?k4 ?k5 ?k6 ?k7 ?_; (case k1 => k_asm); (case k2 => k_mem); (case k3 => k_mem); (case k4 => assumption); (case k5 => assumption); (case k6 => k_units); (case k7 => assumption))) | ((with_reducible show wpAny _ _ (binaryOp _ (Value.ref _) (Value.ref _)) _ _ _); k_dflt (refine' add_at ?k1 ?k2 ?k3 ?k4 ?k5 ?_; (case k1 => k_asm); (case k2 => k_asm); (case k3 => k_mem); (case k4 => k_mem); (case k5 => first | omega | ((try simp only [List.length_append, List.length_cons, List.length_nil]); omega)); k_whole); intro _ _ F' N' l1; (try k_lt l1); (try k_sweep)) | walk1 | (dsimp only; first | (k_unfold; (try dsimp only)) | walk1) | (leave1; (try dsimp only)) | fail "no step")
      skip
      rename News _ _ _ _ => N30
      replace N30 := repackW N30
      (refine' callAt_useC ?N ?C [(_, _), (v2, _), (dv2, _), (Da, _)] ?B ?F ?X ?T ?hk ?hin ?o1 ?o2 ?off ?hd ?hu ?_; (case B => k_asm); (case F => k_asm); (case X => k_asm); (case N => exact N30); (case T => k_asm); (case hk => exact rfl); (case C => exact (c_tap _ b l _ _ 0 0 c tc 4 _ (by assumption) (take60 _) hc (by decide) d1)); (case hin => (walk_at "sub")); (case o1 => exact Off.cons (by walk_at "om") (Off.cons (by walk_at "om") Off.nil)); (case o2 => exact Off.cons (by walk_at "om") (Off.cons (by walk_at "om") Off.nil)); (case off => exact Apart.cons (Off.cons (by walk_at "om") (Off.cons (by walk_at "om") (Off.cons (by walk_at "om") (Off.cons (by walk_at "om") Off.nil)))) (Apart.cons (Off.cons (by walk_at "om") (Off.cons (by walk_at "om") (Off.cons (by walk_at "om") (Off.cons (by walk_at "om") Off.nil)))) Apart.nil)); (case hd => k_room); (case hu => k_units))
      refine elT ?_
      intro r3 tr3 tc3 hr30 hr33 h9' tk9' F9' N9' hq3 hq4 ap9
      clear hq3 hq4 ap9
      simp only [List.cons_append, List.nil_append] at N9'
      clear vb vl wb wl q7 q8 d1 hob hol omb oml offb offl o9
      dsimp only
      skip
      repeat' (first | ((fail_if_success (fail_if_success k_unfold)); first | refine (?_ : wpAny _ _ (execs _ _) _ _ _) | (k_unfold; (try dsimp only))) | ((first | (with_reducible show wpAny _ _ (execs _ _) _ _ _) | (with_reducible show wpAny _ _ (exec _ _) _ _ _)); first | ((fail_if_success k_fold); refine wpAny_tok ?_; intro tk0) | ((fail_if_success (fail_if_success k_fold)); refine (let q0 := _; (?_ : wpAny _ _ _ q0 _ _)))) | ((with_reducible show wpAny _ _ (setAttr _ (Str.ofString "attrs") _) _ _ _); k_dflt (refine' set_dict ?k1 ?k2 ?k3 ?k4 ?k5 ?k6 ?k7 ?k8 ?k9 ?k10 ?k11 ?k12 ?k13 ?_; (case k1 => k_asm); (case k2 => k_asm); (case k3 => k_asm); (case k4 => k_inst); (case k5 => exact rfl); (case k6 => k_is); (case k7 => k_is); (case k8 => k_is); (case k9 => k_is); (case k10 => assumption); (case k11 => exact rfl); (case k12 => k_upd); (case k13 => exact putL_len (by assumption)); k_whole; intro _ F' N'; (try k_sweep))) | ((with_reducible show wpAny _ _ (subscriptTail _ _ _ _) _ _ _); first | ((with_reducible show wpAny _ _ (subscriptTail _ (PySem.Expr.Slice _ _ none _) (Value.ref _) (Value.ref _)) _ _ _); k_dflt (refine' slice_strs ?F ?N ?m ?hS ?hok ?z0 ?zl ?y ?n ?s; (case F => k_asm); (case N => k_asm); (case m => k_mem); (case hS => exact .cons _ _ (.cons _ _ (.cons _ _ .nil))); (case hok => decide +kernel); (case z0 => assumption); (case zl => decide); (case s => with_unfolding_all rfl)); (all_goals (intro _ _ _ _ F' N' l1 _ _ _ _ _; (try k_lt l1); (try k_sweep)))) | ((with_reducible show wpAny _ _ (subscriptTail _ _ (Value.ref _) (Value.int (-1) _)) _ _ _); k_dflt (refine' last_at ?k1 ?k2 ?k3 ?_; (case k1 => k_asm); (case k2 => k_mem); (case k3 => first | with_reducible assumption | assumption))) | ((with_reducible show wpAny _ _ (subscriptTail _ _ (Value.ref _) (Value.int _ _)) _ _ _); k_dflt (refine' item_at ?k1 ?k2 ?k3 ?k4 ?k5 ?_; (case k1 => k_asm); (case k2 => k_mem); (case k5 => first | assumption | exact rfl); (case k3 => first | omega | decide); (case k4 => first | omega | decide)))) | ((with_reducible show wpAny _ _ (call _ _ _) _ _ _); first | ((with_reducible show wpAny _ _ (call (Value.ref _) _ _) _ _ _); ((first | (with_reducible show wpAny _ _ (call (Value.ref 127) _ _) _ _ _) | (with_reducible show wpAny _ _ (call (Value.ref 191) _ _) _ _ _)); k_dflt (refine' call_cls ?k1 ?k2 ?k3 ?k4 ?k5 ?k6 ?_; (case k1 => k_asm); (case k2 => k_asm); (case k3 => k_asm); (case k4 => k_is); (case k5 => k_is); (case k6 => k_is); k_whole; intro _ _ _ F' N' l1 l2; (try k_lt l1); (try k_lt2 l2); (try k_sweep); k_enter))) | ((with_reducible show wpAny _ _ (call (Value.ref _) _ _) _ _ _); (refine stop_call 202 ?_)) | ((with_reducible show wpAny _ _ (call (Value.ref _) _ _) _ _ _); (refine stop_call 575 ?_))) | ((with_reducible show wpAny _ _ (eval _ _) _ _ _); first | ((with_reducible show wpAny _ _ (eval (PySem.Expr.Dict ..) _) _ _ _); (k_dflt (refine' kdn_eval (knd := PySem.strKind _ _) ?F ?N ?b ?a ?l ?e ?n ?_; (case F => k_asm); (case N => k_asm); (case b => exact Top.nolimit (by k_asm)); (case a => rfl); (case l => rfl); (case e => exact List.cons_ne_nil _ _); (case n => exact Nat.le_of_ble_eq_true rfl)); intro _ _ _ F' N' l1 _ _; (try k_lt l1))) | ((with_reducible show wpAny _ _ (eval (PySem.Expr.ListComp ..) _) _ _ _); (k_dflt (refine comp_start (by k_asm) (by with_unfolding_all rfl) (by decide) (by rfl) (by decide) (by rfl) (by intro _; rfl) ?_)))) | ((with_reducible show wpAny _ _ (compareOp CmpOp.NotEq (Value.ref _) (Value.ref _)) _ _ _); k_dflt (refine' ne_nil ?k1 ?k2 ?k3 ?k4 ?k5 ?k6 ?k7 ?_; (case k1 => k_asm); (case k2 => k_mem); (case k3 => k_mem); (case k4 => assumption); (case k5 => assumption); (case k6 => k_units); (case k7 => assumption))) | ((with_reducible show wpAny _ _ (binaryOp _ (Value.ref _) (Value.ref _)) _ _ _); k_dflt (refine' add_at ?k1 ?k2 ?k3 ?k4 ?k5 ?_; (case k1 => k_asm); (case k2 => k_asm); (case k3 => k_mem); (case k4 => k_mem); (case k5 => first | omega | ((try simp only [List.length_append, List.length_cons, List.length_nil]); omega)); k_whole); intro _ _ F' N' l1; (try k_lt l1); (try k_sweep)) | walk1 | (dsimp only; first | (k_unfold; (try dsimp only)) | walk1) | (leave1; (try dsimp only)) | fail "no step")
      skip
      · rename StrsAre _ _ => hS9
        skip
        have hl9 := lenLe3 hS9 (by assumption)
        have h09 := lenPos hS9 (by assumption)
        skip
        refine' callAt_useN ?N ?C ?B ?F ?X ?T ?hk ?hd ?hu ?_
        (case B => k_asm)
        (case F => k_asm)
        (case X => k_asm)
        (case N => k_asm)
        (case T => k_asm)
        (case hk => exact rfl)
        (case C =>
          skip
          refine' c_told _ _ (.ref it) v2 _ _ _ _ ?its (ys ++ [.str (Str.ofString "y") _, .str (Str.ofString "integer") _]) (as ++ [some (Str.ofString "y"), some (Str.ofString "integer")]) ?row ?mr ?ma hS9 ?hW ?hl1 ?hl2 ?hAll
          (case mr => k_mem)
          (case ma => k_mem)
          (case hW => exact AsksAre.app hA (AsksAre.ofStrs (xs := [Str.ofString "y", Str.ofString "integer"]) (.cons _ _ (.cons _ _ .nil))))
          (case hl1 =>
            rw [List.length_append]
            simp only [List.length_cons, List.length_nil]
            omega)
          (case hl2 => omega)
          (case hAll =>
            skip
            refine' c_all_vec _ _ (.ref it) v2 dv2 ?esa ?nea ?tka ?rowa (putL_other (x := Str.ofString "attrs") (by decide +kernel) hk2) ?m1a ?m2a ?hCa ?hra
            (case m1a => k_mem)
            (case m2a => k_mem)
            (case hra => omega)
            (case hCa =>
              skip
              refine' c_class_at _ _ v2 dv2 ?adb ?cvb ?dcvb ?wlb ?oadb ?esb ?es2b ?neb ?ne2b ?nwb ?tk1b ?itsb ?rowb (putL_other (x := Str.ofString "attrs") (by decide +kernel) hk2) (putL_get ha2) ?hib ?hDb ?lDb hS9 h09 ?h1b ?m1b ?m2b ?m3b ?m4b ?m5b ?m6b
              (case m1b => k_mem)
              (case m2b => k_mem)
              (case m3b => k_mem)
              (case hDb => assumption)
              skip
              (case m4b => k_mem)
              (case m5b => k_mem)
              (case m6b => k_mem)
              skip
              (case hib => exact rfl)
              skip
              (case lDb => assumption)
              (case h1b =>
                rw [hS9.length]
                omega))))
        (case hd => k_room)
        (case hu => k_units)
        refine el0 ?_
        intro h10 tk10 F10 N10
        exact hret _ _ _ F10
      · skip
        refine' callAt_useN ?N ?C ?B ?F ?X ?T ?hk ?hd ?hu ?_
        (case B => k_asm)
        (case F => k_asm)
        (case X => k_asm)
        (case N => k_asm)
        (case T => k_asm)
        (case hk => exact rfl)
        (case C =>
          refine' c_told _ _ (.ref it) v2 _ _ _ _ [.str (Str.ofString "integer") _] (ys ++ [.str (Str.ofString "y") _, .str (Str.ofString "integer") _]) (as ++ [some (Str.ofString "y"), some (Str.ofString "integer")]) [Str.ofString "integer"] ?mr ?ma (.cons _ _ .nil) ?hW ?hl1 ?hl2 ?hAll
          (case mr => k_mem)
          (case ma => k_mem)
          (case hW => exact AsksAre.app hA (AsksAre.ofStrs (xs := [Str.ofString "y", Str.ofString "integer"]) (.cons _ _ (.cons _ _ .nil))))
          (case hl1 =>
            rw [List.length_append]
            simp only [List.length_cons, List.length_nil]
            omega)
          (case hl2 => decide)
          (case hAll => exact c_all_vec _ _ (.ref it) v2 dv2 es2 5 t2 [Str.ofString "integer"] hk2 (by k_mem) (by k_mem) (c_class_int _ _ v2 dv2 es2 5 t2 hk2 ha2 (by k_mem) (by k_mem)) (by decide)))
        (case hd => k_room)
        (case hu => k_units)
        refine el0 ?_
        intro h10 tk10 F10 N10
        exact hret _ _ _ F10))
end

end
end Mine

theorem PySem.Challenge.cw_pq1424_01_holds : PySem.Challenge.rw_pq1424_01.Holds :=
  Mine.lawHolds
