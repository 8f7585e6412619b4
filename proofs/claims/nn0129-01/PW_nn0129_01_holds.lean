import PyProof.Rows.All
import Wide.All
import OpenK.AllK
import Wide.FinOn
import Lean
import PySem.Challenge.RW_nn0129_01
open PySem PySem.W PyProof.Rows
set_option Elab.async false
set_option linter.unusedVariables false
set_option linter.unusedSimpArgs false
set_option genSizeOf false
set_option genSizeOfSpec false
set_option genInjectivity false
namespace Mine
set_option maxRecDepth 100000
set_option maxHeartbeats 0
abbrev pw : Program := PySem.Challenge.pw_nn0129_01
def topS (p : Program) (i : Nat) : Stmt := p.main.body.getD i (.Pass ⟨0, 0, 0, 0⟩)
def clsS (p : Program) (i j : Nat) : Stmt := match topS p i with
  | .ClassDef (body := b) .. => b.getD j (.Pass ⟨0, 0, 0, 0⟩)
  | s => s
def fnP : Stmt → Arguments
  | .FunctionDef (args := a) .. => a
  | _ => { posonlyargs := [], args := [], vararg := none, kwonlyargs := [], kw_defaults := [], kwarg := none, defaults := [] }
def fnB : Stmt → List Stmt
  | .FunctionDef (body := b) .. => b
  | _ => []
def fnS : Stmt → Scope
  | .FunctionDef (scope := s) .. => s
  | _ => { kind := .function, names := [], isGenerator := false, isCoroutine := false, more := [] }
noncomputable def Kp (p : Program) (P : Params) : Frag := [
  (3, ⟨.type "dict", none, .dict [⟨PyData.keyHash P (Str.ofString "__name__"), .str (Str.ofString "__name__") 165, .str (Str.ofString "law_nn0129_01") 742⟩, ⟨PyData.keyHash P (Str.ofString "__doc__"), .str (Str.ofString "__doc__") 166, .none⟩, ⟨PyData.keyHash P (Str.ofString "__package__"), .str (Str.ofString "__package__") 167, .none⟩, ⟨PyData.keyHash P (Str.ofString "__loader__"), .str (Str.ofString "__loader__") 168, .builtin "__main__.__loader__#opaque"⟩, ⟨PyData.keyHash P (Str.ofString "__spec__"), .str (Str.ofString "__spec__") 169, .none⟩, ⟨PyData.keyHash P (Str.ofString "__annotations__"), .str (Str.ofString "__annotations__") 170, .ref 6⟩, ⟨PyData.keyHash P (Str.ofString "__builtins__"), .str (Str.ofString "__builtins__") 171, .ref 4⟩, ⟨PyData.keyHash P (Str.ofString "__file__"), .str (Str.ofString "__file__") 173, .str (Str.ofString "/claim/cut.py") 172⟩, ⟨PyData.keyHash P (Str.ofString "__cached__"), .str (Str.ofString "__cached__") 174, .none⟩, ⟨PyData.keyHash P (Str.ofString "_wall"), .str (Str.ofString "_wall") 193, .ref 21⟩, ⟨PyData.keyHash P (Str.ofString "MOST_GENERATION"), .str (Str.ofString "MOST_GENERATION") 197, .int (65535) 196⟩, ⟨PyData.keyHash P (Str.ofString "Entry"), .str (Str.ofString "Entry") 237, .ref 45⟩, ⟨PyData.keyHash P (Str.ofString "free_chain"), .str (Str.ofString "free_chain") 243, .ref 54⟩, ⟨PyData.keyHash P (Str.ofString "PaperError"), .str (Str.ofString "PaperError") 285, .ref 79⟩, ⟨PyData.keyHash P (Str.ofString "DraftFault"), .str (Str.ofString "DraftFault") 301, .ref 92⟩, ⟨PyData.keyHash P (Str.ofString "Decimal"), .str (Str.ofString "Decimal") 417, .ref 188⟩, ⟨PyData.keyHash P (Str.ofString "sign_text"), .str (Str.ofString "sign_text") 424, .ref 199⟩, ⟨PyData.keyHash P (Str.ofString "Name"), .str (Str.ofString "Name") 455, .ref 216⟩, ⟨PyData.keyHash P (Str.ofString "String"), .str (Str.ofString "String") 486, .ref 238⟩, ⟨PyData.keyHash P (Str.ofString "Stream"), .str (Str.ofString "Stream") 517, .ref 259⟩, ⟨PyData.keyHash P (Str.ofString "Reference"), .str (Str.ofString "Reference") 555, .ref 287⟩, ⟨PyData.keyHash P (Str.ofString "kind_of"), .str (Str.ofString "kind_of") 562, .ref 298⟩, ⟨PyData.keyHash P (Str.ofString "told_plain"), .str (Str.ofString "told_plain") 570, .ref 305⟩, ⟨PyData.keyHash P (Str.ofString "told"), .str (Str.ofString "told") 576, .ref 310⟩, ⟨PyData.keyHash P (Str.ofString "copied"), .str (Str.ofString "copied") 582, .ref 315⟩, ⟨PyData.keyHash P (Str.ofString "next_generations"), .str (Str.ofString "next_generations") 594, .ref 322⟩, ⟨PyData.keyHash P (Str.ofString "generations_used"), .str (Str.ofString "generations_used") 603, .ref 329⟩, ⟨PyData.keyHash P (Str.ofString "holders_of"), .str (Str.ofString "holders_of") 612, .ref 336⟩, ⟨PyData.keyHash P (Str.ofString "free_entries"), .str (Str.ofString "free_entries") 618, .ref 341⟩, ⟨PyData.keyHash P (Str.ofString "Changes"), .str (Str.ofString "Changes") 741, .ref 426⟩, ⟨PyData.keyHash P (Str.ofString "_law_draw"), .str (Str.ofString "_law_draw") 752, .ref 437⟩, ⟨PyData.keyHash P (Str.ofString "_law_entries"), .str (Str.ofString "_law_entries") 763, .ref 444⟩, ⟨PyData.keyHash P (Str.ofString "_law_book"), .str (Str.ofString "_law_book") 776, .ref 451⟩, ⟨PyData.keyHash P (Str.ofString "_law_lay"), .str (Str.ofString "_law_lay") 782, .ref 456⟩, ⟨PyData.keyHash P (Str.ofString "_law_act"), .str (Str.ofString "_law_act") 788, .ref 461⟩, ⟨PyData.keyHash P (Str.ofString "_law_done"), .str (Str.ofString "_law_done") 799, .ref 468⟩, ⟨PyData.keyHash P (Str.ofString "_law_told_reference"), .str (Str.ofString "_law_told_reference") 807, .ref 475⟩, ⟨PyData.keyHash P (Str.ofString "_law_chain_right"), .str (Str.ofString "_law_chain_right") 813, .ref 480⟩, ⟨PyData.keyHash P (Str.ofString "law"), .str (Str.ofString "law") 819, .ref 485⟩].toArray 39, #[]⟩),
  (34, ⟨.type "code", none, .fields #[.str (Str.ofString "__init__") 210, .str (Str.ofString "Entry.__init__") 211, .str (Str.ofString "/claim/cut.py") 212, .int (8) 0, .int (4) 0, .int (0) 0, .int (0) 0, .int (3) 0, .ref 29, .bool true, .int (181) 0, .ref 30, .none, .ref 31, .ref 32, .ref 33, .int (217) 0, .int (8) 0, .str (Str.ofString "/claim/cut.py") 218], #[]⟩),
  (35, ⟨.type "function", none, .func { name := (Str.ofString "__init__"), qualname := (Str.ofString "Entry.__init__"), params := fnP (clsS p 3 0), body := .stmts (fnB (clsS p 3 0)), scope := fnS (clsS p 3 0), globals := 3, closure := [], defaults := .none, kwdefaults := .none, doc := .none, pyModule := .str (Str.ofString "paperhold.cross") 194, annotations := none, code := .ref 34, closureTuple := .none, builtins := 0 }, #[]⟩),
  (41, ⟨.type "code", none, .fields #[.str (Str.ofString "told") 220, .str (Str.ofString "Entry.told") 221, .str (Str.ofString "/claim/cut.py") 222, .int (13) 0, .int (1) 0, .int (0) 0, .int (0) 0, .int (3) 0, .ref 36, .bool true, .int (181) 0, .ref 37, .none, .ref 38, .ref 39, .ref 40, .int (224) 0, .int (13) 0, .str (Str.ofString "/claim/cut.py") 225], #[]⟩),
  (42, ⟨.type "function", none, .func { name := (Str.ofString "told"), qualname := (Str.ofString "Entry.told"), params := fnP (clsS p 3 1), body := .stmts (fnB (clsS p 3 1)), scope := fnS (clsS p 3 1), globals := 3, closure := [], defaults := .none, kwdefaults := .none, doc := .none, pyModule := .str (Str.ofString "paperhold.cross") 194, annotations := none, code := .ref 41, closureTuple := .none, builtins := 0 }, #[]⟩),
  (44, ⟨.type "dict", none, .dict [⟨PyData.keyHash P (Str.ofString "__module__"), .str (Str.ofString "__module__") 205, .str (Str.ofString "paperhold.cross") 194⟩, ⟨PyData.keyHash P (Str.ofString "__firstlineno__"), .str (Str.ofString "__firstlineno__") 209, .int (6) 208⟩, ⟨PyData.keyHash P (Str.ofString "__init__"), .str (Str.ofString "__init__") 219, .ref 35⟩, ⟨PyData.keyHash P (Str.ofString "told"), .str (Str.ofString "told") 226, .ref 42⟩, ⟨PyData.keyHash P (Str.ofString "__static_attributes__"), .str (Str.ofString "__static_attributes__") 230, .ref 43⟩, ⟨PyData.keyHash P (Str.ofString "__dict__"), .str (Str.ofString "__dict__") 232, .ref 46⟩, ⟨PyData.keyHash P (Str.ofString "__weakref__"), .str (Str.ofString "__weakref__") 234, .ref 47⟩, ⟨PyData.keyHash P (Str.ofString "__doc__"), .str (Str.ofString "__doc__") 235, .none⟩].toArray 4, #[]⟩),
  (45, ⟨.type "type", none, .cls { name := (Str.ofString "Entry"), bases := [.type "object"], mro := [.ref 45, .type "object"], ns := 44, qualname := (Str.ofString "Entry"), hasDict := true, slotNames := [], subclasses := [], abstract := false, collection := none, hasDel := false }, #[none, none, some (.str (Str.ofString "Entry") 198), some (.str (Str.ofString "Entry") 206), some (.builtin "object.__new__"), some (.bool true)]⟩),
  (46, ⟨.type "getset_descriptor", none, .fields #[.str (Str.ofString "__dict__") 231, .ref 45, .builtin "function.__dict__", .builtin "function.__dict__#set"], #[]⟩),
  (47, ⟨.type "getset_descriptor", none, .fields #[.str (Str.ofString "__weakref__") 233, .ref 45, .builtin "ExceptionGroup.__weakref__", .none], #[]⟩),
  (53, ⟨.type "code", none, .fields #[.str (Str.ofString "free_chain") 238, .str (Str.ofString "free_chain") 239, .str (Str.ofString "/claim/cut.py") 240, .int (15) 0, .int (2) 0, .int (0) 0, .int (0) 0, .int (3) 0, .ref 50, .bool true, .int (181) 0, .ref 51, .none, .none, .none, .ref 52, .int (241) 0, .int (15) 0, .str (Str.ofString "/claim/cut.py") 242], #[]⟩),
  (54, ⟨.type "function", none, .func { name := (Str.ofString "free_chain"), qualname := (Str.ofString "free_chain"), params := fnP (topS p 4), body := .stmts (fnB (topS p 4)), scope := fnS (topS p 4), globals := 3, closure := [], defaults := .none, kwdefaults := .none, doc := .none, pyModule := .str (Str.ofString "paperhold.cross") 194, annotations := none, code := .ref 53, closureTuple := .none, builtins := 0 }, #[]⟩),
  (62, ⟨.type "tuple", none, .seq #[.int (-1) 259] 0, #[]⟩),
  (68, ⟨.type "code", none, .fields #[.str (Str.ofString "__init__") 260, .str (Str.ofString "PaperError.__init__") 261, .str (Str.ofString "/claim/cut.py") 262, .int (25) 0, .int (3) 0, .int (0) 0, .int (0) 0, .int (3) 0, .ref 63, .bool true, .int (181) 0, .ref 64, .none, .ref 65, .ref 66, .ref 67, .int (266) 0, .int (25) 0, .str (Str.ofString "/claim/cut.py") 267], #[]⟩),
  (69, ⟨.type "function", none, .func { name := (Str.ofString "__init__"), qualname := (Str.ofString "PaperError.__init__"), params := fnP (clsS p 6 0), body := .stmts (fnB (clsS p 6 0)), scope := fnS (clsS p 6 0), globals := 3, closure := [], defaults := .ref 62, kwdefaults := .none, doc := .none, pyModule := .str (Str.ofString "paperhold.errors") 244, annotations := none, code := .ref 68, closureTuple := .none, builtins := 0 }, #[]⟩),
  (78, ⟨.type "dict", none, .dict [⟨PyData.keyHash P (Str.ofString "__module__"), .str (Str.ofString "__module__") 253, .str (Str.ofString "paperhold.errors") 244⟩, ⟨PyData.keyHash P (Str.ofString "__firstlineno__"), .str (Str.ofString "__firstlineno__") 257, .int (23) 256⟩, ⟨PyData.keyHash P (Str.ofString "__init__"), .str (Str.ofString "__init__") 268, .ref 69⟩, ⟨PyData.keyHash P (Str.ofString "told"), .str (Str.ofString "told") 275, .ref 76⟩, ⟨PyData.keyHash P (Str.ofString "__static_attributes__"), .str (Str.ofString "__static_attributes__") 278, .ref 77⟩, ⟨PyData.keyHash P (Str.ofString "__weakref__"), .str (Str.ofString "__weakref__") 280, .ref 80⟩, ⟨PyData.keyHash P (Str.ofString "__doc__"), .str (Str.ofString "__doc__") 281, .none⟩].toArray 3, #[]⟩),
  (79, ⟨.type "type", none, .cls { name := (Str.ofString "PaperError"), bases := [.type "Exception"], mro := [.ref 79, .type "Exception", .type "BaseException", .type "object"], ns := 78, qualname := (Str.ofString "PaperError"), hasDict := true, slotNames := [], subclasses := [.ref 92], abstract := false, collection := none, hasDel := false }, #[some (.ref 55), none, some (.str (Str.ofString "PaperError") 246), some (.str (Str.ofString "PaperError") 254), some (.builtin "Exception.__new__"), some (.bool true)]⟩),
  (80, ⟨.type "getset_descriptor", none, .fields #[.str (Str.ofString "__weakref__") 279, .ref 79, .builtin "ExceptionGroup.__weakref__", .none], #[]⟩),
  (91, ⟨.type "dict", none, .dict [⟨PyData.keyHash P (Str.ofString "__module__"), .str (Str.ofString "__module__") 293, .str (Str.ofString "paperhold.errors") 244⟩, ⟨PyData.keyHash P (Str.ofString "__firstlineno__"), .str (Str.ofString "__firstlineno__") 297, .int (32) 296⟩, ⟨PyData.keyHash P (Str.ofString "__static_attributes__"), .str (Str.ofString "__static_attributes__") 298, .ref 90⟩, ⟨PyData.keyHash P (Str.ofString "__doc__"), .str (Str.ofString "__doc__") 299, .none⟩].toArray 2, #[]⟩),
  (92, ⟨.type "type", none, .cls { name := (Str.ofString "DraftFault"), bases := [.ref 79], mro := [.ref 92, .ref 79, .type "Exception", .type "BaseException", .type "object"], ns := 91, qualname := (Str.ofString "DraftFault"), hasDict := true, slotNames := [], subclasses := [], abstract := false, collection := none, hasDel := false }, #[some (.ref 83), none, some (.str (Str.ofString "DraftFault") 286), some (.str (Str.ofString "DraftFault") 294), some (.builtin "Exception.__new__"), some (.bool true)]⟩),
  (187, ⟨.type "dict", none, .dict [⟨PyData.keyHash P (Str.ofString "__module__"), .str (Str.ofString "__module__") 311, .str (Str.ofString "paperhold.decimals") 302⟩, ⟨PyData.keyHash P (Str.ofString "__firstlineno__"), .str (Str.ofString "__firstlineno__") 315, .int (35) 314⟩, ⟨PyData.keyHash P (Str.ofString "__init__"), .str (Str.ofString "__init__") 324, .ref 108⟩, ⟨PyData.keyHash P (Str.ofString "plus"), .str (Str.ofString "plus") 332, .ref 115⟩, ⟨PyData.keyHash P (Str.ofString "minus"), .str (Str.ofString "minus") 340, .ref 122⟩, ⟨PyData.keyHash P (Str.ofString "times"), .str (Str.ofString "times") 348, .ref 129⟩, ⟨PyData.keyHash P (Str.ofString "negated"), .str (Str.ofString "negated") 355, .ref 136⟩, ⟨PyData.keyHash P (Str.ofString "compared"), .str (Str.ofString "compared") 363, .ref 143⟩, ⟨PyData.keyHash P (Str.ofString "is_whole"), .str (Str.ofString "is_whole") 370, .ref 150⟩, ⟨PyData.keyHash P (Str.ofString "floor"), .str (Str.ofString "floor") 377, .ref 157⟩, ⟨PyData.keyHash P (Str.ofString "rounded"), .str (Str.ofString "rounded") 385, .ref 164⟩, ⟨PyData.keyHash P (Str.ofString "told"), .str (Str.ofString "told") 392, .ref 171⟩, ⟨PyData.keyHash P (Str.ofString "text"), .str (Str.ofString "text") 400, .ref 178⟩, ⟨PyData.keyHash P (Str.ofString "least_text"), .str (Str.ofString "least_text") 407, .ref 185⟩, ⟨PyData.keyHash P (Str.ofString "__static_attributes__"), .str (Str.ofString "__static_attributes__") 410, .ref 186⟩, ⟨PyData.keyHash P (Str.ofString "__dict__"), .str (Str.ofString "__dict__") 412, .ref 189⟩, ⟨PyData.keyHash P (Str.ofString "__weakref__"), .str (Str.ofString "__weakref__") 414, .ref 190⟩, ⟨PyData.keyHash P (Str.ofString "__doc__"), .str (Str.ofString "__doc__") 415, .none⟩].toArray 4, #[]⟩),
  (188, ⟨.type "type", none, .cls { name := (Str.ofString "Decimal"), bases := [.type "object"], mro := [.ref 188, .type "object"], ns := 187, qualname := (Str.ofString "Decimal"), hasDict := true, slotNames := [], subclasses := [], abstract := false, collection := none, hasDel := false }, #[none, none, some (.str (Str.ofString "Decimal") 304), some (.str (Str.ofString "Decimal") 312), some (.builtin "object.__new__"), some (.bool true)]⟩),
  (189, ⟨.type "getset_descriptor", none, .fields #[.str (Str.ofString "__dict__") 411, .ref 188, .builtin "function.__dict__", .builtin "function.__dict__#set"], #[]⟩),
  (190, ⟨.type "getset_descriptor", none, .fields #[.str (Str.ofString "__weakref__") 413, .ref 188, .builtin "ExceptionGroup.__weakref__", .none], #[]⟩),
  (215, ⟨.type "dict", none, .dict [⟨PyData.keyHash P (Str.ofString "__module__"), .str (Str.ofString "__module__") 434, .str (Str.ofString "paperhold.objects") 425⟩, ⟨PyData.keyHash P (Str.ofString "__firstlineno__"), .str (Str.ofString "__firstlineno__") 438, .int (83) 437⟩, ⟨PyData.keyHash P (Str.ofString "__init__"), .str (Str.ofString "__init__") 446, .ref 213⟩, ⟨PyData.keyHash P (Str.ofString "__static_attributes__"), .str (Str.ofString "__static_attributes__") 448, .ref 214⟩, ⟨PyData.keyHash P (Str.ofString "__dict__"), .str (Str.ofString "__dict__") 450, .ref 217⟩, ⟨PyData.keyHash P (Str.ofString "__weakref__"), .str (Str.ofString "__weakref__") 452, .ref 218⟩, ⟨PyData.keyHash P (Str.ofString "__doc__"), .str (Str.ofString "__doc__") 453, .none⟩].toArray 4, #[]⟩),
  (216, ⟨.type "type", none, .cls { name := (Str.ofString "Name"), bases := [.type "object"], mro := [.ref 216, .type "object"], ns := 215, qualname := (Str.ofString "Name"), hasDict := true, slotNames := [], subclasses := [], abstract := false, collection := none, hasDel := false }, #[none, none, some (.str (Str.ofString "Name") 427), some (.str (Str.ofString "Name") 435), some (.builtin "object.__new__"), some (.bool true)]⟩),
  (217, ⟨.type "getset_descriptor", none, .fields #[.str (Str.ofString "__dict__") 449, .ref 216, .builtin "function.__dict__", .builtin "function.__dict__#set"], #[]⟩),
  (218, ⟨.type "getset_descriptor", none, .fields #[.str (Str.ofString "__weakref__") 451, .ref 216, .builtin "ExceptionGroup.__weakref__", .none], #[]⟩),
  (237, ⟨.type "dict", none, .dict [⟨PyData.keyHash P (Str.ofString "__module__"), .str (Str.ofString "__module__") 463, .str (Str.ofString "paperhold.objects") 425⟩, ⟨PyData.keyHash P (Str.ofString "__firstlineno__"), .str (Str.ofString "__firstlineno__") 467, .int (87) 466⟩, ⟨PyData.keyHash P (Str.ofString "__init__"), .str (Str.ofString "__init__") 476, .ref 235⟩, ⟨PyData.keyHash P (Str.ofString "__static_attributes__"), .str (Str.ofString "__static_attributes__") 479, .ref 236⟩, ⟨PyData.keyHash P (Str.ofString "__dict__"), .str (Str.ofString "__dict__") 481, .ref 239⟩, ⟨PyData.keyHash P (Str.ofString "__weakref__"), .str (Str.ofString "__weakref__") 483, .ref 240⟩, ⟨PyData.keyHash P (Str.ofString "__doc__"), .str (Str.ofString "__doc__") 484, .none⟩].toArray 4, #[]⟩),
  (238, ⟨.type "type", none, .cls { name := (Str.ofString "String"), bases := [.type "object"], mro := [.ref 238, .type "object"], ns := 237, qualname := (Str.ofString "String"), hasDict := true, slotNames := [], subclasses := [], abstract := false, collection := none, hasDel := false }, #[none, none, some (.str (Str.ofString "String") 456), some (.str (Str.ofString "String") 464), some (.builtin "object.__new__"), some (.bool true)]⟩),
  (239, ⟨.type "getset_descriptor", none, .fields #[.str (Str.ofString "__dict__") 480, .ref 238, .builtin "function.__dict__", .builtin "function.__dict__#set"], #[]⟩),
  (240, ⟨.type "getset_descriptor", none, .fields #[.str (Str.ofString "__weakref__") 482, .ref 238, .builtin "ExceptionGroup.__weakref__", .none], #[]⟩),
  (258, ⟨.type "dict", none, .dict [⟨PyData.keyHash P (Str.ofString "__module__"), .str (Str.ofString "__module__") 494, .str (Str.ofString "paperhold.objects") 425⟩, ⟨PyData.keyHash P (Str.ofString "__firstlineno__"), .str (Str.ofString "__firstlineno__") 498, .int (92) 497⟩, ⟨PyData.keyHash P (Str.ofString "__init__"), .str (Str.ofString "__init__") 507, .ref 256⟩, ⟨PyData.keyHash P (Str.ofString "__static_attributes__"), .str (Str.ofString "__static_attributes__") 510, .ref 257⟩, ⟨PyData.keyHash P (Str.ofString "__dict__"), .str (Str.ofString "__dict__") 512, .ref 260⟩, ⟨PyData.keyHash P (Str.ofString "__weakref__"), .str (Str.ofString "__weakref__") 514, .ref 261⟩, ⟨PyData.keyHash P (Str.ofString "__doc__"), .str (Str.ofString "__doc__") 515, .none⟩].toArray 4, #[]⟩),
  (259, ⟨.type "type", none, .cls { name := (Str.ofString "Stream"), bases := [.type "object"], mro := [.ref 259, .type "object"], ns := 258, qualname := (Str.ofString "Stream"), hasDict := true, slotNames := [], subclasses := [], abstract := false, collection := none, hasDel := false }, #[none, none, some (.str (Str.ofString "Stream") 487), some (.str (Str.ofString "Stream") 495), some (.builtin "object.__new__"), some (.bool true)]⟩),
  (260, ⟨.type "getset_descriptor", none, .fields #[.str (Str.ofString "__dict__") 511, .ref 259, .builtin "function.__dict__", .builtin "function.__dict__#set"], #[]⟩),
  (261, ⟨.type "getset_descriptor", none, .fields #[.str (Str.ofString "__weakref__") 513, .ref 259, .builtin "ExceptionGroup.__weakref__", .none], #[]⟩),
  (276, ⟨.type "code", none, .fields #[.str (Str.ofString "__init__") 530, .str (Str.ofString "Reference.__init__") 531, .str (Str.ofString "/claim/cut.py") 532, .int (99) 0, .int (3) 0, .int (0) 0, .int (0) 0, .int (3) 0, .ref 271, .bool true, .int (181) 0, .ref 272, .none, .ref 273, .ref 274, .ref 275, .int (536) 0, .int (99) 0, .str (Str.ofString "/claim/cut.py") 537], #[]⟩),
  (277, ⟨.type "function", none, .func { name := (Str.ofString "__init__"), qualname := (Str.ofString "Reference.__init__"), params := fnP (clsS p 15 0), body := .stmts (fnB (clsS p 15 0)), scope := fnS (clsS p 15 0), globals := 3, closure := [], defaults := .none, kwdefaults := .none, doc := .none, pyModule := .str (Str.ofString "paperhold.objects") 425, annotations := none, code := .ref 276, closureTuple := .none, builtins := 0 }, #[]⟩),
  (283, ⟨.type "code", none, .fields #[.str (Str.ofString "pair") 539, .str (Str.ofString "Reference.pair") 540, .str (Str.ofString "/claim/cut.py") 541, .int (103) 0, .int (1) 0, .int (0) 0, .int (0) 0, .int (3) 0, .ref 278, .bool true, .int (181) 0, .ref 279, .none, .ref 280, .ref 281, .ref 282, .int (543) 0, .int (103) 0, .str (Str.ofString "/claim/cut.py") 544], #[]⟩),
  (284, ⟨.type "function", none, .func { name := (Str.ofString "pair"), qualname := (Str.ofString "Reference.pair"), params := fnP (clsS p 15 1), body := .stmts (fnB (clsS p 15 1)), scope := fnS (clsS p 15 1), globals := 3, closure := [], defaults := .none, kwdefaults := .none, doc := .none, pyModule := .str (Str.ofString "paperhold.objects") 425, annotations := none, code := .ref 283, closureTuple := .none, builtins := 0 }, #[]⟩),
  (286, ⟨.type "dict", none, .dict [⟨PyData.keyHash P (Str.ofString "__module__"), .str (Str.ofString "__module__") 525, .str (Str.ofString "paperhold.objects") 425⟩, ⟨PyData.keyHash P (Str.ofString "__firstlineno__"), .str (Str.ofString "__firstlineno__") 529, .int (97) 528⟩, ⟨PyData.keyHash P (Str.ofString "__init__"), .str (Str.ofString "__init__") 538, .ref 277⟩, ⟨PyData.keyHash P (Str.ofString "pair"), .str (Str.ofString "pair") 545, .ref 284⟩, ⟨PyData.keyHash P (Str.ofString "__static_attributes__"), .str (Str.ofString "__static_attributes__") 548, .ref 285⟩, ⟨PyData.keyHash P (Str.ofString "__dict__"), .str (Str.ofString "__dict__") 550, .ref 288⟩, ⟨PyData.keyHash P (Str.ofString "__weakref__"), .str (Str.ofString "__weakref__") 552, .ref 289⟩, ⟨PyData.keyHash P (Str.ofString "__doc__"), .str (Str.ofString "__doc__") 553, .none⟩].toArray 4, #[]⟩),
  (287, ⟨.type "type", none, .cls { name := (Str.ofString "Reference"), bases := [.type "object"], mro := [.ref 287, .type "object"], ns := 286, qualname := (Str.ofString "Reference"), hasDict := true, slotNames := [], subclasses := [], abstract := false, collection := none, hasDel := false }, #[none, none, some (.str (Str.ofString "Reference") 518), some (.str (Str.ofString "Reference") 526), some (.builtin "object.__new__"), some (.bool true)]⟩),
  (288, ⟨.type "getset_descriptor", none, .fields #[.str (Str.ofString "__dict__") 549, .ref 287, .builtin "function.__dict__", .builtin "function.__dict__#set"], #[]⟩),
  (289, ⟨.type "getset_descriptor", none, .fields #[.str (Str.ofString "__weakref__") 551, .ref 287, .builtin "ExceptionGroup.__weakref__", .none], #[]⟩),
  (297, ⟨.type "code", none, .fields #[.str (Str.ofString "kind_of") 556, .str (Str.ofString "kind_of") 557, .str (Str.ofString "/claim/cut.py") 558, .int (105) 0, .int (1) 0, .int (0) 0, .int (0) 0, .int (3) 0, .ref 292, .bool true, .int (181) 0, .ref 293, .none, .ref 294, .ref 295, .ref 296, .int (560) 0, .int (105) 0, .str (Str.ofString "/claim/cut.py") 561], #[]⟩),
  (298, ⟨.type "function", none, .func { name := (Str.ofString "kind_of"), qualname := (Str.ofString "kind_of"), params := fnP (topS p 16), body := .stmts (fnB (topS p 16)), scope := fnS (topS p 16), globals := 3, closure := [], defaults := .none, kwdefaults := .none, doc := .none, pyModule := .str (Str.ofString "paperhold.objects") 425, annotations := none, code := .ref 297, closureTuple := .none, builtins := 0 }, #[]⟩),
  (304, ⟨.type "code", none, .fields #[.str (Str.ofString "told_plain") 563, .str (Str.ofString "told_plain") 564, .str (Str.ofString "/claim/cut.py") 565, .int (127) 0, .int (2) 0, .int (0) 0, .int (0) 0, .int (3) 0, .ref 299, .bool true, .int (181) 0, .ref 300, .none, .ref 301, .ref 302, .ref 303, .int (568) 0, .int (127) 0, .str (Str.ofString "/claim/cut.py") 569], #[]⟩),
  (305, ⟨.type "function", none, .func { name := (Str.ofString "told_plain"), qualname := (Str.ofString "told_plain"), params := fnP (topS p 17), body := .stmts (fnB (topS p 17)), scope := fnS (topS p 17), globals := 3, closure := [], defaults := .none, kwdefaults := .none, doc := .none, pyModule := .str (Str.ofString "paperhold.objects") 425, annotations := none, code := .ref 304, closureTuple := .none, builtins := 0 }, #[]⟩),
  (309, ⟨.type "code", none, .fields #[.str (Str.ofString "told") 571, .str (Str.ofString "told") 572, .str (Str.ofString "/claim/cut.py") 573, .int (141) 0, .int (1) 0, .int (0) 0, .int (0) 0, .int (3) 0, .ref 306, .bool true, .int (181) 0, .ref 307, .none, .none, .none, .ref 308, .int (574) 0, .int (141) 0, .str (Str.ofString "/claim/cut.py") 575], #[]⟩),
  (310, ⟨.type "function", none, .func { name := (Str.ofString "told"), qualname := (Str.ofString "told"), params := fnP (topS p 18), body := .stmts (fnB (topS p 18)), scope := fnS (topS p 18), globals := 3, closure := [], defaults := .none, kwdefaults := .none, doc := .none, pyModule := .str (Str.ofString "paperhold.objects") 425, annotations := none, code := .ref 309, closureTuple := .none, builtins := 0 }, #[]⟩),
  (314, ⟨.type "code", none, .fields #[.str (Str.ofString "copied") 577, .str (Str.ofString "copied") 578, .str (Str.ofString "/claim/cut.py") 579, .int (150) 0, .int (1) 0, .int (0) 0, .int (0) 0, .int (3) 0, .ref 311, .bool true, .int (181) 0, .ref 312, .none, .none, .none, .ref 313, .int (580) 0, .int (150) 0, .str (Str.ofString "/claim/cut.py") 581], #[]⟩),
  (315, ⟨.type "function", none, .func { name := (Str.ofString "copied"), qualname := (Str.ofString "copied"), params := fnP (topS p 19), body := .stmts (fnB (topS p 19)), scope := fnS (topS p 19), globals := 3, closure := [], defaults := .none, kwdefaults := .none, doc := .none, pyModule := .str (Str.ofString "paperhold.objects") 425, annotations := none, code := .ref 314, closureTuple := .none, builtins := 0 }, #[]⟩),
  (321, ⟨.type "code", none, .fields #[.str (Str.ofString "next_generations") 585, .str (Str.ofString "next_generations") 586, .str (Str.ofString "/claim/cut.py") 587, .int (160) 0, .int (2) 0, .int (0) 0, .int (0) 0, .int (3) 0, .ref 316, .bool true, .int (181) 0, .ref 317, .none, .ref 318, .ref 319, .ref 320, .int (592) 0, .int (160) 0, .str (Str.ofString "/claim/cut.py") 593], #[]⟩),
  (322, ⟨.type "function", none, .func { name := (Str.ofString "next_generations"), qualname := (Str.ofString "next_generations"), params := fnP (topS p 21), body := .stmts (fnB (topS p 21)), scope := fnS (topS p 21), globals := 3, closure := [], defaults := .none, kwdefaults := .none, doc := .none, pyModule := .str (Str.ofString "paperhold.revisions") 583, annotations := none, code := .ref 321, closureTuple := .none, builtins := 0 }, #[]⟩),
  (328, ⟨.type "code", none, .fields #[.str (Str.ofString "generations_used") 595, .str (Str.ofString "generations_used") 596, .str (Str.ofString "/claim/cut.py") 597, .int (168) 0, .int (1) 0, .int (0) 0, .int (0) 0, .int (3) 0, .ref 323, .bool true, .int (181) 0, .ref 324, .none, .ref 325, .ref 326, .ref 327, .int (601) 0, .int (168) 0, .str (Str.ofString "/claim/cut.py") 602], #[]⟩),
  (329, ⟨.type "function", none, .func { name := (Str.ofString "generations_used"), qualname := (Str.ofString "generations_used"), params := fnP (topS p 22), body := .stmts (fnB (topS p 22)), scope := fnS (topS p 22), globals := 3, closure := [], defaults := .none, kwdefaults := .none, doc := .none, pyModule := .str (Str.ofString "paperhold.revisions") 583, annotations := none, code := .ref 328, closureTuple := .none, builtins := 0 }, #[]⟩),
  (335, ⟨.type "code", none, .fields #[.str (Str.ofString "holders_of") 604, .str (Str.ofString "holders_of") 605, .str (Str.ofString "/claim/cut.py") 606, .int (174) 0, .int (1) 0, .int (0) 0, .int (0) 0, .int (3) 0, .ref 330, .bool true, .int (181) 0, .ref 331, .none, .ref 332, .ref 333, .ref 334, .int (610) 0, .int (174) 0, .str (Str.ofString "/claim/cut.py") 611], #[]⟩),
  (336, ⟨.type "function", none, .func { name := (Str.ofString "holders_of"), qualname := (Str.ofString "holders_of"), params := fnP (topS p 23), body := .stmts (fnB (topS p 23)), scope := fnS (topS p 23), globals := 3, closure := [], defaults := .none, kwdefaults := .none, doc := .none, pyModule := .str (Str.ofString "paperhold.revisions") 583, annotations := none, code := .ref 335, closureTuple := .none, builtins := 0 }, #[]⟩),
  (340, ⟨.type "code", none, .fields #[.str (Str.ofString "free_entries") 613, .str (Str.ofString "free_entries") 614, .str (Str.ofString "/claim/cut.py") 615, .int (180) 0, .int (1) 0, .int (0) 0, .int (0) 0, .int (3) 0, .ref 337, .bool true, .int (181) 0, .ref 338, .none, .none, .none, .ref 339, .int (616) 0, .int (180) 0, .str (Str.ofString "/claim/cut.py") 617], #[]⟩),
  (341, ⟨.type "function", none, .func { name := (Str.ofString "free_entries"), qualname := (Str.ofString "free_entries"), params := fnP (topS p 24), body := .stmts (fnB (topS p 24)), scope := fnS (topS p 24), globals := 3, closure := [], defaults := .none, kwdefaults := .none, doc := .none, pyModule := .str (Str.ofString "paperhold.revisions") 583, annotations := none, code := .ref 340, closureTuple := .none, builtins := 0 }, #[]⟩),
  (354, ⟨.type "code", none, .fields #[.str (Str.ofString "__init__") 631, .str (Str.ofString "Changes.__init__") 632, .str (Str.ofString "/claim/cut.py") 633, .int (189) 0, .int (3) 0, .int (0) 0, .int (0) 0, .int (3) 0, .ref 349, .bool true, .int (181) 0, .ref 350, .none, .ref 351, .ref 352, .ref 353, .int (637) 0, .int (189) 0, .str (Str.ofString "/claim/cut.py") 638], #[]⟩),
  (355, ⟨.type "function", none, .func { name := (Str.ofString "__init__"), qualname := (Str.ofString "Changes.__init__"), params := fnP (clsS p 25 0), body := .stmts (fnB (clsS p 25 0)), scope := fnS (clsS p 25 0), globals := 3, closure := [], defaults := .none, kwdefaults := .none, doc := .none, pyModule := .str (Str.ofString "paperhold.revisions") 583, annotations := none, code := .ref 354, closureTuple := .none, builtins := 0 }, #[]⟩),
  (361, ⟨.type "code", none, .fields #[.str (Str.ofString "is_changed") 640, .str (Str.ofString "Changes.is_changed") 641, .str (Str.ofString "/claim/cut.py") 642, .int (198) 0, .int (1) 0, .int (0) 0, .int (0) 0, .int (3) 0, .ref 356, .bool true, .int (181) 0, .ref 357, .none, .ref 358, .ref 359, .ref 360, .int (644) 0, .int (198) 0, .str (Str.ofString "/claim/cut.py") 645], #[]⟩),
  (362, ⟨.type "function", none, .func { name := (Str.ofString "is_changed"), qualname := (Str.ofString "Changes.is_changed"), params := fnP (clsS p 25 1), body := .stmts (fnB (clsS p 25 1)), scope := fnS (clsS p 25 1), globals := 3, closure := [], defaults := .none, kwdefaults := .none, doc := .none, pyModule := .str (Str.ofString "paperhold.revisions") 583, annotations := none, code := .ref 361, closureTuple := .none, builtins := 0 }, #[]⟩),
  (366, ⟨.type "code", none, .fields #[.str (Str.ofString "size") 647, .str (Str.ofString "Changes.size") 648, .str (Str.ofString "/claim/cut.py") 649, .int (201) 0, .int (1) 0, .int (0) 0, .int (0) 0, .int (3) 0, .ref 363, .bool true, .int (181) 0, .ref 364, .none, .none, .none, .ref 365, .int (650) 0, .int (201) 0, .str (Str.ofString "/claim/cut.py") 651], #[]⟩),
  (367, ⟨.type "function", none, .func { name := (Str.ofString "size"), qualname := (Str.ofString "Changes.size"), params := fnP (clsS p 25 2), body := .stmts (fnB (clsS p 25 2)), scope := fnS (clsS p 25 2), globals := 3, closure := [], defaults := .none, kwdefaults := .none, doc := .none, pyModule := .str (Str.ofString "paperhold.revisions") 583, annotations := none, code := .ref 366, closureTuple := .none, builtins := 0 }, #[]⟩),
  (373, ⟨.type "code", none, .fields #[.str (Str.ofString "generation_for") 653, .str (Str.ofString "Changes.generation_for") 654, .str (Str.ofString "/claim/cut.py") 655, .int (204) 0, .int (2) 0, .int (0) 0, .int (0) 0, .int (3) 0, .ref 368, .bool true, .int (181) 0, .ref 369, .none, .ref 370, .ref 371, .ref 372, .int (659) 0, .int (204) 0, .str (Str.ofString "/claim/cut.py") 660], #[]⟩),
  (374, ⟨.type "function", none, .func { name := (Str.ofString "generation_for"), qualname := (Str.ofString "Changes.generation_for"), params := fnP (clsS p 25 3), body := .stmts (fnB (clsS p 25 3)), scope := fnS (clsS p 25 3), globals := 3, closure := [], defaults := .none, kwdefaults := .none, doc := .none, pyModule := .str (Str.ofString "paperhold.revisions") 583, annotations := none, code := .ref 373, closureTuple := .none, builtins := 0 }, #[]⟩),
  (380, ⟨.type "code", none, .fields #[.str (Str.ofString "need_no_holder") 662, .str (Str.ofString "Changes.need_no_holder") 663, .str (Str.ofString "/claim/cut.py") 664, .int (212) 0, .int (2) 0, .int (0) 0, .int (0) 0, .int (3) 0, .ref 375, .bool true, .int (181) 0, .ref 376, .none, .ref 377, .ref 378, .ref 379, .int (667) 0, .int (212) 0, .str (Str.ofString "/claim/cut.py") 668], #[]⟩),
  (381, ⟨.type "function", none, .func { name := (Str.ofString "need_no_holder"), qualname := (Str.ofString "Changes.need_no_holder"), params := fnP (clsS p 25 4), body := .stmts (fnB (clsS p 25 4)), scope := fnS (clsS p 25 4), globals := 3, closure := [], defaults := .none, kwdefaults := .none, doc := .none, pyModule := .str (Str.ofString "paperhold.revisions") 583, annotations := none, code := .ref 380, closureTuple := .none, builtins := 0 }, #[]⟩),
  (387, ⟨.type "code", none, .fields #[.str (Str.ofString "lay") 670, .str (Str.ofString "Changes.lay") 671, .str (Str.ofString "/claim/cut.py") 672, .int (218) 0, .int (4) 0, .int (0) 0, .int (0) 0, .int (3) 0, .ref 382, .bool true, .int (181) 0, .ref 383, .none, .ref 384, .ref 385, .ref 386, .int (679) 0, .int (218) 0, .str (Str.ofString "/claim/cut.py") 680], #[]⟩),
  (388, ⟨.type "function", none, .func { name := (Str.ofString "lay"), qualname := (Str.ofString "Changes.lay"), params := fnP (clsS p 25 5), body := .stmts (fnB (clsS p 25 5)), scope := fnS (clsS p 25 5), globals := 3, closure := [], defaults := .none, kwdefaults := .none, doc := .none, pyModule := .str (Str.ofString "paperhold.revisions") 583, annotations := none, code := .ref 387, closureTuple := .none, builtins := 0 }, #[]⟩),
  (394, ⟨.type "code", none, .fields #[.str (Str.ofString "put") 682, .str (Str.ofString "Changes.put") 683, .str (Str.ofString "/claim/cut.py") 684, .int (229) 0, .int (3) 0, .int (0) 0, .int (0) 0, .int (3) 0, .ref 389, .bool true, .int (181) 0, .ref 390, .none, .ref 391, .ref 392, .ref 393, .int (688) 0, .int (229) 0, .str (Str.ofString "/claim/cut.py") 689], #[]⟩),
  (395, ⟨.type "function", none, .func { name := (Str.ofString "put"), qualname := (Str.ofString "Changes.put"), params := fnP (clsS p 25 6), body := .stmts (fnB (clsS p 25 6)), scope := fnS (clsS p 25 6), globals := 3, closure := [], defaults := .none, kwdefaults := .none, doc := .none, pyModule := .str (Str.ofString "paperhold.revisions") 583, annotations := none, code := .ref 394, closureTuple := .none, builtins := 0 }, #[]⟩),
  (401, ⟨.type "code", none, .fields #[.str (Str.ofString "add") 691, .str (Str.ofString "Changes.add") 692, .str (Str.ofString "/claim/cut.py") 693, .int (233) 0, .int (2) 0, .int (0) 0, .int (0) 0, .int (3) 0, .ref 396, .bool true, .int (181) 0, .ref 397, .none, .ref 398, .ref 399, .ref 400, .int (697) 0, .int (233) 0, .str (Str.ofString "/claim/cut.py") 698], #[]⟩),
  (402, ⟨.type "function", none, .func { name := (Str.ofString "add"), qualname := (Str.ofString "Changes.add"), params := fnP (clsS p 25 7), body := .stmts (fnB (clsS p 25 7)), scope := fnS (clsS p 25 7), globals := 3, closure := [], defaults := .none, kwdefaults := .none, doc := .none, pyModule := .str (Str.ofString "paperhold.revisions") 583, annotations := none, code := .ref 401, closureTuple := .none, builtins := 0 }, #[]⟩),
  (408, ⟨.type "code", none, .fields #[.str (Str.ofString "free") 700, .str (Str.ofString "Changes.free") 701, .str (Str.ofString "/claim/cut.py") 702, .int (239) 0, .int (2) 0, .int (0) 0, .int (0) 0, .int (3) 0, .ref 403, .bool true, .int (181) 0, .ref 404, .none, .ref 405, .ref 406, .ref 407, .int (705) 0, .int (239) 0, .str (Str.ofString "/claim/cut.py") 706], #[]⟩),
  (409, ⟨.type "function", none, .func { name := (Str.ofString "free"), qualname := (Str.ofString "Changes.free"), params := fnP (clsS p 25 8), body := .stmts (fnB (clsS p 25 8)), scope := fnS (clsS p 25 8), globals := 3, closure := [], defaults := .none, kwdefaults := .none, doc := .none, pyModule := .str (Str.ofString "paperhold.revisions") 583, annotations := none, code := .ref 408, closureTuple := .none, builtins := 0 }, #[]⟩),
  (415, ⟨.type "code", none, .fields #[.str (Str.ofString "reference") 708, .str (Str.ofString "Changes.reference") 709, .str (Str.ofString "/claim/cut.py") 710, .int (247) 0, .int (2) 0, .int (0) 0, .int (0) 0, .int (3) 0, .ref 410, .bool true, .int (181) 0, .ref 411, .none, .ref 412, .ref 413, .ref 414, .int (713) 0, .int (247) 0, .str (Str.ofString "/claim/cut.py") 714], #[]⟩),
  (416, ⟨.type "function", none, .func { name := (Str.ofString "reference"), qualname := (Str.ofString "Changes.reference"), params := fnP (clsS p 25 9), body := .stmts (fnB (clsS p 25 9)), scope := fnS (clsS p 25 9), globals := 3, closure := [], defaults := .none, kwdefaults := .none, doc := .none, pyModule := .str (Str.ofString "paperhold.revisions") 583, annotations := none, code := .ref 415, closureTuple := .none, builtins := 0 }, #[]⟩),
  (422, ⟨.type "code", none, .fields #[.str (Str.ofString "new_entries") 716, .str (Str.ofString "Changes.new_entries") 717, .str (Str.ofString "/claim/cut.py") 718, .int (252) 0, .int (2) 0, .int (0) 0, .int (0) 0, .int (3) 0, .ref 417, .bool true, .int (181) 0, .ref 418, .none, .ref 419, .ref 420, .ref 421, .int (724) 0, .int (252) 0, .str (Str.ofString "/claim/cut.py") 725], #[]⟩),
  (423, ⟨.type "function", none, .func { name := (Str.ofString "new_entries"), qualname := (Str.ofString "Changes.new_entries"), params := fnP (clsS p 25 10), body := .stmts (fnB (clsS p 25 10)), scope := fnS (clsS p 25 10), globals := 3, closure := [], defaults := .none, kwdefaults := .none, doc := .none, pyModule := .str (Str.ofString "paperhold.revisions") 583, annotations := none, code := .ref 422, closureTuple := .none, builtins := 0 }, #[]⟩),
  (425, ⟨.type "dict", none, .dict [⟨PyData.keyHash P (Str.ofString "__module__"), .str (Str.ofString "__module__") 626, .str (Str.ofString "paperhold.revisions") 583⟩, ⟨PyData.keyHash P (Str.ofString "__firstlineno__"), .str (Str.ofString "__firstlineno__") 630, .int (187) 629⟩, ⟨PyData.keyHash P (Str.ofString "__init__"), .str (Str.ofString "__init__") 639, .ref 355⟩, ⟨PyData.keyHash P (Str.ofString "is_changed"), .str (Str.ofString "is_changed") 646, .ref 362⟩, ⟨PyData.keyHash P (Str.ofString "size"), .str (Str.ofString "size") 652, .ref 367⟩, ⟨PyData.keyHash P (Str.ofString "generation_for"), .str (Str.ofString "generation_for") 661, .ref 374⟩, ⟨PyData.keyHash P (Str.ofString "need_no_holder"), .str (Str.ofString "need_no_holder") 669, .ref 381⟩, ⟨PyData.keyHash P (Str.ofString "lay"), .str (Str.ofString "lay") 681, .ref 388⟩, ⟨PyData.keyHash P (Str.ofString "put"), .str (Str.ofString "put") 690, .ref 395⟩, ⟨PyData.keyHash P (Str.ofString "add"), .str (Str.ofString "add") 699, .ref 402⟩, ⟨PyData.keyHash P (Str.ofString "free"), .str (Str.ofString "free") 707, .ref 409⟩, ⟨PyData.keyHash P (Str.ofString "reference"), .str (Str.ofString "reference") 715, .ref 416⟩, ⟨PyData.keyHash P (Str.ofString "new_entries"), .str (Str.ofString "new_entries") 726, .ref 423⟩, ⟨PyData.keyHash P (Str.ofString "__static_attributes__"), .str (Str.ofString "__static_attributes__") 734, .ref 424⟩, ⟨PyData.keyHash P (Str.ofString "__dict__"), .str (Str.ofString "__dict__") 736, .ref 427⟩, ⟨PyData.keyHash P (Str.ofString "__weakref__"), .str (Str.ofString "__weakref__") 738, .ref 428⟩, ⟨PyData.keyHash P (Str.ofString "__doc__"), .str (Str.ofString "__doc__") 739, .none⟩].toArray 4, #[]⟩),
  (426, ⟨.type "type", none, .cls { name := (Str.ofString "Changes"), bases := [.type "object"], mro := [.ref 426, .type "object"], ns := 425, qualname := (Str.ofString "Changes"), hasDict := true, slotNames := [], subclasses := [], abstract := false, collection := none, hasDel := false }, #[none, none, some (.str (Str.ofString "Changes") 619), some (.str (Str.ofString "Changes") 627), some (.builtin "object.__new__"), some (.bool true)]⟩),
  (427, ⟨.type "getset_descriptor", none, .fields #[.str (Str.ofString "__dict__") 735, .ref 426, .builtin "function.__dict__", .builtin "function.__dict__#set"], #[]⟩),
  (428, ⟨.type "getset_descriptor", none, .fields #[.str (Str.ofString "__weakref__") 737, .ref 426, .builtin "ExceptionGroup.__weakref__", .none], #[]⟩),
  (436, ⟨.type "code", none, .fields #[.str (Str.ofString "_law_draw") 744, .str (Str.ofString "_law_draw") 745, .str (Str.ofString "/claim/cut.py") 746, .int (260) 0, .int (2) 0, .int (0) 0, .int (0) 0, .int (3) 0, .ref 431, .bool true, .int (181) 0, .ref 432, .none, .ref 433, .ref 434, .ref 435, .int (750) 0, .int (260) 0, .str (Str.ofString "/claim/cut.py") 751], #[]⟩),
  (437, ⟨.type "function", none, .func { name := (Str.ofString "_law_draw"), qualname := (Str.ofString "_law_draw"), params := fnP (topS p 27), body := .stmts (fnB (topS p 27)), scope := fnS (topS p 27), globals := 3, closure := [], defaults := .none, kwdefaults := .none, doc := .none, pyModule := .str (Str.ofString "law_nn0129_01") 742, annotations := none, code := .ref 436, closureTuple := .none, builtins := 0 }, #[]⟩),
  (443, ⟨.type "code", none, .fields #[.str (Str.ofString "_law_entries") 753, .str (Str.ofString "_law_entries") 754, .str (Str.ofString "/claim/cut.py") 755, .int (266) 0, .int (1) 0, .int (0) 0, .int (0) 0, .int (3) 0, .ref 438, .bool true, .int (181) 0, .ref 439, .none, .ref 440, .ref 441, .ref 442, .int (761) 0, .int (266) 0, .str (Str.ofString "/claim/cut.py") 762], #[]⟩),
  (444, ⟨.type "function", none, .func { name := (Str.ofString "_law_entries"), qualname := (Str.ofString "_law_entries"), params := fnP (topS p 28), body := .stmts (fnB (topS p 28)), scope := fnS (topS p 28), globals := 3, closure := [], defaults := .none, kwdefaults := .none, doc := .none, pyModule := .str (Str.ofString "law_nn0129_01") 742, annotations := none, code := .ref 443, closureTuple := .none, builtins := 0 }, #[]⟩),
  (450, ⟨.type "code", none, .fields #[.str (Str.ofString "_law_book") 764, .str (Str.ofString "_law_book") 765, .str (Str.ofString "/claim/cut.py") 766, .int (279) 0, .int (2) 0, .int (0) 0, .int (0) 0, .int (3) 0, .ref 445, .bool true, .int (181) 0, .ref 446, .none, .ref 447, .ref 448, .ref 449, .int (774) 0, .int (279) 0, .str (Str.ofString "/claim/cut.py") 775], #[]⟩),
  (451, ⟨.type "function", none, .func { name := (Str.ofString "_law_book"), qualname := (Str.ofString "_law_book"), params := fnP (topS p 29), body := .stmts (fnB (topS p 29)), scope := fnS (topS p 29), globals := 3, closure := [], defaults := .none, kwdefaults := .none, doc := .none, pyModule := .str (Str.ofString "law_nn0129_01") 742, annotations := none, code := .ref 450, closureTuple := .none, builtins := 0 }, #[]⟩),
  (455, ⟨.type "code", none, .fields #[.str (Str.ofString "_law_lay") 777, .str (Str.ofString "_law_lay") 778, .str (Str.ofString "/claim/cut.py") 779, .int (289) 0, .int (4) 0, .int (0) 0, .int (0) 0, .int (3) 0, .ref 452, .bool true, .int (181) 0, .ref 453, .none, .none, .none, .ref 454, .int (780) 0, .int (289) 0, .str (Str.ofString "/claim/cut.py") 781], #[]⟩),
  (456, ⟨.type "function", none, .func { name := (Str.ofString "_law_lay"), qualname := (Str.ofString "_law_lay"), params := fnP (topS p 30), body := .stmts (fnB (topS p 30)), scope := fnS (topS p 30), globals := 3, closure := [], defaults := .none, kwdefaults := .none, doc := .none, pyModule := .str (Str.ofString "law_nn0129_01") 742, annotations := none, code := .ref 455, closureTuple := .none, builtins := 0 }, #[]⟩),
  (460, ⟨.type "code", none, .fields #[.str (Str.ofString "_law_act") 783, .str (Str.ofString "_law_act") 784, .str (Str.ofString "/claim/cut.py") 785, .int (297) 0, .int (4) 0, .int (0) 0, .int (0) 0, .int (3) 0, .ref 457, .bool true, .int (181) 0, .ref 458, .none, .none, .none, .ref 459, .int (786) 0, .int (297) 0, .str (Str.ofString "/claim/cut.py") 787], #[]⟩),
  (461, ⟨.type "function", none, .func { name := (Str.ofString "_law_act"), qualname := (Str.ofString "_law_act"), params := fnP (topS p 31), body := .stmts (fnB (topS p 31)), scope := fnS (topS p 31), globals := 3, closure := [], defaults := .none, kwdefaults := .none, doc := .none, pyModule := .str (Str.ofString "law_nn0129_01") 742, annotations := none, code := .ref 460, closureTuple := .none, builtins := 0 }, #[]⟩),
  (467, ⟨.type "code", none, .fields #[.str (Str.ofString "_law_done") 789, .str (Str.ofString "_law_done") 790, .str (Str.ofString "/claim/cut.py") 791, .int (312) 0, .int (4) 0, .int (0) 0, .int (0) 0, .int (3) 0, .ref 462, .bool true, .int (181) 0, .ref 463, .none, .ref 464, .ref 465, .ref 466, .int (797) 0, .int (312) 0, .str (Str.ofString "/claim/cut.py") 798], #[]⟩),
  (468, ⟨.type "function", none, .func { name := (Str.ofString "_law_done"), qualname := (Str.ofString "_law_done"), params := fnP (topS p 32), body := .stmts (fnB (topS p 32)), scope := fnS (topS p 32), globals := 3, closure := [], defaults := .none, kwdefaults := .none, doc := .none, pyModule := .str (Str.ofString "law_nn0129_01") 742, annotations := none, code := .ref 467, closureTuple := .none, builtins := 0 }, #[]⟩),
  (474, ⟨.type "code", none, .fields #[.str (Str.ofString "_law_told_reference") 800, .str (Str.ofString "_law_told_reference") 801, .str (Str.ofString "/claim/cut.py") 802, .int (320) 0, .int (2) 0, .int (0) 0, .int (0) 0, .int (3) 0, .ref 469, .bool true, .int (181) 0, .ref 470, .none, .ref 471, .ref 472, .ref 473, .int (805) 0, .int (320) 0, .str (Str.ofString "/claim/cut.py") 806], #[]⟩),
  (475, ⟨.type "function", none, .func { name := (Str.ofString "_law_told_reference"), qualname := (Str.ofString "_law_told_reference"), params := fnP (topS p 33), body := .stmts (fnB (topS p 33)), scope := fnS (topS p 33), globals := 3, closure := [], defaults := .none, kwdefaults := .none, doc := .none, pyModule := .str (Str.ofString "law_nn0129_01") 742, annotations := none, code := .ref 474, closureTuple := .none, builtins := 0 }, #[]⟩),
  (479, ⟨.type "code", none, .fields #[.str (Str.ofString "_law_chain_right") 808, .str (Str.ofString "_law_chain_right") 809, .str (Str.ofString "/claim/cut.py") 810, .int (325) 0, .int (3) 0, .int (0) 0, .int (0) 0, .int (3) 0, .ref 476, .bool true, .int (181) 0, .ref 477, .none, .none, .none, .ref 478, .int (811) 0, .int (325) 0, .str (Str.ofString "/claim/cut.py") 812], #[]⟩),
  (480, ⟨.type "function", none, .func { name := (Str.ofString "_law_chain_right"), qualname := (Str.ofString "_law_chain_right"), params := fnP (topS p 34), body := .stmts (fnB (topS p 34)), scope := fnS (topS p 34), globals := 3, closure := [], defaults := .none, kwdefaults := .none, doc := .none, pyModule := .str (Str.ofString "law_nn0129_01") 742, annotations := none, code := .ref 479, closureTuple := .none, builtins := 0 }, #[]⟩),
  (484, ⟨.type "code", none, .fields #[.str (Str.ofString "law") 814, .str (Str.ofString "law") 815, .str (Str.ofString "/claim/cut.py") 816, .int (334) 0, .int (1) 0, .int (0) 0, .int (0) 0, .int (3) 0, .ref 481, .bool true, .int (181) 0, .ref 482, .none, .none, .none, .ref 483, .int (817) 0, .int (334) 0, .str (Str.ofString "/claim/cut.py") 818], #[]⟩),
  (485, ⟨.type "function", none, .func { name := (Str.ofString "law"), qualname := (Str.ofString "law"), params := fnP (topS p 35), body := .stmts (fnB (topS p 35)), scope := fnS (topS p 35), globals := 3, closure := [], defaults := .none, kwdefaults := .none, doc := .none, pyModule := .str (Str.ofString "law_nn0129_01") 742, annotations := none, code := .ref 484, closureTuple := .none, builtins := 0 }, #[]⟩)]
noncomputable def K (P : Params) : Frag := [
  (3, ⟨.type "dict", none, .dict [⟨PyData.keyHash P (Str.ofString "__name__"), .str (Str.ofString "__name__") 165, .str (Str.ofString "law_nn0129_01") 742⟩, ⟨PyData.keyHash P (Str.ofString "__doc__"), .str (Str.ofString "__doc__") 166, .none⟩, ⟨PyData.keyHash P (Str.ofString "__package__"), .str (Str.ofString "__package__") 167, .none⟩, ⟨PyData.keyHash P (Str.ofString "__loader__"), .str (Str.ofString "__loader__") 168, .builtin "__main__.__loader__#opaque"⟩, ⟨PyData.keyHash P (Str.ofString "__spec__"), .str (Str.ofString "__spec__") 169, .none⟩, ⟨PyData.keyHash P (Str.ofString "__annotations__"), .str (Str.ofString "__annotations__") 170, .ref 6⟩, ⟨PyData.keyHash P (Str.ofString "__builtins__"), .str (Str.ofString "__builtins__") 171, .ref 4⟩, ⟨PyData.keyHash P (Str.ofString "__file__"), .str (Str.ofString "__file__") 173, .str (Str.ofString "/claim/cut.py") 172⟩, ⟨PyData.keyHash P (Str.ofString "__cached__"), .str (Str.ofString "__cached__") 174, .none⟩, ⟨PyData.keyHash P (Str.ofString "_wall"), .str (Str.ofString "_wall") 193, .ref 21⟩, ⟨PyData.keyHash P (Str.ofString "MOST_GENERATION"), .str (Str.ofString "MOST_GENERATION") 197, .int (65535) 196⟩, ⟨PyData.keyHash P (Str.ofString "Entry"), .str (Str.ofString "Entry") 237, .ref 45⟩, ⟨PyData.keyHash P (Str.ofString "free_chain"), .str (Str.ofString "free_chain") 243, .ref 54⟩, ⟨PyData.keyHash P (Str.ofString "PaperError"), .str (Str.ofString "PaperError") 285, .ref 79⟩, ⟨PyData.keyHash P (Str.ofString "DraftFault"), .str (Str.ofString "DraftFault") 301, .ref 92⟩, ⟨PyData.keyHash P (Str.ofString "Decimal"), .str (Str.ofString "Decimal") 417, .ref 188⟩, ⟨PyData.keyHash P (Str.ofString "sign_text"), .str (Str.ofString "sign_text") 424, .ref 199⟩, ⟨PyData.keyHash P (Str.ofString "Name"), .str (Str.ofString "Name") 455, .ref 216⟩, ⟨PyData.keyHash P (Str.ofString "String"), .str (Str.ofString "String") 486, .ref 238⟩, ⟨PyData.keyHash P (Str.ofString "Stream"), .str (Str.ofString "Stream") 517, .ref 259⟩, ⟨PyData.keyHash P (Str.ofString "Reference"), .str (Str.ofString "Reference") 555, .ref 287⟩, ⟨PyData.keyHash P (Str.ofString "kind_of"), .str (Str.ofString "kind_of") 562, .ref 298⟩, ⟨PyData.keyHash P (Str.ofString "told_plain"), .str (Str.ofString "told_plain") 570, .ref 305⟩, ⟨PyData.keyHash P (Str.ofString "told"), .str (Str.ofString "told") 576, .ref 310⟩, ⟨PyData.keyHash P (Str.ofString "copied"), .str (Str.ofString "copied") 582, .ref 315⟩, ⟨PyData.keyHash P (Str.ofString "next_generations"), .str (Str.ofString "next_generations") 594, .ref 322⟩, ⟨PyData.keyHash P (Str.ofString "generations_used"), .str (Str.ofString "generations_used") 603, .ref 329⟩, ⟨PyData.keyHash P (Str.ofString "holders_of"), .str (Str.ofString "holders_of") 612, .ref 336⟩, ⟨PyData.keyHash P (Str.ofString "free_entries"), .str (Str.ofString "free_entries") 618, .ref 341⟩, ⟨PyData.keyHash P (Str.ofString "Changes"), .str (Str.ofString "Changes") 741, .ref 426⟩, ⟨PyData.keyHash P (Str.ofString "_law_draw"), .str (Str.ofString "_law_draw") 752, .ref 437⟩, ⟨PyData.keyHash P (Str.ofString "_law_entries"), .str (Str.ofString "_law_entries") 763, .ref 444⟩, ⟨PyData.keyHash P (Str.ofString "_law_book"), .str (Str.ofString "_law_book") 776, .ref 451⟩, ⟨PyData.keyHash P (Str.ofString "_law_lay"), .str (Str.ofString "_law_lay") 782, .ref 456⟩, ⟨PyData.keyHash P (Str.ofString "_law_act"), .str (Str.ofString "_law_act") 788, .ref 461⟩, ⟨PyData.keyHash P (Str.ofString "_law_done"), .str (Str.ofString "_law_done") 799, .ref 468⟩, ⟨PyData.keyHash P (Str.ofString "_law_told_reference"), .str (Str.ofString "_law_told_reference") 807, .ref 475⟩, ⟨PyData.keyHash P (Str.ofString "_law_chain_right"), .str (Str.ofString "_law_chain_right") 813, .ref 480⟩, ⟨PyData.keyHash P (Str.ofString "law"), .str (Str.ofString "law") 819, .ref 485⟩].toArray 39, #[]⟩),
  (34, ⟨.type "code", none, .fields #[.str (Str.ofString "__init__") 210, .str (Str.ofString "Entry.__init__") 211, .str (Str.ofString "/claim/cut.py") 212, .int (8) 0, .int (4) 0, .int (0) 0, .int (0) 0, .int (3) 0, .ref 29, .bool true, .int (181) 0, .ref 30, .none, .ref 31, .ref 32, .ref 33, .int (217) 0, .int (8) 0, .str (Str.ofString "/claim/cut.py") 218], #[]⟩),
  (35, ⟨.type "function", none, .func { name := (Str.ofString "__init__"), qualname := (Str.ofString "Entry.__init__"), params := fnP (clsS pw 3 0), body := .stmts (fnB (clsS pw 3 0)), scope := fnS (clsS pw 3 0), globals := 3, closure := [], defaults := .none, kwdefaults := .none, doc := .none, pyModule := .str (Str.ofString "paperhold.cross") 194, annotations := none, code := .ref 34, closureTuple := .none, builtins := 0 }, #[]⟩),
  (41, ⟨.type "code", none, .fields #[.str (Str.ofString "told") 220, .str (Str.ofString "Entry.told") 221, .str (Str.ofString "/claim/cut.py") 222, .int (13) 0, .int (1) 0, .int (0) 0, .int (0) 0, .int (3) 0, .ref 36, .bool true, .int (181) 0, .ref 37, .none, .ref 38, .ref 39, .ref 40, .int (224) 0, .int (13) 0, .str (Str.ofString "/claim/cut.py") 225], #[]⟩),
  (42, ⟨.type "function", none, .func { name := (Str.ofString "told"), qualname := (Str.ofString "Entry.told"), params := fnP (clsS pw 3 1), body := .stmts (fnB (clsS pw 3 1)), scope := fnS (clsS pw 3 1), globals := 3, closure := [], defaults := .none, kwdefaults := .none, doc := .none, pyModule := .str (Str.ofString "paperhold.cross") 194, annotations := none, code := .ref 41, closureTuple := .none, builtins := 0 }, #[]⟩),
  (44, ⟨.type "dict", none, .dict [⟨PyData.keyHash P (Str.ofString "__module__"), .str (Str.ofString "__module__") 205, .str (Str.ofString "paperhold.cross") 194⟩, ⟨PyData.keyHash P (Str.ofString "__firstlineno__"), .str (Str.ofString "__firstlineno__") 209, .int (6) 208⟩, ⟨PyData.keyHash P (Str.ofString "__init__"), .str (Str.ofString "__init__") 219, .ref 35⟩, ⟨PyData.keyHash P (Str.ofString "told"), .str (Str.ofString "told") 226, .ref 42⟩, ⟨PyData.keyHash P (Str.ofString "__static_attributes__"), .str (Str.ofString "__static_attributes__") 230, .ref 43⟩, ⟨PyData.keyHash P (Str.ofString "__dict__"), .str (Str.ofString "__dict__") 232, .ref 46⟩, ⟨PyData.keyHash P (Str.ofString "__weakref__"), .str (Str.ofString "__weakref__") 234, .ref 47⟩, ⟨PyData.keyHash P (Str.ofString "__doc__"), .str (Str.ofString "__doc__") 235, .none⟩].toArray 4, #[]⟩),
  (45, ⟨.type "type", none, .cls { name := (Str.ofString "Entry"), bases := [.type "object"], mro := [.ref 45, .type "object"], ns := 44, qualname := (Str.ofString "Entry"), hasDict := true, slotNames := [], subclasses := [], abstract := false, collection := none, hasDel := false }, #[none, none, some (.str (Str.ofString "Entry") 198), some (.str (Str.ofString "Entry") 206), some (.builtin "object.__new__"), some (.bool true)]⟩),
  (46, ⟨.type "getset_descriptor", none, .fields #[.str (Str.ofString "__dict__") 231, .ref 45, .builtin "function.__dict__", .builtin "function.__dict__#set"], #[]⟩),
  (47, ⟨.type "getset_descriptor", none, .fields #[.str (Str.ofString "__weakref__") 233, .ref 45, .builtin "ExceptionGroup.__weakref__", .none], #[]⟩),
  (53, ⟨.type "code", none, .fields #[.str (Str.ofString "free_chain") 238, .str (Str.ofString "free_chain") 239, .str (Str.ofString "/claim/cut.py") 240, .int (15) 0, .int (2) 0, .int (0) 0, .int (0) 0, .int (3) 0, .ref 50, .bool true, .int (181) 0, .ref 51, .none, .none, .none, .ref 52, .int (241) 0, .int (15) 0, .str (Str.ofString "/claim/cut.py") 242], #[]⟩),
  (54, ⟨.type "function", none, .func { name := (Str.ofString "free_chain"), qualname := (Str.ofString "free_chain"), params := fnP (topS pw 4), body := .stmts (fnB (topS pw 4)), scope := fnS (topS pw 4), globals := 3, closure := [], defaults := .none, kwdefaults := .none, doc := .none, pyModule := .str (Str.ofString "paperhold.cross") 194, annotations := none, code := .ref 53, closureTuple := .none, builtins := 0 }, #[]⟩),
  (62, ⟨.type "tuple", none, .seq #[.int (-1) 259] 0, #[]⟩),
  (68, ⟨.type "code", none, .fields #[.str (Str.ofString "__init__") 260, .str (Str.ofString "PaperError.__init__") 261, .str (Str.ofString "/claim/cut.py") 262, .int (25) 0, .int (3) 0, .int (0) 0, .int (0) 0, .int (3) 0, .ref 63, .bool true, .int (181) 0, .ref 64, .none, .ref 65, .ref 66, .ref 67, .int (266) 0, .int (25) 0, .str (Str.ofString "/claim/cut.py") 267], #[]⟩),
  (69, ⟨.type "function", none, .func { name := (Str.ofString "__init__"), qualname := (Str.ofString "PaperError.__init__"), params := fnP (clsS pw 6 0), body := .stmts (fnB (clsS pw 6 0)), scope := fnS (clsS pw 6 0), globals := 3, closure := [], defaults := .ref 62, kwdefaults := .none, doc := .none, pyModule := .str (Str.ofString "paperhold.errors") 244, annotations := none, code := .ref 68, closureTuple := .none, builtins := 0 }, #[]⟩),
  (78, ⟨.type "dict", none, .dict [⟨PyData.keyHash P (Str.ofString "__module__"), .str (Str.ofString "__module__") 253, .str (Str.ofString "paperhold.errors") 244⟩, ⟨PyData.keyHash P (Str.ofString "__firstlineno__"), .str (Str.ofString "__firstlineno__") 257, .int (23) 256⟩, ⟨PyData.keyHash P (Str.ofString "__init__"), .str (Str.ofString "__init__") 268, .ref 69⟩, ⟨PyData.keyHash P (Str.ofString "told"), .str (Str.ofString "told") 275, .ref 76⟩, ⟨PyData.keyHash P (Str.ofString "__static_attributes__"), .str (Str.ofString "__static_attributes__") 278, .ref 77⟩, ⟨PyData.keyHash P (Str.ofString "__weakref__"), .str (Str.ofString "__weakref__") 280, .ref 80⟩, ⟨PyData.keyHash P (Str.ofString "__doc__"), .str (Str.ofString "__doc__") 281, .none⟩].toArray 3, #[]⟩),
  (79, ⟨.type "type", none, .cls { name := (Str.ofString "PaperError"), bases := [.type "Exception"], mro := [.ref 79, .type "Exception", .type "BaseException", .type "object"], ns := 78, qualname := (Str.ofString "PaperError"), hasDict := true, slotNames := [], subclasses := [.ref 92], abstract := false, collection := none, hasDel := false }, #[some (.ref 55), none, some (.str (Str.ofString "PaperError") 246), some (.str (Str.ofString "PaperError") 254), some (.builtin "Exception.__new__"), some (.bool true)]⟩),
  (80, ⟨.type "getset_descriptor", none, .fields #[.str (Str.ofString "__weakref__") 279, .ref 79, .builtin "ExceptionGroup.__weakref__", .none], #[]⟩),
  (91, ⟨.type "dict", none, .dict [⟨PyData.keyHash P (Str.ofString "__module__"), .str (Str.ofString "__module__") 293, .str (Str.ofString "paperhold.errors") 244⟩, ⟨PyData.keyHash P (Str.ofString "__firstlineno__"), .str (Str.ofString "__firstlineno__") 297, .int (32) 296⟩, ⟨PyData.keyHash P (Str.ofString "__static_attributes__"), .str (Str.ofString "__static_attributes__") 298, .ref 90⟩, ⟨PyData.keyHash P (Str.ofString "__doc__"), .str (Str.ofString "__doc__") 299, .none⟩].toArray 2, #[]⟩),
  (92, ⟨.type "type", none, .cls { name := (Str.ofString "DraftFault"), bases := [.ref 79], mro := [.ref 92, .ref 79, .type "Exception", .type "BaseException", .type "object"], ns := 91, qualname := (Str.ofString "DraftFault"), hasDict := true, slotNames := [], subclasses := [], abstract := false, collection := none, hasDel := false }, #[some (.ref 83), none, some (.str (Str.ofString "DraftFault") 286), some (.str (Str.ofString "DraftFault") 294), some (.builtin "Exception.__new__"), some (.bool true)]⟩),
  (187, ⟨.type "dict", none, .dict [⟨PyData.keyHash P (Str.ofString "__module__"), .str (Str.ofString "__module__") 311, .str (Str.ofString "paperhold.decimals") 302⟩, ⟨PyData.keyHash P (Str.ofString "__firstlineno__"), .str (Str.ofString "__firstlineno__") 315, .int (35) 314⟩, ⟨PyData.keyHash P (Str.ofString "__init__"), .str (Str.ofString "__init__") 324, .ref 108⟩, ⟨PyData.keyHash P (Str.ofString "plus"), .str (Str.ofString "plus") 332, .ref 115⟩, ⟨PyData.keyHash P (Str.ofString "minus"), .str (Str.ofString "minus") 340, .ref 122⟩, ⟨PyData.keyHash P (Str.ofString "times"), .str (Str.ofString "times") 348, .ref 129⟩, ⟨PyData.keyHash P (Str.ofString "negated"), .str (Str.ofString "negated") 355, .ref 136⟩, ⟨PyData.keyHash P (Str.ofString "compared"), .str (Str.ofString "compared") 363, .ref 143⟩, ⟨PyData.keyHash P (Str.ofString "is_whole"), .str (Str.ofString "is_whole") 370, .ref 150⟩, ⟨PyData.keyHash P (Str.ofString "floor"), .str (Str.ofString "floor") 377, .ref 157⟩, ⟨PyData.keyHash P (Str.ofString "rounded"), .str (Str.ofString "rounded") 385, .ref 164⟩, ⟨PyData.keyHash P (Str.ofString "told"), .str (Str.ofString "told") 392, .ref 171⟩, ⟨PyData.keyHash P (Str.ofString "text"), .str (Str.ofString "text") 400, .ref 178⟩, ⟨PyData.keyHash P (Str.ofString "least_text"), .str (Str.ofString "least_text") 407, .ref 185⟩, ⟨PyData.keyHash P (Str.ofString "__static_attributes__"), .str (Str.ofString "__static_attributes__") 410, .ref 186⟩, ⟨PyData.keyHash P (Str.ofString "__dict__"), .str (Str.ofString "__dict__") 412, .ref 189⟩, ⟨PyData.keyHash P (Str.ofString "__weakref__"), .str (Str.ofString "__weakref__") 414, .ref 190⟩, ⟨PyData.keyHash P (Str.ofString "__doc__"), .str (Str.ofString "__doc__") 415, .none⟩].toArray 4, #[]⟩),
  (188, ⟨.type "type", none, .cls { name := (Str.ofString "Decimal"), bases := [.type "object"], mro := [.ref 188, .type "object"], ns := 187, qualname := (Str.ofString "Decimal"), hasDict := true, slotNames := [], subclasses := [], abstract := false, collection := none, hasDel := false }, #[none, none, some (.str (Str.ofString "Decimal") 304), some (.str (Str.ofString "Decimal") 312), some (.builtin "object.__new__"), some (.bool true)]⟩),
  (189, ⟨.type "getset_descriptor", none, .fields #[.str (Str.ofString "__dict__") 411, .ref 188, .builtin "function.__dict__", .builtin "function.__dict__#set"], #[]⟩),
  (190, ⟨.type "getset_descriptor", none, .fields #[.str (Str.ofString "__weakref__") 413, .ref 188, .builtin "ExceptionGroup.__weakref__", .none], #[]⟩),
  (215, ⟨.type "dict", none, .dict [⟨PyData.keyHash P (Str.ofString "__module__"), .str (Str.ofString "__module__") 434, .str (Str.ofString "paperhold.objects") 425⟩, ⟨PyData.keyHash P (Str.ofString "__firstlineno__"), .str (Str.ofString "__firstlineno__") 438, .int (83) 437⟩, ⟨PyData.keyHash P (Str.ofString "__init__"), .str (Str.ofString "__init__") 446, .ref 213⟩, ⟨PyData.keyHash P (Str.ofString "__static_attributes__"), .str (Str.ofString "__static_attributes__") 448, .ref 214⟩, ⟨PyData.keyHash P (Str.ofString "__dict__"), .str (Str.ofString "__dict__") 450, .ref 217⟩, ⟨PyData.keyHash P (Str.ofString "__weakref__"), .str (Str.ofString "__weakref__") 452, .ref 218⟩, ⟨PyData.keyHash P (Str.ofString "__doc__"), .str (Str.ofString "__doc__") 453, .none⟩].toArray 4, #[]⟩),
  (216, ⟨.type "type", none, .cls { name := (Str.ofString "Name"), bases := [.type "object"], mro := [.ref 216, .type "object"], ns := 215, qualname := (Str.ofString "Name"), hasDict := true, slotNames := [], subclasses := [], abstract := false, collection := none, hasDel := false }, #[none, none, some (.str (Str.ofString "Name") 427), some (.str (Str.ofString "Name") 435), some (.builtin "object.__new__"), some (.bool true)]⟩),
  (217, ⟨.type "getset_descriptor", none, .fields #[.str (Str.ofString "__dict__") 449, .ref 216, .builtin "function.__dict__", .builtin "function.__dict__#set"], #[]⟩),
  (218, ⟨.type "getset_descriptor", none, .fields #[.str (Str.ofString "__weakref__") 451, .ref 216, .builtin "ExceptionGroup.__weakref__", .none], #[]⟩),
  (237, ⟨.type "dict", none, .dict [⟨PyData.keyHash P (Str.ofString "__module__"), .str (Str.ofString "__module__") 463, .str (Str.ofString "paperhold.objects") 425⟩, ⟨PyData.keyHash P (Str.ofString "__firstlineno__"), .str (Str.ofString "__firstlineno__") 467, .int (87) 466⟩, ⟨PyData.keyHash P (Str.ofString "__init__"), .str (Str.ofString "__init__") 476, .ref 235⟩, ⟨PyData.keyHash P (Str.ofString "__static_attributes__"), .str (Str.ofString "__static_attributes__") 479, .ref 236⟩, ⟨PyData.keyHash P (Str.ofString "__dict__"), .str (Str.ofString "__dict__") 481, .ref 239⟩, ⟨PyData.keyHash P (Str.ofString "__weakref__"), .str (Str.ofString "__weakref__") 483, .ref 240⟩, ⟨PyData.keyHash P (Str.ofString "__doc__"), .str (Str.ofString "__doc__") 484, .none⟩].toArray 4, #[]⟩),
  (238, ⟨.type "type", none, .cls { name := (Str.ofString "String"), bases := [.type "object"], mro := [.ref 238, .type "object"], ns := 237, qualname := (Str.ofString "String"), hasDict := true, slotNames := [], subclasses := [], abstract := false, collection := none, hasDel := false }, #[none, none, some (.str (Str.ofString "String") 456), some (.str (Str.ofString "String") 464), some (.builtin "object.__new__"), some (.bool true)]⟩),
  (239, ⟨.type "getset_descriptor", none, .fields #[.str (Str.ofString "__dict__") 480, .ref 238, .builtin "function.__dict__", .builtin "function.__dict__#set"], #[]⟩),
  (240, ⟨.type "getset_descriptor", none, .fields #[.str (Str.ofString "__weakref__") 482, .ref 238, .builtin "ExceptionGroup.__weakref__", .none], #[]⟩),
  (258, ⟨.type "dict", none, .dict [⟨PyData.keyHash P (Str.ofString "__module__"), .str (Str.ofString "__module__") 494, .str (Str.ofString "paperhold.objects") 425⟩, ⟨PyData.keyHash P (Str.ofString "__firstlineno__"), .str (Str.ofString "__firstlineno__") 498, .int (92) 497⟩, ⟨PyData.keyHash P (Str.ofString "__init__"), .str (Str.ofString "__init__") 507, .ref 256⟩, ⟨PyData.keyHash P (Str.ofString "__static_attributes__"), .str (Str.ofString "__static_attributes__") 510, .ref 257⟩, ⟨PyData.keyHash P (Str.ofString "__dict__"), .str (Str.ofString "__dict__") 512, .ref 260⟩, ⟨PyData.keyHash P (Str.ofString "__weakref__"), .str (Str.ofString "__weakref__") 514, .ref 261⟩, ⟨PyData.keyHash P (Str.ofString "__doc__"), .str (Str.ofString "__doc__") 515, .none⟩].toArray 4, #[]⟩),
  (259, ⟨.type "type", none, .cls { name := (Str.ofString "Stream"), bases := [.type "object"], mro := [.ref 259, .type "object"], ns := 258, qualname := (Str.ofString "Stream"), hasDict := true, slotNames := [], subclasses := [], abstract := false, collection := none, hasDel := false }, #[none, none, some (.str (Str.ofString "Stream") 487), some (.str (Str.ofString "Stream") 495), some (.builtin "object.__new__"), some (.bool true)]⟩),
  (260, ⟨.type "getset_descriptor", none, .fields #[.str (Str.ofString "__dict__") 511, .ref 259, .builtin "function.__dict__", .builtin "function.__dict__#set"], #[]⟩),
  (261, ⟨.type "getset_descriptor", none, .fields #[.str (Str.ofString "__weakref__") 513, .ref 259, .builtin "ExceptionGroup.__weakref__", .none], #[]⟩),
  (276, ⟨.type "code", none, .fields #[.str (Str.ofString "__init__") 530, .str (Str.ofString "Reference.__init__") 531, .str (Str.ofString "/claim/cut.py") 532, .int (99) 0, .int (3) 0, .int (0) 0, .int (0) 0, .int (3) 0, .ref 271, .bool true, .int (181) 0, .ref 272, .none, .ref 273, .ref 274, .ref 275, .int (536) 0, .int (99) 0, .str (Str.ofString "/claim/cut.py") 537], #[]⟩),
  (277, ⟨.type "function", none, .func { name := (Str.ofString "__init__"), qualname := (Str.ofString "Reference.__init__"), params := fnP (clsS pw 15 0), body := .stmts (fnB (clsS pw 15 0)), scope := fnS (clsS pw 15 0), globals := 3, closure := [], defaults := .none, kwdefaults := .none, doc := .none, pyModule := .str (Str.ofString "paperhold.objects") 425, annotations := none, code := .ref 276, closureTuple := .none, builtins := 0 }, #[]⟩),
  (283, ⟨.type "code", none, .fields #[.str (Str.ofString "pair") 539, .str (Str.ofString "Reference.pair") 540, .str (Str.ofString "/claim/cut.py") 541, .int (103) 0, .int (1) 0, .int (0) 0, .int (0) 0, .int (3) 0, .ref 278, .bool true, .int (181) 0, .ref 279, .none, .ref 280, .ref 281, .ref 282, .int (543) 0, .int (103) 0, .str (Str.ofString "/claim/cut.py") 544], #[]⟩),
  (284, ⟨.type "function", none, .func { name := (Str.ofString "pair"), qualname := (Str.ofString "Reference.pair"), params := fnP (clsS pw 15 1), body := .stmts (fnB (clsS pw 15 1)), scope := fnS (clsS pw 15 1), globals := 3, closure := [], defaults := .none, kwdefaults := .none, doc := .none, pyModule := .str (Str.ofString "paperhold.objects") 425, annotations := none, code := .ref 283, closureTuple := .none, builtins := 0 }, #[]⟩),
  (286, ⟨.type "dict", none, .dict [⟨PyData.keyHash P (Str.ofString "__module__"), .str (Str.ofString "__module__") 525, .str (Str.ofString "paperhold.objects") 425⟩, ⟨PyData.keyHash P (Str.ofString "__firstlineno__"), .str (Str.ofString "__firstlineno__") 529, .int (97) 528⟩, ⟨PyData.keyHash P (Str.ofString "__init__"), .str (Str.ofString "__init__") 538, .ref 277⟩, ⟨PyData.keyHash P (Str.ofString "pair"), .str (Str.ofString "pair") 545, .ref 284⟩, ⟨PyData.keyHash P (Str.ofString "__static_attributes__"), .str (Str.ofString "__static_attributes__") 548, .ref 285⟩, ⟨PyData.keyHash P (Str.ofString "__dict__"), .str (Str.ofString "__dict__") 550, .ref 288⟩, ⟨PyData.keyHash P (Str.ofString "__weakref__"), .str (Str.ofString "__weakref__") 552, .ref 289⟩, ⟨PyData.keyHash P (Str.ofString "__doc__"), .str (Str.ofString "__doc__") 553, .none⟩].toArray 4, #[]⟩),
  (287, ⟨.type "type", none, .cls { name := (Str.ofString "Reference"), bases := [.type "object"], mro := [.ref 287, .type "object"], ns := 286, qualname := (Str.ofString "Reference"), hasDict := true, slotNames := [], subclasses := [], abstract := false, collection := none, hasDel := false }, #[none, none, some (.str (Str.ofString "Reference") 518), some (.str (Str.ofString "Reference") 526), some (.builtin "object.__new__"), some (.bool true)]⟩),
  (288, ⟨.type "getset_descriptor", none, .fields #[.str (Str.ofString "__dict__") 549, .ref 287, .builtin "function.__dict__", .builtin "function.__dict__#set"], #[]⟩),
  (289, ⟨.type "getset_descriptor", none, .fields #[.str (Str.ofString "__weakref__") 551, .ref 287, .builtin "ExceptionGroup.__weakref__", .none], #[]⟩),
  (297, ⟨.type "code", none, .fields #[.str (Str.ofString "kind_of") 556, .str (Str.ofString "kind_of") 557, .str (Str.ofString "/claim/cut.py") 558, .int (105) 0, .int (1) 0, .int (0) 0, .int (0) 0, .int (3) 0, .ref 292, .bool true, .int (181) 0, .ref 293, .none, .ref 294, .ref 295, .ref 296, .int (560) 0, .int (105) 0, .str (Str.ofString "/claim/cut.py") 561], #[]⟩),
  (298, ⟨.type "function", none, .func { name := (Str.ofString "kind_of"), qualname := (Str.ofString "kind_of"), params := fnP (topS pw 16), body := .stmts (fnB (topS pw 16)), scope := fnS (topS pw 16), globals := 3, closure := [], defaults := .none, kwdefaults := .none, doc := .none, pyModule := .str (Str.ofString "paperhold.objects") 425, annotations := none, code := .ref 297, closureTuple := .none, builtins := 0 }, #[]⟩),
  (304, ⟨.type "code", none, .fields #[.str (Str.ofString "told_plain") 563, .str (Str.ofString "told_plain") 564, .str (Str.ofString "/claim/cut.py") 565, .int (127) 0, .int (2) 0, .int (0) 0, .int (0) 0, .int (3) 0, .ref 299, .bool true, .int (181) 0, .ref 300, .none, .ref 301, .ref 302, .ref 303, .int (568) 0, .int (127) 0, .str (Str.ofString "/claim/cut.py") 569], #[]⟩),
  (305, ⟨.type "function", none, .func { name := (Str.ofString "told_plain"), qualname := (Str.ofString "told_plain"), params := fnP (topS pw 17), body := .stmts (fnB (topS pw 17)), scope := fnS (topS pw 17), globals := 3, closure := [], defaults := .none, kwdefaults := .none, doc := .none, pyModule := .str (Str.ofString "paperhold.objects") 425, annotations := none, code := .ref 304, closureTuple := .none, builtins := 0 }, #[]⟩),
  (309, ⟨.type "code", none, .fields #[.str (Str.ofString "told") 571, .str (Str.ofString "told") 572, .str (Str.ofString "/claim/cut.py") 573, .int (141) 0, .int (1) 0, .int (0) 0, .int (0) 0, .int (3) 0, .ref 306, .bool true, .int (181) 0, .ref 307, .none, .none, .none, .ref 308, .int (574) 0, .int (141) 0, .str (Str.ofString "/claim/cut.py") 575], #[]⟩),
  (310, ⟨.type "function", none, .func { name := (Str.ofString "told"), qualname := (Str.ofString "told"), params := fnP (topS pw 18), body := .stmts (fnB (topS pw 18)), scope := fnS (topS pw 18), globals := 3, closure := [], defaults := .none, kwdefaults := .none, doc := .none, pyModule := .str (Str.ofString "paperhold.objects") 425, annotations := none, code := .ref 309, closureTuple := .none, builtins := 0 }, #[]⟩),
  (314, ⟨.type "code", none, .fields #[.str (Str.ofString "copied") 577, .str (Str.ofString "copied") 578, .str (Str.ofString "/claim/cut.py") 579, .int (150) 0, .int (1) 0, .int (0) 0, .int (0) 0, .int (3) 0, .ref 311, .bool true, .int (181) 0, .ref 312, .none, .none, .none, .ref 313, .int (580) 0, .int (150) 0, .str (Str.ofString "/claim/cut.py") 581], #[]⟩),
  (315, ⟨.type "function", none, .func { name := (Str.ofString "copied"), qualname := (Str.ofString "copied"), params := fnP (topS pw 19), body := .stmts (fnB (topS pw 19)), scope := fnS (topS pw 19), globals := 3, closure := [], defaults := .none, kwdefaults := .none, doc := .none, pyModule := .str (Str.ofString "paperhold.objects") 425, annotations := none, code := .ref 314, closureTuple := .none, builtins := 0 }, #[]⟩),
  (321, ⟨.type "code", none, .fields #[.str (Str.ofString "next_generations") 585, .str (Str.ofString "next_generations") 586, .str (Str.ofString "/claim/cut.py") 587, .int (160) 0, .int (2) 0, .int (0) 0, .int (0) 0, .int (3) 0, .ref 316, .bool true, .int (181) 0, .ref 317, .none, .ref 318, .ref 319, .ref 320, .int (592) 0, .int (160) 0, .str (Str.ofString "/claim/cut.py") 593], #[]⟩),
  (322, ⟨.type "function", none, .func { name := (Str.ofString "next_generations"), qualname := (Str.ofString "next_generations"), params := fnP (topS pw 21), body := .stmts (fnB (topS pw 21)), scope := fnS (topS pw 21), globals := 3, closure := [], defaults := .none, kwdefaults := .none, doc := .none, pyModule := .str (Str.ofString "paperhold.revisions") 583, annotations := none, code := .ref 321, closureTuple := .none, builtins := 0 }, #[]⟩),
  (328, ⟨.type "code", none, .fields #[.str (Str.ofString "generations_used") 595, .str (Str.ofString "generations_used") 596, .str (Str.ofString "/claim/cut.py") 597, .int (168) 0, .int (1) 0, .int (0) 0, .int (0) 0, .int (3) 0, .ref 323, .bool true, .int (181) 0, .ref 324, .none, .ref 325, .ref 326, .ref 327, .int (601) 0, .int (168) 0, .str (Str.ofString "/claim/cut.py") 602], #[]⟩),
  (329, ⟨.type "function", none, .func { name := (Str.ofString "generations_used"), qualname := (Str.ofString "generations_used"), params := fnP (topS pw 22), body := .stmts (fnB (topS pw 22)), scope := fnS (topS pw 22), globals := 3, closure := [], defaults := .none, kwdefaults := .none, doc := .none, pyModule := .str (Str.ofString "paperhold.revisions") 583, annotations := none, code := .ref 328, closureTuple := .none, builtins := 0 }, #[]⟩),
  (335, ⟨.type "code", none, .fields #[.str (Str.ofString "holders_of") 604, .str (Str.ofString "holders_of") 605, .str (Str.ofString "/claim/cut.py") 606, .int (174) 0, .int (1) 0, .int (0) 0, .int (0) 0, .int (3) 0, .ref 330, .bool true, .int (181) 0, .ref 331, .none, .ref 332, .ref 333, .ref 334, .int (610) 0, .int (174) 0, .str (Str.ofString "/claim/cut.py") 611], #[]⟩),
  (336, ⟨.type "function", none, .func { name := (Str.ofString "holders_of"), qualname := (Str.ofString "holders_of"), params := fnP (topS pw 23), body := .stmts (fnB (topS pw 23)), scope := fnS (topS pw 23), globals := 3, closure := [], defaults := .none, kwdefaults := .none, doc := .none, pyModule := .str (Str.ofString "paperhold.revisions") 583, annotations := none, code := .ref 335, closureTuple := .none, builtins := 0 }, #[]⟩),
  (340, ⟨.type "code", none, .fields #[.str (Str.ofString "free_entries") 613, .str (Str.ofString "free_entries") 614, .str (Str.ofString "/claim/cut.py") 615, .int (180) 0, .int (1) 0, .int (0) 0, .int (0) 0, .int (3) 0, .ref 337, .bool true, .int (181) 0, .ref 338, .none, .none, .none, .ref 339, .int (616) 0, .int (180) 0, .str (Str.ofString "/claim/cut.py") 617], #[]⟩),
  (341, ⟨.type "function", none, .func { name := (Str.ofString "free_entries"), qualname := (Str.ofString "free_entries"), params := fnP (topS pw 24), body := .stmts (fnB (topS pw 24)), scope := fnS (topS pw 24), globals := 3, closure := [], defaults := .none, kwdefaults := .none, doc := .none, pyModule := .str (Str.ofString "paperhold.revisions") 583, annotations := none, code := .ref 340, closureTuple := .none, builtins := 0 }, #[]⟩),
  (354, ⟨.type "code", none, .fields #[.str (Str.ofString "__init__") 631, .str (Str.ofString "Changes.__init__") 632, .str (Str.ofString "/claim/cut.py") 633, .int (189) 0, .int (3) 0, .int (0) 0, .int (0) 0, .int (3) 0, .ref 349, .bool true, .int (181) 0, .ref 350, .none, .ref 351, .ref 352, .ref 353, .int (637) 0, .int (189) 0, .str (Str.ofString "/claim/cut.py") 638], #[]⟩),
  (355, ⟨.type "function", none, .func { name := (Str.ofString "__init__"), qualname := (Str.ofString "Changes.__init__"), params := fnP (clsS pw 25 0), body := .stmts (fnB (clsS pw 25 0)), scope := fnS (clsS pw 25 0), globals := 3, closure := [], defaults := .none, kwdefaults := .none, doc := .none, pyModule := .str (Str.ofString "paperhold.revisions") 583, annotations := none, code := .ref 354, closureTuple := .none, builtins := 0 }, #[]⟩),
  (361, ⟨.type "code", none, .fields #[.str (Str.ofString "is_changed") 640, .str (Str.ofString "Changes.is_changed") 641, .str (Str.ofString "/claim/cut.py") 642, .int (198) 0, .int (1) 0, .int (0) 0, .int (0) 0, .int (3) 0, .ref 356, .bool true, .int (181) 0, .ref 357, .none, .ref 358, .ref 359, .ref 360, .int (644) 0, .int (198) 0, .str (Str.ofString "/claim/cut.py") 645], #[]⟩),
  (362, ⟨.type "function", none, .func { name := (Str.ofString "is_changed"), qualname := (Str.ofString "Changes.is_changed"), params := fnP (clsS pw 25 1), body := .stmts (fnB (clsS pw 25 1)), scope := fnS (clsS pw 25 1), globals := 3, closure := [], defaults := .none, kwdefaults := .none, doc := .none, pyModule := .str (Str.ofString "paperhold.revisions") 583, annotations := none, code := .ref 361, closureTuple := .none, builtins := 0 }, #[]⟩),
  (366, ⟨.type "code", none, .fields #[.str (Str.ofString "size") 647, .str (Str.ofString "Changes.size") 648, .str (Str.ofString "/claim/cut.py") 649, .int (201) 0, .int (1) 0, .int (0) 0, .int (0) 0, .int (3) 0, .ref 363, .bool true, .int (181) 0, .ref 364, .none, .none, .none, .ref 365, .int (650) 0, .int (201) 0, .str (Str.ofString "/claim/cut.py") 651], #[]⟩),
  (367, ⟨.type "function", none, .func { name := (Str.ofString "size"), qualname := (Str.ofString "Changes.size"), params := fnP (clsS pw 25 2), body := .stmts (fnB (clsS pw 25 2)), scope := fnS (clsS pw 25 2), globals := 3, closure := [], defaults := .none, kwdefaults := .none, doc := .none, pyModule := .str (Str.ofString "paperhold.revisions") 583, annotations := none, code := .ref 366, closureTuple := .none, builtins := 0 }, #[]⟩),
  (373, ⟨.type "code", none, .fields #[.str (Str.ofString "generation_for") 653, .str (Str.ofString "Changes.generation_for") 654, .str (Str.ofString "/claim/cut.py") 655, .int (204) 0, .int (2) 0, .int (0) 0, .int (0) 0, .int (3) 0, .ref 368, .bool true, .int (181) 0, .ref 369, .none, .ref 370, .ref 371, .ref 372, .int (659) 0, .int (204) 0, .str (Str.ofString "/claim/cut.py") 660], #[]⟩),
  (374, ⟨.type "function", none, .func { name := (Str.ofString "generation_for"), qualname := (Str.ofString "Changes.generation_for"), params := fnP (clsS pw 25 3), body := .stmts (fnB (clsS pw 25 3)), scope := fnS (clsS pw 25 3), globals := 3, closure := [], defaults := .none, kwdefaults := .none, doc := .none, pyModule := .str (Str.ofString "paperhold.revisions") 583, annotations := none, code := .ref 373, closureTuple := .none, builtins := 0 }, #[]⟩),
  (380, ⟨.type "code", none, .fields #[.str (Str.ofString "need_no_holder") 662, .str (Str.ofString "Changes.need_no_holder") 663, .str (Str.ofString "/claim/cut.py") 664, .int (212) 0, .int (2) 0, .int (0) 0, .int (0) 0, .int (3) 0, .ref 375, .bool true, .int (181) 0, .ref 376, .none, .ref 377, .ref 378, .ref 379, .int (667) 0, .int (212) 0, .str (Str.ofString "/claim/cut.py") 668], #[]⟩),
  (381, ⟨.type "function", none, .func { name := (Str.ofString "need_no_holder"), qualname := (Str.ofString "Changes.need_no_holder"), params := fnP (clsS pw 25 4), body := .stmts (fnB (clsS pw 25 4)), scope := fnS (clsS pw 25 4), globals := 3, closure := [], defaults := .none, kwdefaults := .none, doc := .none, pyModule := .str (Str.ofString "paperhold.revisions") 583, annotations := none, code := .ref 380, closureTuple := .none, builtins := 0 }, #[]⟩),
  (387, ⟨.type "code", none, .fields #[.str (Str.ofString "lay") 670, .str (Str.ofString "Changes.lay") 671, .str (Str.ofString "/claim/cut.py") 672, .int (218) 0, .int (4) 0, .int (0) 0, .int (0) 0, .int (3) 0, .ref 382, .bool true, .int (181) 0, .ref 383, .none, .ref 384, .ref 385, .ref 386, .int (679) 0, .int (218) 0, .str (Str.ofString "/claim/cut.py") 680], #[]⟩),
  (388, ⟨.type "function", none, .func { name := (Str.ofString "lay"), qualname := (Str.ofString "Changes.lay"), params := fnP (clsS pw 25 5), body := .stmts (fnB (clsS pw 25 5)), scope := fnS (clsS pw 25 5), globals := 3, closure := [], defaults := .none, kwdefaults := .none, doc := .none, pyModule := .str (Str.ofString "paperhold.revisions") 583, annotations := none, code := .ref 387, closureTuple := .none, builtins := 0 }, #[]⟩),
  (394, ⟨.type "code", none, .fields #[.str (Str.ofString "put") 682, .str (Str.ofString "Changes.put") 683, .str (Str.ofString "/claim/cut.py") 684, .int (229) 0, .int (3) 0, .int (0) 0, .int (0) 0, .int (3) 0, .ref 389, .bool true, .int (181) 0, .ref 390, .none, .ref 391, .ref 392, .ref 393, .int (688) 0, .int (229) 0, .str (Str.ofString "/claim/cut.py") 689], #[]⟩),
  (395, ⟨.type "function", none, .func { name := (Str.ofString "put"), qualname := (Str.ofString "Changes.put"), params := fnP (clsS pw 25 6), body := .stmts (fnB (clsS pw 25 6)), scope := fnS (clsS pw 25 6), globals := 3, closure := [], defaults := .none, kwdefaults := .none, doc := .none, pyModule := .str (Str.ofString "paperhold.revisions") 583, annotations := none, code := .ref 394, closureTuple := .none, builtins := 0 }, #[]⟩),
  (401, ⟨.type "code", none, .fields #[.str (Str.ofString "add") 691, .str (Str.ofString "Changes.add") 692, .str (Str.ofString "/claim/cut.py") 693, .int (233) 0, .int (2) 0, .int (0) 0, .int (0) 0, .int (3) 0, .ref 396, .bool true, .int (181) 0, .ref 397, .none, .ref 398, .ref 399, .ref 400, .int (697) 0, .int (233) 0, .str (Str.ofString "/claim/cut.py") 698], #[]⟩),
  (402, ⟨.type "function", none, .func { name := (Str.ofString "add"), qualname := (Str.ofString "Changes.add"), params := fnP (clsS pw 25 7), body := .stmts (fnB (clsS pw 25 7)), scope := fnS (clsS pw 25 7), globals := 3, closure := [], defaults := .none, kwdefaults := .none, doc := .none, pyModule := .str (Str.ofString "paperhold.revisions") 583, annotations := none, code := .ref 401, closureTuple := .none, builtins := 0 }, #[]⟩),
  (408, ⟨.type "code", none, .fields #[.str (Str.ofString "free") 700, .str (Str.ofString "Changes.free") 701, .str (Str.ofString "/claim/cut.py") 702, .int (239) 0, .int (2) 0, .int (0) 0, .int (0) 0, .int (3) 0, .ref 403, .bool true, .int (181) 0, .ref 404, .none, .ref 405, .ref 406, .ref 407, .int (705) 0, .int (239) 0, .str (Str.ofString "/claim/cut.py") 706], #[]⟩),
  (409, ⟨.type "function", none, .func { name := (Str.ofString "free"), qualname := (Str.ofString "Changes.free"), params := fnP (clsS pw 25 8), body := .stmts (fnB (clsS pw 25 8)), scope := fnS (clsS pw 25 8), globals := 3, closure := [], defaults := .none, kwdefaults := .none, doc := .none, pyModule := .str (Str.ofString "paperhold.revisions") 583, annotations := none, code := .ref 408, closureTuple := .none, builtins := 0 }, #[]⟩),
  (415, ⟨.type "code", none, .fields #[.str (Str.ofString "reference") 708, .str (Str.ofString "Changes.reference") 709, .str (Str.ofString "/claim/cut.py") 710, .int (247) 0, .int (2) 0, .int (0) 0, .int (0) 0, .int (3) 0, .ref 410, .bool true, .int (181) 0, .ref 411, .none, .ref 412, .ref 413, .ref 414, .int (713) 0, .int (247) 0, .str (Str.ofString "/claim/cut.py") 714], #[]⟩),
  (416, ⟨.type "function", none, .func { name := (Str.ofString "reference"), qualname := (Str.ofString "Changes.reference"), params := fnP (clsS pw 25 9), body := .stmts (fnB (clsS pw 25 9)), scope := fnS (clsS pw 25 9), globals := 3, closure := [], defaults := .none, kwdefaults := .none, doc := .none, pyModule := .str (Str.ofString "paperhold.revisions") 583, annotations := none, code := .ref 415, closureTuple := .none, builtins := 0 }, #[]⟩),
  (422, ⟨.type "code", none, .fields #[.str (Str.ofString "new_entries") 716, .str (Str.ofString "Changes.new_entries") 717, .str (Str.ofString "/claim/cut.py") 718, .int (252) 0, .int (2) 0, .int (0) 0, .int (0) 0, .int (3) 0, .ref 417, .bool true, .int (181) 0, .ref 418, .none, .ref 419, .ref 420, .ref 421, .int (724) 0, .int (252) 0, .str (Str.ofString "/claim/cut.py") 725], #[]⟩),
  (423, ⟨.type "function", none, .func { name := (Str.ofString "new_entries"), qualname := (Str.ofString "Changes.new_entries"), params := fnP (clsS pw 25 10), body := .stmts (fnB (clsS pw 25 10)), scope := fnS (clsS pw 25 10), globals := 3, closure := [], defaults := .none, kwdefaults := .none, doc := .none, pyModule := .str (Str.ofString "paperhold.revisions") 583, annotations := none, code := .ref 422, closureTuple := .none, builtins := 0 }, #[]⟩),
  (425, ⟨.type "dict", none, .dict [⟨PyData.keyHash P (Str.ofString "__module__"), .str (Str.ofString "__module__") 626, .str (Str.ofString "paperhold.revisions") 583⟩, ⟨PyData.keyHash P (Str.ofString "__firstlineno__"), .str (Str.ofString "__firstlineno__") 630, .int (187) 629⟩, ⟨PyData.keyHash P (Str.ofString "__init__"), .str (Str.ofString "__init__") 639, .ref 355⟩, ⟨PyData.keyHash P (Str.ofString "is_changed"), .str (Str.ofString "is_changed") 646, .ref 362⟩, ⟨PyData.keyHash P (Str.ofString "size"), .str (Str.ofString "size") 652, .ref 367⟩, ⟨PyData.keyHash P (Str.ofString "generation_for"), .str (Str.ofString "generation_for") 661, .ref 374⟩, ⟨PyData.keyHash P (Str.ofString "need_no_holder"), .str (Str.ofString "need_no_holder") 669, .ref 381⟩, ⟨PyData.keyHash P (Str.ofString "lay"), .str (Str.ofString "lay") 681, .ref 388⟩, ⟨PyData.keyHash P (Str.ofString "put"), .str (Str.ofString "put") 690, .ref 395⟩, ⟨PyData.keyHash P (Str.ofString "add"), .str (Str.ofString "add") 699, .ref 402⟩, ⟨PyData.keyHash P (Str.ofString "free"), .str (Str.ofString "free") 707, .ref 409⟩, ⟨PyData.keyHash P (Str.ofString "reference"), .str (Str.ofString "reference") 715, .ref 416⟩, ⟨PyData.keyHash P (Str.ofString "new_entries"), .str (Str.ofString "new_entries") 726, .ref 423⟩, ⟨PyData.keyHash P (Str.ofString "__static_attributes__"), .str (Str.ofString "__static_attributes__") 734, .ref 424⟩, ⟨PyData.keyHash P (Str.ofString "__dict__"), .str (Str.ofString "__dict__") 736, .ref 427⟩, ⟨PyData.keyHash P (Str.ofString "__weakref__"), .str (Str.ofString "__weakref__") 738, .ref 428⟩, ⟨PyData.keyHash P (Str.ofString "__doc__"), .str (Str.ofString "__doc__") 739, .none⟩].toArray 4, #[]⟩),
  (426, ⟨.type "type", none, .cls { name := (Str.ofString "Changes"), bases := [.type "object"], mro := [.ref 426, .type "object"], ns := 425, qualname := (Str.ofString "Changes"), hasDict := true, slotNames := [], subclasses := [], abstract := false, collection := none, hasDel := false }, #[none, none, some (.str (Str.ofString "Changes") 619), some (.str (Str.ofString "Changes") 627), some (.builtin "object.__new__"), some (.bool true)]⟩),
  (427, ⟨.type "getset_descriptor", none, .fields #[.str (Str.ofString "__dict__") 735, .ref 426, .builtin "function.__dict__", .builtin "function.__dict__#set"], #[]⟩),
  (428, ⟨.type "getset_descriptor", none, .fields #[.str (Str.ofString "__weakref__") 737, .ref 426, .builtin "ExceptionGroup.__weakref__", .none], #[]⟩),
  (436, ⟨.type "code", none, .fields #[.str (Str.ofString "_law_draw") 744, .str (Str.ofString "_law_draw") 745, .str (Str.ofString "/claim/cut.py") 746, .int (260) 0, .int (2) 0, .int (0) 0, .int (0) 0, .int (3) 0, .ref 431, .bool true, .int (181) 0, .ref 432, .none, .ref 433, .ref 434, .ref 435, .int (750) 0, .int (260) 0, .str (Str.ofString "/claim/cut.py") 751], #[]⟩),
  (437, ⟨.type "function", none, .func { name := (Str.ofString "_law_draw"), qualname := (Str.ofString "_law_draw"), params := fnP (topS pw 27), body := .stmts (fnB (topS pw 27)), scope := fnS (topS pw 27), globals := 3, closure := [], defaults := .none, kwdefaults := .none, doc := .none, pyModule := .str (Str.ofString "law_nn0129_01") 742, annotations := none, code := .ref 436, closureTuple := .none, builtins := 0 }, #[]⟩),
  (443, ⟨.type "code", none, .fields #[.str (Str.ofString "_law_entries") 753, .str (Str.ofString "_law_entries") 754, .str (Str.ofString "/claim/cut.py") 755, .int (266) 0, .int (1) 0, .int (0) 0, .int (0) 0, .int (3) 0, .ref 438, .bool true, .int (181) 0, .ref 439, .none, .ref 440, .ref 441, .ref 442, .int (761) 0, .int (266) 0, .str (Str.ofString "/claim/cut.py") 762], #[]⟩),
  (444, ⟨.type "function", none, .func { name := (Str.ofString "_law_entries"), qualname := (Str.ofString "_law_entries"), params := fnP (topS pw 28), body := .stmts (fnB (topS pw 28)), scope := fnS (topS pw 28), globals := 3, closure := [], defaults := .none, kwdefaults := .none, doc := .none, pyModule := .str (Str.ofString "law_nn0129_01") 742, annotations := none, code := .ref 443, closureTuple := .none, builtins := 0 }, #[]⟩),
  (450, ⟨.type "code", none, .fields #[.str (Str.ofString "_law_book") 764, .str (Str.ofString "_law_book") 765, .str (Str.ofString "/claim/cut.py") 766, .int (279) 0, .int (2) 0, .int (0) 0, .int (0) 0, .int (3) 0, .ref 445, .bool true, .int (181) 0, .ref 446, .none, .ref 447, .ref 448, .ref 449, .int (774) 0, .int (279) 0, .str (Str.ofString "/claim/cut.py") 775], #[]⟩),
  (451, ⟨.type "function", none, .func { name := (Str.ofString "_law_book"), qualname := (Str.ofString "_law_book"), params := fnP (topS pw 29), body := .stmts (fnB (topS pw 29)), scope := fnS (topS pw 29), globals := 3, closure := [], defaults := .none, kwdefaults := .none, doc := .none, pyModule := .str (Str.ofString "law_nn0129_01") 742, annotations := none, code := .ref 450, closureTuple := .none, builtins := 0 }, #[]⟩),
  (455, ⟨.type "code", none, .fields #[.str (Str.ofString "_law_lay") 777, .str (Str.ofString "_law_lay") 778, .str (Str.ofString "/claim/cut.py") 779, .int (289) 0, .int (4) 0, .int (0) 0, .int (0) 0, .int (3) 0, .ref 452, .bool true, .int (181) 0, .ref 453, .none, .none, .none, .ref 454, .int (780) 0, .int (289) 0, .str (Str.ofString "/claim/cut.py") 781], #[]⟩),
  (456, ⟨.type "function", none, .func { name := (Str.ofString "_law_lay"), qualname := (Str.ofString "_law_lay"), params := fnP (topS pw 30), body := .stmts (fnB (topS pw 30)), scope := fnS (topS pw 30), globals := 3, closure := [], defaults := .none, kwdefaults := .none, doc := .none, pyModule := .str (Str.ofString "law_nn0129_01") 742, annotations := none, code := .ref 455, closureTuple := .none, builtins := 0 }, #[]⟩),
  (460, ⟨.type "code", none, .fields #[.str (Str.ofString "_law_act") 783, .str (Str.ofString "_law_act") 784, .str (Str.ofString "/claim/cut.py") 785, .int (297) 0, .int (4) 0, .int (0) 0, .int (0) 0, .int (3) 0, .ref 457, .bool true, .int (181) 0, .ref 458, .none, .none, .none, .ref 459, .int (786) 0, .int (297) 0, .str (Str.ofString "/claim/cut.py") 787], #[]⟩),
  (461, ⟨.type "function", none, .func { name := (Str.ofString "_law_act"), qualname := (Str.ofString "_law_act"), params := fnP (topS pw 31), body := .stmts (fnB (topS pw 31)), scope := fnS (topS pw 31), globals := 3, closure := [], defaults := .none, kwdefaults := .none, doc := .none, pyModule := .str (Str.ofString "law_nn0129_01") 742, annotations := none, code := .ref 460, closureTuple := .none, builtins := 0 }, #[]⟩),
  (467, ⟨.type "code", none, .fields #[.str (Str.ofString "_law_done") 789, .str (Str.ofString "_law_done") 790, .str (Str.ofString "/claim/cut.py") 791, .int (312) 0, .int (4) 0, .int (0) 0, .int (0) 0, .int (3) 0, .ref 462, .bool true, .int (181) 0, .ref 463, .none, .ref 464, .ref 465, .ref 466, .int (797) 0, .int (312) 0, .str (Str.ofString "/claim/cut.py") 798], #[]⟩),
  (468, ⟨.type "function", none, .func { name := (Str.ofString "_law_done"), qualname := (Str.ofString "_law_done"), params := fnP (topS pw 32), body := .stmts (fnB (topS pw 32)), scope := fnS (topS pw 32), globals := 3, closure := [], defaults := .none, kwdefaults := .none, doc := .none, pyModule := .str (Str.ofString "law_nn0129_01") 742, annotations := none, code := .ref 467, closureTuple := .none, builtins := 0 }, #[]⟩),
  (474, ⟨.type "code", none, .fields #[.str (Str.ofString "_law_told_reference") 800, .str (Str.ofString "_law_told_reference") 801, .str (Str.ofString "/claim/cut.py") 802, .int (320) 0, .int (2) 0, .int (0) 0, .int (0) 0, .int (3) 0, .ref 469, .bool true, .int (181) 0, .ref 470, .none, .ref 471, .ref 472, .ref 473, .int (805) 0, .int (320) 0, .str (Str.ofString "/claim/cut.py") 806], #[]⟩),
  (475, ⟨.type "function", none, .func { name := (Str.ofString "_law_told_reference"), qualname := (Str.ofString "_law_told_reference"), params := fnP (topS pw 33), body := .stmts (fnB (topS pw 33)), scope := fnS (topS pw 33), globals := 3, closure := [], defaults := .none, kwdefaults := .none, doc := .none, pyModule := .str (Str.ofString "law_nn0129_01") 742, annotations := none, code := .ref 474, closureTuple := .none, builtins := 0 }, #[]⟩),
  (479, ⟨.type "code", none, .fields #[.str (Str.ofString "_law_chain_right") 808, .str (Str.ofString "_law_chain_right") 809, .str (Str.ofString "/claim/cut.py") 810, .int (325) 0, .int (3) 0, .int (0) 0, .int (0) 0, .int (3) 0, .ref 476, .bool true, .int (181) 0, .ref 477, .none, .none, .none, .ref 478, .int (811) 0, .int (325) 0, .str (Str.ofString "/claim/cut.py") 812], #[]⟩),
  (480, ⟨.type "function", none, .func { name := (Str.ofString "_law_chain_right"), qualname := (Str.ofString "_law_chain_right"), params := fnP (topS pw 34), body := .stmts (fnB (topS pw 34)), scope := fnS (topS pw 34), globals := 3, closure := [], defaults := .none, kwdefaults := .none, doc := .none, pyModule := .str (Str.ofString "law_nn0129_01") 742, annotations := none, code := .ref 479, closureTuple := .none, builtins := 0 }, #[]⟩),
  (484, ⟨.type "code", none, .fields #[.str (Str.ofString "law") 814, .str (Str.ofString "law") 815, .str (Str.ofString "/claim/cut.py") 816, .int (334) 0, .int (1) 0, .int (0) 0, .int (0) 0, .int (3) 0, .ref 481, .bool true, .int (181) 0, .ref 482, .none, .none, .none, .ref 483, .int (817) 0, .int (334) 0, .str (Str.ofString "/claim/cut.py") 818], #[]⟩),
  (485, ⟨.type "function", none, .func { name := (Str.ofString "law"), qualname := (Str.ofString "law"), params := fnP (topS pw 35), body := .stmts (fnB (topS pw 35)), scope := fnS (topS pw 35), globals := 3, closure := [], defaults := .none, kwdefaults := .none, doc := .none, pyModule := .str (Str.ofString "law_nn0129_01") 742, annotations := none, code := .ref 484, closureTuple := .none, builtins := 0 }, #[]⟩)]
def as : List Addr := [3, 34, 35, 41, 42, 44, 45, 46, 47, 53, 54, 62, 68, 69, 78, 79, 80, 91, 92, 187, 188, 189, 190, 215, 216, 217, 218, 237, 238, 239, 240, 258, 259, 260, 261, 276, 277, 283, 284, 286, 287, 288, 289, 297, 298, 304, 305, 309, 310, 314, 315, 321, 322, 328, 329, 335, 336, 340, 341, 354, 355, 361, 362, 366, 367, 373, 374, 380, 381, 387, 388, 394, 395, 401, 402, 408, 409, 415, 416, 422, 423, 425, 426, 427, 428, 436, 437, 443, 444, 450, 451, 455, 456, 460, 461, 467, 468, 474, 475, 479, 480, 484, 485]
theorem K_eq (P : Params) : Kp pw P = K P := by kernel_rfl!
end Mine
namespace Mine
set_option maxRecDepth 100000
set_option maxHeartbeats 0
def Qp (p : Program) : Program := { p with main := { p.main with body := [topS p 35] } }
def lo : List PySem.Str := ["_wall", "MOST_GENERATION", "Entry", "free_chain", "PaperError", "DraftFault", "Decimal", "sign_text", "Name", "String", "Stream", "Reference", "kind_of", "told_plain", "told", "copied", "next_generations", "generations_used", "holders_of", "free_entries", "Changes", "_law_draw", "_law_entries", "_law_book", "_law_lay", "_law_act", "_law_done", "_law_told_reference", "_law_chain_right"].map PySem.Str.ofString
def obsK (s : Shared) : List (Option Obj) := as.map s.heap.get?
/-- the run of the top over a tree of objects -/
def topRunT (stp : SharedT → Thread → Option (SharedT × Thread)) (ok : Thread → Bool) : Nat → SharedT → Thread → Option SharedT
  | 0, _, _ => none
  | n + 1, s, t => match through t with
    | true => some s
    | false => match ok t with
      | false => none
      | true => match stp s t with
        | some (s', t') => topRunT stp ok n s' t'
        | none => none
theorem topRunT_of {tb : String → Option Builtin} {p : Program} {w : World} {n₀ : Nat} {ann : Option Value} : ∀ {n : Nat} {s s' : SharedT} {t : Thread}, topRunT (stepT (denote tb) p w) (stepOk n₀ ann) n s t = some s' → topRun tb p w n₀ ann n s.abs t = some s'.abs
  | 0, _, _, _, h => by cases h
  | n + 1, s, s', t, h => by
    unfold topRunT at h
    unfold topRun
    cases he : through t with
    | true => rw [he] at h; cases h; rfl
    | false =>
      rw [he] at h
      cases hk : stepOk n₀ ann t with
      | false => rw [hk] at h; cases h
      | true =>
        rw [hk] at h
        cases hs : stepT (denote tb) p w s t with
        | none => rw [hs] at h; cases h
        | some r => obtain ⟨s₂, t₂⟩ := r; rw [hs] at h; rw [stepT_spec hs]; exact topRunT_of h
def btOf : List Obj → Nat → BT → BT
  | [], _, t => t
  | o :: r, i, t => btOf r (i + 1) (t.ins i o)
noncomputable def T0 (P : Params) : BT := btOf (boot_heap P).objs.toList 0 .nil
noncomputable def S0T (w : World) (os : OsState) : SharedT := ⟨T0 w.params, (boot_heap w.params).objs.size, (boot_heap w.params).life, #[], boot_drawn, boot_toks, os⟩
theorem S0_abs (P : Params) : absHeap (T0 P) (boot_heap P).objs.size (boot_heap P).life = boot_heap P := by kernel_rfl!
theorem bootSize (P : Params) : ((boot_heap P).isNs mainGlobals, (boot_heap P).objs.size, (boot_heap P).nsMap mainGlobals "__annotations__") = (true, 11, some (.ref 6)) := by kernel_rfl!
open PySem.W.Fast in
theorem runT (w : World) : (fun os => (topRunT (tw10156331382660048174 (tw11892475500146522536 tw14364793385576792824) pw w) (tw6613529449190102663 11 (some (.ref 6))) 7000 (S0T w os) (topStub pw)).map fun r =>
      ((staticsOk (tw5923862056798008813 pw.main.body) (boot_heap w.params) r.abs.heap && namesBound pw r.abs.heap && gensDone r.abs && laidKept (boot_heap w.params) r.abs.heap),
        tw4187177175401517315 (Qp pw) lo (tw5923862056798008813 pw.main.body) (fun s => xlAt (Qp pw) [] s && recOk [] s) true r.abs, obsK r.abs))
    = fun _ => some (true, openGood (Qp pw) lo, (Kp pw w.params).map fun x => some x.2) := by
  kernel_rfl!
end Mine
namespace Mine
set_option maxRecDepth 100000
abbrev Ledger := List (Addr × Obj)
structure Led (H h : Heap) (l : Ledger) : Prop where
  base : ∀ b o, H.get? b = some o → h.get? b = some o
  le : H.objs.size ≤ h.objs.size
  here : ∀ p ∈ l, h.get? p.1 = some p.2
  new : ∀ p ∈ l, H.objs.size ≤ p.1
  nodup : (l.map (·.1)).Nodup

section
variable {H h h' : Heap} {l : Ledger} {a : Addr} {o o' : Obj}
theorem none_of_size {H : Heap} {a : Addr} (e : H.objs.size ≤ a) : H.get? a = none := by
  cases q : H.get? a with
  | none => rfl
  | some o => exact absurd (Heap.lt_size q) (Nat.not_lt.mpr e)
theorem Led.fresh (L : Led H h l) {p : Addr × Obj} (hp : p ∈ l) : H.get? p.1 = none := none_of_size (L.new p hp)
theorem Led.get (L : Led H h l) {i : Nat} (hi : l[i]? = some (a, o)) : h.get? a = some o := L.here _ (List.mem_of_getElem? hi)
theorem Led.mem (L : Led H h l) (hi : (a, o) ∈ l) : h.get? a = some o := L.here _ hi
theorem Led.tail {p : Addr × Obj} (L : Led H h (p :: l)) : Led H h l :=
  ⟨L.base, L.le, fun q hq => L.here q (.tail _ hq), fun q hq => L.new q (.tail _ hq), (List.nodup_cons.mp L.nodup).2⟩
theorem Led.push (L : Led H h l) (o : Obj) (hf : o.isFreed = false := by rfl) : Led H (h.push o) ((h.objs.size, o) :: l) := by
  refine ⟨fun b o e => Heap.get?_push_of_some _ (L.base b o e), ?_, fun p hp => ?_, fun p hp => ?_, ?_⟩
  · rw [Heap.size_push]; exact Nat.le_succ_of_le L.le
  · rcases List.mem_cons.mp hp with rfl | hp
    · exact Heap.get?_push_size _ hf
    · exact Heap.get?_push_of_some _ (L.here p hp)
  · rcases List.mem_cons.mp hp with rfl | hp
    · exact L.le
    · exact L.new p hp
  · rw [List.map_cons, List.nodup_cons]
    refine ⟨fun hm => ?_, L.nodup⟩
    obtain ⟨p, hp, e⟩ := List.mem_map.mp hm
    have := Heap.lt_size (L.here p hp)
    rw [e] at this; exact Nat.lt_irrefl _ this
theorem Led.grow (L : Led H h l) (k : ∀ b o, h.get? b = some o → h'.get? b = some o) (hs : h.objs.size ≤ h'.objs.size) : Led H h' l :=
  ⟨fun b o e => k _ _ (L.base b o e), Nat.le_trans L.le hs, fun p hp => k _ _ (L.here p hp), L.new, L.nodup⟩
theorem Led.set0 (L : Led H h ((a, o) :: l)) (hs : Heap.SameBut a h h') (ha : h'.get? a = some o') : Led H h' ((a, o') :: l) := by
  have hn := List.nodup_cons.mp L.nodup
  refine ⟨fun b x e => ?_, hs.1 ▸ L.le, fun p hp => ?_, fun p hp => ?_, L.nodup⟩
  · refine (hs.2 b fun q => ?_).trans (L.base b x e)
    have := L.fresh (.head _); rw [q] at e; rw [e] at this; cases this
  · rcases List.mem_cons.mp hp with rfl | hp
    · exact ha
    · exact (hs.2 p.1 fun q => hn.1 (List.mem_map.mpr ⟨p, hp, q⟩)).trans (L.here p (.tail _ hp))
  · rcases List.mem_cons.mp hp with rfl | hp
    · exact L.new (a, o) (.head _)
    · exact L.new p (.tail _ hp)
theorem Led.perm {l' : Ledger} (L : Led H h l) (p : l.Perm l') : Led H h l' :=
  ⟨L.base, L.le, fun q hq => L.here q (p.mem_iff.mpr hq), fun q hq => L.new q (p.mem_iff.mpr hq), (p.map _).nodup_iff.mp L.nodup⟩
theorem Led.sub {l' : Ledger} (L : Led H h l) (p : l'.Sublist l) : Led H h l' :=
  ⟨L.base, L.le, fun q hq => L.here q (p.mem hq), fun q hq => L.new q (p.mem hq), (p.map (·.1)).nodup L.nodup⟩

/-- the entries told by idx, in that order, then what stands behind the first n -/
def re (n : Nat) (idx : List Nat) (l : Ledger) : Ledger := idx.filterMap (fun i => l[i]?) ++ l.drop n
theorem Led.re (L : Led H h l) (n : Nat) (idx : List Nat) (hn : idx.Nodup := by decide) (hb : ∀ i ∈ idx, i < n := by decide) : Led H h (re n idx l) := by
  have hk : ∀ (i j : Nat) (p q : Addr × Obj), l[i]? = some p → l[j]? = some q → p.1 = q.1 → i = j := fun i j p q hi hj e => by
    have hi' : (l.map (·.1))[i]? = some p.1 := by rw [List.getElem?_map, hi]; rfl
    have hj' : (l.map (·.1))[j]? = some p.1 := by rw [List.getElem?_map, hj, e]; rfl
    obtain ⟨hlt, _⟩ := List.getElem?_eq_some_iff.mp hi'
    exact (List.getElem?_inj hlt L.nodup).mp (hi'.trans hj'.symm)
  have hm : ∀ p ∈ Mine.re n idx l, p ∈ l := fun p hp => by
    rcases List.mem_append.mp hp with hp | hp
    · obtain ⟨i, _, e⟩ := List.mem_filterMap.mp hp
      exact List.mem_of_getElem? e
    · exact List.mem_of_mem_drop hp
  refine ⟨L.base, L.le, fun p hp => L.here p (hm p hp), fun p hp => L.new p (hm p hp), ?_⟩
  unfold Mine.re
  rw [List.map_append, List.nodup_append]
  refine ⟨?_, (L.nodup).sublist ((List.drop_sublist n l).map _), fun x hx y hy e => ?_⟩
  · rw [List.Nodup, List.pairwise_map, List.pairwise_filterMap]
    refine List.Pairwise.imp (R := (· ≠ ·)) (fun {i j} hij p hp q hq e => hij (hk i j p q hp hq e)) hn
  · obtain ⟨p, hp, rfl⟩ := List.mem_map.mp hx
    obtain ⟨q, hq, rfl⟩ := List.mem_map.mp hy
    obtain ⟨i, hi, ei⟩ := List.mem_filterMap.mp hp
    obtain ⟨j, hj, ej⟩ := List.mem_iff_getElem.mp hq
    have ej' : l[n + j]? = some q := by
      rw [← List.getElem?_drop, List.getElem?_eq_getElem hj, ej]
    have := hk i (n + j) p q ei ej' e
    have := hb i hi
    omega
end

def NsObj (o : Obj) (m : Str → Option Value) : Prop := ∃ es ep, o.data = .dict es ep ∧ StrKeys es ∧ ∀ n, nsFind es n = m n
theorem ns_of {h : Heap} {a : Addr} {o : Obj} {m : Str → Option Value} (ho : h.get? a = some o) (n : NsObj o m) : h.Ns a m := let ⟨es, ep, x⟩ := n; ⟨o, es, ep, ho, x⟩
theorem of_ns {h : Heap} {a : Addr} {m : Str → Option Value} (n : h.Ns a m) : ∃ o, h.get? a = some o ∧ NsObj o m := let ⟨o, es, ep, ho, x⟩ := n; ⟨o, ho, es, ep, x⟩
structure Gd (w : World) (H : Heap) : Prop where
  K : (K w.params).In H
  g : ∃ mg, H.Ns mainGlobals mg
  b : ∃ mb, H.Ns builtinsNs mb ∧ ∀ x : Str, x ≠ "__name__" → mb x = bootBuiltins x
  nolimit : H.NoLimit
theorem Led.k {w : World} {H h : Heap} {l : Ledger} (L : Led H h l) (G : Gd w H) : (Mine.K w.params).In h := G.K.keeps L.base
end Mine
namespace Mine
set_option maxRecDepth 100000
@[irreducible] def Wp {α : Type} (w : World) (A : Around) (t : Sem α) (Q : α → Shared → Prop) (E : Value → Shared → Prop) (s : Shared) : Prop := wpAny (model pw w) A t Q E s
@[irreducible] def Cd (w : World) (A : Around) (c : Code) (R : Result → Shared → Prop) (s : Shared) : Prop := codeAny (model pw w) A c R s
/-- the room that is left for n calls within calls -/
def Room (n : Nat) (A : Around) : Prop := A.handled = none ∧ A.depth + n < recursionLimit ∧ A.units + 4 * n + 100 < cLine
theorem Room.deeper {n : Nat} {A : Around} (R : Room (n + 1) A) (env : Env) : Room n (A.deeper env) := by
  obtain ⟨a, b, c⟩ := R
  exact ⟨a, by show A.depth + 1 + n < _; omega, by show A.units + 3 + 4 * n + 100 < _; omega⟩
theorem Room.mono {n m : Nat} {A : Around} (R : Room n A) (h : m ≤ n) : Room m A := by
  obtain ⟨a, b, c⟩ := R
  exact ⟨a, by omega, by omega⟩
theorem Room.depth {n : Nat} {A : Around} (R : Room n A) : A.depth < recursionLimit := by obtain ⟨_, b, _⟩ := R; omega
theorem Room.units {n : Nat} {A : Around} (R : Room n A) : A.units < cLine := by obtain ⟨_, _, b⟩ := R; omega

/-- the value at place i, the list made longer where it must be -/
def setV : List (Option Value) → Nat → Value → List (Option Value)
  | [], 0, v => [some v]
  | [], i + 1, v => none :: setV [] i v
  | _ :: r, 0, v => some v :: r
  | u :: r, i + 1, v => u :: setV r i v
theorem setV_get (v : Value) : ∀ (l : List (Option Value)) (i j : Nat) (u : Value), (setV l i v)[j]? = some (some u) ↔ (if j = i then some (some v) else l[j]?) = some (some u)
  | [], 0, 0, u => by simp [setV]
  | [], 0, j + 1, u => by simp [setV]
  | [], i + 1, 0, u => by simp [setV]
  | [], i + 1, j + 1, u => by simpa [setV] using setV_get v [] i j u
  | a :: r, 0, 0, u => by simp [setV]
  | a :: r, 0, j + 1, u => by simp [setV]
  | a :: r, i + 1, 0, u => by simp [setV]
  | a :: r, i + 1, j + 1, u => by simpa [setV] using setV_get v r i j u
/-- the locals of a frame: names by place, and what is known of each -/
def Loc (o : Obj) (names : List Str) (vals : List (Option Value)) : Prop := ∃ m, NsObj o m ∧ ∀ (i : Nat) x v, names[i]? = some x → vals[i]? = some (some v) → m x = some v
theorem Loc.of_binds {o : Obj} {names : List Str} {args : List Value} (k : Nat) (n : NsObj o (fun x => ((names.take k).zip args).reverse.lookup x)) (hd : names.Nodup) (hl : args.length = k) (hk : k ≤ names.length) : Loc o names (args.map some) := by
  refine ⟨_, n, fun i x v hx hv => ?_⟩
  have key : ∀ (l : List (Str × Value)), (l.map (·.1)).Nodup → ∀ x v, (x, v) ∈ l → l.lookup x = some v := by
    intro l
    induction l with
    | nil => intro _ x v h; cases h
    | cons p r ih =>
      intro hd x v h
      obtain ⟨y, u⟩ := p
      rw [List.map_cons, List.nodup_cons] at hd
      rcases List.mem_cons.mp h with h | h
      · cases h; simp
      · have : x ≠ y := fun q => hd.1 (List.mem_map.mpr ⟨(x, v), h, q⟩)
        rw [List.lookup_cons, beq_eq_false_iff_ne.mpr this]
        exact ih hd.2 x v h
  have hz : ∀ (a : List Str) (b : List Value), ((a.zip b).map (·.1)).Sublist a := by
    intro a
    induction a with
    | nil => intro b; simp
    | cons x a ih => intro b; cases b with | nil => simp | cons y b => simpa using ih b
  have hnd : (((names.take k).zip args).map (·.1)).Nodup := (hd.sublist (List.take_sublist _ _)).sublist (hz _ _)
  rw [List.getElem?_map] at hv
  cases ha : args[i]? with
  | none => rw [ha] at hv; cases hv
  | some u =>
    rw [ha] at hv
    have hu : u = v := by simpa using hv
    subst hu
    have hi : i < k := by
      have := (List.getElem?_eq_some_iff.mp ha).1
      omega
    have hm : (x, u) ∈ (names.take k).zip args := by
      refine List.mem_of_getElem? (i := i) ?_
      rw [List.getElem?_zip_eq_some]
      exact ⟨by rw [List.getElem?_take, if_pos hi]; exact hx, ha⟩
    refine key _ ?_ x u (List.mem_reverse.mpr hm)
    rw [List.map_reverse]; exact List.pairwise_reverse.mpr (hnd.imp fun q => Ne.symm q)
/-- what is known of the place where a block runs -/
structure EnvOk (env : Env) (names gl : List Str) : Prop where
  kind : env.scope.kind = .function
  glob : env.globals = mainGlobals
  blt : env.builtins = builtinsNs
  loc : ∀ x ∈ names, env.kindOf x = some .local
  gk : ∀ x ∈ gl, env.kindOf x = some .globalImplicit
  nd : names.Nodup
  dbg : ∀ x ∈ names ++ gl, (x == ("__debug__" : Str)) = false
theorem EnvOk.calm {env : Env} {names gl : List Str} (V : EnvOk env names gl) : interactive env = false := by
  unfold interactive
  rw [V.kind]; rfl
section
variable {w : World} {A : Around} {E : Value → Shared → Prop} {H h : Heap} {g : Array GenState} {d : Drawn} {t : Nat} {os : OsState} {env : Env} {l : Ledger} {fo : Obj} {names gl : List Str} {vals : List (Option Value)} {x : Str} {v : Value} {pos : Pos}
/-- a local name -/
theorem e_loc {Q : Value → Shared → Prop} (i : Nat) (V : EnvOk env names gl) (L : Led H h ((env.locals, fo) :: l)) (N : Loc fo names vals) (q : Q v ⟨h, g, d, t, os⟩)
    (hx : names[i]? = some x := by rfl) (hv : vals[i]? = some (some v) := by rfl) :
    Wp w A (eval (.Name x pos) env) Q E ⟨h, g, d, t, os⟩ := by
  delta Wp at *
  obtain ⟨m, n, hm⟩ := N
  have hmem := List.mem_of_getElem? hx
  exact wpAny_Name (wpAny_loadName_local V.kind (V.loc x hmem) (ns_of (L.here _ (.head _)) n) (hm _ _ _ hx hv) q) (V.dbg x (List.mem_append_left _ hmem))
theorem e_glob {Q : Value → Shared → Prop} (i : Nat) (G : Gd w H) (V : EnvOk env names gl) (L : Led H h l) (e : nsIn (K w.params) mainGlobals x = some (some v)) (q : Q v ⟨h, g, d, t, os⟩)
    (hx : gl[i]? = some x := by rfl) :
    Wp w A (eval (.Name x pos) env) Q E ⟨h, g, d, t, os⟩ := by
  delta Wp at *
  obtain ⟨mg, hmg⟩ := G.g
  have hmem := List.mem_of_getElem? hx
  exact Calls.Name_function_global V.kind (V.gk x hmem) (Calls.loadGlobal_global (V.glob ▸ hmg.keeps L.base) (mg_of G.K hmg e) q) (V.dbg x (List.mem_append_right _ hmem))
theorem e_blt {Q : Value → Shared → Prop} (i : Nat) (G : Gd w H) (V : EnvOk env names gl) (L : Led H h l) (e : nsIn (K w.params) mainGlobals x = some none ∧ bootBuiltins x = some v ∧ x ≠ "__name__") (q : Q v ⟨h, g, d, t, os⟩)
    (hx : gl[i]? = some x := by rfl) :
    Wp w A (eval (.Name x pos) env) Q E ⟨h, g, d, t, os⟩ := by
  delta Wp at *
  obtain ⟨mg, hmg⟩ := G.g
  obtain ⟨mb, hmb, hbb⟩ := G.b
  have hmem := List.mem_of_getElem? hx
  exact Calls.Name_function_global V.kind (V.gk x hmem) (Calls.loadGlobal_builtin (V.glob ▸ hmg.keeps L.base) (mg_none_of G.K hmg e.1) (V.blt ▸ hmb.keeps L.base) ((hbb x e.2.2).trans e.2.1) q) (V.dbg x (List.mem_append_right _ hmem))
theorem e_int {i : Int} {k : Nat} {Q : Value → Shared → Prop} (q : ∀ tk t, Q (.int i tk) ⟨h, g, d, t, os⟩) : Wp w A (eval (.Constant (.int i) k pos) env) Q E ⟨h, g, d, t, os⟩ := by
  delta Wp at *; exact wpAny_Constant_int (q _ _)
theorem e_str {i : Str} {k : Nat} {Q : Value → Shared → Prop} (q : ∀ tk t, Q (.str i tk) ⟨h, g, d, t, os⟩) : Wp w A (eval (.Constant (.str i) k pos) env) Q E ⟨h, g, d, t, os⟩ := by
  delta Wp at *; exact Calls.Constant_str (q _ _)
/-- a store into a local name -/
theorem s_loc {Q : Unit → Shared → Prop} (i : Nat) (V : EnvOk env names gl) (L : Led H h ((env.locals, fo) :: l)) (N : Loc fo names vals)
    (q : ∀ h' t' fo', Led H h' ((env.locals, fo') :: l) → Loc fo' names (setV vals i v) → Q () ⟨h', g, d, t', os⟩)
    (hx : names[i]? = some x := by rfl) : Wp w A (storeName env x v) Q E ⟨h, g, d, t, os⟩ := by
  delta Wp at *
  obtain ⟨m, n, hm⟩ := N
  refine wpAny_storeName_local (V.loc x (List.mem_of_getElem? hx)) (ns_of (L.here _ (.head _)) n) (fun h' hn hs => ?_) (by rw [V.kind]; rfl)
  obtain ⟨fo', ho, n'⟩ := of_ns hn
  refine q h' _ fo' (L.set0 hs ho) ⟨_, n', fun j y u hy e => ?_⟩
  rw [setV_get] at e
  show (if y = x then some v else m y) = some u
  by_cases q : j = i
  · subst q
    rw [hx] at hy; cases hy
    rw [if_pos rfl] at e
    cases e; rw [if_pos rfl]
  · rw [if_neg q] at e
    have hne : y ≠ x := fun r => q <| by
      subst r
      obtain ⟨hlt, _⟩ := List.getElem?_eq_some_iff.mp hy
      exact (List.getElem?_inj hlt V.nd).mp (hy.trans hx.symm)
    rw [if_neg hne]; exact hm j y u hy e
/-- what stands behind a statement of a block -/
def thenX (w : World) (A : Around) (rest : List Stmt) (env : Env) (Q : Flow → Shared → Prop) (E : Value → Shared → Prop) (f : Flow) (s : Shared) : Prop := match f with
  | .next => Wp w A (execs rest env) Q E s
  | f => Q f s
theorem x_cons {st : Stmt} {rest : List Stmt} {Q : Flow → Shared → Prop} {s : Shared} (q : Wp w A (exec st env) (thenX w A rest env Q E) E s) : Wp w A (execs (st :: rest) env) Q E s := by
  unfold thenX at q
  delta Wp at *
  refine wpAny_execs_cons (wpAny_mono q (fun f s x => ?_) fun _ _ x => x)
  cases f <;> exact x
theorem x_nil {rest : List Stmt} {Q : Flow → Shared → Prop} {s : Shared} (q : Wp w A (execs rest env) Q E s) : Wp w A (execs [] env) (thenX w A rest env Q E) E s := by
  unfold thenX; delta Wp at *; exact wpAny_execs_nil q
theorem x_assign {value : PySem.Expr} {pos' : Pos} {rest : List Stmt} {Q : Flow → Shared → Prop} {s : Shared}
    (q : Wp w A (eval value env) (fun v s => Wp w A (storeName env x v) (fun _ s => Wp w A (execs rest env) Q E s) E s) E s)
    (hs : swapsWith value (some (.Name x pos')) pos.line env = pure false := by rfl) : Wp w A (execs (.Assign [.Name x pos'] value pos :: rest) env) Q E s := x_cons (by delta thenX Wp at *; exact wpAny_Assign_Name q hs)
theorem x_expr {value : PySem.Expr} {rest : List Stmt} {Q : Flow → Shared → Prop} {s : Shared}
    (q : Wp w A (eval value env) (fun _ s => Wp w A (execs rest env) Q E s) E s)
    (V : EnvOk env names gl) (hs : swapsWith value none pos.line env = pure false := by rfl) : Wp w A (execs (.Expr value pos :: rest) env) Q E s := x_cons (by delta thenX Wp at *; exact wpAny_Expr_any q V.calm hs)
theorem x_ret {value : PySem.Expr} {rest : List Stmt} {Q : Flow → Shared → Prop} {s : Shared}
    (q : Wp w A (eval value env) (fun v s => Q (.ret v) s) E s) : Wp w A (execs (.Return (some value) pos :: rest) env) Q E s := x_cons (by delta thenX Wp at *; exact wpAny_Return_some q)
theorem x_if {test : PySem.Expr} {body orelse rest : List Stmt} {Q : Flow → Shared → Prop} {s : Shared}
    (q : Wp w A (isTrue test env (eval test env)) (fun b s => if b = true then Wp w A (execs body env) (thenX w A rest env Q E) E s else Wp w A (execs orelse env) (thenX w A rest env Q E) E s) E s) :
    Wp w A (execs (.If test body orelse pos :: rest) env) Q E s := x_cons (by delta thenX Wp at *; exact wpAny_If q)
theorem x_setitem {value o i : PySem.Expr} {pos' : Pos} {rest : List Stmt} {Q : Flow → Shared → Prop} {s : Shared}
    (q : Wp w A (eval value env) (fun v s => Wp w A (eval o env) (fun ov s => Wp w A (eval i env) (fun iv s => Wp w A (setItem ov iv v) (fun _ s => Wp w A (execs rest env) Q E s) E s) E s) E s) E s)
    (hs : swapsWith value (some (.Subscript o i pos')) pos.line env = pure false := by rfl) : Wp w A (execs (.Assign [.Subscript o i pos'] value pos :: rest) env) Q E s := x_cons (by delta thenX Wp at *; exact wpAny_Assign_Subscript q hs)
theorem x_setattr {value o : PySem.Expr} {attr : Str} {pos' : Pos} {rest : List Stmt} {Q : Flow → Shared → Prop} {s : Shared}
    (q : Wp w A (eval value env) (fun v s => Wp w A (eval o env) (fun ov s => Wp w A (setAttr ov attr v) (fun _ s => Wp w A (execs rest env) Q E s) E s) E s) E s)
    (hs : swapsWith value (some (.Attribute o attr pos')) pos.line env = pure false := by rfl) : Wp w A (execs (.Assign [.Attribute o attr pos'] value pos :: rest) env) Q E s := x_cons (by delta thenX Wp at *; exact plainObj_wpAny_Assign_Attribute q hs)
theorem if_tt {a b : Prop} (q : a) : if true = true then a else b := q
theorem if_ff {a b : Prop} (q : b) : if false = true then a else b := q
/-- both ways of a test -/
theorem if_two {p : Prop} [Decidable p] {a b : Prop} (q1 : p → a) (q2 : ¬ p → b) : if decide p = true then a else b := by
  by_cases c : p
  · rw [decide_eq_true c, if_pos rfl]; exact q1 c
  · rw [decide_eq_false c, if_neg Bool.false_ne_true]; exact q2 c
end

/-- a call of a def of the text that captures nothing: k arguments, the names of the locals (the parameters first), the names of the globals -/
theorem call_fn {w : World} {A : Around} {R : Result → Shared → Prop} {H h : Heap} {g : Array GenState} {d : Drawn} {t : Nat} {os : OsState} {l : Ledger} {fd : FuncData} {body : List Stmt} {args : Args} {f : Addr} {oc : Value} {od : Option Addr} {osl : Array (Option Value)}
    (names gl : List Str) (vals : List Value) (k : Nat)
    (G : Gd w H) (L : Led H h l) (hA : A.depth < recursionLimit) (ho : (K w.params).lookup f = some ⟨oc, od, .func fd, osl⟩) (hcd : codeIn (K w.params) fd.code fd.qualname = true) (hbody : fd.body = .stmts body) (hbind : BindsTo ⟨h, g, d, t, os⟩ fd args ((names.take k).zip vals))
    (hck : (fd.scope.names.all (fun x => x.2 != .cell) && names.all (fun x => fd.scope.names.lookup x == some .local) && gl.all (fun x => fd.scope.names.lookup x == some .globalImplicit) && (names ++ gl).all (fun x => !(x == ("__debug__" : Str))) && decide (k ≤ names.length) && decide names.Nodup && fd.scope.kind == .function && !fd.scope.isCoroutine && !fd.scope.isGenerator && fd.globals == mainGlobals && fd.builtins == builtinsNs) = true) (hlen : vals.length = k)
    (q : ∀ h₁ t₁ fo env, EnvOk env names gl → env.frame = some env.locals → Led H h₁ ((env.locals, fo) :: l) → Loc fo names (vals.map some) → Wp w (A.deeper env) (execs body env)
        (fun fl s' => R (.ok (.ret (match fl with | .ret v => v | _ => .none))) s') (fun e s' => Wp w (A.deeper env) (leaving env e) (fun _ s'' => R (.error e) s'') (fun e' s'' => R (.error e') s'') s') ⟨h₁, g, d, t₁, os⟩) :
    Cd w A (.call (.ref f) args) R ⟨h, g, d, t, os⟩ := by
  delta Wp at q
  delta Cd
  have X := L.k G
  simp only [Bool.and_eq_true, List.all_eq_true, Bool.not_eq_true', beq_iff_eq, bne_iff_ne, ne_eq, decide_eq_true_eq] at hck
  obtain ⟨⟨⟨⟨⟨⟨⟨⟨⟨⟨c1, c2⟩, c3⟩, c4⟩, c5⟩, c6⟩, c7⟩, c8⟩, c9⟩, c10⟩, c11⟩ := hck
  refine codeAny_call_def (fd := fd) (o := ⟨oc, od, .func fd, osl⟩) hA (X _ _ ho) rfl (G.nolimit.keeps L.base) (codeRec_of X hcd) hbody hbind c1 (fun x hx => c2 x.1 (List.mem_of_mem_take (List.of_mem_zip hx).1)) (fun h₁ hns hk₁ => ?_) c8 c9 c7
  obtain ⟨fo, hfo, n⟩ := of_ns hns
  have hlt := Heap.lt_size hfo
  have L1 : Led H h₁ l := L.grow hk₁ (Nat.le_of_lt hlt)
  refine q h₁ _ fo _ ⟨c7, c10, c11, c2, c3, c6, c4⟩ rfl ⟨L1.base, L1.le, fun p hp => ?_, fun p hp => ?_, ?_⟩ (Loc.of_binds k n c6 hlen c5)
  · rcases List.mem_cons.mp hp with rfl | hp
    · exact hfo
    · exact L1.here p hp
  · rcases List.mem_cons.mp hp with rfl | hp
    · exact L.le
    · exact L1.new p hp
  · rw [List.map_cons, List.nodup_cons]
    refine ⟨fun hm => ?_, L.nodup⟩
    obtain ⟨p, hp, e⟩ := List.mem_map.mp hm
    have := Heap.lt_size (L.here p hp)
    rw [e] at this; exact Nat.lt_irrefl _ this

/-- where nothing raises -/
theorem calm {α : Type} {w : World} {A : Around} {t : Sem α} {Q : α → Shared → Prop} {E : Value → Shared → Prop} {s : Shared} (q : Wp w A t Q (fun _ _ => False) s) : Wp w A t Q E s := by
  delta Wp at *
  exact wpAny_mono q (fun _ _ x => x) fun _ _ x => x.elim
theorem Wp.mono {α : Type} {w : World} {A : Around} {t : Sem α} {Q Q' : α → Shared → Prop} {E E' : Value → Shared → Prop} {s : Shared} (q : Wp w A t Q E s) (k : ∀ a s, Q a s → Q' a s) (e : ∀ a s, E a s → E' a s) : Wp w A t Q' E' s := by
  delta Wp at *
  exact wpAny_mono q k e
section
variable {w : World} {A : Around} {E : Value → Shared → Prop} {s : Shared} {env : Env} {pos : Pos}
theorem e_sub {value slice : PySem.Expr} {Q : Value → Shared → Prop} (q : Wp w A (eval value env) (fun o s => Wp w A (eval slice env) (fun i s => Wp w A (subscriptTail value slice o i) Q E s) E s) E s) :
    Wp w A (eval (.Subscript value slice pos) env) Q E s := by delta Wp at *; exact Subscript_ q
theorem e_bin {a b : PySem.Expr} {op : Operator} {Q : Value → Shared → Prop} (q : Wp w A (eval a env) (fun x s => Wp w A (eval b env) (fun y s => Wp w A (binaryOp op x y) Q E s) E s) E s) :
    Wp w A (eval (.BinOp a op b pos) env) Q E s := by delta Wp at *; exact wpAny_BinOp q
theorem e_cmp {a b : PySem.Expr} {op : CmpOp} {Q : Value → Shared → Prop} (q : Wp w A (eval a env) (fun x s => Wp w A (eval b env) (fun y s => Wp w A (compareOp op x y) Q E s) E s) E s) (hm : behindInMarks op b = false := by rfl) :
    Wp w A (eval (.Compare a [op] [b] pos) env) Q E s := by delta Wp at *; exact wpAny_Compare1 q hm
theorem t_cmp {a b : PySem.Expr} {op : CmpOp} {whole : Sem Value} {Q : Bool → Shared → Prop} (q : Wp w A (eval a env) (fun x s => Wp w A (eval b env) (fun y s => Wp w A (compareOp op x y) (fun c s => Wp w A (truthy c) Q E s) E s) E s) E s) (hm : behindInMarks op b = false := by rfl) :
    Wp w A (isTrue (.Compare a [op] [b] pos) env whole) Q E s := by delta Wp at *; exact wpAny_isTrue_Compare1 q hm
theorem t_val {e : PySem.Expr} {whole : Sem Value} {Q : Bool → Shared → Prop} (q : Wp w A whole (fun v s => Wp w A (truthy v) Q E s) E s) (he : isTrue e env whole = (do let v ← whole; standAt e.pos; holding [v] (truthy v)) := by rfl) :
    Wp w A (isTrue e env whole) Q E s := by delta Wp at *; exact isTrue_plain q he
theorem t_bool {b : Bool} {Q : Bool → Shared → Prop} (q : Q b s) : Wp w A (truthy (.bool b)) Q E s := by delta Wp at *; exact wpAny_truthy_bool q
theorem e_ife {c a b : PySem.Expr} {Q : Value → Shared → Prop} (q : Wp w A (isTrue c env (eval c env)) (fun x s => if x = true then Wp w A (eval a env) Q E s else Wp w A (eval b env) Q E s) E s) :
    Wp w A (eval (.IfExp c a b pos) env) Q E s := by delta Wp at *; exact wpAny_IfExp q
theorem e_call {f : PySem.Expr} {args : List PySem.Expr} {Q : Value → Shared → Prop} (q : Wp w A (eval f env) (fun f s => Wp w A (callWith pos f [] (backTo pos (starEach args env)) []) Q E s) E s)
    (he : eval (.Call f args [] pos) env = (do callWith pos (← eval f env) [] (backTo pos (starEach args env)) (backToKw pos (keywordEach [] env))) := by rfl) :
    Wp w A (eval (.Call f args [] pos) env) Q E s := by delta Wp at *; exact Call_ q he
theorem a_nil {pos : Pos} {Q : List Value → Shared → Prop} (q : Q [] s) : Wp w A (spliced (backTo pos (starEach [] env))) Q E s := by delta Wp at *; exact args_nil q
theorem a_cons {e : PySem.Expr} {rest : List PySem.Expr} {pos : Pos} {Q : List Value → Shared → Prop}
    (q : Wp w A (eval e env) (fun v s => Wp w A (spliced (backTo pos (starEach rest env))) (fun vs s => Q (v :: vs) s) E s) E s)
    (he : starEach (e :: rest) env = (false, eval e env) :: starEach rest env := by rfl) : Wp w A (spliced (backTo pos (starEach (e :: rest) env))) Q E s := by delta Wp at *; exact args_cons q he
/-- a call whose road is known -/
theorem e_code {f : Value} {args : List Value} {kw : List (Str × Value)} {Q : Value → Shared → Prop} (q : Cd w A (.call f ⟨args, kw⟩) (fun r s' => match r with | .ok (.ret v) => Q v s' | .ok _ => False | .error e => E e s') s) : Wp w A (call f args kw) Q E s := by
  delta Wp Cd at *; exact wpAny_call q
end
end Mine
namespace Mine
set_option maxRecDepth 100000
/-- a list object -/
def LstO (o : Obj) (xs : List Value) : Prop := o.cls = .type "list" ∧ ∃ n, o.data = .seq xs.toArray n
theorem LstO.at {H h : Heap} {l : Ledger} {a : Addr} {o : Obj} {xs : List Value} {i : Nat} (c : LstO o xs) (L : Led H h l) (hi : l[i]? = some (a, o)) : h.IsList a xs.toArray := ⟨o, L.get hi, c.1, c.2⟩
theorem LstO.of {h : Heap} {a : Addr} {xs : Array Value} (c : h.IsList a xs) : ∃ o, h.get? a = some o ∧ LstO o xs.toList := by
  obtain ⟨o, ho, hc, n, hd⟩ := c
  exact ⟨o, ho, hc, n, by rw [hd]⟩
section
variable {w : World} {A : Around} {E : Value → Shared → Prop} {H h : Heap} {g : Array GenState} {d : Drawn} {t : Nat} {os : OsState} {env : Env} {l : Ledger} {a : Addr} {o : Obj} {xs : List Value} {k : Int} {tk : Tok} {v : Value} {value slice : PySem.Expr}
/-- an entry of the ledger that was replaced -/
theorem Led.setAt {h' : Heap} {o' : Obj} {i : Nat} (L : Led H h l) (hi : l[i]? = some (a, o)) (hs : Heap.SameBut a h h') (ha : h'.get? a = some o') : Led H h' (l.set i (a, o')) := by
  have hm : (a, o) ∈ l := List.mem_of_getElem? hi
  have hk : ∀ (i j : Nat) (p q : Addr × Obj), l[i]? = some p → l[j]? = some q → p.1 = q.1 → i = j := fun i j p q hi hj e => by
    have hi' : (l.map (·.1))[i]? = some p.1 := by rw [List.getElem?_map, hi]; rfl
    have hj' : (l.map (·.1))[j]? = some p.1 := by rw [List.getElem?_map, hj, e]; rfl
    obtain ⟨hlt, _⟩ := List.getElem?_eq_some_iff.mp hi'
    exact (List.getElem?_inj hlt L.nodup).mp (hi'.trans hj'.symm)
  have hp : ∀ p ∈ l.set i (a, o'), p = (a, o') ∨ (p ∈ l ∧ p.1 ≠ a) := fun p hp => by
    obtain ⟨j, hj, e⟩ := List.mem_iff_getElem.mp hp
    have e' : (l.set i (a, o'))[j]? = some p := by rw [List.getElem?_eq_getElem hj, e]
    rw [List.getElem?_set] at e'
    by_cases q : i = j
    · rw [if_pos q] at e'
      split at e'
      · cases e'; exact .inl rfl
      · cases e'
    · rw [if_neg q] at e'
      exact .inr ⟨List.mem_of_getElem? e', fun r => q (hk i j (a, o) p hi e' r.symm)⟩
  refine ⟨fun b x e => ?_, hs.1 ▸ L.le, fun p q => ?_, fun p q => ?_, ?_⟩
  · refine (hs.2 b fun q => ?_).trans (L.base b x e)
    have := L.fresh hm; rw [q] at e; rw [e] at this; cases this
  · rcases hp p q with rfl | ⟨q, r⟩
    · exact ha
    · exact (hs.2 p.1 r).trans (L.here p q)
  · rcases hp p q with rfl | ⟨q, r⟩
    · exact L.new (a, o) hm
    · exact L.new p q
  · have : (l.set i (a, o')).map (·.1) = l.map (·.1) := by
      refine List.ext_getElem? fun j => ?_
      rw [List.getElem?_map, List.getElem?_map, List.getElem?_set]
      by_cases q : i = j
      · subst q
        obtain ⟨hlt, _⟩ := List.getElem?_eq_some_iff.mp hi
        rw [if_pos rfl, if_pos hlt, hi]; rfl
      · rw [if_neg q]
    rw [this]; exact L.nodup
/-- xs[k] -/
theorem l_item {Q : Value → Shared → Prop} (i : Nat) (L : Led H h l) (hi : l[i]? = some (a, o)) (c : LstO o xs) (h0 : 0 ≤ k) (hfit : k < 2 ^ 63) (hx : xs[k.toNat]? = some v) (q : Q v ⟨h, g, d, t, os⟩)
    (hs : subscripted slice false (.ref a) (.int k tk) = operate [.ref a, .int k tk] (getItem (.ref a) (.int k tk)) := by with_unfolding_all rfl) :
    Wp w A (subscriptTail value slice (.ref a) (.int k tk)) Q E ⟨h, g, d, t, os⟩ := by
  delta Wp at *; exact
  have hl := c.at L hi
  tail_any hl.typeIs slot_list_getitem.lookup (wpAny_getItem_list hl h0 hfit (by simpa using hx) q) hs
/-- xs[k] = v -/
theorem l_setitem {Q : Unit → Shared → Prop} (i : Nat) (L : Led H h l) (hi : l[i]? = some (a, o)) (c : LstO o xs) (h0 : 0 ≤ k) (hfit : k < 2 ^ 63) (hx : k < xs.length)
    (q : ∀ h' t' o', Led H h' (l.set i (a, o')) → LstO o' (xs.set k.toNat v) → Q () ⟨h', g, d, t', os⟩) : Wp w A (setItem (.ref a) (.int k tk) v) Q E ⟨h, g, d, t, os⟩ := by
  delta Wp at *
  refine wpAny_setItem_list (c.at L hi) h0 hfit (by simpa using hx) fun h' hl hs => ?_
  obtain ⟨o', ho, c'⟩ := LstO.of hl
  exact q h' _ o' (L.setAt hi hs ho) (by simpa using c')
theorem l_len {Q : Value → Shared → Prop} (i : Nat) (L : Led H h l) (hi : l[i]? = some (a, o)) (c : LstO o xs) (hfit : (xs.length : Int) < 2 ^ 63) (q : ∀ tk t', Q (.int xs.length tk) ⟨h, g, d, t', os⟩) :
    Wp w A (call (.builtin "len") [.ref a]) Q E ⟨h, g, d, t, os⟩ := by
  delta Wp at *
  refine len_list (c.at L hi) (by simpa using hfit) ?_
  have := q (t + 1) (t + 1 + 1)
  simpa using this
theorem i_add {a b : Int} {u v : Tok} {Q : Value → Shared → Prop} (q : ∀ tk t', Q (.int (a + b) tk) ⟨h, g, d, t', os⟩) : Wp w A (binaryOp .Add (.int a u) (.int b v)) Q E ⟨h, g, d, t, os⟩ := by delta Wp at *; exact PyProof.Rows.add_int (q _ _)
theorem i_sub {a b : Int} {u v : Tok} {Q : Value → Shared → Prop} (q : ∀ tk t', Q (.int (a - b) tk) ⟨h, g, d, t', os⟩) : Wp w A (binaryOp .Sub (.int a u) (.int b v)) Q E ⟨h, g, d, t, os⟩ := by delta Wp at *; exact PyProof.Rows.sub_int (q _ _)
theorem i_mul {a b : Int} {u v : Tok} {Q : Value → Shared → Prop} (hm : IntMulOk a b) (q : ∀ tk t', Q (.int (a * b) tk) ⟨h, g, d, t', os⟩) : Wp w A (binaryOp .Mult (.int a u) (.int b v)) Q E ⟨h, g, d, t, os⟩ := by delta Wp at *; exact PyProof.Rows.mul_int (q _ _) hm
theorem i_mod {a b : Int} {u v : Tok} {Q : Value → Shared → Prop} (hb : b ≠ 0) (q : ∀ tk t', Q (.int (a.fmod b) tk) ⟨h, g, d, t', os⟩) : Wp w A (binaryOp .Mod (.int a u) (.int b v)) Q E ⟨h, g, d, t, os⟩ := by delta Wp at *; exact PyProof.Rows.mod_int' hb (q _ _)
theorem i_fdiv {a b : Int} {u v : Tok} {Q : Value → Shared → Prop} (hb : b ≠ 0) (hp : Builtin.divisionGoesByPylong a b = false) (q : ∀ tk t', Q (.int (a.fdiv b) tk) ⟨h, g, d, t', os⟩) : Wp w A (binaryOp .FloorDiv (.int a u) (.int b v)) Q E ⟨h, g, d, t, os⟩ := by delta Wp at *; exact PyProof.Rows.floordiv_int hb (q _ _) (.inl hp)
theorem i_lt {a b : Int} {u v : Tok} {Q : Value → Shared → Prop} (q : Q (.bool (decide (a < b))) ⟨h, g, d, t, os⟩) : Wp w A (compareOp .Lt (.int a u) (.int b v)) Q E ⟨h, g, d, t, os⟩ := by delta Wp at *; exact PyProof.Rows.lt_int q
/-- a call of a built-in or a type, the arguments by place -/
theorem cw_b {f : Value} {first : List Value} {e : PySem.Expr} {rest : List PySem.Expr} {pos : Pos} {s : Shared} {Q : Value → Shared → Prop} (hf : keeperOf f = pure .machine)
    (q : Wp w A (spliced (backTo pos (starEach (e :: rest) env))) (fun vs s₁ => Wp w A (call f (first ++ vs)) Q E s₁) E s)
    (he : starEach (e :: rest) env = (false, eval e env) :: starEach rest env := by rfl) (hplain : (backTo pos (starEach rest env)).any (·.1) = false := by rfl) :
    Wp w A (callWith pos f first (backTo pos (starEach (e :: rest) env)) []) Q E s := by
  delta Wp at *
  rw [he] at q ⊢
  exact callWith_of (P := fun _ => True) (by show ((false || (backTo pos (starEach rest env)).any (·.1)) || false) = false; rw [hplain]; rfl)
    (fun h _ => ⟨.machine, .inr (.inl rfl), by rw [hf]; exact Looks.of_pure rfl⟩) (Calls.evalArgs_plain (wpAny_mono q (fun _ _ z => ⟨trivial, z⟩) fun _ _ z => z))
end
end Mine
namespace Mine
set_option maxRecDepth 100000
theorem g_Entry (P : Params) : nsIn (K P) mainGlobals (PySem.Str.ofString "Entry") = some (some (.ref 45)) := by kernel_rfl!
theorem g_free_chain (P : Params) : nsIn (K P) mainGlobals (PySem.Str.ofString "free_chain") = some (some (.ref 54)) := by kernel_rfl!
theorem g_DraftFault (P : Params) : nsIn (K P) mainGlobals (PySem.Str.ofString "DraftFault") = some (some (.ref 92)) := by kernel_rfl!
theorem g_Decimal (P : Params) : nsIn (K P) mainGlobals (PySem.Str.ofString "Decimal") = some (some (.ref 188)) := by kernel_rfl!
theorem g_Name (P : Params) : nsIn (K P) mainGlobals (PySem.Str.ofString "Name") = some (some (.ref 216)) := by kernel_rfl!
theorem g_String (P : Params) : nsIn (K P) mainGlobals (PySem.Str.ofString "String") = some (some (.ref 238)) := by kernel_rfl!
theorem g_Stream (P : Params) : nsIn (K P) mainGlobals (PySem.Str.ofString "Stream") = some (some (.ref 259)) := by kernel_rfl!
theorem g_Reference (P : Params) : nsIn (K P) mainGlobals (PySem.Str.ofString "Reference") = some (some (.ref 287)) := by kernel_rfl!
theorem g_kind_of (P : Params) : nsIn (K P) mainGlobals (PySem.Str.ofString "kind_of") = some (some (.ref 298)) := by kernel_rfl!
theorem g_told_plain (P : Params) : nsIn (K P) mainGlobals (PySem.Str.ofString "told_plain") = some (some (.ref 305)) := by kernel_rfl!
theorem g_told (P : Params) : nsIn (K P) mainGlobals (PySem.Str.ofString "told") = some (some (.ref 310)) := by kernel_rfl!
theorem g_copied (P : Params) : nsIn (K P) mainGlobals (PySem.Str.ofString "copied") = some (some (.ref 315)) := by kernel_rfl!
theorem g_next_generations (P : Params) : nsIn (K P) mainGlobals (PySem.Str.ofString "next_generations") = some (some (.ref 322)) := by kernel_rfl!
theorem g_generations_used (P : Params) : nsIn (K P) mainGlobals (PySem.Str.ofString "generations_used") = some (some (.ref 329)) := by kernel_rfl!
theorem g_holders_of (P : Params) : nsIn (K P) mainGlobals (PySem.Str.ofString "holders_of") = some (some (.ref 336)) := by kernel_rfl!
theorem g_free_entries (P : Params) : nsIn (K P) mainGlobals (PySem.Str.ofString "free_entries") = some (some (.ref 341)) := by kernel_rfl!
theorem g_Changes (P : Params) : nsIn (K P) mainGlobals (PySem.Str.ofString "Changes") = some (some (.ref 426)) := by kernel_rfl!
theorem g_law_draw (P : Params) : nsIn (K P) mainGlobals (PySem.Str.ofString "_law_draw") = some (some (.ref 437)) := by kernel_rfl!
theorem g_law_entries (P : Params) : nsIn (K P) mainGlobals (PySem.Str.ofString "_law_entries") = some (some (.ref 444)) := by kernel_rfl!
theorem g_law_book (P : Params) : nsIn (K P) mainGlobals (PySem.Str.ofString "_law_book") = some (some (.ref 451)) := by kernel_rfl!
theorem g_law_lay (P : Params) : nsIn (K P) mainGlobals (PySem.Str.ofString "_law_lay") = some (some (.ref 456)) := by kernel_rfl!
theorem g_law_act (P : Params) : nsIn (K P) mainGlobals (PySem.Str.ofString "_law_act") = some (some (.ref 461)) := by kernel_rfl!
theorem g_law_done (P : Params) : nsIn (K P) mainGlobals (PySem.Str.ofString "_law_done") = some (some (.ref 468)) := by kernel_rfl!
theorem g_law_told_reference (P : Params) : nsIn (K P) mainGlobals (PySem.Str.ofString "_law_told_reference") = some (some (.ref 475)) := by kernel_rfl!
theorem g_law_chain_right (P : Params) : nsIn (K P) mainGlobals (PySem.Str.ofString "_law_chain_right") = some (some (.ref 480)) := by kernel_rfl!
theorem g_MOST (P : Params) : nsIn (K P) mainGlobals (PySem.Str.ofString "MOST_GENERATION") = some (some (.int 65535 196)) := by kernel_rfl!
theorem b_len (P : Params) : nsIn (K P) mainGlobals (PySem.Str.ofString "len") = some none ∧ bootBuiltins (PySem.Str.ofString "len") = some (.builtin "len") ∧ PySem.Str.ofString "len" ≠ PySem.Str.ofString "__name__" := ⟨by kernel_rfl!, PyProof.Rows.Boot.«len», by decide +kernel⟩
theorem b_range (P : Params) : nsIn (K P) mainGlobals (PySem.Str.ofString "range") = some none ∧ bootBuiltins (PySem.Str.ofString "range") = some (.type "range") ∧ PySem.Str.ofString "range" ≠ PySem.Str.ofString "__name__" := ⟨by kernel_rfl!, PyProof.Rows.Boot.«range», by decide +kernel⟩
theorem b_sorted (P : Params) : nsIn (K P) mainGlobals (PySem.Str.ofString "sorted") = some none ∧ bootBuiltins (PySem.Str.ofString "sorted") = some (.builtin "sorted") ∧ PySem.Str.ofString "sorted" ≠ PySem.Str.ofString "__name__" := ⟨by kernel_rfl!, PyProof.Rows.Boot.«sorted», by decide +kernel⟩
theorem b_dict (P : Params) : nsIn (K P) mainGlobals (PySem.Str.ofString "dict") = some none ∧ bootBuiltins (PySem.Str.ofString "dict") = some (.type "dict") ∧ PySem.Str.ofString "dict" ≠ PySem.Str.ofString "__name__" := ⟨by kernel_rfl!, PyProof.Rows.Boot.«dict», by decide +kernel⟩
theorem b_max (P : Params) : nsIn (K P) mainGlobals (PySem.Str.ofString "max") = some none ∧ bootBuiltins (PySem.Str.ofString "max") = some (.builtin "max") ∧ PySem.Str.ofString "max" ≠ PySem.Str.ofString "__name__" := ⟨by kernel_rfl!, PyProof.Rows.Boot.«max», by decide +kernel⟩
theorem b_str (P : Params) : nsIn (K P) mainGlobals (PySem.Str.ofString "str") = some none ∧ bootBuiltins (PySem.Str.ofString "str") = some (.type "str") ∧ PySem.Str.ofString "str" ≠ PySem.Str.ofString "__name__" := ⟨by kernel_rfl!, PyProof.Rows.Boot.«str», by decide +kernel⟩
theorem b_isinstance (P : Params) : nsIn (K P) mainGlobals (PySem.Str.ofString "isinstance") = some none ∧ bootBuiltins (PySem.Str.ofString "isinstance") = some (.builtin "isinstance") ∧ PySem.Str.ofString "isinstance" ≠ PySem.Str.ofString "__name__" := ⟨by kernel_rfl!, PyProof.Rows.Boot.«isinstance», by decide +kernel⟩
theorem b_bool (P : Params) : nsIn (K P) mainGlobals (PySem.Str.ofString "bool") = some none ∧ bootBuiltins (PySem.Str.ofString "bool") = some (.type "bool") ∧ PySem.Str.ofString "bool" ≠ PySem.Str.ofString "__name__" := ⟨by kernel_rfl!, PyProof.Rows.Boot.«bool», by decide +kernel⟩
theorem b_int (P : Params) : nsIn (K P) mainGlobals (PySem.Str.ofString "int") = some none ∧ bootBuiltins (PySem.Str.ofString "int") = some (.type "int") ∧ PySem.Str.ofString "int" ≠ PySem.Str.ofString "__name__" := ⟨by kernel_rfl!, PyProof.Rows.Boot.«int», by decide +kernel⟩
theorem b_list (P : Params) : nsIn (K P) mainGlobals (PySem.Str.ofString "list") = some none ∧ bootBuiltins (PySem.Str.ofString "list") = some (.type "list") ∧ PySem.Str.ofString "list" ≠ PySem.Str.ofString "__name__" := ⟨by kernel_rfl!, PyProof.Rows.Boot.«list», by decide +kernel⟩
theorem b_tuple (P : Params) : nsIn (K P) mainGlobals (PySem.Str.ofString "tuple") = some none ∧ bootBuiltins (PySem.Str.ofString "tuple") = some (.type "tuple") ∧ PySem.Str.ofString "tuple" ≠ PySem.Str.ofString "__name__" := ⟨by kernel_rfl!, PyProof.Rows.Boot.«tuple», by decide +kernel⟩
theorem b_enumerate (P : Params) : nsIn (K P) mainGlobals (PySem.Str.ofString "enumerate") = some none ∧ bootBuiltins (PySem.Str.ofString "enumerate") = some (.type "enumerate") ∧ PySem.Str.ofString "enumerate" ≠ PySem.Str.ofString "__name__" := ⟨by kernel_rfl!, PyProof.Rows.Boot.«enumerate», by decide +kernel⟩
theorem b_sum (P : Params) : nsIn (K P) mainGlobals (PySem.Str.ofString "sum") = some none ∧ bootBuiltins (PySem.Str.ofString "sum") = some (.builtin "sum") ∧ PySem.Str.ofString "sum" ≠ PySem.Str.ofString "__name__" := ⟨by kernel_rfl!, PyProof.Rows.Boot.«sum», by decide +kernel⟩
theorem b_Exception (P : Params) : nsIn (K P) mainGlobals (PySem.Str.ofString "Exception") = some none ∧ bootBuiltins (PySem.Str.ofString "Exception") = some (.type "Exception") ∧ PySem.Str.ofString "Exception" ≠ PySem.Str.ofString "__name__" := ⟨by kernel_rfl!, PyProof.Rows.Boot.«Exception», by decide +kernel⟩
end Mine
namespace Mine
set_option maxRecDepth 100000
/-- the pen: a list of the cells, a place, a rest -/
def PenO (op oc : Obj) (c : Addr) (cells : List Int) (k : Nat) (sm : Int) : Prop := ∃ vs tk ts, LstO oc vs ∧ IntsAre vs cells ∧ LstO op [.ref c, .int k tk, .int sm ts]
def drawV (cells : List Int) (sm : Int) (k : Nat) (many : Int) : Int := if k < cells.length then (cells.getD k 0).fmod many else (sm + 7 * k + ((k : Int) * k).fdiv 3).fmod many

theorem ints_at {vs : List Value} {ns : List Int} (c : IntsAre vs ns) : ∀ k, k < ns.length → ∃ t, vs[k]? = some (.int (ns.getD k 0) t) := by
  induction c with
  | nil => intro k hk; cases hk
  | cons n t _ ih =>
    intro k hk
    cases k with
    | zero => exact ⟨t, rfl⟩
    | succ k => obtain ⟨t, e⟩ := ih k (Nat.lt_of_succ_lt_succ hk); exact ⟨t, by simpa using e⟩
theorem pylong_small {a b : Int} (h : (if b == 0 then 0 else b.natAbs.log2 / 30 + 1) ≤ 300) : Builtin.divisionGoesByPylong a b = false := by
  unfold Builtin.divisionGoesByPylong
  simp only [Bool.and_eq_false_imp, decide_eq_true_eq, decide_eq_false_iff_not]
  intro q; omega
theorem bits_small {a : Int} (h : a.natAbs < 2 ^ 64) : Builtin.Int.intBits a ≤ 64 := by
  exact intBits_le_64 (by omega) (by omega)
end Mine
namespace Mine
set_option maxRecDepth 100000
abbrev iK (w : World) := PySem.intKind pw w
abbrev sK (w : World) := PySem.strKind pw w
section
variable {w : World} {A : Around} {E : Value → Shared → Prop} {H h : Heap} {g : Array GenState} {d : Drawn} {t : Nat} {os : OsState} {env : Env} {l : Ledger} {a : Addr} {o : Obj} {K : Type} [DecidableEq K] {knd : KeyKind pw w K} {kvs : List (K × Value)} {k : K} {key v dflt : Value}
theorem Led.dict (L : Led H h l) {i : Nat} (hi : l[i]? = some (a, o)) (c : o.IsDictOf knd kvs) : h.DictOf knd a kvs := Heap.dictOf_iff.mpr ⟨o, L.get hi, c⟩
theorem Led.notMod (G : Gd w H) (L : Led H h l) {i : Nat} (hi : l[i]? = some (a, o)) : (a == sysModules) = false := by
  have h1 := modules_low G.nolimit
  have h2 := L.new (a, o) (List.mem_of_getElem? hi)
  rw [beq_eq_false_iff_ne]
  intro e
  have h3 : H.objs.size ≤ a := h2
  rw [e] at h3
  exact absurd h1 (Nat.not_lt.mpr h3)
theorem d_in {Q : Value → Shared → Prop} (i : Nat) (G : Gd w H) (L : Led H h l) (hi : l[i]? = some (a, o)) (c : o.IsDictOf knd kvs) (hk : knd.is k key = true) (q : ∀ t', Q (.bool (valueAt kvs k).isSome) ⟨h, g, d, t', os⟩) :
    Wp w A (compareOp .In key (.ref a)) Q E ⟨h, g, d, t, os⟩ := by
  delta Wp at *; exact wpAny_in_of hk (L.notMod G hi) (L.dict hi c).mapOf (q _)
theorem d_notin {Q : Value → Shared → Prop} (i : Nat) (G : Gd w H) (L : Led H h l) (hi : l[i]? = some (a, o)) (c : o.IsDictOf knd kvs) (hk : knd.is k key = true) (q : ∀ t', Q (.bool (!(valueAt kvs k).isSome)) ⟨h, g, d, t', os⟩) :
    Wp w A (compareOp .NotIn key (.ref a)) Q E ⟨h, g, d, t, os⟩ := by
  delta Wp at *; exact wpAny_notIn_of hk (L.notMod G hi) (L.dict hi c).mapOf (q _)
theorem d_item {value slice : PySem.Expr} {Q : Value → Shared → Prop} (i : Nat) (L : Led H h l) (hi : l[i]? = some (a, o)) (c : o.IsDictOf knd kvs) (hk : knd.is k key = true) (hv : valueAt kvs k = some v) (q : ∀ t', Q v ⟨h, g, d, t', os⟩)
    (hs : subscripted slice false (.ref a) key = operate [.ref a, key] (getItem (.ref a) key) := by with_unfolding_all rfl) :
    Wp w A (subscriptTail value slice (.ref a) key) Q E ⟨h, g, d, t, os⟩ := by
  delta Wp at *
  have hD := L.dict hi c
  exact tail_any (s := ⟨h, g, d, t, os⟩) hD.typeIs slot_dict_getitem.lookup (wpAny_getItem_of hk hD.mapOf hv (q _)) hs
theorem d_setitem {Q : Unit → Shared → Prop} (i : Nat) (L : Led H h l) (hi : l[i]? = some (a, o)) (c : o.IsDictOf knd kvs) (hk : knd.is k key = true) (hsz : kvs.length ≤ 100000)
    (q : ∀ h' t' o', Led H h' (l.set i (a, o')) → o'.IsDictOf knd (stored kvs k v) → Q () ⟨h', g, d, t', os⟩) : Wp w A (setItem (.ref a) key v) Q E ⟨h, g, d, t, os⟩ := by
  delta Wp at *
  refine wpAny_setItem_pairs (hsz := by rw [sizeLine_eq]; omega) hk (L.dict hi c) fun h' hd hs => ?_
  obtain ⟨o', ho, hc⟩ := Heap.dictOf_iff.mp hd
  exact q h' _ o' (L.setAt hi hs ho) hc
theorem d_get2 {Q : Value → Shared → Prop} (i : Nat) (G : Gd w H) (L : Led H h l) (hi : l[i]? = some (a, o)) (c : o.IsDictOf knd kvs) (hk : knd.is k key = true) (q : ∀ t', Q ((valueAt kvs k).getD dflt) ⟨h, g, d, t', os⟩) :
    Wp w A (call (.builtin "dict.get") [.ref a, key, dflt]) Q E ⟨h, g, d, t, os⟩ := by
  delta Wp at *
  have hD := L.dict hi c
  exact call_meetsIn (s := ⟨h, g, d, t, os⟩) PySem.F.slot_dict_get hD.typeIs PySem.F.entry_dict_get (PySem.F.args_dict_get_3 _ _ _) (meets_dict_get_default knd a hk (L.notMod G hi) dflt) ⟨_, hD.mapOf, q _⟩
theorem d_pop {Q : Value → Shared → Prop} (i : Nat) (L : Led H h l) (hi : l[i]? = some (a, o)) (c : o.IsDictOf knd kvs) (hk : knd.is k key = true) (hp : (keyPart key).isSome = true) (hsz : kvs.length ≤ 100000) (hv : valueAt kvs k = some v)
    (q : ∀ h' t' o', Led H h' (l.set i (a, o')) → o'.IsDictOf knd (without kvs k) → Q v ⟨h', g, d, t', os⟩) :
    Wp w A (call (.builtin "dict.pop") [.ref a, key]) Q E ⟨h, g, d, t, os⟩ := by
  delta Wp at *
  have hD := L.dict hi c
  refine call_meetsIn (s := ⟨h, g, d, t, os⟩) PySem.F.slot_dict_pop hD.typeIs PySem.F.entry_dict_pop (PySem.F.args_dict_pop_2 _ _) (meets_dict_pop_there knd a hk [] (.inl rfl) hp) ⟨kvs, v, hD, by rw [sizeLine_eq]; omega, hv, fun h' hd hs => ?_⟩
  obtain ⟨o', ho, hc⟩ := Heap.dictOf_iff.mp hd
  exact q h' _ o' (L.setAt hi hs ho) hc
/-- d.pop(k, default): there or not -/
theorem d_pop2 {Q : Value → Shared → Prop} (i : Nat) (G : Gd w H) (L : Led H h l) (hi : l[i]? = some (a, o)) (c : o.IsDictOf knd kvs) (hk : knd.is k key = true) (hp : (keyPart key).isSome = true) (hsz : kvs.length ≤ 100000)
    (q : ∀ h' t' o', Led H h' (l.set i (a, o')) → o'.IsDictOf knd (without kvs k) → Q ((valueAt kvs k).getD dflt) ⟨h', g, d, t', os⟩) :
    Wp w A (call (.builtin "dict.pop") [.ref a, key, dflt]) Q E ⟨h, g, d, t, os⟩ := by
  delta Wp at *
  have hD := L.dict hi c
  cases hv : valueAt kvs k with
  | some v =>
    refine call_meetsIn (s := ⟨h, g, d, t, os⟩) PySem.F.slot_dict_pop hD.typeIs PySem.F.entry_dict_pop (PySem.F.args_dict_pop_3 _ _ _) (meets_dict_pop_there knd a hk [dflt] (.inr ⟨dflt, rfl⟩) hp) ⟨kvs, v, hD, by rw [sizeLine_eq]; omega, hv, fun h' hd hs => ?_⟩
    obtain ⟨o', ho, hc⟩ := Heap.dictOf_iff.mp hd
    have := q h' (t + 1) o' (L.setAt hi hs ho) hc
    rw [hv] at this; exact this
  | none =>
    refine call_meetsIn (s := ⟨h, g, d, t, os⟩) PySem.F.slot_dict_pop hD.typeIs PySem.F.entry_dict_pop (PySem.F.args_dict_pop_3 _ _ _) (meets_dict_pop_default knd a hk (L.notMod G hi) hp dflt) ⟨kvs, hD, hv, ?_⟩
    have hn : k ∉ kvs.map (·.1) := fun hm => by
      obtain ⟨p, hp, e⟩ := List.mem_map.mp hm
      have hx : kvs.find? (fun kv => kv.1 = k) = none := by
        unfold valueAt at hv
        simpa using hv
      have := List.find?_eq_none.mp hx p hp
      simp [e] at this
    have hset : l.set i (a, o) = l := by
      refine List.ext_getElem? fun j => ?_
      rw [List.getElem?_set]
      by_cases e : i = j
      · subst e
        obtain ⟨hlt, _⟩ := List.getElem?_eq_some_iff.mp hi
        rw [if_pos rfl, if_pos hlt, hi]
      · rw [if_neg e]
    have := q h (t + 1) o (by rw [hset]; exact L) (by rw [without_of_not_mem kvs k hn]; exact c)
    rw [hv] at this; exact this
theorem m_dict {name : Str} {id : String} {pl : Sem Bool} {Q : Value × List Value → Shared → Prop} (i : Nat) (L : Led H h l) (hi : l[i]? = some (a, o)) (c : o.IsDictOf knd kvs) (hid : (name = "get" ∧ id = "dict.get") ∨ (name = "pop" ∧ id = "dict.pop"))
    (q : Q (.builtin id, [.ref a]) ⟨h, g, d, t, os⟩) : Wp w A (getMethod (.ref a) name pl) Q E ⟨h, g, d, t, os⟩ := by
  delta Wp at *
  have hD := L.dict hi c
  rcases hid with ⟨rfl, rfl⟩ | ⟨rfl, rfl⟩
  · exact getMethod_builtin (s := ⟨h, g, d, t, os⟩) hD.typeIs PySem.F.plainAttrs_dict PySem.F.slot_dict_get PySem.F.type_dict_get hD.mapOf.noDict q
  · exact getMethod_builtin (s := ⟨h, g, d, t, os⟩) hD.typeIs PySem.F.plainAttrs_dict PySem.F.slot_dict_pop PySem.F.type_dict_pop hD.mapOf.noDict q
/-- {} -/
theorem e_dict0 {pos : Pos} {Q : Value → Shared → Prop} (L : Led H h l) (q : ∀ h' o', Led H h' ((h.objs.size, o') :: l) → o'.IsDictOf knd [] → Q (.ref h.objs.size) ⟨h', g, d, t, os⟩) :
    Wp w A (eval (.Dict [] [] pos) env) Q E ⟨h, g, d, t, os⟩ := by
  delta Wp at *
  refine wpAny_Dict_empty (q _ { cls := .type "dict", data := .dict #[] } (L.push _) ?_)
  obtain ⟨o', ho, hc⟩ := Heap.dictOf_iff.mp (Heap.DictOf.new (knd := knd) h)
  rw [Heap.get?_push_size _ rfl] at ho
  cases ho; exact hc
/-- dict(d) -/
theorem d_copy {Q : Value → Shared → Prop} (i : Nat) (G : Gd w H) (L : Led H h l) (hi : l[i]? = some (a, o)) (c : o.IsDictOf knd kvs) (hsz : kvs.length ≤ 100000)
    (q : ∀ h' o', Led H h' ((h.objs.size, o') :: l) → o'.IsDictOf knd kvs → Q (.ref h.objs.size) ⟨h', g, d, t, os⟩) :
    Wp w A (call (.type "dict") [.ref a]) Q E ⟨h, g, d, t, os⟩ := by
  delta Wp at *
  refine kt_call_dict (L.notMod G hi) (L.dict hi c) (by rw [sizeLine_eq]; omega) fun h' hd hs => ?_
  obtain ⟨o', ho, hc⟩ := Heap.dictOf_iff.mp hd
  exact q h' o' ((L.push { cls := .type "dict", data := .dict #[] }).set0 hs ho) hc
end
end Mine
namespace Mine
set_option maxRecDepth 100000
noncomputable abbrev KP (w : World) : Frag := K w.params
def ownAt (K : Frag) (C : Addr) (name : Str) : Bool := plainGet K C name && hasDictIn K C && (match findIn K (.ref C) name with | some attr => noGet K attr | none => false)
def methAt (K : Frag) (C : Addr) (name : Str) (f : Addr) : Bool := plainGet K C name && findIn K (.ref C) name == some (some (.ref f)) && isFn K (.ref f) && keepIn K (.ref f)
def setOk (K : Frag) (C : Addr) (name : Str) : Bool := findIn K (.ref C) "__setattr__" == some (some (.builtin "object.__setattr__")) && plainOver K C && takerIn K C name == some none && hasDictIn K C
def makeOk (K : Frag) (C fI : Addr) : Bool := makesIn K C && findIn K (.ref C) "__init__" == some (some (.ref fI)) && isFn K (.ref fI)
section
variable {w : World} {A : Around} {E : Value → Shared → Prop} {H h : Heap} {g : Array GenState} {d : Drawn} {t : Nat} {os : OsState} {env : Env} {l : Ledger} {fo : Obj} {names gl : List Str} {vals : List (Option Value)} {x dx C : Addr} {es : List DictEntry} {n : Nat} {name : Str} {v : Value} {pos : Pos}
theorem Led.inst (L : Led H h l) {i j : Nat} (hi : l[i]? = some (x, instObj C dx)) (hj : l[j]? = some (dx, dictOf es n)) : InstAt h x (instObj C dx) C (some (dictOf es n)) := ⟨L.get hi, rfl, rfl, L.get hj⟩
theorem e_attr {value : PySem.Expr} {attr : Str} {s : Shared} {Q : Value → Shared → Prop} (q : Wp w A (eval value env) (fun o s => Wp w A (getAttr o attr true) Q E s) E s)
    (he : eval (.Attribute value attr pos) env = (do let o ← eval value env; standAt pos.atName; let r ← holding [o] (getAttr o attr true); letTemporaryGo value o r; pure r) := by rfl) :
    Wp w A (eval (.Attribute value attr pos) env) Q E s := by delta Wp at *; exact Attribute_any_ q he
/-- x.name, held by the object -/
theorem o_get {expr : Bool} {Q : Value → Shared → Prop} (i j : Nat) (G : Gd w H) (L : Led H h l) (hi : l[i]? = some (x, instObj C dx)) (hj : l[j]? = some (dx, dictOf es n)) (hg : ownAt (KP w) C name = true) (hl : getL name es = some (some v)) (hv : handedIn v = true)
    (q : ∀ t', Q v ⟨h, g, d, t', os⟩) : Wp w A (getAttr (.ref x) name expr) Q E ⟨h, g, d, t, os⟩ := by
  delta Wp at *
  unfold ownAt at hg
  obtain ⟨hg, h3⟩ := Bool.and_eq_true_iff.mp hg
  obtain ⟨h1, h2⟩ := Bool.and_eq_true_iff.mp hg
  cases ha : findIn (KP w) (.ref C) name with
  | none => rw [ha] at h3; cases h3
  | some attr =>
    rw [ha] at h3
    exact get_value (s := ⟨h, g, d, t, os⟩) (L.k G) (L.inst hi hj) (plainGet_of h1).1 (findObj_own h2 ha h3 (by rw [lookIn_dict]; exact hl)) hv (q _)
theorem e_mcall {o : PySem.Expr} {args : List PySem.Expr} {apos : Pos} {pl : Sem Bool} {s : Shared} {Q : Value → Shared → Prop}
    (q : Wp w A (eval o env) (fun ov s => Wp w A (getMethod ov name pl) (fun fx s => Wp w A (callWith pos fx.1 fx.2 (backTo pos (starEach args env)) []) Q E s) E s) E s)
    (he : eval (.Call (.Attribute o name apos) args [] pos) env = (do let ov ← eval o env; standAt apos.atName; let (f, first) ← holding [ov] (getMethod ov name pl); callWith pos f first (backTo pos (starEach args env)) []) := by rfl) :
    Wp w A (eval (.Call (.Attribute o name apos) args [] pos) env) Q E s := by delta Wp at *; exact MethodCall_ q he
theorem o_meth {f : Addr} {pl : Sem Bool} {Q : Value × List Value → Shared → Prop} (i j : Nat) (G : Gd w H) (L : Led H h l) (hi : l[i]? = some (x, instObj C dx)) (hj : l[j]? = some (dx, dictOf es n)) (hm : methAt (KP w) C name f = true) (hl : getL name es = some none)
    (q : Q (.ref f, [.ref x]) ⟨h, g, d, t, os⟩) : Wp w A (getMethod (.ref x) name pl) Q E ⟨h, g, d, t, os⟩ := by
  delta Wp at *
  unfold methAt at hm
  obtain ⟨hm, h4⟩ := Bool.and_eq_true_iff.mp hm
  obtain ⟨hm, h3⟩ := Bool.and_eq_true_iff.mp hm
  obtain ⟨h1, h2⟩ := Bool.and_eq_true_iff.mp hm
  exact method_fn (s := ⟨h, g, d, t, os⟩) (L.k G) (L.inst hi hj) (plainGet_of h1).1 (plainGet_of h1).2 (beq_iff_eq.mp h2) (beq_iff_eq.mp h3) (by show (lookIn name (dictOf es n)).map _ = _; rw [lookIn_dict, hl]; rfl) q
/-- a call of a def of the text, arguments by place -/
theorem cw_f {f : Addr} {first : List Value} {e : PySem.Expr} {rest : List PySem.Expr} {s : Shared} {Q : Value → Shared → Prop} (G : Gd w H) (hk : keepIn (KP w) (.ref f) = true)
    (q : Wp w A (spliced (backTo pos (starEach (e :: rest) env))) (fun vs s => (∃ l, Led H s.heap l) ∧ Wp w A (call (.ref f) (first ++ vs)) Q E s) E s)
    (he : starEach (e :: rest) env = (false, eval e env) :: starEach rest env := by rfl) (hplain : (backTo pos (starEach rest env)).any (·.1) = false := by rfl) :
    Wp w A (callWith pos (.ref f) first (backTo pos (starEach (e :: rest) env)) []) Q E s := by
  delta Wp at *
  exact callWith_K G.K hk (wpAny_mono q (fun vs s z => ⟨z.1.choose_spec.k G, z.2⟩) fun _ _ z => z) he hplain
theorem cw_f0 {f : Addr} {first : List Value} {Q : Value → Shared → Prop} (G : Gd w H) (L : Led H h l) (hk : keepIn (KP w) (.ref f) = true)
    (q : Wp w A (call (.ref f) (first ++ [])) Q E ⟨h, g, d, t, os⟩) : Wp w A (callWith pos (.ref f) first (backTo pos (starEach [] env)) []) Q E ⟨h, g, d, t, os⟩ := by
  delta Wp at *
  exact callWith_K0 (s := ⟨h, g, d, t, os⟩) (L.k G) hk q
/-- C(..): the object is made, __init__ is called -/
theorem c_cls {fI : Addr} {ps : List Value} {kw : List (Str × Value)} {p : Addr × Obj} {Q : Value → Shared → Prop} (G : Gd w H) (L : Led H h (p :: l)) (hm : makeOk (KP w) C fI = true)
    (q : ∀ x dx h', Led H h' (p :: (x, instObj C dx) :: (dx, dictOf [] 0) :: l) →
      Cd w (A.under (.builtin "type.__call__" ⟨.ref C :: ps, kw⟩)) (.call (.ref fI) ⟨.ref x :: ps, kw⟩) (InitBack x fun r s' => match r with | .ok (.ret v) => Q v s' | .ok _ => False | .error e => E e s') ⟨h', g, d, t, os⟩) :
    Wp w A (call (.ref C) ps kw) Q E ⟨h, g, d, t, os⟩ := by
  delta Wp Cd at *
  unfold makeOk at hm
  obtain ⟨hm, h3⟩ := Bool.and_eq_true_iff.mp hm
  obtain ⟨h1, h2⟩ := Bool.and_eq_true_iff.mp hm
  have X := L.k G
  refine wpAny_call (make_core (makes_of X h1) (looks_findIn X (beq_iff_eq.mp h2)) (fun self => bind_fn X self (beq_iff_eq.mp h3)) (.inl rfl) ?_)
  have L2 := (L.push emptyDict).push (instObj C h.objs.size)
  have := q (h.objs.size + 1) h.objs.size _ (by
    have := L2.re 3 [2, 0, 1]
    simpa [Mine.re, Heap.size_push] using this)
  exact this
end
end Mine
namespace Mine
set_option maxRecDepth 100000
theorem Led.fr {H h : Heap} {Lf : Addr} {fo : Obj} {l : Ledger} {m : Str → Option Value} (L : Led H h ((Lf, fo) :: l)) (n : NsObj fo m) : Fr H Lf h m :=
  ⟨ns_of (L.here _ (.head _)) n, L.base, L.new (Lf, fo) (.head _)⟩
theorem Led.news {H h : Heap} {Lf : Addr} {fo : Obj} {l : Ledger} (L : Led H h ((Lf, fo) :: l)) : News H Lf h l := fun p hp =>
  ⟨L.here p (.tail _ hp), fun e => (List.nodup_cons.mp L.nodup).1 (List.mem_map.mpr ⟨p, hp, e⟩), L.fresh (.tail _ hp)⟩
/-- back from the library's frame and ledger -/
theorem Led.of {H h' : Heap} {Lf : Addr} {l' : Ledger} {m : Str → Option Value} (F : Fr H Lf h' m) (N : News H Lf h' l') (hn : (l'.map (·.1)).Nodup) (hs : ∀ p ∈ l', H.objs.size ≤ p.1) :
    ∃ fo', Led H h' ((Lf, fo') :: l') ∧ NsObj fo' m := by
  obtain ⟨fo', ho, n⟩ := of_ns F.ns
  refine ⟨fo', ⟨F.keep, Nat.le_of_lt (Nat.lt_of_le_of_lt F.above (Heap.lt_size ho)), fun p hp => ?_, fun p hp => ?_, ?_⟩, n⟩
  · rcases List.mem_cons.mp hp with rfl | hp
    · exact ho
    · exact (N p hp).1
  · rcases List.mem_cons.mp hp with rfl | hp
    · exact F.above
    · exact hs p hp
  · rw [List.map_cons, List.nodup_cons]
    refine ⟨fun hm => ?_, hn⟩
    obtain ⟨p, hp, e⟩ := List.mem_map.mp hm
    exact (N p hp).2.1 e
theorem Room.make {n : Nat} {A : Around} (R : Room (n + 1) A) (C : Addr) (ps : List Value) (kw : List (Str × Value)) : Room n (A.under (.builtin "type.__call__" ⟨.ref C :: ps, kw⟩)) := by
  obtain ⟨a, b, c⟩ := R
  refine ⟨a, ?_, ?_⟩
  · show A.depth + 1 + n < _; omega
  · show A.units + 1 + 4 * n + 100 < _; omega
theorem putL_le {name : Str} {hsh : Int} {key v : Value} : ∀ {es : List DictEntry} {m : Nat}, es.length ≤ m → (putL name hsh key v es).length ≤ m + 1
  | [], _, _ => by simp [putL]
  | e :: r, m, h => by
    simp only [putL]
    split
    · simpa using Nat.le_succ_of_le h
    · cases m with
      | zero => cases h
      | succ m => simpa using putL_le (Nat.le_of_succ_le_succ h)
theorem x_end {w : World} {A : Around} {E : Value → Shared → Prop} {env : Env} {Q : Flow → Shared → Prop} {s : Shared} (q : Q .next s) : Wp w A (execs [] env) Q E s := by delta Wp at *; exact wpAny_execs_nil q
section
variable {w : World} {A : Around} {E : Value → Shared → Prop} {H h : Heap} {g : Array GenState} {d : Drawn} {t : Nat} {os : OsState} {env : Env} {l : Ledger} {fo : Obj} {names gl : List Str} {vals : List (Option Value)} {x dx C : Addr} {es : List DictEntry} {n : Nat} {name : Str} {v : Value} {pos : Pos} {Lf : Addr}
/-- x.name = v, the object's own dict behind it in the ledger -/
theorem o_set {Q : Unit → Shared → Prop} (G : Gd w H) (L : Led H h ((Lf, fo) :: (x, instObj C dx) :: (dx, dictOf es n) :: l)) (N : Loc fo names vals) (hs : setOk (KP w) C name = true) (hl : (getL name es).isSome = true) (hz : es.length ≤ 900)
    (q : ∀ h' t' fo' tk, Led H h' ((Lf, fo') :: (x, instObj C dx) :: (dx, dictOf (putL name (PyData.keyHash w.params name) (.str name tk) v es) (putN name es n)) :: l) → Loc fo' names vals → Q () ⟨h', g, d, t', os⟩) :
    Wp w A (setAttr (.ref x) name v) Q E ⟨h, g, d, t, os⟩ := by
  delta Wp at *
  unfold setOk at hs
  obtain ⟨hs, h4⟩ := Bool.and_eq_true_iff.mp hs
  obtain ⟨hs, h3⟩ := Bool.and_eq_true_iff.mp hs
  obtain ⟨h1, h2⟩ := Bool.and_eq_true_iff.mp hs
  obtain ⟨m, nm, hm⟩ := N
  have hn := L.tail.nodup
  simp only [List.map_cons, List.nodup_cons, List.mem_cons, not_or] at hn
  obtain ⟨⟨n1, n2⟩, n3, n4⟩ := hn
  refine set_dict (s := ⟨h, g, d, t, os⟩) (L.fr nm) G.K L.news (L.inst (i := 1) (j := 2) rfl rfl) rfl (beq_iff_eq.mp h1) h2 (beq_iff_eq.mp h3) h4 hl rfl (Upd.tail n1 (Upd.head fun p hp e => n3 (List.mem_map.mpr ⟨p, hp, e⟩))) ?_ fun h' F' N' => ?_
  · exact Nat.le_trans (putL_le (Nat.le_refl _)) (by omega)
  · obtain ⟨fo', L', nm'⟩ := Led.of F' N' (by simp only [List.map_cons, List.nodup_cons, List.mem_cons, not_or]; exact ⟨⟨n1, n2⟩, n3, n4⟩) (fun p hp => by
      rcases List.mem_cons.mp hp with rfl | hp
      · exact L.new (x, instObj C dx) (.tail _ (.head _))
      rcases List.mem_cons.mp hp with rfl | hp
      · exact L.new (dx, dictOf es n) (.tail _ (.tail _ (.head _)))
      · exact L.new p (.tail _ (.tail _ (.tail _ hp))))
    exact q h' _ fo' _ L' ⟨m, nm', hm⟩
end
/-- an Entry's fields -/
noncomputable abbrev entryD (w : World) (a b c : Value) (t1 t2 t3 : Tok) : Obj := dictOf [⟨PyData.keyHash w.params "way", .str "way" t1, a⟩, ⟨PyData.keyHash w.params "one", .str "one" t2, b⟩, ⟨PyData.keyHash w.params "two", .str "two" t3, c⟩] 3
theorem entry_init {w : World} {A : Around} {R : Result → Shared → Prop} {H h : Heap} {g : Array GenState} {d : Drawn} {t : Nat} {os : OsState} {l : Ledger} {x dx : Addr} {a b c : Value}
    (G : Gd w H) (hA : A.depth < recursionLimit) (L : Led H h ((x, instObj 45 dx) :: (dx, dictOf [] 0) :: l))
    (q : ∀ h' t' t1 t2 t3, Led H h' ((x, instObj 45 dx) :: (dx, entryD w a b c t1 t2 t3) :: l) → R (.ok (.ret .none)) ⟨h', g, d, t', os⟩) :
    Cd w A (.call (.ref 35) ⟨[.ref x, a, b, c], []⟩) R ⟨h, g, d, t, os⟩ := by
  refine call_fn ["self", "way", "one", "two"] [] [.ref x, a, b, c] 4 G L hA rfl (by kernel_rfl!) rfl (BindsTo.of_eq rfl) (by decide +kernel) rfl ?_
  intro h t fo env V _ L N
  refine calm ?_
  refine x_setattr (e_loc 1 V L N (e_loc 0 V L N ?_))
  refine o_set G L N (by kernel_rfl!) rfl (Nat.zero_le _) fun h t fo t1 L N => ?_
  refine x_setattr (e_loc 2 V L N (e_loc 0 V L N ?_))
  refine o_set G L N (by kernel_rfl!) rfl (putL_le (Nat.zero_le _)) fun h t fo t2 L N => ?_
  refine x_setattr (e_loc 3 V L N (e_loc 0 V L N ?_))
  refine o_set G L N (by kernel_rfl!) rfl (putL_le (putL_le (Nat.zero_le _))) fun h t fo t3 L N => ?_
  refine x_end ?_
  exact q h t t1 t2 t3 L.tail
end Mine
namespace Mine
set_option maxRecDepth 100000
abbrev tupO (vs : List Value) : Obj := { cls := .type "tuple", data := .seq vs.toArray }
abbrev lstO (vs : List Value) : Obj := { cls := .type "list", data := .seq vs.toArray }
theorem LstO.mk {vs : List Value} : LstO (lstO vs) vs := ⟨rfl, 0, rfl⟩
theorem Led.push1 {H h : Heap} {l : Ledger} {p : Addr × Obj} (L : Led H h (p :: l)) (o : Obj) (hf : o.isFreed = false := by rfl) : Led H (h.push o) (p :: (h.objs.size, o) :: l) :=
  (L.push o hf).perm (List.Perm.swap _ _ _)
section
variable {w : World} {A : Around} {E : Value → Shared → Prop} {H h : Heap} {g : Array GenState} {d : Drawn} {t : Nat} {os : OsState} {env : Env} {l : Ledger} {fo : Obj} {names gl : List Str} {vals : List (Option Value)} {x dx C a : Addr} {es : List DictEntry} {n : Nat} {name : Str} {v : Value} {pos : Pos} {Lf : Addr} {vs : List Value} {p : Addr × Obj} {o : Obj}
theorem e_tup {elts : List PySem.Expr} {k : Nat} {s : Shared} {Q : Value → Shared → Prop} (q : Wp w A (spliced (backTo pos (starEach elts env))) (fun vs s => Wp w A (newTuple vs) Q E s) E s) :
    Wp w A (eval (.Tuple elts k pos) env) Q E s := by delta Wp at *; exact Tuple_ q
theorem e_lst {elts : List PySem.Expr} {s : Shared} {Q : Value → Shared → Prop} (q : Wp w A (spliced (backTo pos (starEach elts env))) (fun vs s => Wp w A (newList vs) Q E s) E s) :
    Wp w A (eval (.List elts pos) env) Q E s := by delta Wp at *; exact List_ q
theorem n_tup {Q : Value → Shared → Prop} (L : Led H h (p :: l)) (hsz : vs.length ≤ 100000) (q : ∀ a h', Led H h' (p :: (a, tupO vs) :: l) → Q (.ref a) ⟨h', g, d, t, os⟩) : Wp w A (newTuple vs) Q E ⟨h, g, d, t, os⟩ := by
  delta Wp at *
  exact wpAny_newObj_type (q _ _ (L.push1 _)) (by show vs.toArray.size ≤ sizeLine; rw [List.size_toArray, sizeLine_eq]; omega)
theorem n_lst {Q : Value → Shared → Prop} (L : Led H h (p :: l)) (hsz : vs.length ≤ 100000) (q : ∀ a h', Led H h' (p :: (a, lstO vs) :: l) → Q (.ref a) ⟨h', g, d, t, os⟩) : Wp w A (newList vs) Q E ⟨h, g, d, t, os⟩ := by
  delta Wp at *
  exact wpAny_newObj_type (q _ _ (L.push1 _)) (by show vs.toArray.size ≤ sizeLine; rw [List.size_toArray, sizeLine_eq]; omega)
/-- isinstance(x, c) where x is of a built-in type -/
theorem c_isi {c v ty : Value} {P : Heap → Prop} {b : Bool} {Q : Value → Shared → Prop} (G : Gd w H) (L : Led H h l) (Z : KitX (KP w) v ty P) (hp : P h) (e : kitOne (KP w) ty c = some b) (hx : v ≠ .builtin "__main__.__loader__#opaque") (q : ∀ t', Q (.bool b) ⟨h, g, d, t', os⟩) :
    Wp w A (call (.builtin "isinstance") [v, c]) Q E ⟨h, g, d, t, os⟩ := by
  delta Wp at *
  exact kia_one (s := ⟨h, g, d, t, os⟩) Z (L.k G) hp e hx (fun tk => q tk)
theorem e_none {k : Nat} {s : Shared} {Q : Value → Shared → Prop} (q : Q .none s) : Wp w A (eval (.Constant .none k pos) env) Q E s := by delta Wp at *; exact wpAny_Constant_none q
theorem e_bool {b : Bool} {k : Nat} {s : Shared} {Q : Value → Shared → Prop} (q : Q (.bool b) s) : Wp w A (eval (.Constant (.bool b) k pos) env) Q E s := by delta Wp at *; exact wpAny_Constant_bool q
end
/-- e.told() : the triple of an Entry -/
theorem entry_told {w : World} {A : Around} {R : Result → Shared → Prop} {H h : Heap} {g : Array GenState} {d : Drawn} {t : Nat} {os : OsState} {l : Ledger} {p : Addr × Obj} {x dx : Addr} {a b c : Value} {t1 t2 t3 : Tok} {i j : Nat}
    (G : Gd w H) (hA : A.depth < recursionLimit) (L : Led H h (p :: l)) (hi : (p :: l)[i]? = some (x, instObj 45 dx)) (hj : (p :: l)[j]? = some (dx, entryD w a b c t1 t2 t3)) (ha : handedIn a = true) (hb : handedIn b = true) (hc : handedIn c = true)
    (q : ∀ h' t' T, Led H h' (p :: (T, tupO [a, b, c]) :: l) → R (.ok (.ret (.ref T))) ⟨h', g, d, t', os⟩) :
    Cd w A (.call (.ref 42) ⟨[.ref x], []⟩) R ⟨h, g, d, t, os⟩ := by
  refine call_fn ["self"] [] [.ref x] 1 G L hA rfl (by kernel_rfl!) rfl (BindsTo.of_eq rfl) (by decide +kernel) rfl ?_
  intro h t fo env V _ L N
  refine calm ?_
  refine x_ret (e_tup (a_cons (e_attr (e_loc 0 V L N ?_))))
  refine o_get (i + 1) (j + 1) G L hi hj (by kernel_rfl!) rfl ha fun t => ?_
  refine a_cons (e_attr (e_loc 0 V L N ?_))
  refine o_get (i + 1) (j + 1) G L hi hj (by kernel_rfl!) rfl hb fun t => ?_
  refine a_cons (e_attr (e_loc 0 V L N ?_))
  refine o_get (i + 1) (j + 1) G L hi hj (by kernel_rfl!) rfl hc fun t => ?_
  refine a_nil ?_
  refine n_tup L (by simp) fun T h L => ?_
  exact q h t T (L.tail.perm (List.Perm.swap _ _ _))
noncomputable abbrev refD (w : World) (a b : Value) (t1 t2 : Tok) : Obj := dictOf [⟨PyData.keyHash w.params "number", .str "number" t1, a⟩, ⟨PyData.keyHash w.params "generation", .str "generation" t2, b⟩] 2
theorem ref_init {w : World} {A : Around} {R : Result → Shared → Prop} {H h : Heap} {g : Array GenState} {d : Drawn} {t : Nat} {os : OsState} {l : Ledger} {x dx : Addr} {a b : Value}
    (G : Gd w H) (hA : A.depth < recursionLimit) (L : Led H h ((x, instObj 287 dx) :: (dx, dictOf [] 0) :: l))
    (q : ∀ h' t' t1 t2, Led H h' ((x, instObj 287 dx) :: (dx, refD w a b t1 t2) :: l) → R (.ok (.ret .none)) ⟨h', g, d, t', os⟩) :
    Cd w A (.call (.ref 277) ⟨[.ref x, a, b], []⟩) R ⟨h, g, d, t, os⟩ := by
  refine call_fn ["self", "number", "generation"] [] [.ref x, a, b] 3 G L hA rfl (by kernel_rfl!) rfl (BindsTo.of_eq rfl) (by decide +kernel) rfl ?_
  intro h t fo env V _ L N
  refine calm ?_
  refine x_setattr (e_loc 1 V L N (e_loc 0 V L N ?_))
  refine o_set G L N (by kernel_rfl!) rfl (Nat.zero_le _) fun h t fo t1 L N => ?_
  refine x_setattr (e_loc 2 V L N (e_loc 0 V L N ?_))
  refine o_set G L N (by kernel_rfl!) rfl (putL_le (Nat.zero_le _)) fun h t fo t2 L N => ?_
  refine x_end ?_
  exact q h t t1 t2 L.tail
theorem ref_pair {w : World} {A : Around} {R : Result → Shared → Prop} {H h : Heap} {g : Array GenState} {d : Drawn} {t : Nat} {os : OsState} {l : Ledger} {p : Addr × Obj} {x dx : Addr} {a b : Value} {t1 t2 : Tok} {i j : Nat}
    (G : Gd w H) (hA : A.depth < recursionLimit) (L : Led H h (p :: l)) (hi : (p :: l)[i]? = some (x, instObj 287 dx)) (hj : (p :: l)[j]? = some (dx, refD w a b t1 t2)) (ha : handedIn a = true) (hb : handedIn b = true)
    (q : ∀ h' t' T, Led H h' (p :: (T, tupO [a, b]) :: l) → R (.ok (.ret (.ref T))) ⟨h', g, d, t', os⟩) :
    Cd w A (.call (.ref 284) ⟨[.ref x], []⟩) R ⟨h, g, d, t, os⟩ := by
  refine call_fn ["self"] [] [.ref x] 1 G L hA rfl (by kernel_rfl!) rfl (BindsTo.of_eq rfl) (by decide +kernel) rfl ?_
  intro h t fo env V _ L N
  refine calm ?_
  refine x_ret (e_tup (a_cons (e_attr (e_loc 0 V L N ?_))))
  refine o_get (i + 1) (j + 1) G L hi hj (by kernel_rfl!) rfl ha fun t => ?_
  refine a_cons (e_attr (e_loc 0 V L N ?_))
  refine o_get (i + 1) (j + 1) G L hi hj (by kernel_rfl!) rfl hb fun t => ?_
  refine a_nil ?_
  refine n_tup L (by simp) fun T h L => ?_
  exact q h t T (L.tail.perm (List.Perm.swap _ _ _))
end Mine
namespace Mine
set_option maxRecDepth 100000
theorem i_isN_no {w : World} {A : Around} {E : Value → Shared → Prop} {s : Shared} {v : Value} {Q : Value → Shared → Prop} (hp : plainIs v .none = true) (hne : v ≠ .none) (q : Q (.bool false) s) : Wp w A (compareOp .Is v .none) Q E s := by
  delta Wp at *; exact wpAny_is_other hp hne q
theorem kind_list {w : World} {A : Around} {R : Result → Shared → Prop} {H h : Heap} {g : Array GenState} {d : Drawn} {t : Nat} {os : OsState} {l : Ledger} {a : Addr} {o : Obj} {xs : List Value} {i : Nat}
    (G : Gd w H) (hA : A.depth < recursionLimit) (L : Led H h l) (hi : l[i]? = some (a, o)) (c : LstO o xs)
    (q : ∀ h' t' tk, Led H h' l → R (.ok (.ret (.str "array" tk))) ⟨h', g, d, t', os⟩) :
    Cd w A (.call (.ref 298) ⟨[.ref a], []⟩) R ⟨h, g, d, t, os⟩ := by
  refine call_fn ["value"] ["isinstance", "bool", "int", "Decimal", "Name", "String", "list"] [.ref a] 1 G L hA rfl (by kernel_rfl!) rfl (BindsTo.of_eq rfl) (by decide +kernel) rfl ?_
  intro h t fo env V _ L N
  have hk : KitAt a "list" h := ⟨o, L.get (i := i + 1) hi, c.1⟩
  refine calm ?_
  refine x_if (t_cmp (e_loc 0 V L N ?_))
  refine e_none (i_isN_no rfl (by simp) (t_bool (if_ff (x_nil ?_))))
  refine x_if (t_val (e_call (e_blt 0 G V L (b_isinstance _) (cw_b rfl (a_cons (e_loc 0 V L N ?_))))))
  refine a_cons (e_blt 1 G V L (b_bool _) (a_nil ?_))
  refine c_isi G L kitx_list hk (b := false) (by kernel_rfl!) (by simp) fun t => t_bool (if_ff (x_nil ?_))
  refine x_if (t_val (e_call (e_blt 0 G V L (b_isinstance _) (cw_b rfl (a_cons (e_loc 0 V L N ?_))))))
  refine a_cons (e_blt 2 G V L (b_int _) (a_nil ?_))
  refine c_isi G L kitx_list hk (b := false) (by kernel_rfl!) (by simp) fun t => t_bool (if_ff (x_nil ?_))
  refine x_if (t_val (e_call (e_blt 0 G V L (b_isinstance _) (cw_b rfl (a_cons (e_loc 0 V L N ?_))))))
  refine a_cons (e_glob 3 G V L (g_Decimal _) (a_nil ?_))
  refine c_isi G L kitx_list hk (b := false) (by kernel_rfl!) (by simp) fun t => t_bool (if_ff (x_nil ?_))
  refine x_if (t_val (e_call (e_blt 0 G V L (b_isinstance _) (cw_b rfl (a_cons (e_loc 0 V L N ?_))))))
  refine a_cons (e_glob 4 G V L (g_Name _) (a_nil ?_))
  refine c_isi G L kitx_list hk (b := false) (by kernel_rfl!) (by simp) fun t => t_bool (if_ff (x_nil ?_))
  refine x_if (t_val (e_call (e_blt 0 G V L (b_isinstance _) (cw_b rfl (a_cons (e_loc 0 V L N ?_))))))
  refine a_cons (e_glob 5 G V L (g_String _) (a_nil ?_))
  refine c_isi G L kitx_list hk (b := false) (by kernel_rfl!) (by simp) fun t => t_bool (if_ff (x_nil ?_))
  refine x_if (t_val (e_call (e_blt 0 G V L (b_isinstance _) (cw_b rfl (a_cons (e_loc 0 V L N ?_))))))
  refine a_cons (e_blt 6 G V L (b_list _) (a_nil ?_))
  refine c_isi G L kitx_list hk (b := true) (by kernel_rfl!) (by simp) fun t => t_bool (if_tt ?_)
  exact x_ret (e_str fun tk t => q h t tk L.tail)
theorem kind_int {w : World} {A : Around} {R : Result → Shared → Prop} {H h : Heap} {g : Array GenState} {d : Drawn} {t : Nat} {os : OsState} {l : Ledger} {n : Int} {u : Tok}
    (G : Gd w H) (hA : A.depth < recursionLimit) (L : Led H h l)
    (q : ∀ h' t' tk, Led H h' l → R (.ok (.ret (.str "int" tk))) ⟨h', g, d, t', os⟩) :
    Cd w A (.call (.ref 298) ⟨[.int n u], []⟩) R ⟨h, g, d, t, os⟩ := by
  refine call_fn ["value"] ["isinstance", "bool", "int", "Decimal", "Name", "String", "list"] [.int n u] 1 G L hA rfl (by kernel_rfl!) rfl (BindsTo.of_eq rfl) (by decide +kernel) rfl ?_
  intro h t fo env V _ L N
  refine calm ?_
  refine x_if (t_cmp (e_loc 0 V L N ?_))
  refine e_none (i_isN_no rfl (by simp) (t_bool (if_ff (x_nil ?_))))
  refine x_if (t_val (e_call (e_blt 0 G V L (b_isinstance _) (cw_b rfl (a_cons (e_loc 0 V L N ?_))))))
  refine a_cons (e_blt 1 G V L (b_bool _) (a_nil ?_))
  refine c_isi G L kitx_int trivial (b := false) (by kernel_rfl!) (by simp) fun t => t_bool (if_ff (x_nil ?_))
  refine x_if (t_val (e_call (e_blt 0 G V L (b_isinstance _) (cw_b rfl (a_cons (e_loc 0 V L N ?_))))))
  refine a_cons (e_blt 2 G V L (b_int _) (a_nil ?_))
  refine c_isi G L kitx_int trivial (b := true) (by kernel_rfl!) (by simp) fun t => t_bool (if_tt ?_)
  exact x_ret (e_str fun tk t => q h t tk L.tail)
end Mine
namespace Mine
set_option maxRecDepth 100000
theorem Led.ext {H h h' : Heap} {I : Addr} {o : Obj} {p : Addr × Obj} {l : Ledger} (L : Led H h ((I, o) :: p :: l)) (x : Heap.ExtBut I h h') : Led H h' (p :: l) := by
  have hn := List.nodup_cons.mp L.nodup
  have here : ∀ q ∈ p :: l, h'.get? q.1 = some q.2 := fun q hq => x _ _ (fun e => hn.1 (List.mem_map.mpr ⟨q, hq, e⟩)) (L.here q (.tail _ hq))
  refine ⟨fun b c e => x b c (fun q => ?_) (L.base b c e), ?_, here, fun q hq => L.new q (.tail _ hq), hn.2⟩
  · have := L.fresh (.head _); rw [q] at e; rw [e] at this; cases this
  · exact Nat.le_trans (L.new p (.tail _ (.head _))) (Nat.le_of_lt (Heap.lt_size (here p (.head _))))
theorem Wp.out {α : Type} {w : World} {A : Around} {T : Sem α} {Q : α → Shared → Prop} {E : Value → Shared → Prop} {s : Shared} (q : Wp w A T Q E s) : wpAny (model pw w) A T Q E s := by delta Wp at q; exact q
/-- an iterator: what its next gives -/
structure Src (w : World) (H : Heap) (need : Ledger) (I : Addr) (It : Nat → Obj → Prop) (n : Nat) (item : Nat → Value → Prop) : Prop where
  step : ∀ {A : Around} {E : Value → Shared → Prop} {h : Heap} {g : Array GenState} {d : Drawn} {t : Nat} {os : OsState} {l : Ledger} {i : Nat} {iob : Obj} {Q : Option Value → Shared → Prop},
    i < n → Led H h ((I, iob) :: l) → It i iob → (∀ p ∈ need, p ∈ l) → (∀ v h' t' iob', item i v → Led H h' ((I, iob') :: l) → It (i + 1) iob' → Q (some v) ⟨h', g, d, t', os⟩) →
    Wp w A (pyNext (.ref I)) Q E ⟨h, g, d, t, os⟩
  stop : ∀ {A : Around} {E : Value → Shared → Prop} {h : Heap} {g : Array GenState} {d : Drawn} {t : Nat} {os : OsState} {p : Addr × Obj} {l : Ledger} {iob : Obj} {Q : Option Value → Shared → Prop},
    A.handled = none → Led H h ((I, iob) :: p :: l) → It n iob → (∀ p' ∈ need, p' ∈ p :: l) → (∀ h' t', Led H h' (p :: l) → Q none ⟨h', g, d, t', os⟩) →
    Wp w A (pyNext (.ref I)) Q E ⟨h, g, d, t, os⟩
  self : ∀ {A : Around} {E : Value → Shared → Prop} {h : Heap} {g : Array GenState} {d : Drawn} {t : Nat} {os : OsState} {l : Ledger} {i : Nat} {iob : Obj} {Q : Value → Shared → Prop},
    Led H h ((I, iob) :: l) → It i iob → Q (.ref I) ⟨h, g, d, t, os⟩ → Wp w A (pyIter (.ref I)) Q E ⟨h, g, d, t, os⟩

def ItL (a : Addr) (i : Nat) (o : Obj) : Prop := o.cls = .type "list_iterator" ∧ o.data = .fields #[.ref a, .int i 0]
def ItR (a n : Int) (i : Nat) (o : Obj) : Prop := o = { cls := .type "range_iterator", dict := none, data := .fields #[rawInt (a + i), rawInt (n - i), rawInt 1], slots := #[] }
def ItD (a : Addr) (n ep : Nat) (i : Nat) (o : Obj) : Prop := o.cls = .type "dict_keyiterator" ∧ o.data = .fields #[.ref a, .int i 0, .int n 0, .int ep 0]
section
variable {w : World} {A : Around} {E : Value → Shared → Prop} {H h : Heap} {g : Array GenState} {d : Drawn} {t : Nat} {os : OsState} {env : Env} {l : Ledger} {a : Addr} {o : Obj} {xs : List Value}
theorem it_list {Q : Value → Shared → Prop} (i : Nat) (L : Led H h l) (hi : l[i]? = some (a, o)) (c : LstO o xs)
    (q : ∀ I iob h', Led H h' ((I, iob) :: l) → ItL a 0 iob → Src w H [(a, o)] I (ItL a) xs.length (fun j v => xs[j]? = some v) → Q (.ref I) ⟨h', g, d, t, os⟩) :
    Wp w A (pyIter (.ref a)) Q E ⟨h, g, d, t, os⟩ := by
  delta Wp at *
  refine wpAny_pyIter_list (c.at L hi) (q _ _ _ (L.push _) ⟨rfl, rfl⟩ ⟨?_, ?_, ?_⟩)
  · intro A E h g d t os l i iob Q hlt L ⟨c1, c2⟩ hn q
    delta Wp at *
    have hl : h.IsList a xs.toArray := ⟨o, L.mem (.tail _ (hn (a, o) (.head _))), c.1, c.2⟩
    refine wpAny_pyNext_list_item (i := i) ⟨iob, L.here _ (.head _), c1, c2⟩ hl (x := xs[i]) (by simp [hlt]) fun h' hit hs => ?_
    obtain ⟨o', ho, p⟩ := hit
    exact q _ h' _ o' (by simp [hlt]) (L.set0 hs ho) p
  · intro A E h g d t os p l iob Q hh L ⟨c1, c2⟩ hn q
    delta Wp at *
    have hl : h.IsList a xs.toArray := ⟨o, L.mem (.tail _ (hn (a, o) (.head _))), c.1, c.2⟩
    exact wpAny_pyNext_list_end hh (i := xs.length) ⟨iob, L.here _ (.head _), c1, c2⟩ hl (by simp) fun h' hx => q h' _ (L.ext hx)
  · intro A E h g d t os l i iob Q L ⟨c1, c2⟩ q
    delta Wp at *
    exact wpAny_pyIter_listiter (i := i) ⟨iob, L.here _ (.head _), c1, c2⟩ q
/-- range(a, b), its iterator at once -/
theorem it_range {Q : Value → Shared → Prop} {x y : Int} {u v : Tok} {z : Tok} (i : Nat) (L : Led H h l) (hi : l[i]? = some (a, { cls := .type "range", data := .fields #[.int x u, .int y v, .int 1 z] })) (hx : -(2 ^ 62) ≤ x ∧ x < 2 ^ 62) (hy : -(2 ^ 62) ≤ y ∧ y < 2 ^ 62)
    (q : ∀ I iob h', Led H h' ((I, iob) :: l) → ItR x (y - x).toNat 0 iob → Src w H [] I (ItR x (y - x).toNat) (y - x).toNat (fun j v => ∃ tk, v = .int (x + j) tk) → Q (.ref I) ⟨h', g, d, t, os⟩) :
    Wp w A (pyIter (.ref a)) Q E ⟨h, g, d, t, os⟩ := by
  delta Wp at *
  have hsz : Builtin.Range.rangeSize x y 1 = (y - x).toNat := by rw [rangeSize_one]; split <;> omega
  refine wpAny_pyIter_range (r := a) (a := x) (b := y) (c := 1) (t := u) (u := v) (v := z) (L.get hi) (small_one hx.1 hx.2 hy.1 hy.2) ?_
  rw [hsz]
  refine q _ _ _ (L.push _) ?_ ⟨?_, ?_, ?_⟩
  · unfold ItR; simp
  · intro A E h g d t os l i iob Q hlt L c hn q
    delta Wp at *
    unfold ItR at c
    subst c
    refine wpAny_pyNext_range_item (L.here _ (.head _)) (by omega) fun h' hit hs => ?_
    refine q _ h' _ _ ⟨_, rfl⟩ (L.set0 hs hit) ?_
    unfold ItR
    simp; constructor <;> congr 1 <;> omega
  · intro A E h g d t os p l iob Q hh L c hn q
    delta Wp at *
    unfold ItR at c
    subst c
    exact wpAny_pyNext_range_end hh (L.here _ (.head _)) (by omega) fun h' hx => q h' _ (L.ext hx)
  · intro A E h g d t os l i iob Q L c q
    delta Wp at *
    unfold ItR at c
    subst c
    exact wpAny_pyIter_rangeiter (L.here _ (.head _)) q
variable {K : Type} [DecidableEq K] {knd : KeyKind pw w K} {kvs : List (K × Value)}
theorem it_dict {Q : Value → Shared → Prop} (i : Nat) (G : Gd w H) (L : Led H h l) (hi : l[i]? = some (a, o)) (c : o.IsDictOf knd kvs)
    (q : ∀ I iob h' ep, Led H h' ((I, iob) :: l) → ItD a kvs.length ep 0 iob → Src w H [(a, o)] I (ItD a kvs.length ep) kvs.length (fun j v => ∃ k x, kvs[j]? = some (k, x) ∧ knd.is k v = true) → Q (.ref I) ⟨h', g, d, t, os⟩) :
    Wp w A (pyIter (.ref a)) Q E ⟨h, g, d, t, os⟩ := by
  delta Wp at *
  obtain ⟨es, ep, r⟩ := c
  refine wpAny_pyIter_dict (knd := knd) (L.notMod G hi) (ep := ep) ⟨o, es, L.get hi, r⟩ (q _ _ _ ep (L.push _) ⟨rfl, rfl⟩ ⟨?_, ?_, ?_⟩)
  · intro A E h g d t os l i iob Q hlt L ⟨c1, c2⟩ hn q
    delta Wp at *
    have hl : h.DictAt knd a kvs ep := ⟨o, es, L.mem (.tail _ (hn (a, o) (.head _))), r⟩
    refine wpAny_pyNext_dict_item (i := i) (k := kvs[i].1) (v := kvs[i].2) ⟨iob, L.here _ (.head _), c1, c2⟩ hl (by simp [hlt]) fun key h' hk hit hs => ?_
    obtain ⟨o', ho, p⟩ := hit
    exact q _ h' _ o' ⟨kvs[i].1, kvs[i].2, by simp [hlt], hk⟩ (L.set0 hs ho) p
  · intro A E h g d t os p l iob Q hh L ⟨c1, c2⟩ hn q
    delta Wp at *
    have hl : h.DictAt knd a kvs ep := ⟨o, es, L.mem (.tail _ (hn (a, o) (.head _))), r⟩
    exact wpAny_pyNext_dict_end hh (i := kvs.length) ⟨iob, L.here _ (.head _), c1, c2⟩ hl (by simp) fun h' hx => q h' _ (L.ext hx)
  · intro A E h g d t os l i iob Q L ⟨c1, c2⟩ q
    delta Wp at *
    exact wpAny_pyIter_keyiter (i := i) ⟨iob, L.here _ (.head _), c1, c2⟩ q
end
section
variable {w : World} {A : Around} {E : Value → Shared → Prop} {H h : Heap} {g : Array GenState} {d : Drawn} {t : Nat} {os : OsState} {env : Env} {l : Ledger} {fo iob : Obj} {names gl : List Str} {vals : List (Option Value)} {x : Str} {pos px : Pos}
/-- a loop over an iterator, said to come -/
@[irreducible] def Fl (w : World) (A : Around) (target : PySem.Expr) (it : Value) (body : List Stmt) (env : Env) (Q : Flow → Shared → Prop) (s : Shared) : Prop :=
  codeAny (model pw w) A (.forLoop target it body [] env) (fun r s' => match r with | .ok f => Q f s' | .error _ => False) s
theorem x_for {target iter : PySem.Expr} {body rest : List Stmt} {Q : Flow → Shared → Prop} {s : Shared}
    (q : Wp w A (eval iter env) (fun v s => Wp w A (pyIter v) (fun it s => Fl w A target it body env (thenX w A rest env Q E) s) E s) E s)
    (hs : ∀ x, foldedSetIterable iter env x = pure x := by intro _; rfl) : Wp w A (execs (.For target iter body [] pos :: rest) env) Q E s := by
  refine x_cons ?_
  delta Wp Fl at *
  refine wpAny_For (wpAny_mono q (fun v s z => wpAny_mono z (fun it s z => codeAny_mono z fun r s z => ?_) fun _ _ z => z) fun _ _ z => z) hs
  cases r with
  | ok f => exact z
  | error e => exact z.elim
theorem wp_calmNoted {α : Type} {T : Sem α} {Q : α → Shared → Prop} {R : Value → Shared → Prop} {s : Shared} (q : wpAny (model pw w) A T Q (fun _ _ => False) s) : wpAny (model pw w) A T Q (notedBy (model pw w) A env R) s :=
  wpAny_mono q (fun _ _ z => z) fun _ _ z => z.elim
theorem for_name {need : Ledger} {I : Addr} {It : Nat → Obj → Prop} {n : Nat} {item : Nat → Value → Prop} {body : List Stmt} {Q : Flow → Shared → Prop} (i : Nat) (J : Nat → Ledger → List (Option Value) → Prop)
    (V : EnvOk env names gl) (hh : A.handled = none) (src : Src w H need I It n item) (h0 : It 0 iob) (L : Led H h ((I, iob) :: (env.locals, fo) :: l)) (N : Loc fo names vals) (hJ : J 0 l vals) (hneed : ∀ j l vals, J j l vals → ∀ p ∈ need, p ∈ l)
    (turn : ∀ j v l vals h t fo iob, j < n → item j v → J j l vals → Led H h ((env.locals, fo) :: (I, iob) :: l) → It (j + 1) iob → Loc fo names (setV vals i v) →
      Wp w A (execs body env) (fun f s => match f with
        | .next | .cont => ∃ h t fo l vals iob, s = ⟨h, g, d, t, os⟩ ∧ Led H h ((env.locals, fo) :: (I, iob) :: l) ∧ It (j + 1) iob ∧ Loc fo names vals ∧ J (j + 1) l vals
        | .brk => False
        | .ret v => Q (.ret v) s) (fun _ _ => False) ⟨h, g, d, t, os⟩)
    (done : ∀ h t fo l vals, Led H h ((env.locals, fo) :: l) → Loc fo names vals → J n l vals → Q .next ⟨h, g, d, t, os⟩)
    (hx : names[i]? = some x := by rfl) : Fl w A (.Name x px) (.ref I) body env Q ⟨h, g, d, t, os⟩ := by
  delta Fl
  have hneed' : ∀ j l vals fo, J j l vals → ∀ p ∈ need, p ∈ (env.locals, fo) :: l := fun j l vals fo z p hp => .tail _ (hneed j l vals z p hp)
  refine codeAny_forLoop (fun m s => ∃ j h t fo l vals iob, s = ⟨h, g, d, t, os⟩ ∧ m = n + 1 - j ∧ j ≤ n ∧ Led H h ((I, iob) :: (env.locals, fo) :: l) ∧ It j iob ∧ Loc fo names vals ∧ J j l vals) ?_ (n + 1) ⟨0, h, t, fo, l, vals, iob, rfl, rfl, Nat.zero_le _, L, h0, N, hJ⟩
  rintro m s ⟨j, h, t, fo, l, vals, iob, rfl, rfl, hj, L, c, N, hJ⟩
  refine wp_calmNoted ?_
  rcases Nat.lt_or_ge j n with hlt | hge
  · have key := src.step (A := A) (E := fun _ _ => False) (g := g) (d := d) (t := t) (os := os) hlt L c (hneed' j l vals fo hJ) (Q := fun r s₁ => match r with
      | none => wpAny (model pw w) A (execs [] env) (fun f s₃ => Q f s₃) (notedBy (model pw w) A env fun _ _ => False) s₁
      | some v => wpAny (model pw w) A (assign (.Name x px) env v) (fun _ s₂ => wpAny (model pw w) A (execs body env) (fun f s₃ => match f with
          | .next | .cont => ∃ m, m < n + 1 - j ∧ ∃ j h t fo l vals iob, s₃ = ⟨h, g, d, t, os⟩ ∧ m = n + 1 - j ∧ j ≤ n ∧ Led H h ((I, iob) :: (env.locals, fo) :: l) ∧ It j iob ∧ Loc fo names vals ∧ J j l vals
          | .brk => Q .next s₃
          | .ret v => Q (.ret v) s₃) (notedBy (model pw w) A env fun _ _ => False) s₂) (notedBy (model pw w) A env fun _ _ => False) s₁) ?_
    · exact wpAny_mono key.out (fun r s z => by cases r <;> exact z) fun _ _ z => z
    · intro v h' t' iob' hv L' c'
      have st := s_loc (w := w) (A := A) (E := fun _ _ => False) (g := g) (d := d) (t := t') (os := os) (x := x) (v := v) (Q := fun _ s₂ => wpAny (model pw w) A (execs body env) (fun f s₃ => match f with
          | .next | .cont => ∃ m, m < n + 1 - j ∧ ∃ j h t fo l vals iob, s₃ = ⟨h, g, d, t, os⟩ ∧ m = n + 1 - j ∧ j ≤ n ∧ Led H h ((I, iob) :: (env.locals, fo) :: l) ∧ It j iob ∧ Loc fo names vals ∧ J j l vals
          | .brk => Q .next s₃
          | .ret v => Q (.ret v) s₃) (notedBy (model pw w) A env fun _ _ => False) s₂) i V (L'.perm (List.Perm.swap _ _ _)) N ?_ hx
      · exact wpAny_assign_Name (wp_calmNoted st.out)
      · intro h₂ t₂ fo₂ L₂ N₂
        have tt := turn j v l vals h₂ t₂ fo₂ iob' hlt hv hJ L₂ c' N₂
        refine wp_calmNoted (wpAny_mono tt.out (fun f s z => ?_) fun _ _ z => z)
        cases f with
        | next => obtain ⟨h, t, fo, l, vals, iob, rfl, L, c, N, hJ⟩ := z; exact ⟨n + 1 - (j + 1), by omega, j + 1, h, t, fo, l, vals, iob, rfl, rfl, hlt, L.perm (List.Perm.swap _ _ _), c, N, hJ⟩
        | cont => obtain ⟨h, t, fo, l, vals, iob, rfl, L, c, N, hJ⟩ := z; exact ⟨n + 1 - (j + 1), by omega, j + 1, h, t, fo, l, vals, iob, rfl, rfl, hlt, L.perm (List.Perm.swap _ _ _), c, N, hJ⟩
        | brk => exact z.elim
        | ret v => exact z
  · have e : j = n := Nat.le_antisymm hj hge
    subst e
    have key := src.stop (A := A) (E := fun _ _ => False) (g := g) (d := d) (t := t) (os := os) hh L c (hneed' j l vals fo hJ) (Q := fun r s₁ => match r with
      | none => wpAny (model pw w) A (execs [] env) (fun f s₃ => Q f s₃) (notedBy (model pw w) A env fun _ _ => False) s₁
      | some v => False) ?_
    · refine wpAny_mono key.out (fun r s z => ?_) fun _ _ z => z
      cases r with
      | none => exact z
      | some v => exact z.elim
    · intro h' t' L'
      exact wpAny_execs_nil (done h' t' fo l vals L' N hJ)
end
end Mine
namespace Mine
set_option maxRecDepth 100000
/-- a captured name -/
structure CellOk (env : Env) (x : Str) (c : Addr) : Prop where
  kind : env.kindOf x = some .cell ∨ env.kindOf x = some .free
  look : env.cells.lookup x = some c
  dbg : (x == ("__debug__" : Str)) = false
  cdict : (x == ("__classdict__" : Str)) = false
def CellsIn (env : Env) (b : Str → Option Value) : List Str → Ledger → Prop
  | [], [] => True
  | x :: xs, p :: ps => (CellOk env x p.1 ∧ p.2.data = .cell (b x)) ∧ CellsIn env b xs ps
  | _, _ => False
theorem cells_c {env : Env} {b : Str → Option Value} {x : Str} {xs : List Str} {cs : Ledger} (h : CellsIn env b (x :: xs) cs) : ∃ c o cs', cs = (c, o) :: cs' ∧ (CellOk env x c ∧ o.data = .cell (b x)) ∧ CellsIn env b xs cs' := by
  cases cs with
  | nil => exact False.elim h
  | cons p ps => exact ⟨p.1, p.2, ps, rfl, h⟩
theorem cells_n {env : Env} {b : Str → Option Value} {cs : Ledger} (h : CellsIn env b [] cs) : cs = [] := by
  cases cs with
  | nil => rfl
  | cons p ps => exact False.elim h
theorem cells_1 {env : Env} {b : Str → Option Value} {x : Str} {cs : Ledger} (h : CellsIn env b [x] cs) : ∃ c o, cs = [(c, o)] ∧ CellOk env x c ∧ o.data = .cell (b x) := by
  obtain ⟨c, o, cs, rfl, k, h⟩ := cells_c h
  cases cells_n h
  exact ⟨c, o, rfl, k⟩
theorem cells_2 {env : Env} {b : Str → Option Value} {x y : Str} {cs : Ledger} (h : CellsIn env b [x, y] cs) : ∃ c o c' o', cs = [(c, o), (c', o')] ∧ (CellOk env x c ∧ o.data = .cell (b x)) ∧ CellOk env y c' ∧ o'.data = .cell (b y) := by
  obtain ⟨c, o, cs, rfl, k, h⟩ := cells_c h
  obtain ⟨c', o', rfl, k'⟩ := cells_1 h
  exact ⟨c, o, c', o', rfl, k, k'⟩
theorem cells_3 {env : Env} {b : Str → Option Value} {x y z : Str} {cs : Ledger} (h : CellsIn env b [x, y, z] cs) : ∃ c o c' o' c'' o'', cs = [(c, o), (c', o'), (c'', o'')] ∧ (CellOk env x c ∧ o.data = .cell (b x)) ∧ (CellOk env y c' ∧ o'.data = .cell (b y)) ∧ CellOk env z c'' ∧ o''.data = .cell (b z) := by
  obtain ⟨c, o, cs, rfl, k, h⟩ := cells_c h
  obtain ⟨c', o', c'', o'', rfl, k'⟩ := cells_2 h
  exact ⟨c, o, c', o', c'', o'', rfl, k, k'⟩
theorem cells_4 {env : Env} {b : Str → Option Value} {x y z u : Str} {cs : Ledger} (h : CellsIn env b [x, y, z, u] cs) : ∃ c o c' o' c'' o'' c₃ o₃, cs = [(c, o), (c', o'), (c'', o''), (c₃, o₃)] ∧ (CellOk env x c ∧ o.data = .cell (b x)) ∧ (CellOk env y c' ∧ o'.data = .cell (b y)) ∧ (CellOk env z c'' ∧ o''.data = .cell (b z)) ∧ CellOk env u c₃ ∧ o₃.data = .cell (b u) := by
  obtain ⟨c, o, cs, rfl, k, h⟩ := cells_c h
  obtain ⟨c', o', c'', o'', c₃, o₃, rfl, k'⟩ := cells_3 h
  exact ⟨c, o, c', o', c'', o'', c₃, o₃, rfl, k, k'⟩
section
variable {w : World} {A : Around} {E : Value → Shared → Prop} {H h : Heap} {g : Array GenState} {d : Drawn} {t : Nat} {os : OsState} {env : Env} {l : Ledger} {fo iob o : Obj} {names gl : List Str} {vals : List (Option Value)} {x : Str} {pos px : Pos} {c : Addr} {v : Value}
theorem e_cell {Q : Value → Shared → Prop} (j : Nat) (V : EnvOk env names gl) (C : CellOk env x c) (L : Led H h l) (hv : o.data = .cell (some v)) (q : Q v ⟨h, g, d, t, os⟩) (hi : l[j]? = some (c, o) := by rfl) :
    Wp w A (eval (.Name x pos) env) Q E ⟨h, g, d, t, os⟩ := by
  delta Wp at *
  rcases C.kind with k | k
  · exact wpAny_Name (wpAny_loadName_cell V.kind k C.look ⟨o, L.get hi, hv⟩ q) C.dbg
  · exact wpAny_Name (wpAny_loadName_free V.kind k C.look ⟨o, L.get hi, hv⟩ q C.cdict) C.dbg
theorem s_cell {Q : Unit → Shared → Prop} {v₀ : Option Value} (j : Nat) (V : EnvOk env names gl) (C : CellOk env x c) (hk : env.kindOf x = some .cell) (L : Led H h l) (hv : o.data = .cell v₀) (hi : l[j]? = some (c, o))
    (q : ∀ h' o', Led H h' (l.set j (c, o')) → o'.data = .cell (some v) → Q () ⟨h', g, d, t, os⟩) : Wp w A (storeName env x v) Q E ⟨h, g, d, t, os⟩ := by
  delta Wp at *
  exact wpAny_storeName_cell V.kind hk C.look ⟨o, L.get hi, hv⟩ fun h' ⟨o', ho, hd⟩ hs => q h' o' (L.setAt hi hs ho) hd
end
/-- the names told by kind, the cells in their order -/
def cellNames (names : List (Str × NameKind)) : List Str := (names.filter fun x => x.2 == .cell).map (·.1)
theorem cellsFrom_look : ∀ (names : List (Str × NameKind)) (n : Nat) (acc : List (Str × Addr)), (∀ x ∈ cellNames names, x ∉ acc.map (·.1)) → (cellNames names).Nodup →
    (∀ i x, (cellNames names)[i]? = some x → (cellsFrom n names acc).lookup x = some (n + i)) ∧ ∀ x, x ∉ cellNames names → (cellsFrom n names acc).lookup x = acc.lookup x
  | [], n, acc, _, _ => ⟨fun i x h => by simp [cellNames] at h, fun x _ => rfl⟩
  | (y, k) :: r, n, acc, ha, hd => by
    unfold cellsFrom
    by_cases hk : k = .cell
    · subst hk
      have e : cellNames ((y, NameKind.cell) :: r) = y :: cellNames r := by simp [cellNames]
      rw [e] at ha hd ⊢
      obtain ⟨hy, hd⟩ := List.nodup_cons.mp hd
      obtain ⟨ih1, ih2⟩ := cellsFrom_look r (n + 1) ((y, n) :: acc) (fun x hx hm => by
        rcases List.mem_cons.mp hm with rfl | hm
        · exact hy hx
        · exact ha x (.tail _ hx) hm) hd
      simp only [beq_self_eq_true, if_true]
      refine ⟨fun i x h => ?_, fun x hx => ?_⟩
      · cases i with
        | zero =>
          simp at h; subst h
          rw [ih2 y hy]; simp
        | succ i =>
          rw [ih1 i x (by simpa using h)]; congr 1; omega
      · have hx' := not_or.mp (fun q => hx (List.mem_cons.mpr q))
        rw [ih2 x hx'.2, List.lookup_cons, beq_eq_false_iff_ne.mpr hx'.1]
    · have e : cellNames ((y, k) :: r) = cellNames r := by simp [cellNames, hk]
      rw [e] at ha hd ⊢
      have hb : (k == NameKind.cell) = false := by simpa using hk
      simp only [hb, Bool.false_eq_true, if_false]
      exact cellsFrom_look r n acc ha hd
theorem bindL_off (kf : Str → Option NameKind) : ∀ (bs : List (Str × Value)) (m : Str → Option Value) (x : Str), x ∉ bs.map (·.1) → bindL kf bs m x = m x
  | [], m, x, _ => rfl
  | (n, v) :: r, m, x, h => by
    obtain ⟨h1, h2⟩ := not_or.mp (fun q => h (List.mem_cons.mpr q))
    unfold bindL
    rw [bindL_off kf r _ x h2]
    split
    · exact if_neg h1
    · rfl
theorem bindC_off (kf : Str → Option NameKind) : ∀ (bs : List (Str × Value)) (m : Str → Option Value) (x : Str), x ∉ bs.map (·.1) → bindC kf bs m x = m x
  | [], m, x, _ => rfl
  | (n, v) :: r, m, x, h => by
    obtain ⟨h1, h2⟩ := not_or.mp (fun q => h (List.mem_cons.mpr q))
    unfold bindC
    rw [bindC_off kf r _ x h2]
    split
    · rfl
    · exact if_neg h1
theorem bindL_on (kf : Str → Option NameKind) : ∀ (bs : List (Str × Value)) (m : Str → Option Value) (x : Str) (i : Nat) (v : Value), (bs.map (·.1)).Nodup → kf x = some .local → bs[i]? = some (x, v) → bindL kf bs m x = some v
  | [], _, _, _, _, _, _, h => by simp at h
  | (n, u) :: r, m, x, 0, v, hd, hk, h => by
    simp at h
    obtain ⟨rfl, rfl⟩ := h
    unfold bindL
    rw [bindL_off kf r _ n (List.nodup_cons.mp hd).1, if_pos hk]; exact if_pos rfl
  | (n, u) :: r, m, x, i + 1, v, hd, hk, h => by
    unfold bindL
    exact bindL_on kf r _ x i v (List.nodup_cons.mp hd).2 hk (by simpa using h)
theorem bindC_on (kf : Str → Option NameKind) : ∀ (bs : List (Str × Value)) (m : Str → Option Value) (x : Str) (i : Nat) (v : Value), (bs.map (·.1)).Nodup → kf x ≠ some .local → bs[i]? = some (x, v) → bindC kf bs m x = some v
  | [], _, _, _, _, _, _, h => by simp at h
  | (n, u) :: r, m, x, 0, v, hd, hk, h => by
    simp at h
    obtain ⟨rfl, rfl⟩ := h
    unfold bindC
    rw [bindC_off kf r _ n (List.nodup_cons.mp hd).1, if_neg hk]; exact if_pos rfl
  | (n, u) :: r, m, x, i + 1, v, hd, hk, h => by
    unfold bindC
    exact bindC_on kf r _ x i v (List.nodup_cons.mp hd).2 hk (by simpa using h)
/-- the places of names among the parameters -/
def placesOk (params : List Str) (names : List Str) (li : List (Option Nat)) : Bool := names.length == li.length && (names.zip li).all fun p => match p.2 with | some i => params[i]? == some p.1 | none => !params.contains p.1
theorem placesOk_at {params : List Str} : ∀ {names : List Str} {li : List (Option Nat)}, placesOk params names li = true → ∀ (i : Nat) (x : Str), names[i]? = some x → ∃ o : Option Nat, li[i]? = some o ∧ match o with | some k => params[k]? = some x | none => x ∉ params
  | [], _, _, i, x, h => by simp at h
  | n :: r, [], c, _, _, _ => by simp [placesOk] at c
  | n :: r, o :: li, c, i, x, h => by
    unfold placesOk at c
    simp only [List.length_cons, List.zip_cons_cons, List.all_cons, Bool.and_eq_true, beq_iff_eq] at c
    obtain ⟨c1, c2, c3⟩ := c
    cases i with
    | zero =>
      simp at h; subst h
      refine ⟨o, rfl, ?_⟩
      cases o with
      | none => simpa using c2
      | some k => simpa using c2
    | succ i =>
      exact placesOk_at (names := r) (li := li) (by unfold placesOk; simp only [Bool.and_eq_true, beq_iff_eq]; exact ⟨by omega, c3⟩) i x (by simpa using h)
def pick (vals : List Value) (o : Option Nat) : Option Value := match o with | some k => vals[k]? | none => none
theorem lookup_zip_nodup : ∀ (a : List Str) (b : List Value) (i : Nat) (x : Str) (v : Value), a.Nodup → a[i]? = some x → b[i]? = some v → (a.zip b)[i]? = some (x, v)
  | a, b, i, x, v, _, h1, h2 => by rw [List.getElem?_zip_eq_some]; exact ⟨h1, h2⟩
theorem look_nodup {α : Type} : ∀ {l : List (Str × α)} {x : Str} {v : α}, (l.map (·.1)).Nodup → (x, v) ∈ l → l.lookup x = some v
  | [], _, _, _, h => by cases h
  | (y, u) :: r, x, v, hd, h => by
    rw [List.map_cons, List.nodup_cons] at hd
    rcases List.mem_cons.mp h with h | h
    · cases h; simp
    · have : x ≠ y := fun q => hd.1 (List.mem_map.mpr ⟨(x, v), h, q⟩)
      rw [List.lookup_cons, beq_eq_false_iff_ne.mpr this]
      exact look_nodup hd.2 h
theorem zip_fst_sub {α β : Type} : ∀ (a : List α) (b : List β), ((a.zip b).map (·.1)).Sublist a
  | [], b => by simp
  | x :: r, [] => by simp
  | x :: r, y :: b => by simpa using zip_fst_sub r b
/-- a call of a def whose object is told -/
theorem call_fn_h {w : World} {A : Around} {R : Result → Shared → Prop} {H h : Heap} {g : Array GenState} {d : Drawn} {t : Nat} {os : OsState} {l : Ledger} {fd : FuncData} {body : List Stmt} {args : Args} {f : Addr} {o : Obj}
    (params names cn gl : List Str) (li ci : List (Option Nat)) (vals : List Value)
    (G : Gd w H) (L : Led H h l) (hA : A.depth < recursionLimit) (ho : h.get? f = some o) (hd : o.data = .func fd) (hcr : h.CodeRec fd.code fd.qualname) (hbody : fd.body = .stmts body) (hbind : BindsTo ⟨h, g, d, t, os⟩ fd args (params.zip vals)) (hclo : fd.closure = [])
    (hck : (cellNames fd.scope.names == cn && names.all (fun x => fd.scope.names.lookup x == some .local) && cn.all (fun x => fd.scope.names.lookup x == some .cell && x != ("__classdict__" : Str)) && gl.all (fun x => fd.scope.names.lookup x == some .globalImplicit) && (names ++ gl ++ cn).all (fun x => !(x == ("__debug__" : Str)))
      && params.all (fun x => names.contains x || cn.contains x) && placesOk params names li && placesOk params cn ci && decide names.Nodup && decide cn.Nodup && decide params.Nodup && fd.scope.kind == .function && !fd.scope.isCoroutine && !fd.scope.isGenerator && fd.globals == mainGlobals && fd.builtins == builtinsNs) = true) (hlen : params.length = vals.length)
    (q : ∀ h₁ t₁ fo env cs, EnvOk env names gl → env.frame = some env.locals → (∀ x ∈ cn, env.kindOf x = some .cell) → CellsIn env (fun x => (cn.zip (ci.map (pick vals))).lookup x |>.join) cn cs → Led H h₁ ((env.locals, fo) :: (cs ++ l)) → Loc fo names (li.map (pick vals)) → Wp w (A.deeper env) (execs body env)
        (fun fl s' => R (.ok (.ret (match fl with | .ret v => v | _ => .none))) s') (fun e s' => Wp w (A.deeper env) (leaving env e) (fun _ s'' => R (.error e) s'') (fun e' s'' => R (.error e') s'') s') ⟨h₁, g, d, t₁, os⟩) :
    Cd w A (.call (.ref f) args) R ⟨h, g, d, t, os⟩ := by
  delta Wp at q
  delta Cd
  simp only [Bool.and_eq_true, List.all_eq_true, Bool.not_eq_true', beq_iff_eq, bne_iff_ne, ne_eq, decide_eq_true_eq, Bool.or_eq_true, List.contains_iff_mem] at hck
  obtain ⟨⟨⟨⟨⟨⟨⟨⟨⟨⟨⟨⟨⟨⟨⟨c1, c2⟩, c3⟩, c4⟩, c5⟩, c6⟩, c7⟩, c8⟩, c9⟩, c10⟩, c11⟩, c12⟩, c13⟩, c14⟩, c15⟩, c16⟩ := hck
  have look := fun n => cellsFrom_look fd.scope.names n [] (fun _ _ h => by cases h) (c1 ▸ c10)
  have hmem : ∀ x ∈ cn, ∃ i, cn[i]? = some x := fun x hx => List.getElem?_of_mem hx
  have keyL : ∀ {e : Env}, e.scope = fd.scope → ∀ (i : Nat) (x : Str) (v : Value), names[i]? = some x → (li.map (pick vals))[i]? = some (some v) → bindL e.kindOf (params.zip vals) (fun _ => none) x = some v := by
    intro e he i x v hi hv
    have hloc : e.kindOf x = some .local := by unfold Env.kindOf; rw [he]; exact c2 x (List.mem_of_getElem? hi)
    obtain ⟨o, ho, hp⟩ := placesOk_at c7 i x hi
    rw [List.getElem?_map, ho] at hv
    cases o with
    | none => simp [pick] at hv
    | some k =>
      have hv' : vals[k]? = some v := by simpa [pick] using hv
      refine bindL_on _ _ _ x k v ?_ hloc (lookup_zip_nodup _ _ k x v c11 hp hv')
      rw [List.map_fst_zip (Nat.le_of_eq hlen)]; exact c11
  have keyC : ∀ {e : Env}, e.scope = fd.scope → ∀ (i : Nat) (x : Str), cn[i]? = some x → bindC e.kindOf (params.zip vals) (fun _ => none) x = ((cn.zip (ci.map (pick vals))).lookup x).join := by
    intro e he i x hi
    have hcell : e.kindOf x ≠ some .local := by unfold Env.kindOf; rw [he, (c3 x (List.mem_of_getElem? hi)).1]; decide
    obtain ⟨o, ho, hp⟩ := placesOk_at c8 i x hi
    have hz : (cn.zip (ci.map (pick vals)))[i]? = some (x, pick vals o) := by rw [List.getElem?_zip_eq_some]; exact ⟨hi, by rw [List.getElem?_map, ho]; rfl⟩
    have hlz : (cn.zip (ci.map (pick vals))).lookup x = some (pick vals o) := by
      refine look_nodup ?_ (List.mem_of_getElem? hz)
      have hsub := zip_fst_sub cn (ci.map (pick vals))
      exact c10.sublist hsub
    rw [hlz]
    cases o with
    | none =>
      refine bindC_off _ _ _ x ?_
      rw [List.map_fst_zip (Nat.le_of_eq hlen)]; exact hp
    | some k =>
      have hk : k < vals.length := by rw [← hlen]; exact (List.getElem?_eq_some_iff.mp hp).1
      have hv' : vals[k]? = some vals[k] := List.getElem?_eq_getElem hk
      rw [show (some (pick vals (some k))).join = some vals[k] from by simp [pick, hv']]
      refine bindC_on _ _ _ x k _ ?_ hcell (lookup_zip_nodup _ _ k x _ c11 hp hv')
      rw [List.map_fst_zip (Nat.le_of_eq hlen)]; exact c11
  refine codeAny_call_function (o := o) hA ho hd c13 c14 hbody hcr (hbind _ _ _ _ ?_)
  rw [hclo]
  refine wpAny_newFunctionEnv_cells c12 (fun x hx => ?_) fun env he s' x => ?_
  · have hx1 : x.1 ∈ params := (List.of_mem_zip hx).1
    rcases c6 _ hx1 with h1 | h1
    · exact .inl (c2 _ h1)
    · refine .inr ⟨(c3 _ h1).1, ?_⟩
      obtain ⟨i, hi⟩ := hmem _ h1
      rw [(look _).1 i x.1 (c1 ▸ hi)]; rfl
  subst he
  refine ⟨(G.nolimit.keeps L.base).keeps x.toInCall.keep, codeAny_func ?_⟩
  obtain ⟨h₁, tk, rfl, _⟩ := x.done
  have hk₁ := x.toInCall.keep
  obtain ⟨fo, hfo, m⟩ := of_ns x.toInCall.ns
  have hlt := Heap.lt_size hfo
  have L1 : Led H h₁ l := L.grow hk₁ (Nat.le_of_lt hlt)
  -- the cells, in the order of cn
  have cellAt : ∀ (i : Nat) (x' : Str), cn[i]? = some x' → ∃ o, h₁.get? (h.objs.size + 1 + i) = some o ∧ o.data = .cell (bindC (newEnv fd.scope h.objs.size fd.globals (cellsFrom (h.objs.size + 1) fd.scope.names []) (fd.qualname ++ ".<locals>.") (some f) fd.code none fd.builtins).kindOf (params.zip vals) (fun _ => none) x') := fun i x' hi =>
    x.cell x' _ ((look _).1 i x' (c1 ▸ hi))
  have build : ∀ (xs : List Str) (n : Nat), (∀ (i : Nat) (x' : Str), xs[i]? = some x' → cn[n + i]? = some x') → ∃ cs : Ledger, CellsIn (newEnv fd.scope h.objs.size fd.globals (cellsFrom (h.objs.size + 1) fd.scope.names []) (fd.qualname ++ ".<locals>.") (some f) fd.code none fd.builtins) (fun x => ((cn.zip (ci.map (pick vals))).lookup x).join) xs cs
      ∧ (∀ p ∈ cs, h₁.get? p.1 = some p.2 ∧ h.objs.size + 1 + n ≤ p.1) ∧ (cs.map (·.1)).Nodup := by
    intro xs
    induction xs with
    | nil => exact fun n _ => ⟨[], trivial, fun p hp => (by cases hp), List.nodup_nil⟩
    | cons y ys ih =>
      intro n hn
      obtain ⟨cs, z1, z2, z3⟩ := ih (n + 1) (fun i x' hi => by have := hn (i + 1) x' (by simpa using hi); rwa [show n + 1 + i = n + (i + 1) by omega])
      have hy := hn 0 y rfl
      obtain ⟨o, ho, hd⟩ := cellAt n y hy
      have hmy : y ∈ cn := List.mem_of_getElem? hy
      refine ⟨(h.objs.size + 1 + n, o) :: cs, ⟨⟨⟨.inl (c3 y hmy).1, (look _).1 n y (c1 ▸ hy), c5 y (List.mem_append_right _ hmy), by simpa using (c3 y hmy).2⟩, ?_⟩, z1⟩, fun p hp => ?_, ?_⟩
      · rw [hd, keyC rfl n y hy]
      · rcases List.mem_cons.mp hp with rfl | hp
        · exact ⟨ho, Nat.le_refl _⟩
        · exact ⟨(z2 p hp).1, by have := (z2 p hp).2; omega⟩
      · rw [List.map_cons, List.nodup_cons]
        refine ⟨fun hm => ?_, z3⟩
        obtain ⟨p, hp, e⟩ := List.mem_map.mp hm
        have := (z2 p hp).2
        have e' : @Eq Nat p.1 (h.objs.size + 1 + n) := e
        omega
  obtain ⟨cs, z1, z2, z3⟩ := build cn 0 (fun i x' hi => by rwa [Nat.zero_add])
  refine q h₁ _ fo _ cs ⟨c12, c15, c16, c2, c4, c9, fun x hx => c5 x (by
      rcases List.mem_append.mp hx with hx | hx
      · exact List.mem_append_left _ (List.mem_append_left _ hx)
      · exact List.mem_append_left _ (List.mem_append_right _ hx))⟩ rfl (fun x hx => (c3 x hx).1) z1 ⟨L1.base, L1.le, fun p hp => ?_, fun p hp => ?_, ?_⟩ ⟨_, m, fun i x' v hi hv => keyL rfl i x' v hi hv⟩
  · rcases List.mem_cons.mp hp with rfl | hp
    · exact hfo
    rcases List.mem_append.mp hp with hp | hp
    · exact (z2 p hp).1
    · exact L1.here p hp
  · rcases List.mem_cons.mp hp with rfl | hp
    · exact L.le
    rcases List.mem_append.mp hp with hp | hp
    · have h1 := (z2 p hp).2
      have h2 := L.le
      omega
    · exact L1.new p hp
  · rw [List.map_cons, List.nodup_cons, List.map_append, List.nodup_append]
    refine ⟨fun hm => ?_, z3, L.nodup, fun a ha b hb e => ?_⟩
    · rcases List.mem_append.mp hm with hm | hm
      · obtain ⟨p, hp, e⟩ := List.mem_map.mp hm
        have := (z2 p hp).2
        have e' : @Eq Nat p.1 h.objs.size := e
        omega
      · obtain ⟨p, hp, e⟩ := List.mem_map.mp hm
        have := Heap.lt_size (L.here p hp)
        rw [e] at this; exact Nat.lt_irrefl _ this
    · obtain ⟨p, hp, rfl⟩ := List.mem_map.mp ha
      obtain ⟨r, hr, rfl⟩ := List.mem_map.mp hb
      have h1 := (z2 p hp).2
      have h2 : @LT.lt Nat _ r.1 h.objs.size := Heap.lt_size (L.here r hr)
      have e' : @Eq Nat p.1 r.1 := e
      omega
/-- a call of a def of the text that has captured names -/
theorem call_fn_c {w : World} {A : Around} {R : Result → Shared → Prop} {H h : Heap} {g : Array GenState} {d : Drawn} {t : Nat} {os : OsState} {l : Ledger} {fd : FuncData} {body : List Stmt} {args : Args} {f : Addr} {oc : Value} {od : Option Addr} {osl : Array (Option Value)}
    (params names cn gl : List Str) (li ci : List (Option Nat)) (vals : List Value)
    (G : Gd w H) (L : Led H h l) (hA : A.depth < recursionLimit) (ho : (K w.params).lookup f = some ⟨oc, od, .func fd, osl⟩) (hcd : codeIn (K w.params) fd.code fd.qualname = true) (hbody : fd.body = .stmts body) (hbind : BindsTo ⟨h, g, d, t, os⟩ fd args (params.zip vals)) (hclo : fd.closure = [])
    (hck : (cellNames fd.scope.names == cn && names.all (fun x => fd.scope.names.lookup x == some .local) && cn.all (fun x => fd.scope.names.lookup x == some .cell && x != ("__classdict__" : Str)) && gl.all (fun x => fd.scope.names.lookup x == some .globalImplicit) && (names ++ gl ++ cn).all (fun x => !(x == ("__debug__" : Str)))
      && params.all (fun x => names.contains x || cn.contains x) && placesOk params names li && placesOk params cn ci && decide names.Nodup && decide cn.Nodup && decide params.Nodup && fd.scope.kind == .function && !fd.scope.isCoroutine && !fd.scope.isGenerator && fd.globals == mainGlobals && fd.builtins == builtinsNs) = true) (hlen : params.length = vals.length)
    (q : ∀ h₁ t₁ fo env cs, EnvOk env names gl → env.frame = some env.locals → (∀ x ∈ cn, env.kindOf x = some .cell) → CellsIn env (fun x => (cn.zip (ci.map (pick vals))).lookup x |>.join) cn cs → Led H h₁ ((env.locals, fo) :: (cs ++ l)) → Loc fo names (li.map (pick vals)) → Wp w (A.deeper env) (execs body env)
        (fun fl s' => R (.ok (.ret (match fl with | .ret v => v | _ => .none))) s') (fun e s' => Wp w (A.deeper env) (leaving env e) (fun _ s'' => R (.error e) s'') (fun e' s'' => R (.error e') s'') s') ⟨h₁, g, d, t₁, os⟩) :
    Cd w A (.call (.ref f) args) R ⟨h, g, d, t, os⟩ :=
  call_fn_h params names cn gl li ci vals G L hA (L.k G _ _ ho) rfl (codeRec_of (L.k G) hcd) hbody hbind hclo hck hlen q
end Mine
namespace Mine
set_option maxRecDepth 100000
theorem Loc.off {o : Obj} {names : List Str} {vals : List (Option Value)} (N : Loc o names vals) : Loc o names [] := let ⟨m, n, _⟩ := N; ⟨m, n, fun i x v _ hv => by simp at hv⟩
theorem Led.drop1 {H h : Heap} {p q : Addr × Obj} {l : Ledger} (L : Led H h (p :: q :: l)) : Led H h (p :: l) := L.sub (.cons_cons _ (.cons _ (.refl _)))
theorem Led.drop2 {H h : Heap} {p q r : Addr × Obj} {l : Ledger} (L : Led H h (p :: q :: r :: l)) : Led H h (p :: l) := L.drop1.drop1
theorem mv1 {α : Type} {cs r : List α} {a : α} : (cs ++ a :: r).Perm (a :: (cs ++ r)) := List.perm_middle
theorem mv2 {α : Type} {cs r : List α} {a b : α} : (cs ++ a :: b :: r).Perm (a :: b :: (cs ++ r)) := mv1.trans (.cons _ mv1)
theorem mv3 {α : Type} {cs r : List α} {a b c : α} : (cs ++ a :: b :: c :: r).Perm (a :: b :: c :: (cs ++ r)) := mv1.trans (.cons _ mv2)
theorem mv4 {α : Type} {cs r : List α} {a b c d : α} : (cs ++ a :: b :: c :: d :: r).Perm (a :: b :: c :: d :: (cs ++ r)) := mv1.trans (.cons _ mv3)
theorem lookup_relabel {env : Env} : ∀ {names : List (Str × NameKind)} {x : Str} {k : NameKind}, names.lookup x = some k →
    (names.map fun (n, k) => if (k == NameKind.free && env.scope.kind == .function && env.kindOf n == some .cell) then (n, NameKind.cell) else (n, k)).lookup x = some (if (k == NameKind.free && env.scope.kind == .function && env.kindOf x == some .cell) then .cell else k)
  | [], _, _, h => by simp at h
  | (n, k') :: r, x, k, h => by
    rw [List.map_cons]
    rw [List.lookup_cons] at h
    cases hx : x == n with
    | true =>
      rw [hx] at h
      cases h
      have e := beq_iff_eq.mp hx
      subst e
      dsimp only
      split <;> simp
    | false =>
      rw [hx] at h
      dsimp only at h
      have hn : (if (k' == NameKind.free && env.scope.kind == .function && env.kindOf n == some .cell) = true then (n, NameKind.cell) else (n, k')).1 = n := by split <;> rfl
      dsimp only
      generalize (if (k' == NameKind.free && env.scope.kind == .function && env.kindOf n == some .cell) = true then (n, NameKind.cell) else (n, k')) = p at hn ⊢
      obtain ⟨p1, p2⟩ := p
      cases hn
      rw [List.lookup_cons, hx]
      exact lookup_relabel h
def freeNames (names : List (Str × NameKind)) : List Str := (names.filter fun x => x.2 == .free).map (·.1)
def closOf (env : Env) : List (Str × NameKind) → List (Str × Addr) → List (Str × Addr)
  | [], acc => acc
  | (n, k) :: r, acc => if k == .free then closOf env r ((n, (env.cells.lookup n).getD 0) :: acc) else closOf env r acc
theorem closOf_forIn (env : Env) : ∀ (names : List (Str × NameKind)) (acc : List (Str × Addr)), (∀ x ∈ freeNames names, (env.cells.lookup x).isSome = true) →
    (forIn names acc fun (x : Str × NameKind) (cs : List (Str × Addr)) => (do
      if x.2 == .free then do let a ← cellOf env x.1; pure (ForInStep.yield ((x.1, a) :: cs)) else pure (ForInStep.yield cs) : Sem (ForInStep (List (Str × Addr))))) = pure (closOf env names acc)
  | [], acc, _ => rfl
  | (n, k) :: r, acc, h => by
    rw [List.forIn_cons]
    unfold closOf
    by_cases hk : k = .free
    · subst hk
      have hs : (env.cells.lookup n).isSome = true := h n (by simp [freeNames])
      obtain ⟨c, hc⟩ := Option.isSome_iff_exists.mp hs
      have ih := closOf_forIn env r ((n, c) :: acc) (fun x hx => h x (by simpa [freeNames] using .inr (by simpa [freeNames] using hx)))
      simp only [beq_self_eq_true, if_true, hc, Option.getD_some, cellOf]
      simp only [pure_bind, bind_pure_comp]
      exact ih
    · have hb : (k == NameKind.free) = false := by simpa using hk
      have ih := closOf_forIn env r acc (fun x hx => h x (by simpa [freeNames, hk] using hx))
      simp only [hb, Bool.false_eq_true, if_false]
      simp only [pure_bind]
      exact ih
theorem closure_eq {scope : Scope} {env : Env} (h : ∀ x ∈ freeNames scope.names, (env.cells.lookup x).isSome = true) : closureFor scope env = pure (closOf env scope.names []) := by
  have e := closOf_forIn env scope.names [] h
  unfold closureFor
  have e2 : (forIn scope.names ([] : List (Str × Addr)) fun (x : Str × NameKind) (cs : List (Str × Addr)) => (do
      if x.2 == .free then do let a ← cellOf env x.1; pure (ForInStep.yield ((x.1, a) :: cs)) else pure (ForInStep.yield cs) : Sem (ForInStep (List (Str × Addr))))) >>= (fun cs => (pure cs : Sem (List (Str × Addr)))) = pure (closOf env scope.names []) := by rw [e]; rfl
  exact e2
theorem closOf_look {env : Env} {x : Str} {c : Addr} (hx : env.cells.lookup x = some c) : ∀ (names : List (Str × NameKind)) (acc : List (Str × Addr)), (x ∈ freeNames names ∨ acc.lookup x = some c) → (closOf env names acc).lookup x = some c
  | [], acc, h => by
    rcases h with h | h
    · simp [freeNames] at h
    · exact h
  | (n, k) :: r, acc, h => by
    unfold closOf
    by_cases hk : k = .free
    · subst hk
      simp only [beq_self_eq_true, if_true]
      refine closOf_look hx r _ ?_
      by_cases e : x = n
      · subst e
        right; rw [hx]; simp
      · rcases h with h | h
        · left
          simp [freeNames] at h ⊢
          rcases h with h | h
          · exact absurd h e
          · exact h
        · right; rw [List.lookup_cons, beq_eq_false_iff_ne.mpr e]; exact h
    · have hb : (k == NameKind.free) = false := by simpa using hk
      simp only [hb, Bool.false_eq_true, if_false]
      refine closOf_look hx r _ (h.imp (fun h => ?_) id)
      simpa [freeNames, hk] using h
/-- the place where a comprehension runs -/
def compE (scope : Scope) (env : Env) (C : Addr) : Env := compEnvC scope (closOf env scope.names []) C env
theorem compE_kind {scope : Scope} {env : Env} {C : Addr} {x : Str} {k : NameKind} (h : scope.names.lookup x = some k) (hk : k ≠ .free) : (compE scope env C).kindOf x = some k := by
  have e := lookup_relabel (env := env) h
  have hb : (k == NameKind.free) = false := by simpa using hk
  rw [hb] at e
  exact e
theorem compE_cell {scope : Scope} {env : Env} {C : Addr} {x : Str} {c : Addr} (h : scope.names.lookup x = some .free) (hc : CellOk env x c) : CellOk (compE scope env C) x c := by
  have e := lookup_relabel (env := env) h
  refine ⟨?_, closOf_look hc.look _ _ (.inl ?_), hc.dbg, hc.cdict⟩
  · have e' : (compE scope env C).kindOf x = _ := e
    rw [e']
    split
    · exact .inl rfl
    · exact .inr rfl
  · exact List.mem_map.mpr ⟨(x, .free), List.mem_filter.mpr ⟨PySem.mem_of_lookup h, rfl⟩, rfl⟩
/-- the closed facts of a comprehension's scope: its own names, the globals, the captured -/
def compOk (scope : Scope) (names gl cn : List Str) : Bool :=
  scope.names.all (fun x => x.2 != .cell && (x.2 != .local || scope.names.lookup x.1 == some .local)) && scope.kind == .function && names.all (fun x => scope.names.lookup x == some .local) && gl.all (fun x => scope.names.lookup x == some .globalImplicit)
    && cn.all (fun x => scope.names.lookup x == some .free) && (freeNames scope.names).all (fun x => cn.contains x) && (names ++ gl).all (fun x => !(x == ("__debug__" : Str))) && decide names.Nodup
section
variable {w : World} {A : Around} {E : Value → Shared → Prop} {H h : Heap} {g : Array GenState} {d : Drawn} {t : Nat} {os : OsState} {env : Env} {l : Ledger} {fo iob o : Obj} {names gl names' gl' cn : List Str} {vals : List (Option Value)} {x y : Str} {pos px py : Pos} {c : Addr} {v : Value}
@[irreducible] def Cb (w : World) (A : Around) (elt target iter : PySem.Expr) (ifs : List PySem.Expr) (scope : Scope) (pos : Pos) (env : Env) (use : Option (Value → Sem Unit)) (Q : Value → Shared → Prop) (E : Value → Shared → Prop) (it : Value) (s : Shared) : Prop :=
  wpAny (model pw w) A (newList []) (fun acc s₃ => wpAny (model pw w) A (newFunctionEnv scope env.globals (closOf env scope.names []) [] env.qual none .none (some env)) (fun cenv s₄ =>
    codeAny (model pw w) A (.compStart (.ListComp elt [⟨target, iter, ifs, 0⟩] scope pos) 0 it acc { cenv with scope := relabel scope env }) (compPost (model pw w) A E use Q acc cenv.locals) s₄) E s₃) E s
theorem compOk_free {scope : Scope} (hck : compOk scope names' gl' cn = true) (hcn : ∀ z ∈ cn, (env.cells.lookup z).isSome = true) : ∀ z ∈ freeNames scope.names, (env.cells.lookup z).isSome = true := by
  unfold compOk at hck
  simp only [Bool.and_eq_true, List.all_eq_true, List.contains_iff_mem] at hck
  exact fun z hz => hcn z (hck.1.1.2 z hz)
theorem e_comp {elt target iter : PySem.Expr} {ifs : List PySem.Expr} {scope : Scope} {s : Shared} {Q : Value → Shared → Prop} (names' gl' cn : List Str)
    (hck : compOk scope names' gl' cn = true) (hcn : ∀ z ∈ cn, (env.cells.lookup z).isSome = true)
    (q : Wp w A (eval iter env) (fun v s => Wp w A (pyIter v) (fun it s => Cb w A elt target iter ifs scope pos env none Q E it s) E s) E s)
    (hs : ∀ x, foldedSetIterable iter env x = pure x := by intro _; rfl) : Wp w A (eval (.ListComp elt [⟨target, iter, ifs, 0⟩] scope pos) env) Q E s := by
  have hclos := closure_eq (compOk_free hck hcn)
  unfold compOk at hck
  simp only [Bool.and_eq_true, List.all_eq_true, beq_iff_eq, bne_iff_ne, ne_eq, Bool.or_eq_true, Bool.not_eq_true', List.contains_iff_mem, decide_eq_true_eq] at hck
  obtain ⟨⟨⟨⟨⟨⟨⟨c1, c2⟩, c3⟩, c4⟩, c5⟩, c6⟩, c7⟩, c8⟩ := hck
  delta Wp Cb at *
  rw [eval_ListComp]
  exact wpAny_comprehension_free (use := none) rfl hs hclos c2 (fun z hz hl => (c1 z hz).2.resolve_left (fun q => q hl)) q
/-- y = [comprehension], where the two stores are exchanged -/
theorem x_assign_comp {elt target iter : PySem.Expr} {ifs : List PySem.Expr} {scope : Scope} {s : Shared} {rest : List Stmt} {cpos : Pos} {Q : Flow → Shared → Prop} (names' gl' cn : List Str)
    (hck : compOk scope names' gl' cn = true) (hcn : ∀ z ∈ cn, (env.cells.lookup z).isSome = true)
    (q : Wp w A (eval iter env) (fun v s => Wp w A (pyIter v) (fun it s => Cb w A elt target iter ifs scope cpos env (some (assign (.Name y py) env)) (fun _ s => Wp w A (execs rest env) Q E s) E it s) E s) E s)
    (hs : ∀ x, foldedSetIterable iter env x = pure x := by intro _; rfl) (hsw : swapsWith (.ListComp elt [⟨target, iter, ifs, 0⟩] scope cpos) (some (.Name y py)) pos.line env = pure true := by rfl) :
    Wp w A (execs (.Assign [.Name y py] (.ListComp elt [⟨target, iter, ifs, 0⟩] scope cpos) pos :: rest) env) Q E s := by
  have hclos := closure_eq (compOk_free hck hcn)
  unfold compOk at hck
  simp only [Bool.and_eq_true, List.all_eq_true, beq_iff_eq, bne_iff_ne, ne_eq, Bool.or_eq_true, Bool.not_eq_true', List.contains_iff_mem, decide_eq_true_eq] at hck
  obtain ⟨⟨⟨⟨⟨⟨⟨c1, c2⟩, c3⟩, c4⟩, c5⟩, c6⟩, c7⟩, c8⟩ := hck
  refine x_cons ?_
  unfold thenX
  delta Wp Cb at *
  rw [exec_Assign_Name_used _ _ _ _ hsw]
  refine wpAny_bind (wpAny_standAt (wpAny_bind ?_))
  show wpAny _ A (do let _ ← comprehension (.ListComp elt [⟨target, iter, ifs, 0⟩] scope cpos) scope env _ (newList []) false (eval iter env) (some (assign (.Name y py) env))) _ _ s
  refine wpAny_bind (wpAny_mono (wpAny_comprehension_free (use := some (assign (.Name y py) env)) rfl hs hclos c2 (fun z hz hl => (c1 z hz).2.resolve_left (fun q => q hl)) q) (fun _ s' hq => wpAny_pure (wpAny_pure hq)) fun _ _ e => e)
/-- the tests of a comprehension -/
def Tests (w : World) (A : Around) (ifs : List PySem.Expr) (env : Env) (Q : Bool → Shared → Prop) (s : Shared) : Prop :=
  Wp w A (forIn ifs true fun c r => if r = true then do let ok ← isTrue c env (eval c env); pure (ForInStep.yield ok) else pure (ForInStep.yield r)) Q (fun _ _ => False) s
theorem tests_nil {Q : Bool → Shared → Prop} {s : Shared} (q : Q true s) : Tests w A [] env Q s := by unfold Tests; delta Wp; exact wpAny_tests_nil q
theorem tests_one {e : PySem.Expr} {Q : Bool → Shared → Prop} {s : Shared} (q : Wp w A (isTrue e env (eval e env)) Q (fun _ _ => False) s) : Tests w A [e] env Q s := by unfold Tests; delta Wp at *; exact wpAny_tests_one q

theorem list_append' {prog : Program} {w : World} {A : Around} {E : Value → Shared → Prop} {s : Shared} {l : Addr} {o : Obj} {items : Array Value} {n : Nat} {x : Value} {Q : Value → Shared → Prop} (ho : s.heap.get? l = some o) (hc : o.cls = .type "list") (hd : o.data = .seq items n)
    (hQ : ∀ h' o', h'.get? l = some o' → o'.cls = .type "list" → (∃ n', o'.data = .seq (items.push x) n') → o'.dict = o.dict → Heap.SameBut l s.heap h' → Q .none { s with heap := h' }) (hsz : items.size ≤ sizeLine) :
    wpAny (model prog w) A (call (.builtin "list.append") [.ref l, x]) Q E s := by
  obtain ⟨n', hd'⟩ := Obj.data_mapSeq hd (·.push x)
  have hl : s.heap.IsList l items := ⟨o, ho, hc, n, hd⟩
  refine wpAny_call_entry slot_list_append hl.typeIs entry_list_append ?_ (args_list_append _ _)
  show wpAny _ _ (updateSeq l (·.push x) >>= fun _ => ret .none) _ _ s
  refine wpAny_bind ?_
  refine wpAny_updateSeq ho hd (wpAny_pure ⟨.none, rfl, hQ _ _ (Heap.get?_update_self _ ho (Obj.isFreed_of_seq hd')) ((Obj.cls_mapSeq ..).trans hc) ⟨n', hd'⟩ ?_ (Heap.SameBut.update ..)⟩)
  obtain ⟨c, d, dt, sl⟩ := o; cases dt <;> rfl
theorem cb_core {need : Ledger} {I : Addr} {It : Nat → Obj → Prop} {n : Nat} {item : Nat → Value → Prop} {elt iter : PySem.Expr} {ifs : List PySem.Expr} {scope : Scope} {R : Value → Addr → Result → Shared → Prop} (k : Nat) (P : Nat → Ledger → List Value → Prop)
    (V : EnvOk env names gl) (hck : compOk scope names' gl' cn = true) (hh : A.handled = none) (src : Src w H need I It n item) (hn : n ≤ 100000) (h0 : It 0 iob) (L : Led H h ((I, iob) :: (env.locals, fo) :: l)) (hP : P 0 [] []) (hneed : ∀ p ∈ need, p ∈ l) (hx : names'[k]? = some x) (hlen : ∀ j ex ys, P j ex ys → ys.length ≤ j)
    (turn : ∀ j v ex ys C co D dob iob h t, j < n → item j v → P j ex ys → EnvOk (compE scope env C) names' gl' → (compE scope env C).locals = C → (compE scope env C).frame = env.frame → Led H h ((C, co) :: (D, dob) :: (I, iob) :: (env.locals, fo) :: (ex ++ l)) → Loc co names' (setV [] k v) →
      Tests w A ifs (compE scope env C) (fun ok s => if ok = true then Wp w A (eval elt (compE scope env C)) (fun y s => ∃ h t ex', s = ⟨h, g, d, t, os⟩ ∧ Led H h ((C, co) :: (D, dob) :: (I, iob) :: (env.locals, fo) :: (ex' ++ l)) ∧ P (j + 1) ex' (ys ++ [y])) (fun _ _ => False) s
        else ∃ h t, s = ⟨h, g, d, t, os⟩ ∧ Led H h ((C, co) :: (D, dob) :: (I, iob) :: (env.locals, fo) :: (ex ++ l)) ∧ P (j + 1) ex ys) ⟨h, g, d, t, os⟩)
    (done : ∀ h t C co D dob ex ys, (∃ vals', Loc co names' vals') → Led H h ((C, co) :: (env.locals, fo) :: (D, dob) :: (ex ++ l)) → LstO dob ys → dob.dict = none → P n ex ys → R (.ref D) C (.ok .next) ⟨h, g, d, t, os⟩) :
    wpAny (model pw w) A (newList []) (fun acc s₃ => wpAny (model pw w) A (newFunctionEnv scope env.globals (closOf env scope.names []) [] env.qual none .none (some env)) (fun cenv s₄ =>
      codeAny (model pw w) A (.compStart (.ListComp elt [⟨.Name x px, iter, ifs, 0⟩] scope pos) 0 (.ref I) acc { cenv with scope := relabel scope env }) (R acc cenv.locals) s₄) E s₃) E ⟨h, g, d, t, os⟩ := by
  have hck' := hck
  unfold compOk at hck
  simp only [Bool.and_eq_true, List.all_eq_true, beq_iff_eq, bne_iff_ne, ne_eq, Bool.or_eq_true, Bool.not_eq_true', List.contains_iff_mem, decide_eq_true_eq] at hck
  obtain ⟨⟨⟨⟨⟨⟨⟨c1, c2⟩, c3⟩, c4⟩, c5⟩, c6⟩, c7⟩, c8⟩ := hck
  refine wpAny_newObj_type (wpAny_newFunctionEnv (fun y hy => (c1 y hy).1) (by intro y hy; simp at hy) (fun h₁ hns₁ hsb₁ => ?_) c2)
  have L1 := L.push (lstO [])
  have L2 := L1.push { cls := .type "dict", data := .dict #[] }
  obtain ⟨co, hco, m⟩ := of_ns hns₁
  have L3 := L2.set0 hsb₁ hco
  have hCenv : ({ newEnv scope (h.push (lstO [])).objs.size env.globals (closOf env scope.names []) env.qual none .none (some env) env.builtins with scope := relabel scope env } : Env) = compE scope env (h.push (lstO [])).objs.size := rfl
  have V' : ∀ C, EnvOk (compE scope env C) names' gl' := fun C => ⟨c2, V.glob, V.blt, fun z hz => compE_kind (c3 z hz) (by decide), fun z hz => compE_kind (c4 z hz) (by decide), c8, fun z hz => c7 z hz⟩
  have N3 : Loc co names' [] := ⟨_, m, fun i x v _ hv => by simp at hv⟩
  have loop : codeAny (model pw w) A (.compLoop (.ListComp elt [⟨.Name x px, iter, ifs, 0⟩] scope pos) 0 (.ref I) (.ref h.objs.size) (compE scope env (h.push (lstO [])).objs.size)) (R (.ref h.objs.size) (h.push (lstO [])).objs.size) ⟨h₁, g, d, t, os⟩ := by
    have L4 : Led H h₁ (((h.push (lstO [])).objs.size, co) :: (h.objs.size, lstO []) :: (I, iob) :: (env.locals, fo) :: ([] ++ l)) := L3
    generalize (h.push (lstO [])).objs.size = C at *
    generalize h.objs.size = D at *
    refine codeAny_compLoop_tests (fun m s => ∃ j h t co dob iob ex ys, s = ⟨h, g, d, t, os⟩ ∧ m = n + 1 - j ∧ j ≤ n ∧ Led H h ((C, co) :: (D, dob) :: (I, iob) :: (env.locals, fo) :: (ex ++ l)) ∧ It j iob ∧ (LstO dob ys ∧ dob.dict = none) ∧ Loc co names' [] ∧ P j ex ys) ?_ (n + 1) ⟨0, h₁, t, co, _, iob, [], [], rfl, rfl, Nat.zero_le _, L4, h0, ⟨LstO.mk, rfl⟩, N3, hP⟩
    clear L4
    rintro m s ⟨j, h, t, co, dob, iob, ex, ys, rfl, rfl, hj, L, c, cD, N, hPj⟩
    have L' : Led H h ((I, iob) :: (C, co) :: (D, dob) :: (env.locals, fo) :: (ex ++ l)) := by simpa [Mine.re] using L.re 4 [2, 0, 1, 3]
    have hneed' : ∀ p ∈ need, p ∈ (C, co) :: (D, dob) :: (env.locals, fo) :: (ex ++ l) := fun p hp => .tail _ (.tail _ (.tail _ (List.mem_append_right _ (hneed p hp))))
    rcases Nat.lt_or_ge j n with hlt | hge
    · have key := src.step (A := A) (E := fun _ _ => False) (g := g) (d := d) (t := t) (os := os) hlt L' c hneed' (Q := fun r s₁ => ∃ v h' t' iob', r = some v ∧ s₁ = ⟨h', g, d, t', os⟩ ∧ item j v ∧ Led H h' ((I, iob') :: (C, co) :: (D, dob) :: (env.locals, fo) :: (ex ++ l)) ∧ It (j + 1) iob') (fun v h' t' iob' hv L'' c' => ⟨v, h', t', iob', rfl, rfl, hv, L'', c'⟩)
      refine wpAny_mono key.out (fun r s z => ?_) fun _ _ z => z.elim
      obtain ⟨v, h', t', iob', rfl, rfl, hv, L'', c'⟩ := z
      have L5 : Led H h' (((compE scope env C).locals, co) :: (I, iob') :: (D, dob) :: (env.locals, fo) :: (ex ++ l)) := L''.re 4 [1, 0, 2, 3]
      have st := s_loc (w := w) (A := A) (E := fun _ _ => False) (g := g) (d := d) (t := t') (os := os) (x := x) (v := v) (env := compE scope env C) (Q := fun _ s₂ => ∃ h t co, s₂ = ⟨h, g, d, t, os⟩ ∧ Led H h ((C, co) :: (I, iob') :: (D, dob) :: (env.locals, fo) :: (ex ++ l)) ∧ Loc co names' (setV [] k v)) k (V' C) L5 N (fun h t co L N => ⟨h, t, co, rfl, L, N⟩) hx
      refine wpAny_assign_Name (wpAny_mono st.out (fun _ s z => ?_) fun _ _ z => z.elim)
      obtain ⟨h₂, t₂, co₂, rfl, L6, N6⟩ := z
      have tt := turn j v ex ys C co₂ D dob iob' h₂ t₂ hlt hv hPj (V' C) rfl rfl (by simpa [Mine.re] using L6.re 4 [0, 2, 1, 3]) N6
      refine wpAny_mono tt.out (fun ok s z => ?_) fun _ _ z => z.elim
      cases ok with
      | false =>
        rw [if_neg Bool.false_ne_true] at z ⊢
        obtain ⟨h, t, rfl, L, hP⟩ := z
        exact ⟨n + 1 - (j + 1), by omega, j + 1, h, t, co₂, dob, iob', ex, ys, rfl, rfl, hlt, L, c', cD, N6.off, hP⟩
      | true =>
        rw [if_pos rfl] at z ⊢
        refine wpAny_mono z.out (fun y s z => ?_) fun _ _ z => z.elim
        obtain ⟨h, t, ex', rfl, L, hP⟩ := z
        obtain ⟨⟨d1, n1, d2⟩, d3⟩ := cD
        refine list_append' (L.here (D, dob) (.tail _ (.head _))) d1 d2 (fun h' o' ho' hc' hd' hdd' hs' => ?_) (by have := hlen _ _ _ hPj; simp only [List.size_toArray]; rw [sizeLine_eq]; omega)
        obtain ⟨n', hd'⟩ := hd'
        exact ⟨n + 1 - (j + 1), by omega, j + 1, h', t, co₂, o', iob', ex', ys ++ [y], rfl, rfl, hlt, L.setAt (i := 1) rfl hs' ho', c', ⟨⟨hc', n', by rw [hd']; simp⟩, hdd'.trans d3⟩, N6.off, hP⟩
    · have e : j = n := Nat.le_antisymm hj hge
      subst e
      have key := src.stop (A := A) (E := fun _ _ => False) (g := g) (d := d) (t := t) (os := os) hh L' c hneed' (Q := fun r s₁ => ∃ h' t', r = none ∧ s₁ = ⟨h', g, d, t', os⟩ ∧ Led H h' ((C, co) :: (D, dob) :: (env.locals, fo) :: (ex ++ l))) (fun h' t' L' => ⟨h', t', rfl, rfl, L'⟩)
      refine wpAny_mono key.out (fun r s z => ?_) fun _ _ z => z.elim
      obtain ⟨h', t', rfl, rfl, L''⟩ := z
      exact done h' t' C co D dob ex ys ⟨_, N⟩ (by simpa [Mine.re] using L''.re 3 [0, 2, 1]) cD.1 cD.2 hPj
  refine codeAny_compStart_list loop ?_
  have L6 : Led H h₁ ((I, iob) :: ((h.push (lstO [])).objs.size, co) :: (h.objs.size, lstO []) :: (env.locals, fo) :: l) := by simpa [Mine.re] using L3.re 4 [2, 0, 1, 3]
  exact (src.self L6 h0 loop).out
/-- a comprehension whose list is the value -/
theorem cb_run {need : Ledger} {I : Addr} {It : Nat → Obj → Prop} {n : Nat} {item : Nat → Value → Prop} {elt iter : PySem.Expr} {ifs : List PySem.Expr} {scope : Scope} {Q : Value → Shared → Prop} (names' gl' cn : List Str) (k : Nat) (P : Nat → Ledger → List Value → Prop)
    (V : EnvOk env names gl) (hck : compOk scope names' gl' cn = true) (hh : A.handled = none) (src : Src w H need I It n item) (hn : n ≤ 100000) (h0 : It 0 iob) (L : Led H h ((I, iob) :: (env.locals, fo) :: l)) (hP : P 0 [] []) (hneed : ∀ p ∈ need, p ∈ l) (hlen : ∀ j ex ys, P j ex ys → ys.length ≤ j)
    (turn : ∀ j v ex ys C co D dob iob h t, j < n → item j v → P j ex ys → EnvOk (compE scope env C) names' gl' → (compE scope env C).locals = C → (compE scope env C).frame = env.frame → Led H h ((C, co) :: (D, dob) :: (I, iob) :: (env.locals, fo) :: (ex ++ l)) → Loc co names' (setV [] k v) →
      Tests w A ifs (compE scope env C) (fun ok s => if ok = true then Wp w A (eval elt (compE scope env C)) (fun y s => ∃ h t ex', s = ⟨h, g, d, t, os⟩ ∧ Led H h ((C, co) :: (D, dob) :: (I, iob) :: (env.locals, fo) :: (ex' ++ l)) ∧ P (j + 1) ex' (ys ++ [y])) (fun _ _ => False) s
        else ∃ h t, s = ⟨h, g, d, t, os⟩ ∧ Led H h ((C, co) :: (D, dob) :: (I, iob) :: (env.locals, fo) :: (ex ++ l)) ∧ P (j + 1) ex ys) ⟨h, g, d, t, os⟩)
    (done : ∀ h t D dob ex ys, Led H h ((env.locals, fo) :: (D, dob) :: (ex ++ l)) → LstO dob ys → P n ex ys → Q (.ref D) ⟨h, g, d, t, os⟩) (hx : names'[k]? = some x := by rfl) :
    Cb w A elt (.Name x px) iter ifs scope pos env none Q E (.ref I) ⟨h, g, d, t, os⟩ := by
  delta Cb
  refine cb_core (R := fun acc C => compPost (model pw w) A E none Q acc C) k P V hck hh src hn h0 L hP hneed hx hlen turn ?_
  intro h t C co D dob ex ys ⟨vals', m, hm, _⟩ L cD cDd hPn
  refine ⟨m, ns_of (L.here _ (.head _)) hm, fun h' hs' => ?_⟩
  exact done h' t D dob ex ys (L.ext hs'.extBut) cD hPn
/-- a comprehension whose list is the value -/
theorem cb_runP {need : Ledger} {I : Addr} {It : Nat → Obj → Prop} {n : Nat} {item : Nat → Value → Prop} {elt iter : PySem.Expr} {ifs : List PySem.Expr} {scope : Scope} {Q : Value → Shared → Prop} (names' gl' cn : List Str) (k : Nat) (P : Nat → Ledger → List Value → Prop)
    (V : EnvOk env names gl) (hck : compOk scope names' gl' cn = true) (hh : A.handled = none) (src : Src w H need I It n item) (hn : n ≤ 100000) (h0 : It 0 iob) (L : Led H h ((I, iob) :: (env.locals, fo) :: l)) (hP : P 0 [] []) (hneed : ∀ p ∈ need, p ∈ l) (hlen : ∀ j ex ys, P j ex ys → ys.length ≤ j)
    (turn : ∀ j v ex ys C co D dob iob h t, j < n → item j v → P j ex ys → EnvOk (compE scope env C) names' gl' → (compE scope env C).locals = C → (compE scope env C).frame = env.frame → Led H h ((C, co) :: (D, dob) :: (I, iob) :: (env.locals, fo) :: (ex ++ l)) → Loc co names' (setV [] k v) →
      Tests w A ifs (compE scope env C) (fun ok s => if ok = true then Wp w A (eval elt (compE scope env C)) (fun y s => ∃ h t ex', s = ⟨h, g, d, t, os⟩ ∧ Led H h ((C, co) :: (D, dob) :: (I, iob) :: (env.locals, fo) :: (ex' ++ l)) ∧ P (j + 1) ex' (ys ++ [y])) (fun _ _ => False) s
        else ∃ h t, s = ⟨h, g, d, t, os⟩ ∧ Led H h ((C, co) :: (D, dob) :: (I, iob) :: (env.locals, fo) :: (ex ++ l)) ∧ P (j + 1) ex ys) ⟨h, g, d, t, os⟩)
    (done : ∀ h t D dob ex ys, Led H h ((env.locals, fo) :: (D, dob) :: (ex ++ l)) → LstO dob ys → dob.dict = none → P n ex ys → Q (.ref D) ⟨h, g, d, t, os⟩) (hx : names'[k]? = some x := by rfl) :
    Cb w A elt (.Name x px) iter ifs scope pos env none Q E (.ref I) ⟨h, g, d, t, os⟩ := by
  delta Cb
  refine cb_core (R := fun acc C => compPost (model pw w) A E none Q acc C) k P V hck hh src hn h0 L hP hneed hx hlen turn ?_
  intro h t C co D dob ex ys ⟨vals', m, hm, _⟩ L cD cDd hPn
  refine ⟨m, ns_of (L.here _ (.head _)) hm, fun h' hs' => ?_⟩
  exact done h' t D dob ex ys (L.ext hs'.extBut) cD cDd hPn
/-- a comprehension whose list is stored in a local name at once -/
theorem cb_run_loc {need : Ledger} {I : Addr} {It : Nat → Obj → Prop} {n : Nat} {item : Nat → Value → Prop} {elt iter : PySem.Expr} {ifs : List PySem.Expr} {scope : Scope} {Q : Value → Shared → Prop} (names' gl' cn : List Str) (k i : Nat) (P : Nat → Ledger → List Value → Prop)
    (V : EnvOk env names gl) (N : Loc fo names vals) (hck : compOk scope names' gl' cn = true) (hh : A.handled = none) (src : Src w H need I It n item) (hn : n ≤ 100000) (h0 : It 0 iob) (L : Led H h ((I, iob) :: (env.locals, fo) :: l)) (hP : P 0 [] []) (hneed : ∀ p ∈ need, p ∈ l) (hlen : ∀ j ex ys, P j ex ys → ys.length ≤ j)
    (turn : ∀ j v ex ys C co D dob iob h t, j < n → item j v → P j ex ys → EnvOk (compE scope env C) names' gl' → (compE scope env C).locals = C → (compE scope env C).frame = env.frame → Led H h ((C, co) :: (D, dob) :: (I, iob) :: (env.locals, fo) :: (ex ++ l)) → Loc co names' (setV [] k v) →
      Tests w A ifs (compE scope env C) (fun ok s => if ok = true then Wp w A (eval elt (compE scope env C)) (fun y s => ∃ h t ex', s = ⟨h, g, d, t, os⟩ ∧ Led H h ((C, co) :: (D, dob) :: (I, iob) :: (env.locals, fo) :: (ex' ++ l)) ∧ P (j + 1) ex' (ys ++ [y])) (fun _ _ => False) s
        else ∃ h t, s = ⟨h, g, d, t, os⟩ ∧ Led H h ((C, co) :: (D, dob) :: (I, iob) :: (env.locals, fo) :: (ex ++ l)) ∧ P (j + 1) ex ys) ⟨h, g, d, t, os⟩)
    (done : ∀ h t fo D dob ex ys, Led H h ((env.locals, fo) :: (D, dob) :: (ex ++ l)) → Loc fo names (setV vals i (.ref D)) → LstO dob ys → P n ex ys → Q .none ⟨h, g, d, t, os⟩) (hx : names'[k]? = some x := by rfl) (hy : names[i]? = some y := by rfl) :
    Cb w A elt (.Name x px) iter ifs scope pos env (some (assign (.Name y py) env)) Q E (.ref I) ⟨h, g, d, t, os⟩ := by
  delta Cb
  refine cb_core (R := fun acc C => compPost (model pw w) A E (some (assign (.Name y py) env)) Q acc C) k P V hck hh src hn h0 L hP hneed hx hlen turn ?_
  intro h t C co D dob ex ys ⟨vals', m, hm, _⟩ L cD cDd hPn
  have L' : Led H h ((env.locals, fo) :: (C, co) :: (D, dob) :: (ex ++ l)) := by simpa [Mine.re] using L.re 3 [1, 0, 2]
  have st := s_loc (w := w) (A := A) (E := fun _ _ => False) (g := g) (d := d) (t := t) (os := os) (x := y) (v := .ref D) (Q := fun _ s₂ => ∃ h t fo, s₂ = ⟨h, g, d, t, os⟩ ∧ Led H h ((env.locals, fo) :: (C, co) :: (D, dob) :: (ex ++ l)) ∧ Loc fo names (setV vals i (.ref D))) i V L' N (fun h t fo L N => ⟨h, t, fo, rfl, L, N⟩) hy
  show wpAny _ A (assign (.Name y py) env (.ref D)) _ _ _
  refine wpAny_assign_Name (wpAny_mono st.out (fun _ s z => ?_) fun _ _ z => z.elim)
  obtain ⟨h₂, t₂, fo₂, rfl, L2, N2⟩ := z
  refine ⟨m, ns_of (L2.here _ (.tail _ (.head _))) hm, fun h' hs' => ?_⟩
  have L3 : Led H h₂ ((C, co) :: (env.locals, fo₂) :: (D, dob) :: (ex ++ l)) := by simpa [Mine.re] using L2.re 3 [1, 0, 2]
  exact done h' t₂ fo₂ D dob ex ys (L3.ext hs'.extBut) N2 cD hPn
end
end Mine
namespace Mine
set_option maxRecDepth 100000
theorem Room.u {n : Nat} {A : Around} (R : Room n A) : A.handled = none := R.1
theorem i_eqs {w : World} {A : Around} {E : Value → Shared → Prop} {s : Shared} {x y : Str} {u v : Tok} {Q : Value → Shared → Prop} (b : Bool) (hb : (x == y) = b) (q : Q (.bool b) s) : Wp w A (compareOp .Eq (.str x u) (.str y v)) Q E s := by
  delta Wp at *; exact PyProof.Rows.eq_str (hb ▸ q)
theorem copied_int {w : World} {A : Around} {R : Result → Shared → Prop} {H h : Heap} {g : Array GenState} {d : Drawn} {t : Nat} {os : OsState} {l : Ledger} {p : Addr × Obj} {n : Int} {u : Tok}
    (G : Gd w H) (hA : Room 5 A) (L : Led H h (p :: l))
    (q : ∀ h' t', Led H h' (p :: l) → R (.ok (.ret (.int n u))) ⟨h', g, d, t', os⟩) :
    Cd w A (.call (.ref 315) ⟨[.int n u], []⟩) R ⟨h, g, d, t, os⟩ := by
  refine call_fn_c ["value"] ["kind"] ["value"] ["kind_of", "copied", "dict", "Stream"] [none] [some 0] [.int n u] G L hA.depth rfl (by kernel_rfl!) rfl (BindsTo.of_eq rfl) rfl (by decide +kernel) rfl ?_
  intro h t fo env cs V _ _ C L N
  obtain ⟨c, co, rfl, C, hv⟩ := cells_1 C
  replace hv : co.data = .cell (some (.int n u)) := hv
  refine calm ?_
  refine x_assign (e_call (e_glob 0 G V L (g_kind_of _) (cw_f G (by kernel_rfl!) (a_cons (e_cell 1 V C L hv (a_nil ⟨⟨_, L⟩, e_code ?_⟩))))))
  refine kind_int G (hA.deeper env).depth L fun h t tk L => ?_
  refine s_loc 0 V L N fun h t fo L N => ?_
  refine x_if (t_cmp (e_loc 0 V L N ?_))
  refine e_str fun _ _ => i_eqs false (by decide +kernel) (t_bool (if_ff (x_nil ?_)))
  refine x_if (t_cmp (e_loc 0 V L N ?_))
  refine e_str fun _ _ => i_eqs false (by decide +kernel) (t_bool (if_ff (x_nil ?_)))
  refine x_if (t_cmp (e_loc 0 V L N ?_))
  refine e_str fun _ _ => i_eqs false (by decide +kernel) (t_bool (if_ff (x_nil ?_)))
  refine x_ret (e_cell 1 V C L hv ?_)
  exact q h _ L.tail.tail
theorem copied_list {w : World} {A : Around} {R : Result → Shared → Prop} {H h : Heap} {g : Array GenState} {d : Drawn} {t : Nat} {os : OsState} {l : Ledger} {p : Addr × Obj} {a : Addr} {o : Obj} {xs : List Value} {i : Nat}
    (G : Gd w H) (hA : Room 7 A) (L : Led H h (p :: l)) (hi : (p :: l)[i]? = some (a, o)) (c : LstO o xs) (hx : ∀ v ∈ xs, ∃ n u, v = .int n u) (hz : xs.length ≤ 100)
    (q : ∀ h' t' D dob, Led H h' (p :: (D, dob) :: l) → LstO dob xs → R (.ok (.ret (.ref D))) ⟨h', g, d, t', os⟩) :
    Cd w A (.call (.ref 315) ⟨[.ref a], []⟩) R ⟨h, g, d, t, os⟩ := by
  refine call_fn_c ["value"] ["kind"] ["value"] ["kind_of", "copied", "dict", "Stream"] [none] [some 0] [.ref a] G L hA.depth rfl (by kernel_rfl!) rfl (BindsTo.of_eq rfl) rfl (by decide +kernel) rfl ?_
  intro h t fo env cs V _ _ C L N
  obtain ⟨c', co, rfl, C, hv⟩ := cells_1 C
  replace hv : co.data = .cell (some (.ref a)) := hv
  have hi' : ((env.locals, fo) :: (c', co) :: p :: l)[i + 2]? = some (a, o) := hi
  refine calm ?_
  refine x_assign (e_call (e_glob 0 G V L (g_kind_of _) (cw_f G (by kernel_rfl!) (a_cons (e_cell 1 V C L hv (a_nil ⟨⟨_, L⟩, e_code ?_⟩))))))
  refine kind_list G (hA.deeper env).depth L hi' c fun h t tk L => ?_
  refine s_loc 0 V L N fun h t fo L N => ?_
  have hi' : ((env.locals, fo) :: (c', co) :: p :: l)[i + 2]? = some (a, o) := hi
  refine x_if (t_cmp (e_loc 0 V L N ?_))
  refine e_str fun _ _ => i_eqs true (by decide +kernel) (t_bool (if_tt ?_))
  refine x_ret (e_comp ["part"] ["copied"] [] (by decide +kernel) (fun z hz => by cases hz) (e_cell 1 V C L hv ?_))
  refine it_list (i + 2) L hi' c fun I iob h L c0 src => ?_
  refine cb_run ["part"] ["copied"] [] 0 (fun j ex ys => ex = [] ∧ ys = xs.take j) V (by decide +kernel) hA.u src (by omega) c0 L ⟨rfl, rfl⟩ (fun p' hp' => ?_) (fun j ex ys e => by rw [e.2]; simp; omega) ?_ ?_
  · cases List.mem_singleton.mp hp'
    exact .tail _ (List.mem_of_getElem? hi)
  · intro j v ex ys C' co' D dob iob h t hj hv' hP V' eL eF L N'
    refine tests_nil ?_
    rw [if_pos rfl]
    obtain ⟨n, u, rfl⟩ := hx v (List.mem_of_getElem? hv')
    refine e_call (e_glob 0 G V' L (g_copied _) (cw_f G (by kernel_rfl!) (a_cons (e_loc 0 V' L N' (a_nil ⟨⟨_, L⟩, e_code ?_⟩)))))
    refine copied_int G ((hA.deeper env).mono (by decide)) L fun h t L => ?_
    exact ⟨h, t, ex, rfl, L, hP.1, by rw [hP.2, List.take_succ, hv']; rfl⟩
  · intro h t D dob ex ys L cD hP
    obtain ⟨rfl, hP⟩ := hP
    rw [List.take_length] at hP
    subst hP
    exact q h t D dob (by simpa [Mine.re] using L.re 4 [3, 1]) cD
end Mine
namespace Mine
set_option maxRecDepth 100000
section
variable {M : Model} {prog : Program} {w : World} {A : Around} {E : Value → Shared → Prop} {R : Result → Shared → Prop} {h : Heap} {g : Array GenState} {d : Drawn} {t : Nat} {os : OsState}
variable {nm q : Str} {C N : Addr} {bs bm bmB : List Value} {hdct : Bool} {sn : List Str} {sub : List Value} {ab : Bool} {col : Option Bool} {dd : Option Addr} {k0 k1 k2 k3 k5 : Option Value} {B newId initId : String}
theorem check_new_own (F : ExcBaseFacts B newId initId bmB) (hb : bm.contains (.type B) = true) {rest : List Value} {Q : Unit → Shared → Prop} (hC : h.get? C = some (excClassObj nm q C N bs bm hdct sn sub ab col dd k0 k1 k2 k3 k5 newId))
    (hq : Q () ⟨h, g, d, t, os⟩) : wpAny M A (checkBuiltinCall newId ⟨.ref C :: rest, []⟩) Q E ⟨h, g, d, t, os⟩ := by
  have hcont : (Value.ref C :: bm).contains (.type B) = true := by rw [List.contains_cons, hb, Bool.or_true]
  have hstar := F.noStar
  simp only [checkBuiltinCall, F.newKind, F.newSplit, F.newRow]
  repeat (first | refine wpAny_loadPart_at hC ?_ | (refine wpAny_isSubtype_exc hC ?_; rw [hcont]) | refine wpAny_staticBase_exc hC ?_ | refine wpAny_madeBy_exc hC ?_ | simp only [bne_self_eq_false, Bool.false_eq_true, if_false] | wp_step)
  exact hq
theorem exc_new_own (F : ExcBaseFacts B newId initId bmB) (hb : bm.contains (.type B) = true) (hbA : bm.contains (.type "AttributeError") = false) (hbN : bm.contains (.type "NameError") = false) {rest : List Value} (hC : h.get? C = some (excClassObj nm q C N bs bm hdct sn sub ab col dd k0 k1 k2 k3 k5 newId))
    (hq : R (.ok (.ret (.ref (h.objs.size + 1)))) ⟨(h.push { cls := .type "tuple", data := .seq rest.toArray }).push
      { cls := .ref C, data := .fields #[.ref h.objs.size, .none, .none, .none, .bool false, .none] }, g, d, t, os⟩) (hrest : rest.length ≤ sizeLine := by size_fits) :
    codeAny (model prog w) A (.builtin newId ⟨.ref C :: rest, []⟩) R ⟨h, g, d, t, os⟩ := by
  have hends := F.ends
  have hcB : (Value.ref C :: bm).contains (.type B) = true := by rw [List.contains_cons, hb, Bool.or_true]
  have hcA : (Value.ref C :: bm).contains (.type "AttributeError") = false := by rw [List.contains_cons, hbA]; rfl
  have hcN : (Value.ref C :: bm).contains (.type "NameError") = false := by rw [List.contains_cons, hbN]; rfl
  refine codeAny_builtinAt F.entry ?_
  unfold Builtin.«BaseException.__new__»
  refine PySem.wpAt_bind ?_
  show PySem.wpAt _ _ _ (stack >>= _) _ _ _
  refine PySem.wpAt_bind (PySem.wpAt_stack fun p below => PySem.wpAt_of_wpAny ?_)
  wp_walk
  refine PySem.wpAt_of_wpAny ?_
  rw [F.owner]
  repeat (first | with_reducible refine wpAny_madeHere_exc F.canon hC ?_ | with_reducible refine wpAny_loadPart_at hC ?_ | (with_reducible refine wpAny_isSubtype_exc hC ?_; first | rw [hcB] | rw [hcA] | rw [hcN]) | wp_step)
  show R _ _
  rw [Heap.size_push]
  exact hq
theorem type_call_own (F : ExcBaseFacts B newId initId bmB) (hb : bm.contains (.type B) = true) (hbA : bm.contains (.type "AttributeError") = false) (hbN : bm.contains (.type "NameError") = false) {rest : List Value} {fI : Addr} {oI : Obj} {Q : Fin → Shared → Prop}
    (hC : h.get? C = some (excClassObj nm q C N bs bm hdct sn sub ab col dd k0 k1 k2 k3 k5 newId)) (hi : ∀ h', (∀ b o, h.get? b = some o → h'.get? b = some o) → Looks (model prog w) h' (typeLookup (.ref C) "__init__") (some (.ref fI)))
    (hfI : h.get? fI = some oI) (hfc : oI.cls = .type "function")
    (hq : wpAny (model prog w) A (call (.ref fI) (.ref (h.objs.size + 1) :: rest)) (fun r s' => r = .none ∧ Q (.done (.ret (.ref (h.objs.size + 1)))) s') E ⟨(h.push { cls := .type "tuple", data := .seq rest.toArray }).push
      { cls := .ref C, data := .fields #[.ref h.objs.size, .none, .none, .none, .bool false, .none] }, g, d, t, os⟩) (hrest : rest.length ≤ sizeLine := by size_fits) :
    wpAny (model prog w) A (Builtin.«type.__call__» ⟨.ref C :: rest, []⟩) Q E ⟨h, g, d, t, os⟩ := by
  repeat (first | with_reducible refine wpAny_loadPart_at hC ?_ | with_reducible refine wpAny_madeBy_exc hC ?_ | wp_step)
  refine codeAny_call_builtin_code (Code.quiet_builtin _ F.quiet) (check_new_own F hb hC ?_)
  refine exc_new_own F hb hbA hbN hC ?_ hrest
  show wpAny _ _ _ _ _ _
  have hC₁ := Heap.get?_push_of_some { cls := .ref C, data := .fields #[.ref h.objs.size, .none, .none, .none, .bool false, .none] }
    (Heap.get?_push_of_some { cls := .type "tuple", data := .seq rest.toArray } hC)
  have hfI₁ := Heap.get?_push_of_some { cls := .ref C, data := .fields #[.ref h.objs.size, .none, .none, .none, .bool false, .none] }
    (Heap.get?_push_of_some { cls := .type "tuple", data := .seq rest.toArray } hfI)
  have hget : ((h.push { cls := .type "tuple", data := .seq rest.toArray }).push
      { cls := .ref C, data := .fields #[.ref h.objs.size, .none, .none, .none, .bool false, .none] }).get? (h.objs.size + 1) = some
      { cls := .ref C, data := .fields #[.ref h.objs.size, .none, .none, .none, .bool false, .none] } := by heap_get
  have hcC : (Value.ref C :: bm).contains (.ref C) = true := by simp
  unfold isInstance
  repeat (first | with_reducible refine wpAny_loadPart_at hget ?_ | (with_reducible refine wpAny_isSubtype_exc hC₁ ?_; rw [hcC]) | wp_step)
  show wpAny _ _ (typeLookup (.ref C) _) _ _ _
  refine (hi _ fun b o e => Heap.get?_push_of_some _ (Heap.get?_push_of_some _ e)).here ?_
  refine wpAny_holding (wpAny_bind ?_)
  unfold bindSpecial
  refine wpAny_bind (wpAny_typeOf (T := "function") ⟨_, hfI₁, hfc⟩ ?_)
  rw [if_pos (by decide)]
  refine wpAny_pure (wpAny_bind (wpAny_mono hq (fun r s' hr => ?_) fun _ _ x => x))
  obtain ⟨rfl, hQ⟩ := hr
  wp_walk
  exact hQ
theorem call_exc_own (F : ExcBaseFacts B newId initId bmB) (hb : bm.contains (.type B) = true) (hbA : bm.contains (.type "AttributeError") = false) (hbN : bm.contains (.type "NameError") = false) {rest : List Value} {fI : Addr} {oI : Obj} {Q : Value → Shared → Prop}
    (hC : h.get? C = some (excClassObj nm q C N bs bm hdct sn sub ab col dd k0 k1 k2 k3 k5 newId)) (hi : ∀ h', (∀ b o, h.get? b = some o → h'.get? b = some o) → Looks (model prog w) h' (typeLookup (.ref C) "__init__") (some (.ref fI)))
    (hfI : h.get? fI = some oI) (hfc : oI.cls = .type "function")
    (hq : wpAny (model prog w) (A.under (.builtin "type.__call__" ⟨.ref C :: rest, []⟩)) (call (.ref fI) (.ref (h.objs.size + 1) :: rest)) (fun r s' => r = .none ∧ Q (.ref (h.objs.size + 1)) s') E ⟨(h.push { cls := .type "tuple", data := .seq rest.toArray }).push
      { cls := .ref C, data := .fields #[.ref h.objs.size, .none, .none, .none, .bool false, .none] }, g, d, t, os⟩) (hrest : rest.length ≤ sizeLine := by size_fits) :
    wpAny (model prog w) A (call (.ref C) rest) Q E ⟨h, g, d, t, os⟩ := by
  have f1 := tc_lookup
  have f2 := tc_bind (.ref C)
  have hT : (⟨h, g, d, t, os⟩ : Shared).TypeIs (.ref C) "type" := ⟨_, hC, rfl⟩
  refine wpAny_call (codeAny_of_tree ?_)
  show wpAny _ _ (callAny (.ref C) _) _ _ _
  repeat (any_goals (first | assumption | with_reducible refine wpAny_loadPart_at hC ?_ | wp_step))
  refine ⟨rfl, ?_⟩
  exact codeAny_call_builtin_at (Code.quiet_builtin _ (by decide +kernel)) entry_typeCall (wpAny_check_type_call_sub hC (type_call_own (hrest := hrest) F hb hbA hbN hC hi hfI hfc hq))
end
end Mine
namespace Mine
set_option maxRecDepth 100000
theorem check_init_own {M : Model} {A : Around} {E : Value → Shared → Prop} {h : Heap} {g : Array GenState} {d : Drawn} {t : Nat} {os : OsState} {nm q : Str} {C N : Addr} {bs bm bmB : List Value} {hdct : Bool} {sn : List Str} {sub : List Value} {ab : Bool} {col : Option Bool} {dd : Option Addr} {k0 k1 k2 k3 k5 : Option Value} {B newId nid initId : String}
    (F : ExcBaseFacts B nid initId bmB) (hb : bm.contains (.type B) = true) {e : Addr} {oe : Obj} {rest : List Value} {Q : Unit → Shared → Prop}
    (hC : h.get? C = some (excClassObj nm q C N bs bm hdct sn sub ab col dd k0 k1 k2 k3 k5 newId)) (he : h.get? e = some oe) (hcls : oe.cls = .ref C) (hq : Q () ⟨h, g, d, t, os⟩) :
    wpAny M A (checkBuiltinCall initId ⟨.ref e :: rest, []⟩) Q E ⟨h, g, d, t, os⟩ := by
  have hcB : (Value.ref C :: bm).contains (.type B) = true := by rw [List.contains_cons, hb, Bool.or_true]
  have hshort := F.noStar
  simp only [checkBuiltinCall, F.initKind, F.initSplit, F.initRow]
  repeat (first | (with_reducible refine wpAny_loadPart_at he ?_; rw [hcls]) | with_reducible refine wpAny_loadPart_at hC ?_ | (with_reducible refine wpAny_isSubtype_exc hC ?_; rw [hcB]) | wp_step)
  refine wpAny_onRaise ?_
  rw [show ∀ (a b : String) (n : Nat), Bind.check ⟨.positional, "*", B, .self, [⟨"args", .varPos, false⟩]⟩ a b n (List.map (fun x => x.fst) ({ pos := Value.ref e :: rest } : Args).kw) = pure () from
    fun a b n => check_star_args _ _ _ _ _ _]
  exact wpAny_pure hq
/-- an object of DraftFault -/
abbrev excO (dx : Option Addr) (a0 : Addr) : Obj := { cls := .ref 92, dict := dx, data := .fields #[.ref a0, .none, .none, .none, .bool false, .none] }
abbrev excMro : List Value := [.ref 79, .type "Exception", .type "BaseException", .type "object"]
section
variable {w : World} {A : Around} {E : Value → Shared → Prop} {R : Result → Shared → Prop} {H h : Heap} {g : Array GenState} {d : Drawn} {t : Nat} {os : OsState} {l : Ledger} {e a0 dx : Addr} {v : Value} {p : Addr × Obj} {name : Str} {tk : Tok}
/-- DraftFault(what): the object is made, __init__ of the parent class is called -/
theorem c_exc {ps : List Value} {Q : Value → Shared → Prop} (G : Gd w H) (L : Led H h (p :: l)) (hps : ps.length ≤ 100)
    (q : ∀ e a0 h', Led H h' (p :: (e, excO none a0) :: l) →
      Cd w (A.under (.builtin "type.__call__" ⟨.ref 92 :: ps, []⟩)) (.call (.ref 69) ⟨.ref e :: ps, []⟩) (InitBack e fun r s' => match r with | .ok (.ret v) => Q v s' | .ok _ => False | .error e => E e s') ⟨h', g, d, t, os⟩) :
    Wp w A (call (.ref 92) ps) Q E ⟨h, g, d, t, os⟩ := by
  delta Wp Cd at *
  have X := L.k G
  have hC : (K w.params).lookup 92 = some (excClassObj "DraftFault" "DraftFault" 92 91 [.ref 79] excMro true [] [] false none none _ _ _ _ _ "Exception.__new__") := rfl
  have hF : (K w.params).lookup 69 = some _ := rfl
  have L2 := (L.push { cls := .type "tuple", data := .seq ps.toArray }).push (excO none h.objs.size)
  refine call_exc_own PySem.F.excBase_Exception (bm := excMro) (by decide +kernel) (by decide +kernel) (by decide +kernel) (X _ _ hC) (fun h' k => looks_findIn (X.keeps k) (by kernel_rfl!)) (fI := 69) (X _ _ hF) rfl ?_ (by rw [sizeLine_eq]; omega)
  have z := q _ h.objs.size _ (by
    have := L2.re 3 [2, 0]
    simpa [Mine.re, Heap.size_push] using this)
  refine wpAny_call (codeAny_mono z fun r s' z => ?_)
  rcases r with e | (v | _ | _ | _) <;> first | exact z | exact z.elim
/-- Exception.__init__(self, what) -/
theorem exc_base_init {ps : List Value} {Q : Value → Shared → Prop} (G : Gd w H) {dx? : Option Addr} (i : Nat) (L : Led H h l) (hi : l[i]? = some (e, excO dx? a0)) (hps : ps.length ≤ 100)
    (q : ∀ a1 h' t', Led H h' (l.set i (e, excO dx? a1)) → Q .none ⟨h', g, d, t', os⟩) :
    Wp w A (call (.builtin "Exception.__init__") (.ref e :: ps)) Q E ⟨h, g, d, t, os⟩ := by
  delta Wp at *
  have X := L.k G
  have hC : (K w.params).lookup 92 = some (excClassObj "DraftFault" "DraftFault" 92 91 [.ref 79] excMro true [] [] false none none _ _ _ _ _ "Exception.__new__") := rfl
  have he := L.get hi
  have F := PySem.F.excBase_Exception
  have hC' := X _ _ hC
  refine wpAny_call (codeAny_call_builtin F.init.plain F.initEntry (check_init_own F (bm := excMro) (by decide +kernel) hC' he rfl ?_))
  have he₁ := Heap.get?_push_of_some (h := h) { cls := .type "tuple", data := .seq ps.toArray } he
  have hne : h.objs.size ≠ e := Nat.ne_of_gt (Heap.lt_size he)
  wp_walk
  rw [if_neg (by rw [List.size_toArray, sizeLine_eq]; omega)]
  wp_walk
  refine q h.objs.size _ _ ((L.push { cls := .type "tuple", data := .seq ps.toArray }).tail.setAt hi (Heap.SameBut.update ..) ?_)
  exact Heap.get?_update_self _ he₁ rfl
theorem refuse_exc (self : Value) : refuseLoop self "__setattr__" (.ref 92 :: excMro) = pure () := by
  rw [refuseLoop_ref, refuseLoop_ref]; exact PySem.F.store_Exception.passes self
theorem osa_exc {s : Shared} {x : Addr} {ox : Obj} {od : Option Obj} (X : (K w.params).In s.heap) (I : InstAt s.heap x ox 92 od) (ht : takerIn (K w.params) 92 name = some none)
    (q : ∀ b, wpAny (model pw w) A.in1 (Builtin.ObjectAttr.storeInOwnDict (.ref x) (.ref 92) (.str name tk) name v b)
      (fun fin s' => match fin with | .done f => R (.ok f) s' | .again c' => c'.quiet = true ∧ codeAny (model pw w) A c' R s') (fun e s' => R (.error e) s') s) :
    codeAny (model pw w) A (.call (.builtin "object.__setattr__") ⟨[.ref x, .str name tk, v], []⟩) R s := by
  have SF := PySem.F.store_object
  have sub : Looks (model pw w) s.heap (isInstance (.ref x) (.type "object")) true := I.type.andThen (looks_mroIn X (by kernel_rfl!))
  refine codeAny_call_builtin SF.slot.plain SF.entry (@check_slot (model pw w) _ _ s "object.__setattr__" "object" "__setattr__" (.ref x) [.str name tk, v] [] _ SF.kind SF.split sub (SF.args (.ref x) (.str name tk) v) ?_)
  obtain ⟨attr, ha, hr⟩ := Option.bind_eq_some_iff.mp ht
  have hc : clsIn (K w.params) 92 = some _ := rfl
  have hm : Looks (model pw w) s.heap (mroOf (.ref 92)) (.ref 92 :: excMro) := (looks_clsIn X hc).andThen .now
  have L3 : Looks (model pw w) s.heap (Builtin.ObjectAttr.storeTaker? attr) none := by
    cases attr with
    | none => exact .now
    | some a =>
      obtain ⟨b, hb, e⟩ := Option.map_eq_some_iff.mp hr
      refine (looks_takesIn X hb).andThen ?_
      cases b
      · exact .now
      · cases e
  rw [osa_eq, refuse_eq]
  refine wpAny_bind (wpAny_bind (I.type.here (wpAny_bind (hm.here ?_))))
  rw [refuse_exc]
  refine wpAny_pure (wpAny_bind (I.type.here (wpAny_bind ((looks_findIn X ha).here (wpAny_bind (L3.here ?_))))))
  exact q _
/-- e.name = v, the first attribute: the object gets its dict -/
theorem exc_set1 {Q : Unit → Shared → Prop} (G : Gd w H) (i : Nat) (L : Led H h l) (hi : l[i]? = some (e, excO none a0)) (ht : takerIn (K w.params) 92 name = some none)
    (q : ∀ D od h' t' m, Led H h' ((D, od) :: l.set i (e, excO (some D) a0)) → h'.Ns1 D m → Within m [name] → Q () ⟨h', g, d, t', os⟩) :
    Wp w A (setAttr (.ref e) name v) Q E ⟨h, g, d, t, os⟩ := by
  delta Wp at *
  have X := L.k G
  have he := L.get hi
  refine set_plain (s := ⟨h, g, d, t, os⟩) X (ox := excO none a0) (od := none) ⟨he, rfl, rfl, trivial⟩ (by kernel_rfl!) ?_
  refine osa_exc (s := ⟨h, g, d, t + 1, os⟩) X (ox := excO none a0) (od := none) ⟨he, rfl, rfl, trivial⟩ ht fun b => ?_
  have hc : clsIn (K w.params) 92 = some _ := rfl
  refine wpAny_bind (wpAny_pure (wpAny_bind (wpAny_bind (wpAny_loadPart he (wpAny_bind ((looks_clsIn X hc).here ?_))))))
  have he₁ := Heap.get?_push_of_some (h := h) { cls := .type "dict", data := .dict #[] } he
  rw [if_neg (by decide)]
  dsimp only
  rw [if_neg (by simp [typeHasDict])]
  have hes : e ≠ h.objs.size := Nat.ne_of_lt (Heap.lt_size he)
  refine wpAny_bind (wpAny_alloc' ?_)
  refine wpAny_bind (wpAny_update' he₁ ?_)
  refine wpAny_pure ?_
  have hx := Heap.get?_update_self (fun o : Obj => { cls := o.cls, dict := some h.objs.size, data := o.data, slots := o.slots }) he₁ rfl
  have hgd : ((h.push { cls := .type "dict", data := .dict #[] }).update e fun o => { cls := o.cls, dict := some h.objs.size, data := o.data, slots := o.slots }).get? h.objs.size = some { cls := .type "dict", data := .dict #[] } :=
    (Heap.get?_update_ne _ _ _ _ hes.symm).trans (Heap.get?_push_at rfl rfl)
  have hnd : ((h.push { cls := .type "dict", data := .dict #[] }).update e fun o => { cls := o.cls, dict := some h.objs.size, data := o.data, slots := o.slots }).Ns h.objs.size (fun _ => none) :=
    ⟨_, #[], _, hgd, rfl, fun e he => absurd he (by simp), fun _ => rfl⟩
  have L2 := (L.push { cls := .type "dict", data := .dict #[] }).setAt (i := i + 1) hi (Heap.SameBut.update ..) hx
  show wpAny _ _ (Builtin.ObjectAttr.storeInDict h.objs.size (.str name _) name v) _ _ _
  unfold Builtin.ObjectAttr.storeInDict Builtin.ObjectAttr.newKeyGuard
  refine wpAny_bind (wpAny_pure (wpAny_bind (wpAny_nsSet1 (Heap.Ns1.of_empty hnd) fun h' hn' hs => ?_)))
  obtain ⟨oD, esD, epD, hoD, hdD, hcD⟩ := hn'.count (Within.cons name v Within.nil)
  refine wpAny_bind (wpAny_lookBehind hoD (by rw [hdD]; exact pastItsLine_dict (Nat.le_trans hcD (by rw [List.length_cons, List.length_nil, sizeLine_eq]; omega))) ?_)
  wp_walk
  exact q h.objs.size oD h' _ _ (L2.set0 hs hoD) hn' (Within.cons name v Within.nil)
/-- e.name = v, the object has its dict -/
theorem exc_set2 {Q : Unit → Shared → Prop} {od : Obj} {m : Str → Option Value} {ns : List Str} (G : Gd w H) (i j : Nat) (L : Led H h l) (hi : l[i]? = some (e, excO (some dx) a0)) (hj : l[j]? = some (dx, od)) (hm : h.Ns1 dx m) (hw : Within m ns) (hsz : ns.length ≤ 1000) (ht : takerIn (K w.params) 92 name = some none)
    (q : ∀ od' h' t', Led H h' (l.set j (dx, od')) → Q () ⟨h', g, d, t', os⟩) :
    Wp w A (setAttr (.ref e) name v) Q E ⟨h, g, d, t, os⟩ := by
  delta Wp at *
  have X := L.k G
  have he := L.get hi
  refine set_plain (s := ⟨h, g, d, t, os⟩) X (ox := excO (some dx) a0) (od := some od) ⟨he, rfl, rfl, L.get hj⟩ (by kernel_rfl!) ?_
  refine osa_exc (s := ⟨h, g, d, t + 1, os⟩) X (ox := excO (some dx) a0) (od := some od) ⟨he, rfl, rfl, L.get hj⟩ ht fun b => ?_
  have hc : clsIn (K w.params) 92 = some _ := rfl
  refine wpAny_bind (wpAny_pure (wpAny_bind (wpAny_bind (wpAny_loadPart he (wpAny_bind ((looks_clsIn X hc).here ?_))))))
  rw [if_neg (by decide)]
  dsimp only
  refine wpAny_pure ?_
  show wpAny _ _ (Builtin.ObjectAttr.storeInDict dx (.str name _) name v) _ _ _
  unfold Builtin.ObjectAttr.storeInDict Builtin.ObjectAttr.newKeyGuard
  refine wpAny_bind (wpAny_pure (wpAny_bind (wpAny_nsSet1 hm fun h' hn' hs => ?_)))
  obtain ⟨oD, esD, epD, hoD, hdD, hcD⟩ := hn'.count (Within.cons name v hw)
  refine wpAny_bind (wpAny_lookBehind hoD (by rw [hdD]; exact pastItsLine_dict (Nat.le_trans hcD (by rw [List.length_cons, sizeLine_eq]; omega))) ?_)
  wp_walk
  exact q oD h' _ (L.setAt hj hs hoD)
end
end Mine
namespace Mine
set_option maxRecDepth 100000
theorem m_excinit {w : World} {A : Around} {E : Value → Shared → Prop} {H h : Heap} {g : Array GenState} {d : Drawn} {t : Nat} {os : OsState} {l : Ledger} {Lf : Addr} {fo : Obj} {names : List Str} {vals : List (Option Value)} {pl : Sem Bool} {Q : Value × List Value → Shared → Prop}
    (G : Gd w H) (L : Led H h ((Lf, fo) :: l)) (N : Loc fo names vals) (q : ∀ t', Q (.builtin "Exception.__init__", []) ⟨h, g, d, t', os⟩) : Wp w A (getMethod (.type "Exception") "__init__" pl) Q E ⟨h, g, d, t, os⟩ := by
  obtain ⟨m, n, _⟩ := N
  delta Wp
  exact method_type (s := ⟨h, g, d, t, os⟩) (L.fr n) G.K (by kernel_rfl!) (by decide +kernel) (by kernel_rfl!) rfl (q _)
theorem paper_init {w : World} {A : Around} {R : Result → Shared → Prop} {H h : Heap} {g : Array GenState} {d : Drawn} {t : Nat} {os : OsState} {l : Ledger} {p : Addr × Obj} {e a0 : Addr} {what : Str} {u : Tok}
    (G : Gd w H) (hA : Room 3 A) (L : Led H h (p :: (e, excO none a0) :: l))
    (q : ∀ h' t' D a1, Led H h' (p :: (e, excO (some D) a1) :: l) → R (.ok (.ret .none)) ⟨h', g, d, t', os⟩) :
    Cd w A (.call (.ref 69) ⟨[.ref e, .str what u], []⟩) R ⟨h, g, d, t, os⟩ := by
  have hT : (K w.params).lookup 62 = some _ := rfl
  refine call_fn ["self", "what", "at"] ["Exception"] [.ref e, .str what u, .int (-1) 259] 3 G L hA.depth rfl (by kernel_rfl!) rfl (BindsTo.of_defaults rfl (L.k G _ _ hT) rfl rfl rfl) (by decide +kernel) rfl ?_
  intro h t fo env V _ L N
  refine calm ?_
  refine x_expr (e_mcall (e_blt 0 G V L (b_Exception _) ?_)) V
  refine m_excinit G L N fun t => ?_
  refine cw_b rfl (a_cons (e_loc 0 V L N (a_cons (e_loc 1 V L N (a_nil ?_)))))
  refine exc_base_init G 2 L rfl (Nat.le_of_ble_eq_true rfl) fun a1 h t L => ?_
  refine x_setattr (e_loc 1 V L N (e_loc 0 V L N ?_))
  refine exc_set1 G 2 L rfl (by kernel_rfl!) fun D od h t m L hm hw => ?_
  have L' := L.re 4 [1, 2, 3, 0]
  replace L' : Led H h ((env.locals, fo) :: p :: (e, excO (some D) a1) :: (D, od) :: l) := L'
  refine x_setattr (e_loc 2 V L' N (e_loc 0 V L' N ?_))
  refine exc_set2 G 2 3 L' rfl rfl hm hw (by simp) (by kernel_rfl!) fun od h t L => ?_
  refine x_end ?_
  exact q h t D a1 (L.re 4 [1, 2])
end Mine
namespace Mine
set_option maxRecDepth 100000
/-- the frames of the stack, each with its own entry -/
def FrsOk : List Env → Ledger → Prop
  | [], [] => True
  | env :: es, p :: ps => (env.frame = some p.1 ∧ env.scope.kind = .function ∧ ∃ xs ep, p.2.data = .dict xs ep) ∧ FrsOk es ps
  | _, _ => False
def SameData : Ledger → Ledger → Prop
  | [], [] => True
  | p :: ps, q :: qs => (q.1 = p.1 ∧ q.2.data = p.2.data) ∧ SameData ps qs
  | _, _ => False
theorem SameData.refl : ∀ fl : Ledger, SameData fl fl
  | [] => trivial
  | _ :: ps => ⟨⟨rfl, rfl⟩, SameData.refl ps⟩
theorem SameData.trans {a b c : Ledger} (x : SameData a b) (y : SameData b c) : SameData a c := by
  induction a generalizing b c with
  | nil => cases b with
    | nil => exact y
    | cons _ _ => exact x.elim
  | cons p ps ih => cases b with
    | nil => exact x.elim
    | cons q qs => cases c with
      | nil => exact y.elim
      | cons r rs => exact ⟨⟨y.1.1.trans x.1.1, y.1.2.trans x.1.2⟩, ih x.2 y.2⟩
theorem FrsOk.same {es : List Env} {fl fl' : Ledger} (x : FrsOk es fl) (y : SameData fl fl') : FrsOk es fl' := by
  induction es generalizing fl fl' with
  | nil => cases fl with
    | nil => cases fl' with
      | nil => trivial
      | cons _ _ => exact y.elim
    | cons _ _ => exact x.elim
  | cons env es ih => cases fl with
    | nil => exact x.elim
    | cons p ps => cases fl' with
      | nil => exact y.elim
      | cons q qs =>
        obtain ⟨⟨x1, x2, xs, ep, x3⟩, x4⟩ := x
        exact ⟨⟨by rw [y.1.1]; exact x1, x2, xs, ep, by rw [y.1.2]; exact x3⟩, ih x4 y.2⟩
theorem SameData.keys {a b : Ledger} (x : SameData a b) : b.map (·.1) = a.map (·.1) := by
  induction a generalizing b with
  | nil => cases b with
    | nil => rfl
    | cons _ _ => exact x.elim
  | cons p ps ih => cases b with
    | nil => exact x.elim
    | cons q qs => rw [List.map_cons, List.map_cons, ih x.2, x.1.1]
theorem Loc.same {o o' : Obj} {names : List Str} {vals : List (Option Value)} (N : Loc o names vals) (e : o'.data = o.data) : Loc o' names vals := by
  obtain ⟨m, ⟨es, ep, hd, r⟩, hm⟩ := N
  exact ⟨m, ⟨es, ep, e.trans hd, r⟩, hm⟩
theorem Loc.dict {o : Obj} {names : List Str} {vals : List (Option Value)} (N : Loc o names vals) : ∃ es ep, o.data = .dict es ep := by
  obtain ⟨m, ⟨es, ep, hd, _⟩, _⟩ := N
  exact ⟨es, ep, hd⟩
theorem same_build {h' : Heap} : ∀ fl : Ledger, (∀ p ∈ fl, ∃ sl, h'.get? p.1 = some { p.2 with slots := sl }) → ∃ fl', SameData fl fl' ∧ ∀ p ∈ fl', h'.get? p.1 = some p.2
  | [], _ => ⟨[], trivial, fun _ h => by cases h⟩
  | p :: ps, k => by
    obtain ⟨fl', s, r⟩ := same_build ps (fun q hq => k q (.tail _ hq))
    obtain ⟨sl, e⟩ := k p (.head _)
    refine ⟨(p.1, { p.2 with slots := sl }) :: fl', ⟨⟨rfl, rfl⟩, s⟩, fun q hq => ?_⟩
    rcases List.mem_cons.mp hq with rfl | hq
    · exact e
    · exact r q hq
theorem frs_fun {h base : Heap} : ∀ {es : List Env} {fl : Ledger}, FrsOk es fl → (∀ p ∈ fl, h.get? p.1 = some p.2 ∧ base.get? p.1 = none) → h.FunFrames base es
  | [], [], _, _ => trivial
  | env :: es, p :: ps, ⟨⟨x1, x2, xs, ep, x3⟩, x4⟩, k => ⟨by rw [x2]; decide, ⟨p.1, p.2, x1, (k p (.head _)).2, (k p (.head _)).1, fun vs q => by rw [x3] at q; cases q⟩, frs_fun x4 fun q hq => k q (.tail _ hq)⟩
  | [], _ :: _, x, _ => x.elim
  | _ :: _, [], x, _ => x.elim
theorem frs_data : ∀ {es : List Env} {fl : Ledger}, FrsOk es fl → ∀ p ∈ fl, ∀ vs, p.2.data ≠ .fields vs
  | [], [], _, p, hp => by cases hp
  | env :: es, q :: ps, ⟨⟨_, _, xs, ep, x3⟩, x4⟩, p, hp => by
    intro vs e
    rcases List.mem_cons.mp hp with rfl | hp
    · rw [x3] at e; cases e
    · exact frs_data x4 p hp vs e
  | [], _ :: _, x, _, _ => x.elim
  | _ :: _, [], x, _, _ => x.elim
/-- an object of DraftFault is on its way, l still stands as it was -/
def Fly (H : Heap) (l : Ledger) (outer : List Env) (e : Addr) (h : Heap) : Prop :=
  ∃ base a0, Heap.FlyingW base outer e (.ref 92) a0 h ∧ (∀ b o, H.get? b = some o → base.get? b = some o) ∧ ∀ p ∈ l, base.get? p.1 = some p.2
section
variable {w : World} {A : Around} {E : Value → Shared → Prop} {H h : Heap} {g : Array GenState} {d : Drawn} {t : Nat} {os : OsState} {env : Env} {outer : List Env} {l fl : Ledger} {fo : Obj} {e a0 Lf : Addr} {dx? : Option Addr} {names gl : List Str} {vals : List (Option Value)}
theorem slots_size {h h' : Heap} {a : Addr} {o : Obj} (hk : ∀ b o, h.get? b = some o → (∀ vs, o.data ≠ .fields vs) → ∃ sl, h'.get? b = some { o with slots := sl }) (ha : h.get? a = some o) (hd : ∀ vs, o.data ≠ .fields vs) : a < h'.objs.size := by
  obtain ⟨sl, e⟩ := hk a o ha hd
  exact Heap.lt_size e
theorem leave_first {Q : Unit → Shared → Prop} (hA : A.frames = some outer) (F : FrsOk outer fl) (hf : env.frame = some env.locals) (V : EnvOk env names gl) (N : Loc fo names vals)
    (L : Led H h ((env.locals, fo) :: (e, excO dx? a0) :: (l ++ fl)))
    (q : ∀ h' fl', SameData fl fl' → Led H h' (l ++ fl') → Fly H l outer e h' → Q () ⟨h', g, d, t, os⟩) : Wp w (A.deeper env) (leaving env (.ref e)) Q E ⟨h, g, d, t, os⟩ := by
  delta Wp
  have F' : FrsOk (env :: outer) ((env.locals, fo) :: fl) := ⟨⟨hf, V.kind, N.dict⟩, F⟩
  have nd := L.nodup
  simp only [List.map_cons, List.nodup_cons, List.map_append, List.mem_cons, List.mem_append, not_or] at nd
  obtain ⟨⟨n1, n2, n3⟩, ⟨n4, n5⟩, n6⟩ := nd
  obtain ⟨n7, n8, n9⟩ := List.nodup_append.mp n6
  have hid : ∀ b o, h.get? b = some o → b ≠ e → b ≠ env.locals → b ∉ fl.map (·.1) → (hideAll h (e :: env.locals :: fl.map (·.1))).get? b = some o := fun b o x y1 y2 y3 =>
    hideAll_get _ x (fun hm => by
      rcases List.mem_cons.mp hm with r | hm
      · exact y1 r
      rcases List.mem_cons.mp hm with r | hm
      · exact y2 r
      · exact y3 hm)
  have hbase : ∀ b o, H.get? b = some o → (hideAll h (e :: env.locals :: fl.map (·.1))).get? b = some o := fun b o x => by
    have fr : ∀ p ∈ (env.locals, fo) :: (e, excO dx? a0) :: (l ++ fl), b ≠ p.1 := fun p hp r => by
      have := L.fresh hp; rw [← r, x] at this; cases this
    refine hid b o (L.base b o x) (fr _ (.tail _ (.head _))) (fr _ (.head _)) fun hm => ?_
    obtain ⟨p, hp, r⟩ := List.mem_map.mp hm
    exact fr p (.tail _ (.tail _ (List.mem_append_right _ hp))) r.symm
  have hl : ∀ p ∈ l, (hideAll h (e :: env.locals :: fl.map (·.1))).get? p.1 = some p.2 := fun p hp => by
    have hm := List.mem_map_of_mem (f := (·.1)) hp
    refine hid _ _ (L.here p (.tail _ (.tail _ (List.mem_append_left _ hp)))) (fun r => n4 (r ▸ hm)) (fun r => n2 (r ▸ hm)) fun hx => n9 _ hm _ hx rfl
  have hfun : h.FunFrames (hideAll h (e :: env.locals :: fl.map (·.1))) (env :: outer) := frs_fun F' fun p hp => by
    rcases List.mem_cons.mp hp with rfl | hp
    · exact ⟨L.here _ (.head _), hideAll_none _ (.tail _ (.head _))⟩
    · exact ⟨L.here _ (.tail _ (.tail _ (List.mem_append_right _ hp))), hideAll_none _ (.tail _ (.tail _ (List.mem_map_of_mem hp)))⟩
  refine wpAny_leaving_firstW (a0 := .ref a0) (Around.frames_deeper hA) hfun hf (L.here (e, excO dx? a0) (.tail _ (.head _))) (fun b o x => of_hideAll _ x) (hideAll_none _ (.head _)) rfl rfl rfl fun h' z => ?_
  obtain ⟨k1, k2, k3, k4⟩ := z
  obtain ⟨fl', S, r⟩ := same_build (h' := h') fl fun p hp => k4 _ _ (L.here p (.tail _ (.tail _ (List.mem_append_right _ hp)))) (frs_data F p hp)
  have hsz : env.locals < h'.objs.size := slots_size k4 (L.here (env.locals, fo) (.head _)) (frs_data F' (env.locals, fo) (.head _))
  refine q h' fl' S ⟨fun b o x => k1 b o (hbase b o x), Nat.le_trans (L.new (env.locals, fo) (.head _)) (Nat.le_of_lt hsz), fun p hp => ?_, fun p hp => ?_, ?_⟩ ⟨_, .ref a0, ⟨k1, hideAll_none _ (.head _), k2.2.2, k3⟩, hbase, hl⟩
  · rcases List.mem_append.mp hp with hp | hp
    · exact k1 _ _ (hl p hp)
    · exact r p hp
  · have : p.1 ∈ (l ++ fl').map (·.1) := List.mem_map_of_mem hp
    rw [List.map_append, S.keys, ← List.map_append] at this
    obtain ⟨q, hq, e⟩ := List.mem_map.mp this
    rw [← e]; exact L.tail.tail.new q hq
  · rw [List.map_append, S.keys, ← List.map_append]; exact L.tail.tail.nodup
theorem leave_next {Q : Unit → Shared → Prop} (hA : A.frames = some outer) (F : FrsOk outer fl) (hf : env.frame = some env.locals) (V : EnvOk env names gl) (hd : ∃ es ep, fo.data = .dict es ep)
    (L : Led H h (l ++ (env.locals, fo) :: fl)) (Y : Fly H l (env :: outer) e h)
    (q : ∀ h' fl', SameData fl fl' → Led H h' (l ++ fl') → Fly H l outer e h' → Q () ⟨h', g, d, t, os⟩) : Wp w (A.deeper env) (leaving env (.ref e)) Q E ⟨h, g, d, t, os⟩ := by
  delta Wp
  obtain ⟨base, a0, X, hb, hl⟩ := Y
  have F' : FrsOk (env :: outer) ((env.locals, fo) :: fl) := ⟨⟨hf, V.kind, hd⟩, F⟩
  refine wpAny_leaves_onW (Around.frames_deeper hA) hf X fun h' X' k4 => ?_
  obtain ⟨fl', S, r⟩ := same_build (h' := h') fl fun p hp => k4 _ _ (L.here p (List.mem_append_right _ (.tail _ hp))) (frs_data F p hp)
  have hsz : env.locals < h'.objs.size := slots_size k4 (L.here (env.locals, fo) (List.mem_append_right _ (.head _))) (frs_data F' (env.locals, fo) (.head _))
  have L2 : Led H h (l ++ fl) := L.sub (List.Sublist.append (.refl _) (.cons _ (.refl _)))
  refine q h' fl' S ⟨fun b o x => X'.1 b o (hb b o x), Nat.le_trans (L.new (env.locals, fo) (List.mem_append_right _ (.head _))) (Nat.le_of_lt hsz), fun p hp => ?_, fun p hp => ?_, ?_⟩ ⟨base, a0, X', hb, hl⟩
  · rcases List.mem_append.mp hp with hp | hp
    · exact X'.1 _ _ (hl p hp)
    · exact r p hp
  · have : p.1 ∈ (l ++ fl').map (·.1) := List.mem_map_of_mem hp
    rw [List.map_append, S.keys, ← List.map_append] at this
    obtain ⟨q, hq, e⟩ := List.mem_map.mp this
    rw [← e]; exact L2.new q hq
  · rw [List.map_append, S.keys, ← List.map_append]; exact L2.nodup
end
end Mine
namespace Mine
set_option maxRecDepth 100000
section
variable {w : World} {A : Around} {E : Value → Shared → Prop} {H h : Heap} {g : Array GenState} {d : Drawn} {t : Nat} {os : OsState} {env : Env} {outer : List Env} {l fl : Ledger} {fo : Obj} {e a0 Lf : Addr} {dx? : Option Addr} {names gl : List Str} {vals : List (Option Value)}
/-- what moves only frames -/
theorem fly_moves {h' : Heap} (F' : FrsOk (env :: outer) ((env.locals, fo) :: fl)) (L : Led H h (l ++ (env.locals, fo) :: fl)) {base : Heap} (hb : ∀ b o, H.get? b = some o → base.get? b = some o) (hl : ∀ p ∈ l, base.get? p.1 = some p.2) (k : base.StaysIn h')
    (k4 : h.UpToSlots h') : ∃ fo' fl', fo'.data = fo.data ∧ SameData fl fl' ∧ Led H h' (l ++ (env.locals, fo') :: fl') := by
  obtain ⟨fl₁, S, r⟩ := same_build (h' := h') ((env.locals, fo) :: fl) fun p hp => k4 _ _ (L.here p (List.mem_append_right _ hp)) (frs_data F' p hp)
  have hsz : env.locals < h'.objs.size := slots_size k4 (L.here (env.locals, fo) (List.mem_append_right _ (.head _))) (frs_data F' (env.locals, fo) (.head _))
  cases fl₁ with
  | nil => exact S.elim
  | cons p fl' =>
    obtain ⟨a, fo'⟩ := p
    obtain ⟨⟨s1, s2⟩, s3⟩ := S
    dsimp only at s1 s2
    subst s1
    refine ⟨fo', fl', s2, s3, fun b o x => k b o (hb b o x), Nat.le_trans (L.new (env.locals, fo) (List.mem_append_right _ (.head _))) (Nat.le_of_lt hsz), fun p hp => ?_, fun p hp => ?_, ?_⟩
    · rcases List.mem_append.mp hp with hp | hp
      · exact k _ _ (hl p hp)
      · exact r p hp
    · have kk : (l ++ (env.locals, fo') :: fl').map (·.1) = (l ++ (env.locals, fo) :: fl).map (·.1) := by rw [List.map_append, List.map_append, List.map_cons, List.map_cons, s3.keys]
      have : p.1 ∈ (l ++ (env.locals, fo') :: fl').map (·.1) := List.mem_map_of_mem hp
      rw [kk] at this
      obtain ⟨q, hq, e⟩ := List.mem_map.mp this
      rw [← e]; exact L.new q hq
    · rw [show (l ++ (env.locals, fo') :: fl').map (·.1) = (l ++ (env.locals, fo) :: fl).map (·.1) from by rw [List.map_append, List.map_append, List.map_cons, List.map_cons, s3.keys]]; exact L.nodup
theorem handleBy_own {A : Around} {s : Shared} {e : Addr} {t : PySem.Expr} {b₀ : Stmt} {suite : List Stmt} {pos : Pos} {rest : List ExceptHandler} {Q : Flow → Shared → Prop}
    (q : wpAny (model pw w) (A.mark (some (.ref e))) (eval t env) (fun c s₁ => c = .ref 92 ∧ (K w.params).In s₁.heap ∧ (∃ oe, s₁.heap.get? e = some oe ∧ oe.cls = .ref 92) ∧
      wpAny (model pw w) (A.mark (some (.ref e))) (setFlight (.ref e) none) (fun _ s₂ => wpAny (model pw w) (A.mark (some (.ref e))) (execs (b₀ :: suite) env) Q (fun _ _ => False) s₂) (fun _ _ => False) s₁) (fun _ _ => False) s) :
    wpAny (model pw w) A (handleBy (.ref e) env (.ExceptHandler (some t) none (b₀ :: suite) pos :: rest)) Q E s := by
  refine wpAny_handleBy_cons (codeAny_handlers_test (wpAny_mono q (fun c s₁ h₁ => ?_) fun _ _ x => x.elim)) (by intro q; cases q)
  obtain ⟨rfl, X, ⟨oe, he, hcls⟩, hk⟩ := h₁
  have hC : (K w.params).lookup 92 = some (excClassObj "DraftFault" "DraftFault" 92 91 [.ref 79] excMro true [] [] false none none _ _ _ _ _ "Exception.__new__") := rfl
  obtain ⟨hh, g, d, tk, os⟩ := s₁
  exact wpAny_excMatches_sub_self (X _ _ hC) he hcls (by decide +kernel) (codeAny_handlers_suite (wpAny_mono hk (fun _ s z => wpAny_mono z (fun _ _ x => x) fun _ _ x => x.elim) fun _ _ x => x.elim))
theorem catch_own {b₀ : Stmt} {suite : List Stmt} {pos px : Pos} {rest : List ExceptHandler} {Q : Flow → Shared → Prop} (i : Nat) (G : Gd w H) (hA : A.frames = some (env :: outer)) (F : FrsOk outer fl) (hf : env.frame = some env.locals) (V : EnvOk env names gl) (N : Loc fo names vals)
    (L : Led H h (l ++ (env.locals, fo) :: fl)) (Y : Fly H l (env :: outer) e h)
    (q : ∀ h' fo' fl', SameData fl fl' → Loc fo' names vals → Led H h' (l ++ (env.locals, fo') :: fl') → Wp w (A.mark (some (.ref e))) (execs (b₀ :: suite) env) Q (fun _ _ => False) ⟨h', g, d, t, os⟩) (hx : gl[i]? = some ("DraftFault" : Str) := by rfl) :
    wpAny (model pw w) A (noteFrame (.ref e) env) (fun _ s₂ => wpAny (model pw w) A (setFlight (.ref e) none) (fun _ s₃ =>
      wpAny (model pw w) A (handleBy (.ref e) env (.ExceptHandler (some (.Name "DraftFault" px)) none (b₀ :: suite) pos :: rest)) Q E s₃) E s₂) E ⟨h, g, d, t, os⟩ := by
  obtain ⟨base, a0, X, hb, hl⟩ := Y
  have Fr : ∀ {fo' fl'}, fo'.data = fo.data → SameData fl fl' → FrsOk (env :: outer) ((env.locals, fo') :: fl') := fun e s => ⟨⟨hf, V.kind, by obtain ⟨x, y, z⟩ := N.dict; exact ⟨x, y, e.trans z⟩⟩, F.same s⟩
  refine wpAny_looks_onW hA hf X fun h₁ X₁ k₁ => ?_
  obtain ⟨fo₁, fl₁, d₁, s₁, L₁⟩ := fly_moves (Fr rfl (SameData.refl _)) L hb hl X₁.1 k₁
  refine wpAny_landsW X₁ fun h₂ X₂ k₂ => ?_
  obtain ⟨fo₂, fl₂, d₂, s₂, L₂⟩ := fly_moves (Fr d₁ s₁) L₁ hb hl X₂.1 k₂
  refine handleBy_own ?_
  have hg := e_glob (w := w) (A := A.mark (some (.ref e))) (E := fun _ _ => False) (g := g) (d := d) (t := t) (os := os) (pos := px) i G V L₂ (g_DraftFault _) (Q := fun c s => c = .ref 92 ∧ s = ⟨h₂, g, d, t, os⟩) ⟨rfl, rfl⟩ hx
  refine wpAny_mono hg.out (fun c s z => ?_) fun _ _ z => z
  obtain ⟨rfl, rfl⟩ := z
  obtain ⟨oe, ho, hc⟩ := X₂.there
  refine ⟨rfl, L₂.k G, ⟨oe, ho, hc⟩, ?_⟩
  refine lands_againW X₂ fun h₃ X₃ k₃ => ?_
  obtain ⟨fo₃, fl₃, d₃, s₃, L₃⟩ := fly_moves (Fr (d₂.trans d₁) (s₁.trans s₂)) L₂ hb hl X₃.1 k₃
  exact (q h₃ fo₃ fl₃ ((s₁.trans s₂).trans s₃) (N.same (d₃.trans (d₂.trans d₁))) L₃).out
end
end Mine
namespace Mine
set_option maxRecDepth 100000
section
variable {w : World} {A : Around} {E : Value → Shared → Prop} {H h : Heap} {g : Array GenState} {d : Drawn} {t : Nat} {os : OsState} {env : Env} {l : Ledger} {names gl : List Str} {pos cpos np : Pos}
theorem i_addstr {x y : Str} {u v : Tok} {Q : Value → Shared → Prop} (hsz : x.length + y.length ≤ 10000) (q : ∀ tk t', Q (.str (x ++ y) tk) ⟨h, g, d, t', os⟩) : Wp w A (binaryOp .Add (.str x u) (.str y v)) Q E ⟨h, g, d, t, os⟩ := by
  delta Wp; exact add_str (s := ⟨h, g, d, t, os⟩) (fun _ _ => q _ _) (by rw [sizeLine_eq]; omega)
theorem c_str {a : Int} {u : Tok} {Q : Value → Shared → Prop} (ha : a.natAbs < 2 ^ 64) (q : ∀ tk t', Q (.str (toString a) tk) ⟨h, g, d, t', os⟩) : Wp w A (call (.type "str") [.int a u]) Q E ⟨h, g, d, t, os⟩ := by
  delta Wp
  refine PySem.P.str_of_int (s := ⟨h, g, d, t, os⟩) ?_ (q _ _)
  rcases Nat.eq_zero_or_pos a.natAbs with e | e
  · rw [e]; decide
  · have := (Nat.log2_lt (by omega)).mpr ha
    omega
theorem str_small {a : Int} (h0 : -1 ≤ a) (h1 : a < 100) : (Str.ofString (toString a)).length ≤ 10 := by
  have key : ∀ k : Fin 101, (Str.ofString (toString ((k.1 : Int) - 1))).length ≤ 10 := by decide +kernel
  have := key ⟨(a + 1).toNat, by omega⟩
  rwa [show (((a + 1).toNat : Nat) : Int) - 1 = a by omega] at this
theorem len_app {x y : Str} {m n : Nat} (hx : x.length ≤ m) (hy : y.length ≤ n) : (x ++ y).length ≤ m + n := by
  rw [Str.length_append]; omega
theorem x_raise {arg : PySem.Expr} {rest : List Stmt} {Q : Flow → Shared → Prop} (i : Nat) (G : Gd w H) (hA : Room 6 A) (V : EnvOk env names gl) (L₀ : Led H h l)
    (q : Wp w A (eval arg env) (fun v s => ∃ m u h t fo l, v = .str m u ∧ s = ⟨h, g, d, t, os⟩ ∧ Led H h ((env.locals, fo) :: l) ∧
      ∀ e D a1 h' t', Led H h' ((env.locals, fo) :: (e, excO (some D) a1) :: l) → E (.ref e) ⟨h', g, d, t', os⟩) E ⟨h, g, d, t, os⟩) (hx : gl[i]? = some ("DraftFault" : Str) := by rfl) (hst : starEach [arg] env = (false, eval arg env) :: starEach [] env := by rfl) :
    Wp w A (execs (.Raise (some (.Call (.Name "DraftFault" np) [arg] [] cpos)) none pos :: rest) env) Q E ⟨h, g, d, t, os⟩ := by
  have key : Wp w A (eval (.Call (.Name "DraftFault" np) [arg] [] cpos) env) (fun v s => ∃ e D a1, v = .ref e ∧ s.heap.get? e = some (excO (some D) a1) ∧ (K w.params).In s.heap ∧ E (.ref e) s) E ⟨h, g, d, t, os⟩ := by
    refine e_call (e_glob i G V L₀ (g_DraftFault _) ?_ hx)
    refine cw_f G (by kernel_rfl!) (a_cons (q.mono (fun v s z => ?_) fun _ _ z => z) hst) hst
    obtain ⟨m, u, h, t, fo, l, rfl, rfl, L, k⟩ := z
    refine a_nil ⟨⟨_, L⟩, ?_⟩
    refine c_exc G L (Nat.le_of_ble_eq_true rfl) fun e a0 h L => ?_
    refine paper_init G ((Room.make (hA.mono (by decide : 4 ≤ 6)) 92 [.str m u] [])) L fun h t D a1 L => ?_
    exact ⟨rfl, e, D, a1, rfl, L.here _ (.tail _ (.head _)), L.k G, k e D a1 h t L⟩
  refine x_cons ?_
  unfold thenX
  delta Wp at *
  rw [arm_exec_Raise]
  simp only [evalOpt, Option.map]
  refine wpAny_bind (wpAny_standAt ?_)
  unfold raiseStmt
  refine wpAny_bind (wpAny_bind (wpAny_mono key (fun v s₁ z => ?_) fun _ _ x => x))
  obtain ⟨e, D, a1, rfl, he, X, hE⟩ := z
  have hC : (K w.params).lookup 92 = some (excClassObj "DraftFault" "DraftFault" 92 91 [.ref 79] excMro true [] [] false none none _ _ _ _ _ "Exception.__new__") := rfl
  have hC' := X _ _ hC
  have hcB : (Value.ref 92 :: excMro).contains (.type "BaseException") = true := by decide +kernel
  obtain ⟨hp, g, d, tk, os⟩ := s₁
  refine wpAny_bind (wpAny_standAt (wpAny_pure ?_))
  repeat (first | with_reducible refine wpAny_loadPart_at he ?_ | with_reducible refine wpAny_loadPart_at hC' ?_ | (with_reducible refine wpAny_isSubtype_exc hC' ?_; rw [hcB]) | wp_step)
  exact wpAny_raiseNew_none hA.u hE
end
end Mine
namespace Mine
set_option maxRecDepth 100000
section
variable {α β : Type}
def look (m : List (Int × α)) (k : Int) : Option α := (m.find? fun p => p.1 = k).map (·.2)
def put (m : List (Int × α)) (k : Int) (v : α) : List (Int × α) := if m.any (fun p => p.1 = k) then m.map (fun p => if p.1 = k then (p.1, v) else p) else m ++ [(k, v)]
def del (m : List (Int × α)) (k : Int) : List (Int × α) := m.filter fun p => decide (p.1 ≠ k)
def Rel (R : Value → α → Prop) : List (Int × Value) → List (Int × α) → Prop
  | [], [] => True
  | p :: ps, q :: qs => (p.1 = q.1 ∧ R p.2 q.2) ∧ Rel R ps qs
  | _, _ => False
variable {R : Value → α → Prop} {kvs : List (Int × Value)} {m : List (Int × α)} {k : Int}
theorem Rel.ind {kvs : List (Int × Value)} {m : List (Int × α)} (h : Rel R kvs m) {P : List (Int × Value) → List (Int × α) → Prop} (h0 : P [] []) (h1 : ∀ k v a ps qs, R v a → Rel R ps qs → P ps qs → P ((k, v) :: ps) ((k, a) :: qs)) : P kvs m := by
  induction kvs generalizing m with
  | nil => cases m with
    | nil => exact h0
    | cons _ _ => exact False.elim h
  | cons p ps ih => cases m with
    | nil => exact False.elim h
    | cons q qs =>
      obtain ⟨k, v⟩ := p
      obtain ⟨k', a⟩ := q
      obtain ⟨⟨e, r⟩, t⟩ := h
      cases e
      exact h1 k v a ps qs r t (ih t)
theorem Rel.c {p : Int × Value} {q : Int × α} {ps : List (Int × Value)} {qs : List (Int × α)} (e : p.1 = q.1) (r : R p.2 q.2) (t : Rel R ps qs) : Rel R (p :: ps) (q :: qs) := ⟨⟨e, r⟩, t⟩
theorem Rel.length (h : Rel R kvs m) : kvs.length = m.length := h.ind (P := fun kvs m => kvs.length = m.length) rfl (fun _ _ _ _ _ _ _ ih => by simp [ih])
theorem Rel.keys (h : Rel R kvs m) : kvs.map (·.1) = m.map (·.1) := h.ind (P := fun kvs m => kvs.map (·.1) = m.map (·.1)) rfl (fun _ _ _ _ _ _ _ ih => by simp [ih])
theorem Rel.look (h : Rel R kvs m) : (valueAt kvs k = none ∧ look m k = none) ∨ ∃ v a, valueAt kvs k = some v ∧ Mine.look m k = some a ∧ R v a := by
  refine h.ind (P := fun kvs m => (valueAt kvs k = none ∧ Mine.look m k = none) ∨ ∃ v a, valueAt kvs k = some v ∧ Mine.look m k = some a ∧ R v a) (.inl ⟨rfl, rfl⟩) (fun k' v a ps qs r _ ih => ?_)
  by_cases e : k' = k
  · right; exact ⟨v, a, by simp [valueAt, e], by simp [Mine.look, e], r⟩
  · rcases ih with ⟨i1, i2⟩ | ⟨v', a', i1, i2, i3⟩
    · left; unfold valueAt Mine.look at *; simp only [List.find?_cons, e, decide_false]; exact ⟨i1, i2⟩
    · right; refine ⟨v', a', ?_, ?_, i3⟩ <;> unfold valueAt Mine.look at * <;> simp only [List.find?_cons, e, decide_false]
      · exact i1
      · exact i2
theorem Rel.isSome (h : Rel R kvs m) : (valueAt kvs k).isSome = (Mine.look m k).isSome := by
  rcases h.look (k := k) with ⟨a, b⟩ | ⟨v, a, e1, e2, _⟩
  · rw [a, b]; rfl
  · rw [e1, e2]; rfl
theorem Rel.any (h : Rel R kvs m) : kvs.any (fun p => p.1 = k) = m.any (fun p => p.1 = k) := h.ind (P := fun kvs m => kvs.any (fun p => p.1 = k) = m.any (fun p => p.1 = k)) rfl (fun _ _ _ _ _ _ _ ih => by simp [ih])
theorem Rel.snoc (h : Rel R kvs m) {v : Value} {a : α} (r : R v a) : Rel R (kvs ++ [(k, v)]) (m ++ [(k, a)]) := h.ind (P := fun kvs m => Rel R (kvs ++ [(k, v)]) (m ++ [(k, a)])) (Rel.c (p := (k, v)) (q := (k, a)) (ps := []) (qs := []) rfl r trivial) (fun k' v' a' ps qs r' _ ih => Rel.c (p := (k', v')) (q := (k', a')) rfl r' ih)
theorem Rel.put (h : Rel R kvs m) {v : Value} {a : α} (r : R v a) : Rel R (stored kvs k v) (put m k a) := by
  unfold stored Mine.put
  rw [h.any]
  split
  · refine h.ind (P := fun kvs m => Rel R (kvs.map fun p => if p.1 = k then (p.1, v) else p) (m.map fun p => if p.1 = k then (p.1, a) else p)) trivial (fun k' v' a' ps qs r' _ ih => ?_)
    refine ⟨?_, ih⟩
    dsimp only
    by_cases e : k' = k
    · rw [if_pos e, if_pos e]; exact ⟨rfl, r⟩
    · rw [if_neg e, if_neg e]; exact ⟨rfl, r'⟩
  · exact h.snoc r
theorem Rel.del (h : Rel R kvs m) : Rel R (without kvs k) (del m k) := by
  unfold without Mine.del
  refine h.ind (P := fun kvs m => Rel R (kvs.filter fun p => decide (p.1 ≠ k)) (m.filter fun p => decide (p.1 ≠ k))) trivial (fun k' v' a' ps qs r' _ ih => ?_)
  by_cases e : k' = k
  · simp only [List.filter_cons, e, ne_eq, not_true, decide_false, Bool.false_eq_true, if_false]; exact ih
  · simp only [List.filter_cons, ne_eq, e, not_false_eq_true, decide_true, if_true]; exact ⟨⟨rfl, r'⟩, ih⟩
theorem Rel.get (h : Rel R kvs m) : ∀ (j : Nat) (k : Int) (v : Value), kvs[j]? = some (k, v) → ∃ a, m[j]? = some (k, a) ∧ R v a := by
  refine h.ind (P := fun kvs m => ∀ (j : Nat) (k : Int) (v : Value), kvs[j]? = some (k, v) → ∃ a, m[j]? = some (k, a) ∧ R v a) (fun j k v e => by simp at e) (fun k' v' a' ps qs r' _ ih j k v e => ?_)
  cases j with
  | zero => simp at e; obtain ⟨rfl, rfl⟩ := e; exact ⟨a', rfl, r'⟩
  | succ j => obtain ⟨a, e1, e2⟩ := ih j k v (by simpa using e); exact ⟨a, by simpa using e1, e2⟩
theorem Rel.mono {R' : Value → α → Prop} (h : Rel R kvs m) (k : ∀ v a, R v a → R' v a) : Rel R' kvs m := h.ind (P := fun kvs m => Rel R' kvs m) trivial (fun _ _ _ _ _ r _ ih => ⟨⟨rfl, k _ _ r⟩, ih⟩)
/-- a dict whose keys are ints, its values told by R -/
def DR (w : World) (R : Value → α → Prop) (o : Obj) (m : List (Int × α)) : Prop := ∃ kvs, o.IsDictOf (iK w) kvs ∧ Rel R kvs m
theorem DR.nodup {w : World} {o : Obj} (h : DR w R o m) : (m.map (·.1)).Nodup := by
  obtain ⟨kvs, ⟨_, _, _, _, _, _, n⟩, r⟩ := h
  rw [← r.keys]; exact n
theorem DR.mono {w : World} {o : Obj} {R' : Value → α → Prop} (h : DR w R o m) (k : ∀ v a, R v a → R' v a) : DR w R' o m := let ⟨kvs, c, r⟩ := h; ⟨kvs, c, r.mono k⟩
end
/-- an int -/
def IsI (v : Value) (n : Int) : Prop := ∃ t, v = .int n t
theorem iK_is {w : World} (k : Int) (t : Tok) : (iK w).is k (.int k t) = true := PySem.intKind_is pw w k t
section
variable {α : Type} {R : Value → α → Prop} {m : List (Int × α)} {k : Int} {w : World} {A : Around} {E : Value → Shared → Prop} {H h : Heap} {g : Array GenState} {d : Drawn} {t : Nat} {os : OsState} {l : Ledger} {a : Addr} {o : Obj} {tk : Tok}
theorem r_in {Q : Value → Shared → Prop} (i : Nat) (G : Gd w H) (L : Led H h l) (hi : l[i]? = some (a, o)) (c : DR w R o m) (q : ∀ t', Q (.bool (look m k).isSome) ⟨h, g, d, t', os⟩) : Wp w A (compareOp .In (.int k tk) (.ref a)) Q E ⟨h, g, d, t, os⟩ := by
  obtain ⟨kvs, c, r⟩ := c
  exact d_in i G L hi c (iK_is _ _) (fun t' => by rw [r.isSome]; exact q t')
theorem r_notin {Q : Value → Shared → Prop} (i : Nat) (G : Gd w H) (L : Led H h l) (hi : l[i]? = some (a, o)) (c : DR w R o m) (q : ∀ t', Q (.bool (!(look m k).isSome)) ⟨h, g, d, t', os⟩) : Wp w A (compareOp .NotIn (.int k tk) (.ref a)) Q E ⟨h, g, d, t, os⟩ := by
  obtain ⟨kvs, c, r⟩ := c
  exact d_notin i G L hi c (iK_is _ _) (fun t' => by rw [r.isSome]; exact q t')
theorem r_item {value slice : PySem.Expr} {Q : Value → Shared → Prop} {b : α} (i : Nat) (L : Led H h l) (hi : l[i]? = some (a, o)) (c : DR w R o m) (hv : look m k = some b) (q : ∀ t' v, R v b → Q v ⟨h, g, d, t', os⟩)
    (hs : subscripted slice false (.ref a) (.int k tk) = operate [.ref a, .int k tk] (getItem (.ref a) (.int k tk)) := by with_unfolding_all rfl) :
    Wp w A (subscriptTail value slice (.ref a) (.int k tk)) Q E ⟨h, g, d, t, os⟩ := by
  obtain ⟨kvs, c, r⟩ := c
  rcases r.look (k := k) with ⟨_, e⟩ | ⟨v, a', e1, e2, e3⟩
  · rw [hv] at e; cases e
  · rw [hv] at e2; cases e2
    exact d_item i L hi c (iK_is _ _) e1 (fun t' => q t' v e3) hs
theorem r_set {Q : Unit → Shared → Prop} {v : Value} {b : α} (i : Nat) (L : Led H h l) (hi : l[i]? = some (a, o)) (c : DR w R o m) (hv : R v b) (hsz : m.length ≤ 10000)
    (q : ∀ h' t' o', Led H h' (l.set i (a, o')) → DR w R o' (put m k b) → Q () ⟨h', g, d, t', os⟩) : Wp w A (setItem (.ref a) (.int k tk) v) Q E ⟨h, g, d, t, os⟩ := by
  obtain ⟨kvs, c, r⟩ := c
  exact d_setitem i L hi c (iK_is _ _) (by rw [r.length]; omega) (fun h' t' o' L c' => q h' t' o' L ⟨_, c', r.put hv⟩)
theorem r_get2 {Q : Value → Shared → Prop} {dflt : Value} (i : Nat) (G : Gd w H) (L : Led H h l) (hi : l[i]? = some (a, o)) (c : DR w R o m)
    (q : ∀ t' v, (match look m k with | some b => R v b | none => v = dflt) → Q v ⟨h, g, d, t', os⟩) :
    Wp w A (call (.builtin "dict.get") [.ref a, .int k tk, dflt]) Q E ⟨h, g, d, t, os⟩ := by
  obtain ⟨kvs, c, r⟩ := c
  refine d_get2 i G L hi c (iK_is _ _) (fun t' => q t' _ ?_)
  rcases r.look (k := k) with ⟨e1, e⟩ | ⟨v, a', e1, e2, e3⟩
  · rw [e1, e]; rfl
  · rw [e1, e2]; exact e3
theorem r_pop {Q : Value → Shared → Prop} {b : α} (i : Nat) (L : Led H h l) (hi : l[i]? = some (a, o)) (c : DR w R o m) (hsz : m.length ≤ 10000) (hv : look m k = some b)
    (q : ∀ h' t' o' v, R v b → Led H h' (l.set i (a, o')) → DR w R o' (del m k) → Q v ⟨h', g, d, t', os⟩) :
    Wp w A (call (.builtin "dict.pop") [.ref a, .int k tk]) Q E ⟨h, g, d, t, os⟩ := by
  obtain ⟨kvs, c, r⟩ := c
  rcases r.look (k := k) with ⟨_, e⟩ | ⟨v, a', e1, e2, e3⟩
  · rw [hv] at e; cases e
  · rw [hv] at e2; cases e2
    exact d_pop i L hi c (iK_is _ _) rfl (by rw [r.length]; omega) e1 (fun h' t' o' L c' => q h' t' o' v e3 L ⟨_, c', r.del⟩)
theorem r_pop2 {Q : Value → Shared → Prop} {dflt : Value} (i : Nat) (G : Gd w H) (L : Led H h l) (hi : l[i]? = some (a, o)) (c : DR w R o m) (hsz : m.length ≤ 10000)
    (q : ∀ h' t' o' v, Led H h' (l.set i (a, o')) → DR w R o' (del m k) → Q v ⟨h', g, d, t', os⟩) :
    Wp w A (call (.builtin "dict.pop") [.ref a, .int k tk, dflt]) Q E ⟨h, g, d, t, os⟩ := by
  obtain ⟨kvs, c, r⟩ := c
  exact d_pop2 i G L hi c (iK_is _ _) rfl (by rw [r.length]; omega) (fun h' t' o' L c' => q h' t' o' _ L ⟨_, c', r.del⟩)
theorem r_meth {name : Str} {id : String} {pl : Sem Bool} {Q : Value × List Value → Shared → Prop} (i : Nat) (L : Led H h l) (hi : l[i]? = some (a, o)) (c : DR w R o m) (hid : (name = "get" ∧ id = "dict.get") ∨ (name = "pop" ∧ id = "dict.pop"))
    (q : Q (.builtin id, [.ref a]) ⟨h, g, d, t, os⟩) : Wp w A (getMethod (.ref a) name pl) Q E ⟨h, g, d, t, os⟩ := by
  obtain ⟨kvs, c, r⟩ := c
  exact m_dict i L hi c hid q
theorem r_it {Q : Value → Shared → Prop} (i : Nat) (G : Gd w H) (L : Led H h l) (hi : l[i]? = some (a, o)) (c : DR w R o m)
    (q : ∀ I iob h' It, Led H h' ((I, iob) :: l) → It 0 iob → Src w H [(a, o)] I It m.length (fun j v => ∃ k b tk, m[j]? = some (k, b) ∧ v = .int k tk) → Q (.ref I) ⟨h', g, d, t, os⟩) :
    Wp w A (pyIter (.ref a)) Q E ⟨h, g, d, t, os⟩ := by
  obtain ⟨kvs, c, r⟩ := c
  refine it_dict i G L hi c (fun I iob h' ep L0 c0 src => q I iob h' _ L0 c0 ?_)
  rw [← r.length]
  refine ⟨fun hlt L1 c1 hn k1 => src.step hlt L1 c1 hn (fun v h' t' iob' hv => k1 v h' t' iob' ?_), src.stop, src.self⟩
  obtain ⟨k, x, e, hk⟩ := hv
  obtain ⟨b, e2, _⟩ := r.get _ k x e
  obtain ⟨tk, rfl⟩ := Value.isInt_shape hk
  exact ⟨k, b, tk, e2, rfl⟩
theorem r_dict0 {env : Env} {pos : Pos} {Q : Value → Shared → Prop} {p : Addr × Obj} (R : Value → α → Prop) (L : Led H h (p :: l)) (q : ∀ a h' o', Led H h' (p :: (a, o') :: l) → DR w R o' [] → Q (.ref a) ⟨h', g, d, t, os⟩) :
    Wp w A (eval (.Dict [] [] pos) env) Q E ⟨h, g, d, t, os⟩ := e_dict0 (knd := iK w) L (fun h' o' L c => q _ h' o' (L.perm (List.Perm.swap _ _ _)) ⟨_, c, trivial⟩)
theorem r_copy {Q : Value → Shared → Prop} {p : Addr × Obj} (i : Nat) (G : Gd w H) (L : Led H h (p :: l)) (hi : (p :: l)[i]? = some (a, o)) (c : DR w R o m) (hsz : m.length ≤ 10000)
    (q : ∀ b h' o', Led H h' (p :: (b, o') :: l) → DR w R o' m → Q (.ref b) ⟨h', g, d, t, os⟩) :
    Wp w A (call (.type "dict") [.ref a]) Q E ⟨h, g, d, t, os⟩ := by
  obtain ⟨kvs, c, r⟩ := c
  exact d_copy i G L hi c (by rw [r.length]; omega) (fun h' o' L c' => q _ h' o' (L.perm (List.Perm.swap _ _ _)) ⟨_, c', r⟩)
end
end Mine
namespace Mine
set_option maxRecDepth 100000
structure Ent where
  way : Str
  one : Int
  two : Int
/-- a value is an Entry told by e, its objects in l -/
def EntR (w : World) (l : Ledger) (v : Value) (e : Ent) : Prop := ∃ x dx t1 t2 t3 u1 u2 u3, v = .ref x ∧ (x, instObj 45 dx) ∈ l ∧ (dx, entryD w (.str e.way u1) (.int e.one u2) (.int e.two u3) t1 t2 t3) ∈ l
theorem EntR.mono {w : World} {l l' : Ledger} {v : Value} {e : Ent} (h : EntR w l v e) (k : ∀ p ∈ l, p ∈ l') : EntR w l' v e := let ⟨x, dx, t1, t2, t3, u1, u2, u3, a, b, c⟩ := h; ⟨x, dx, t1, t2, t3, u1, u2, u3, a, k _ b, k _ c⟩
theorem at_of_mem {l : Ledger} {p : Addr × Obj} (h : p ∈ l) : ∃ i : Nat, l[i]? = some p := List.getElem?_of_mem h
theorem Loc.take {o : Obj} {names : List Str} {vals : List (Option Value)} (n : Nat) (N : Loc o names vals) : Loc o names (vals.take n) := by
  obtain ⟨m, c, h⟩ := N
  refine ⟨m, c, fun i x v hx hv => h i x v hx ?_⟩
  rw [List.getElem?_take] at hv
  split at hv
  · exact hv
  · cases hv
section
variable {w : World} {A : Around} {E : Value → Shared → Prop} {H h : Heap} {g : Array GenState} {d : Drawn} {t : Nat} {os : OsState} {env : Env} {l : Ledger} {v : Value} {e : Ent} {pos : Pos}
theorem ent_way {Q : Value → Shared → Prop} (G : Gd w H) (L : Led H h l) (c : EntR w l v e) (q : ∀ t' u, Q (.str e.way u) ⟨h, g, d, t', os⟩) : Wp w A (getAttr v "way" true) Q E ⟨h, g, d, t, os⟩ := by
  obtain ⟨x, dx, t1, t2, t3, u1, u2, u3, rfl, hx, hd⟩ := c
  obtain ⟨i, hi⟩ := at_of_mem hx
  obtain ⟨j, hj⟩ := at_of_mem hd
  exact o_get i j G L hi hj (by kernel_rfl!) rfl rfl fun t' => q t' u1
theorem ent_one {Q : Value → Shared → Prop} (G : Gd w H) (L : Led H h l) (c : EntR w l v e) (q : ∀ t' u, Q (.int e.one u) ⟨h, g, d, t', os⟩) : Wp w A (getAttr v "one" true) Q E ⟨h, g, d, t, os⟩ := by
  obtain ⟨x, dx, t1, t2, t3, u1, u2, u3, rfl, hx, hd⟩ := c
  obtain ⟨i, hi⟩ := at_of_mem hx
  obtain ⟨j, hj⟩ := at_of_mem hd
  exact o_get i j G L hi hj (by kernel_rfl!) rfl rfl fun t' => q t' u2
theorem ent_two {Q : Value → Shared → Prop} (G : Gd w H) (L : Led H h l) (c : EntR w l v e) (q : ∀ t' u, Q (.int e.two u) ⟨h, g, d, t', os⟩) : Wp w A (getAttr v "two" true) Q E ⟨h, g, d, t, os⟩ := by
  obtain ⟨x, dx, t1, t2, t3, u1, u2, u3, rfl, hx, hd⟩ := c
  obtain ⟨i, hi⟩ := at_of_mem hx
  obtain ⟨j, hj⟩ := at_of_mem hd
  exact o_get i j G L hi hj (by kernel_rfl!) rfl rfl fun t' => q t' u3
theorem i_eqs' {s : Shared} {x y : Str} {u v : Tok} {Q : Value → Shared → Prop} (q : Q (.bool (decide (x = y))) s) : Wp w A (compareOp .Eq (.str x u) (.str y v)) Q E s := i_eqs _ (by by_cases h : x = y <;> simp [h]) q
theorem c_range {a b : Int} {u v : Tok} {Q : Value → Shared → Prop} (L : Led H h l) (q : ∀ r h' t' z, Led H h' ((r, { cls := .type "range", data := .fields #[.int a u, .int b v, .int 1 z] }) :: l) → Q (.ref r) ⟨h', g, d, t', os⟩) :
    Wp w A (call (.type "range") [.int a u, .int b v]) Q E ⟨h, g, d, t, os⟩ := by
  delta Wp; exact call_range_2 (s := ⟨h, g, d, t, os⟩) (q _ _ _ _ (L.push _))
/-- the iterator of range(a, b) at once, the range itself dropped -/
theorem it_range2 {Q : Value → Shared → Prop} {x y : Int} {u v : Tok} (L : Led H h l) (hx : -(2 ^ 62) ≤ x ∧ x < 2 ^ 62) (hy : -(2 ^ 62) ≤ y ∧ y < 2 ^ 62)
    (q : ∀ I iob h' t', Led H h' ((I, iob) :: l) → ItR x (y - x).toNat 0 iob → Src w H [] I (ItR x (y - x).toNat) (y - x).toNat (fun j v => ∃ tk, v = .int (x + j) tk) → Q (.ref I) ⟨h', g, d, t', os⟩) :
    Wp w A (call (.type "range") [.int x u, .int y v]) (fun v s => Wp w A (pyIter v) Q E s) E ⟨h, g, d, t, os⟩ :=
  c_range L fun r h' t' z L => it_range 0 L rfl hx hy fun I iob h' L c src => q I iob h' _ L.drop1 c src
end
def nextGen (m : List (Int × Ent)) : Nat → List (Int × Int)
  | 0 => []
  | n + 1 => match look m (n + 1) with
    | none => put (nextGen m n) (n + 1) 0
    | some e => if e.way = "free" then put (nextGen m n) (n + 1) e.two else nextGen m n
theorem put_len {α : Type} (m : List (Int × α)) (k : Int) (v : α) : (put m k v).length ≤ m.length + 1 := by
  unfold put; split <;> simp
theorem nextGen_len (m : List (Int × Ent)) : ∀ n, (nextGen m n).length ≤ n
  | 0 => Nat.le_refl _
  | n + 1 => by
    have ih := nextGen_len m n
    unfold nextGen
    split
    · exact Nat.le_trans (put_len _ _ _) (by omega)
    · split
      · exact Nat.le_trans (put_len _ _ _) (by omega)
      · omega
theorem next_gen {w : World} {A : Around} {R : Result → Shared → Prop} {H h : Heap} {g : Array GenState} {d : Drawn} {t : Nat} {os : OsState} {l : Ledger} {p : Addr × Obj} {a : Addr} {o : Obj} {m : List (Int × Ent)} {s : Int} {u : Tok} {i : Nat}
    (G : Gd w H) (hA : Room 5 A) (L : Led H h (p :: l)) (hi : (p :: l)[i]? = some (a, o)) (c : DR w (EntR w (p :: l)) o m) (hs : -100 ≤ s ∧ s ≤ 100)
    (q : ∀ h' t' D od, Led H h' (p :: (D, od) :: l) → DR w IsI od (nextGen m (s - 1).toNat) → R (.ok (.ret (.ref D))) ⟨h', g, d, t', os⟩) :
    Cd w A (.call (.ref 322) ⟨[.ref a, .int s u], []⟩) R ⟨h, g, d, t, os⟩ := by
  refine call_fn ["entries", "size", "found", "number"] ["range"] [.ref a, .int s u] 2 G L hA.depth rfl (by kernel_rfl!) rfl (BindsTo.of_eq rfl) (by decide +kernel) rfl ?_
  intro h t fo env V _ L N
  refine calm ?_
  refine x_assign (r_dict0 IsI L fun D h od L cD => ?_)
  refine s_loc 2 V L N fun h t fo L N => ?_
  refine x_for (e_call (e_blt 0 G V L (b_range _) (cw_b rfl (a_cons (e_int fun _ _ => a_cons (e_loc 1 V L N (a_nil ?_)))))))
  refine it_range2 L (by decide) (by omega) fun I iob h t LI cI src => ?_
  refine for_name 3 (fun j l' vals => vals = [some (.ref a), some (.int s u), some (.ref D)] ∧ ∃ od, l' = (D, od) :: p :: l ∧ DR w IsI od (nextGen m j)) V hA.u src cI LI N ⟨rfl, od, rfl, cD⟩ (fun _ _ _ _ p hp => by cases hp) ?_ ?_
  · intro j v l' vals h t fo iob hj hv hJ L c0 N
    obtain ⟨tk, rfl⟩ := hv
    obtain ⟨rfl, od, rfl, cD⟩ := hJ
    have hi' : ((env.locals, fo) :: (I, iob) :: (D, od) :: p :: l)[i + 3]? = some (a, o) := hi
    have hm : ∀ q ∈ p :: l, q ∈ (env.locals, fo) :: (I, iob) :: (D, od) :: p :: l := fun q hq => .tail _ (.tail _ (.tail _ hq))
    have he : (1 : Int) + (j : Int) = ((j + 1 : Nat) : Int) := by omega
    rw [he] at N
    have lenj := nextGen_len m j
    refine x_if (t_cmp (e_loc 3 V L N (e_loc 0 V L N ?_)))
    refine r_notin (i + 3) G L hi' c fun t => t_bool ?_
    cases hlk : look m (((j + 1 : Nat) : Int)) with
    | none =>
      refine if_tt (x_setitem (e_int fun tz t => e_loc 2 V L N (e_loc 3 V L N ?_)))
      refine r_set 2 L rfl cD (b := 0) ⟨tz, rfl⟩ (by omega) fun h t od L cD => x_nil (x_end ?_)
      exact ⟨h, t, fo, _, _, iob, rfl, L, c0, N.take 3, rfl, od, rfl, by unfold nextGen; rw [show ((j : Int) + 1) = ((j + 1 : Nat) : Int) by omega, hlk]; exact cD⟩
    | some e =>
      refine if_ff (x_if (t_cmp (e_attr (e_sub (e_loc 0 V L N (e_loc 3 V L N ?_))))))
      refine r_item (i + 3) L hi' c hlk fun t v hv => ?_
      refine ent_way G L (hv.mono hm) fun t u => ?_
      refine e_str fun _ _ => i_eqs' (t_bool (if_two (fun hw => ?_) fun hw => ?_))
      · refine x_setitem (e_attr (e_sub (e_loc 0 V L N (e_loc 3 V L N ?_))))
        refine r_item (i + 3) L hi' c hlk fun t v hv => ?_
        refine ent_two G L (hv.mono hm) fun t u => ?_
        refine e_loc 2 V L N (e_loc 3 V L N ?_)
        refine r_set 2 L rfl cD (b := e.two) ⟨u, rfl⟩ (by omega) fun h t od L cD => x_nil (x_nil (x_end ?_))
        exact ⟨h, t, fo, _, _, iob, rfl, L, c0, N.take 3, rfl, od, rfl, by unfold nextGen; rw [show ((j : Int) + 1) = ((j + 1 : Nat) : Int) by omega, hlk]; dsimp only; rw [if_pos hw]; exact cD⟩
      · refine x_nil (x_nil (x_end ?_))
        exact ⟨h, _, fo, _, _, iob, rfl, L, c0, N.take 3, rfl, od, rfl, by unfold nextGen; rw [show ((j : Int) + 1) = ((j + 1 : Nat) : Int) by omega, hlk]; dsimp only; rw [if_neg hw]; exact cD⟩
  · intro h t fo l' vals L N hJ
    obtain ⟨rfl, od, rfl, cD⟩ := hJ
    refine x_ret (e_loc 2 V L N ?_)
    exact q h t D od (L.tail.perm (List.Perm.swap _ _ _)) cD
end Mine
namespace Mine
set_option maxRecDepth 100000
def sortI (ns : List Int) : List Int := ns.mergeSort (fun a b => decide (a ≤ b))
theorem sortI_perm (ns : List Int) : (sortI ns).Perm ns := List.mergeSort_perm _ _
theorem sortI_sorted (ns : List Int) : (sortI ns).Pairwise (· ≤ ·) := by
  have := List.pairwise_mergeSort (le := fun (a b : Int) => decide (a ≤ b)) (fun a b c h1 h2 => by simp at *; omega) (fun a b => by simp; omega) ns
  exact this.imp (by simp)
theorem sorted_uniq : ∀ {a b : List Int}, a.Perm b → a.Pairwise (· ≤ ·) → b.Pairwise (· ≤ ·) → a = b
  | [], b, p, _, _ => (List.nil_perm.mp p).symm
  | x :: a, [], p, _, _ => by have := p.length_eq; simp at this
  | x :: a, y :: b, p, ha, hb => by
    have e : x = y := by
      have hx : x ∈ y :: b := p.mem_iff.mp (.head _)
      have hy : y ∈ x :: a := p.mem_iff.mpr (.head _)
      rcases List.mem_cons.mp hx with h | h
      · exact h
      · rcases List.mem_cons.mp hy with h' | h'
        · exact h'.symm
        · have a1 := (List.pairwise_cons.mp ha).1 y h'
          have a2 := (List.pairwise_cons.mp hb).1 x h
          omega
    subst e
    rw [sorted_uniq (List.Perm.cons_inv p) (List.pairwise_cons.mp ha).2 (List.pairwise_cons.mp hb).2]
theorem sortI_eq {a ns : List Int} (p : a.Perm ns) (s : a.Pairwise (· ≤ ·)) : a = sortI ns := sorted_uniq (p.trans (sortI_perm ns).symm) s (sortI_sorted ns)
section
variable {w : World} {A : Around} {E : Value → Shared → Prop} {H h : Heap} {g : Array GenState} {d : Drawn} {t : Nat} {os : OsState} {l : Ledger} {Lf a : Addr} {fo o : Obj} {names : List Str} {vals : List (Option Value)} {vs : List Value} {ns : List Int}
theorem back {h' : Heap} {m : Str → Option Value} {l' : Ledger} (L : Led H h ((Lf, fo) :: l)) (F : Fr H Lf h' m) {D : Addr} {o : Obj} (N : News H Lf h' ((D, o) :: l)) (x : ∀ q ∈ l, q.1 < D) (p : Addr × Obj) (hp : p ∈ l) :
    ∃ fo', Led H h' ((Lf, fo') :: (D, o) :: l) ∧ NsObj fo' m := by
  refine Led.of F N ?_ (fun q hq => ?_)
  · rw [List.map_cons, List.nodup_cons]
    refine ⟨fun hm => ?_, L.tail.nodup⟩
    obtain ⟨q, hq, e⟩ := List.mem_map.mp hm
    have h1 := x q hq
    rw [show q.1 = D from e] at h1
    exact Nat.lt_irrefl _ h1
  · rcases List.mem_cons.mp hq with rfl | hq
    · exact Nat.le_trans (L.new p (.tail _ hp)) (Nat.le_of_lt (x p hp))
    · exact L.new q (.tail _ hq)
theorem c_sorted_list {Q : Value → Shared → Prop} (i : Nat) (L : Led H h ((Lf, fo) :: l)) (N : Loc fo names vals) (hi : l[i]? = some (a, o)) (c : LstO o vs) (hI : IntsAre vs ns) (h64 : ns.length < 64)
    (q : ∀ D h' t' fo' o' vs', Led H h' ((Lf, fo') :: (D, o') :: l) → Loc fo' names vals → LstO o' vs' → IntsAre vs' (sortI ns) → Q (.ref D) ⟨h', g, d, t', os⟩) :
    Wp w A (call (.builtin "sorted") [.ref a]) Q E ⟨h, g, d, t, os⟩ := by
  delta Wp
  obtain ⟨m, n, hm⟩ := N
  refine kso_sorted (s := ⟨h, g, d, t, os⟩) (L.fr n) L.news (c.at (i := i) L.tail hi) hI h64 fun D vs' ns' k h' F' N' x hI' _ hp hs _ => ?_
  obtain ⟨fo', L', n'⟩ := back (l' := l) L F' N' x _ (List.mem_of_getElem? hi)
  rw [sortI_eq hp hs] at hI'
  exact q D h' t fo' _ vs' L' ⟨m, n', hm⟩ ⟨rfl, _, rfl⟩ hI'
theorem ints_of {vs : List Value} {ns : List Int} (hl : vs.length = ns.length) (h : ∀ (j : Nat) (v : Value), vs[j]? = some v → ∃ t, ∃ (n : Int), ns[j]? = some n ∧ v = .int n t) : IntsAre vs ns := by
  induction vs generalizing ns with
  | nil => cases ns with
    | nil => exact .nil
    | cons _ _ => simp at hl
  | cons v vs ih => cases ns with
    | nil => simp at hl
    | cons n ns =>
      obtain ⟨t, n', e, rfl⟩ := h 0 v rfl
      simp at e; subst e
      exact .cons _ _ (ih (by simpa using hl) fun j v hv => by simpa using h (j + 1) v (by simpa using hv))
theorem c_sorted_dict {α : Type} {R : Value → α → Prop} {m : List (Int × α)} {Q : Value → Shared → Prop} (i : Nat) (G : Gd w H) (hA : A.handled = none) (L : Led H h ((Lf, fo) :: l)) (N : Loc fo names vals) (hi : l[i]? = some (a, o)) (c : DR w R o m) (h64 : m.length < 64)
    (q : ∀ D h' t' fo' o' vs', Led H h' ((Lf, fo') :: (D, o') :: l) → Loc fo' names vals → LstO o' vs' → IntsAre vs' (sortI (m.map (·.1))) → Q (.ref D) ⟨h', g, d, t', os⟩) :
    Wp w A (call (.builtin "sorted") [.ref a]) Q E ⟨h, g, d, t, os⟩ := by
  delta Wp
  obtain ⟨mm, n, hm⟩ := N
  obtain ⟨kvs, c, r⟩ := c
  have hD : h.DictOf (iK w) a kvs := L.tail.dict hi c
  obtain ⟨ep, hat⟩ := hD.dictAt
  have hlen : kvs.length < 64 := by rw [r.length]; exact h64
  refine kdu_sorted (s := ⟨h, g, d, t, os⟩) (kdl_dict (knd := iK w) (kvs := kvs) (ep := ep) (L.tail.notMod G hi)) hA (L.fr n) L.news hat (kdl_size (by omega)) fun B h' tk vs F' N' x hl hv => ?_
  have hI : IntsAre vs (m.map (·.1)) := by
    refine ints_of (by rw [hl, r.length, List.length_map]) fun j v e => ?_
    obtain ⟨k, x, e2, hk⟩ := hv j v e
    obtain ⟨tk, rfl⟩ := Value.isInt_shape hk
    obtain ⟨b, e3, _⟩ := r.get j k x e2
    exact ⟨tk, k, by rw [List.getElem?_map, e3]; rfl, rfl⟩
  have hne : ∀ q ∈ l, q.1 ≠ B := fun q hq e => by have h1 := x q hq; rw [e] at h1; exact Nat.lt_irrefl _ h1
  refine ksk_lsort (s := ⟨h', g, d, tk, os⟩) (news' := fun o => (B, o) :: l) F' N' (fun o => Upd.head hne) (by simp) hI (by rw [List.length_map]; exact h64) fun vs' ns' k h'' F'' N'' hI' _ hp hs _ => ?_
  obtain ⟨fo', L', n'⟩ := back (l' := l) L F'' N'' x _ (List.mem_of_getElem? hi)
  rw [sortI_eq hp hs] at hI'
  exact q B h'' tk fo' _ vs' L' ⟨mm, n', hm⟩ ⟨rfl, _, rfl⟩ hI'
end
end Mine
namespace Mine
set_option maxRecDepth 100000
section
variable {w : World} {A : Around} {E : Value → Shared → Prop} {s : Shared} {env : Env} {pos : Pos}
theorem t_and {x : PySem.Expr} {rest : List PySem.Expr} {whole : Sem Value} {Q : Bool → Shared → Prop} (q : Wp w A (isTrue x env (eval x env)) (fun c s => if c = true then Wp w A (isTrue (.BoolOp .And rest pos) env whole) Q E s else Q false s) E s) : Wp w A (isTrue (.BoolOp .And (x :: rest) pos) env whole) Q E s := by delta Wp at *; exact isTrue_and q
theorem t_or {x : PySem.Expr} {rest : List PySem.Expr} {whole : Sem Value} {Q : Bool → Shared → Prop} (q : Wp w A (isTrue x env (eval x env)) (fun c s => if c = true then Q true s else Wp w A (isTrue (.BoolOp .Or rest pos) env whole) Q E s) E s) : Wp w A (isTrue (.BoolOp .Or (x :: rest) pos) env whole) Q E s := by delta Wp at *; exact isTrue_or q
theorem t_and0 {whole : Sem Value} {Q : Bool → Shared → Prop} (q : Q true s) : Wp w A (isTrue (.BoolOp .And [] pos) env whole) Q E s := by delta Wp; exact isTrue_and_nil q
theorem t_or0 {whole : Sem Value} {Q : Bool → Shared → Prop} (q : Q false s) : Wp w A (isTrue (.BoolOp .Or [] pos) env whole) Q E s := by delta Wp; exact isTrue_or_nil q
theorem e_or2 {x y : PySem.Expr} {Q : Value → Shared → Prop} (q : Wp w A (eval x env) (fun v s => Wp w A (truthy v) (fun t s => if t = true then Q v s else Wp w A (eval y env) Q E s) E s) E s) : Wp w A (eval (.BoolOp .Or [x, y] pos) env) Q E s := by delta Wp at *; exact wpAny_Or2 q
variable {h : Heap} {g : Array GenState} {d : Drawn} {t : Nat} {os : OsState} {a b : Int} {u v : Tok}
theorem i_gt {Q : Value → Shared → Prop} (q : Q (.bool (decide (b < a))) s) : Wp w A (compareOp .Gt (.int a u) (.int b v)) Q E s := by delta Wp; exact PyProof.Rows.gt_int q
theorem i_eqi {Q : Value → Shared → Prop} (q : Q (.bool (decide (a = b))) s) : Wp w A (compareOp .Eq (.int a u) (.int b v)) Q E s := by delta Wp; exact PyProof.Rows.eq_int (by rw [show (a == b) = decide (a = b) from by by_cases h : a = b <;> simp [h]]; exact q)
theorem i_nei {Q : Value → Shared → Prop} (q : Q (.bool (decide (a ≠ b))) s) : Wp w A (compareOp .NotEq (.int a u) (.int b v)) Q E s := by delta Wp; exact PyProof.Rows.ne_int (by rw [show (a != b) = decide (a ≠ b) from by by_cases h : a = b <;> simp [h]]; exact q)
theorem i_nes {x y : Str} {Q : Value → Shared → Prop} (q : Q (.bool (decide (x ≠ y))) s) : Wp w A (compareOp .NotEq (.str x u) (.str y v)) Q E s := by delta Wp; exact PyProof.Rows.ne_str (by rw [show (x != y) = decide (x ≠ y) from by by_cases h : x = y <;> simp [h]]; exact q)
theorem i_ge {Q : Value → Shared → Prop} (q : Q (.bool (decide (b ≤ a))) s) : Wp w A (compareOp .GtE (.int a u) (.int b v)) Q E s := by
  delta Wp
  exact PyProof.Rows.ge_int q
end
def stepUsed (m : List (Int × Ent)) (f : List (Int × Int)) (k : Int) : List (Int × Int) := match look m k with
  | some e => if 0 < k ∧ e.way ≠ "free" then put f k (if e.way = "used" then e.two else 0) else f
  | none => f
def usedOf (m : List (Int × Ent)) (ks : List Int) : List (Int × Int) := ks.foldl (stepUsed m) []
theorem fold_take {α β : Type} (f : β → α → β) (b : β) (xs : List α) (j : Nat) (x : α) (h : xs[j]? = some x) : (xs.take (j + 1)).foldl f b = f ((xs.take j).foldl f b) x := by
  rw [List.take_add_one, h, List.foldl_append]; rfl
theorem usedOf_len (m : List (Int × Ent)) (ks : List Int) : (usedOf m ks).length ≤ ks.length := by
  have key : ∀ (ks : List Int) (f : List (Int × Int)), (ks.foldl (stepUsed m) f).length ≤ f.length + ks.length := by
    intro ks
    induction ks with
    | nil => intro f; simp
    | cons k ks ih =>
      intro f
      have h1 := ih (stepUsed m f k)
      have h2 : (stepUsed m f k).length ≤ f.length + 1 := by
        unfold stepUsed; split
        · split
          · exact put_len _ _ _
          · omega
        · omega
      simp only [List.foldl_cons, List.length_cons]; omega
  simpa [usedOf] using key ks []
theorem look_mem {α : Type} {m : List (Int × α)} {k : Int} (h : k ∈ m.map (·.1)) : ∃ a, look m k = some a := by
  obtain ⟨p, hp, rfl⟩ := List.mem_map.mp h
  unfold look
  cases e : m.find? (fun q => q.1 = p.1) with
  | none => have := List.find?_eq_none.mp e p hp; simp at this
  | some q => exact ⟨q.2, rfl⟩
theorem gen_used {w : World} {A : Around} {R : Result → Shared → Prop} {H h : Heap} {g : Array GenState} {d : Drawn} {t : Nat} {os : OsState} {l : Ledger} {p : Addr × Obj} {a : Addr} {o : Obj} {m : List (Int × Ent)} {i : Nat}
    (G : Gd w H) (hA : Room 5 A) (L : Led H h (p :: l)) (hi : (p :: l)[i]? = some (a, o)) (c : DR w (EntR w (p :: l)) o m) (hs : m.length < 64)
    (q : ∀ h' t' D od, Led H h' (p :: (D, od) :: l) → DR w IsI od (usedOf m (sortI (m.map (·.1)))) → R (.ok (.ret (.ref D))) ⟨h', g, d, t', os⟩) :
    Cd w A (.call (.ref 329) ⟨[.ref a], []⟩) R ⟨h, g, d, t, os⟩ := by
  refine call_fn ["entries", "found", "number"] ["sorted"] [.ref a] 1 G L hA.depth rfl (by kernel_rfl!) rfl (BindsTo.of_eq rfl) (by decide +kernel) rfl ?_
  intro h t fo env V _ L N
  refine calm ?_
  refine x_assign (r_dict0 IsI L fun D h od L cD => ?_)
  refine s_loc 1 V L N fun h t fo L N => ?_
  refine x_for (e_call (e_blt 0 G V L (b_sorted _) (cw_b rfl (a_cons (e_loc 0 V L N (a_nil ?_))))))
  have hi' : ((D, od) :: p :: l)[i + 1]? = some (a, o) := hi
  refine c_sorted_dict (i + 1) G hA.u L N hi' c hs fun S h t fo so vs L N cS hI => ?_
  refine it_list 1 L rfl cS fun I iob h LI c0 src => ?_
  have hlen : vs.length = (sortI (m.map (·.1))).length := hI.length
  refine for_name 2 (fun j l' vals => vals = [some (.ref a), some (.ref D)] ∧ ∃ od, l' = (S, so) :: (D, od) :: p :: l ∧ DR w IsI od (usedOf m ((sortI (m.map (·.1))).take j))) V hA.u src c0 LI N ⟨rfl, od, rfl, cD⟩ (fun j l' vals hJ p' hp' => by
    obtain ⟨_, od, rfl, _⟩ := hJ
    rw [List.mem_singleton.mp hp']; exact .head _) ?_ ?_
  · intro j v l' vals h t fo iob hj hv hJ L c0 N
    obtain ⟨rfl, od, rfl, cD⟩ := hJ
    obtain ⟨tk, hv2⟩ := ints_at hI j (by omega)
    rw [hv] at hv2
    cases hv2
    have hk : (sortI (m.map (·.1)))[j]? = some ((sortI (m.map (·.1))).getD j 0) := by rw [List.getD_eq_getElem?_getD, List.getElem?_eq_getElem (by omega)]; rfl
    generalize (sortI (m.map (·.1))).getD j 0 = k at N hv hk
    obtain ⟨e, he⟩ := look_mem ((sortI_perm _).mem_iff.mp (List.mem_of_getElem? hk))
    have hi' : ((env.locals, fo) :: (I, iob) :: (S, so) :: (D, od) :: p :: l)[i + 4]? = some (a, o) := hi
    have hm : ∀ q ∈ p :: l, q ∈ (env.locals, fo) :: (I, iob) :: (S, so) :: (D, od) :: p :: l := fun q hq => .tail _ (.tail _ (.tail _ (.tail _ hq)))
    have lenj : (usedOf m ((sortI (m.map (·.1))).take j)).length ≤ 100 := by
      refine Nat.le_trans (usedOf_len _ _) ?_
      have := (sortI_perm (m.map (·.1))).length_eq
      rw [List.length_map] at this
      simp; omega
    have fin : DR w IsI od (usedOf m ((sortI (m.map (·.1))).take j)) ∧ ¬ (0 < k ∧ e.way ≠ "free") → DR w IsI od (usedOf m ((sortI (m.map (·.1))).take (j + 1))) := fun z => by
      unfold usedOf
      rw [fold_take _ _ _ j k hk]
      unfold stepUsed; rw [he]; dsimp only
      rw [if_neg z.2]; exact z.1
    refine x_if (t_and (t_cmp (e_loc 2 V L N (e_int fun _ _ => i_gt (t_bool (if_two (fun h1 => ?_) fun h1 => ?_))))))
    · refine t_and (t_cmp (e_attr (e_sub (e_loc 0 V L N (e_loc 2 V L N ?_)))))
      refine r_item (i + 4) L hi' c he fun t v hv => ?_
      refine ent_way G L (hv.mono hm) fun t u => e_str fun _ _ => i_nes (t_bool (if_two (fun h2 => ?_) fun h2 => ?_))
      · refine t_and0 (if_tt (x_setitem (e_ife (t_cmp (e_attr (e_sub (e_loc 0 V L N (e_loc 2 V L N ?_))))))))
        refine r_item (i + 4) L hi' c he fun t v hv => ?_
        refine ent_way G L (hv.mono hm) fun t u => e_str fun _ _ => i_eqs' (t_bool ?_)
        refine if_two (fun h3 => ?_) fun h3 => ?_
        · refine e_attr (e_sub (e_loc 0 V L N (e_loc 2 V L N ?_)))
          refine r_item (i + 4) L hi' c he fun t v hv => ?_
          refine ent_two G L (hv.mono hm) fun t u => e_loc 1 V L N (e_loc 2 V L N ?_)
          refine r_set 3 L rfl cD (b := e.two) ⟨u, rfl⟩ (by omega) fun h t od L cD => x_nil (x_end ?_)
          refine ⟨h, t, fo, _, _, iob, rfl, L, c0, N.take 2, rfl, od, rfl, ?_⟩
          unfold usedOf
          rw [fold_take _ _ _ j k hk]
          unfold stepUsed; rw [he]; dsimp only
          rw [if_pos ⟨h1, h2⟩, if_pos h3]; exact cD
        · refine e_int fun tz t => e_loc 1 V L N (e_loc 2 V L N ?_)
          refine r_set 3 L rfl cD (b := 0) ⟨tz, rfl⟩ (by omega) fun h t od L cD => x_nil (x_end ?_)
          refine ⟨h, t, fo, _, _, iob, rfl, L, c0, N.take 2, rfl, od, rfl, ?_⟩
          unfold usedOf
          rw [fold_take _ _ _ j k hk]
          unfold stepUsed; rw [he]; dsimp only
          rw [if_pos ⟨h1, h2⟩, if_neg h3]; exact cD
      · exact if_ff (x_nil (x_end ⟨h, _, fo, _, _, iob, rfl, L, c0, N.take 2, rfl, od, rfl, fin ⟨cD, fun z => h2 z.2⟩⟩))
    · exact if_ff (x_nil (x_end ⟨h, _, fo, _, _, iob, rfl, L, c0, N.take 2, rfl, od, rfl, fin ⟨cD, fun z => h1 z.1⟩⟩))
  · intro h t fo l' vals L N hJ
    obtain ⟨rfl, od, rfl, cD⟩ := hJ
    rw [hlen, List.take_length] at cD
    refine x_ret (e_loc 1 V L N ?_)
    exact q h t D od (L.re 4 [3, 2]) cD
end Mine
namespace Mine
set_option maxRecDepth 100000
def IsT (v : Value) (_ : Unit) : Prop := v = .bool true
def holdersOf (m : List (Int × Ent)) : List (Int × Unit) := m.foldl (fun f p => if p.2.way = ("packed" : Str) then put f p.2.one () else f) []
theorem fold_len {α β : Type} (f : List (Int × β) → α → List (Int × β)) (hf : ∀ b a, (f b a).length ≤ b.length + 1) : ∀ (xs : List α) (b : List (Int × β)), (xs.foldl f b).length ≤ b.length + xs.length
  | [], b => Nat.le_refl _
  | x :: xs, b => by
    have h1 := fold_len f hf xs (f b x)
    have h2 := hf b x
    simp only [List.foldl_cons, List.length_cons]; omega
theorem holders {w : World} {A : Around} {R : Result → Shared → Prop} {H h : Heap} {g : Array GenState} {d : Drawn} {t : Nat} {os : OsState} {l : Ledger} {p : Addr × Obj} {a : Addr} {o : Obj} {m : List (Int × Ent)} {i : Nat}
    (G : Gd w H) (hA : Room 5 A) (L : Led H h (p :: l)) (hi : (p :: l)[i]? = some (a, o)) (c : DR w (EntR w (p :: l)) o m) (hs : m.length < 64)
    (q : ∀ h' t' D od, Led H h' (p :: (D, od) :: l) → DR w IsT od (holdersOf m) → R (.ok (.ret (.ref D))) ⟨h', g, d, t', os⟩) :
    Cd w A (.call (.ref 336) ⟨[.ref a], []⟩) R ⟨h, g, d, t, os⟩ := by
  refine call_fn ["entries", "found", "number"] [] [.ref a] 1 G L hA.depth rfl (by kernel_rfl!) rfl (BindsTo.of_eq rfl) (by decide +kernel) rfl ?_
  intro h t fo env V _ L N
  refine calm ?_
  refine x_assign (r_dict0 IsT L fun D h od L cD => ?_)
  refine s_loc 1 V L N fun h t fo L N => ?_
  refine x_for (e_loc 0 V L N ?_)
  have hi' : ((env.locals, fo) :: (D, od) :: p :: l)[i + 2]? = some (a, o) := hi
  refine r_it (i + 2) G L hi' c fun I iob h It LI c0 src => ?_
  refine for_name 2 (fun j l' vals => vals = [some (.ref a), some (.ref D)] ∧ ∃ od, l' = (D, od) :: p :: l ∧ DR w IsT od (holdersOf (m.take j))) V hA.u src c0 LI N ⟨rfl, od, rfl, cD⟩ (fun j l' vals hJ p' hp' => by
    obtain ⟨_, od, rfl, _⟩ := hJ
    rw [List.mem_singleton.mp hp']; exact .tail _ (List.mem_of_getElem? hi)) ?_ ?_
  · intro j v l' vals h t fo iob hj hv hJ L c0 N
    obtain ⟨rfl, od, rfl, cD⟩ := hJ
    obtain ⟨k, e, tk, hme, rfl⟩ := hv
    have hi' : ((env.locals, fo) :: (I, iob) :: (D, od) :: p :: l)[i + 3]? = some (a, o) := hi
    have hm : ∀ q ∈ p :: l, q ∈ (env.locals, fo) :: (I, iob) :: (D, od) :: p :: l := fun q hq => .tail _ (.tail _ (.tail _ hq))
    have he : look m k = some e := by
      obtain ⟨kvs, cc, r⟩ := c
      have hn : (m.map (·.1)).Nodup := DR.nodup (w := w) ⟨kvs, cc, r⟩
      unfold look
      have : m.find? (fun p => p.1 = k) = some (k, e) := by
        refine List.find?_eq_some_iff_getElem.mpr ⟨by simp, j, (List.getElem?_eq_some_iff.mp hme).1, (List.getElem?_eq_some_iff.mp hme).2, fun i' hi' => ?_⟩
        simp only [Bool.not_eq_true', decide_eq_false_iff_not]
        intro e2
        have h1 : (m.map (·.1))[i']? = some k := by rw [List.getElem?_map, List.getElem?_eq_getElem (Nat.lt_trans hi' hj)]; simp [e2]
        have h2 : (m.map (·.1))[j]? = some k := by rw [List.getElem?_map, hme]; rfl
        have := (List.getElem?_inj (by simpa using Nat.lt_trans hi' hj) hn).mp (h1.trans h2.symm)
        omega
      rw [this]; rfl
    have lenj : (holdersOf (m.take j)).length ≤ 100 := by
      refine Nat.le_trans (fold_len _ (fun b a => ?_) _ _) (by simp; omega)
      split
      · exact put_len _ _ _
      · omega
    refine x_if (t_cmp (e_attr (e_sub (e_loc 0 V L N (e_loc 2 V L N ?_)))))
    refine r_item (i + 3) L hi' c he fun t v hv => ?_
    refine ent_way G L (hv.mono hm) fun t u => e_str fun _ _ => i_eqs' (t_bool (if_two (fun h1 => ?_) fun h1 => ?_))
    · refine x_setitem (e_bool (e_loc 1 V L N (e_attr (e_sub (e_loc 0 V L N (e_loc 2 V L N ?_))))))
      refine r_item (i + 3) L hi' c he fun t v hv => ?_
      refine ent_one G L (hv.mono hm) fun t u => ?_
      refine r_set 2 L rfl cD (b := ()) rfl (by omega) fun h t od L cD => x_nil (x_end ?_)
      refine ⟨h, t, fo, _, _, iob, rfl, L, c0, N.take 2, rfl, od, rfl, ?_⟩
      unfold holdersOf
      rw [fold_take _ _ _ j _ hme, if_pos h1]; exact cD
    · refine x_nil (x_end ⟨h, _, fo, _, _, iob, rfl, L, c0, N.take 2, rfl, od, rfl, ?_⟩)
      unfold holdersOf
      rw [fold_take _ _ _ j _ hme, if_neg h1]; exact cD
  · intro h t fo l' vals L N hJ
    obtain ⟨rfl, od, rfl, cD⟩ := hJ
    rw [List.take_length] at cD
    refine x_ret (e_loc 1 V L N ?_)
    exact q h t D od (L.re 3 [2, 1]) cD
theorem DR.nil_any {α β : Type} {w : World} {R : Value → α → Prop} {R' : Value → β → Prop} {o : Obj} (h : DR w R o []) : DR w R' o [] := by
  obtain ⟨kvs, c, r⟩ := h
  cases kvs with
  | nil => exact ⟨[], c, trivial⟩
  | cons _ _ => exact r.elim
/-- the addresses and stamps of a Changes -/
structure Cha where
  (x dx U S W Hd Ob Fr : Addr) (fs : Int) (tf t1 t2 t3 t4 t5 t6 t7 : Tok)
noncomputable abbrev Cha.d (w : World) (c : Cha) : Obj := dictOf [⟨PyData.keyHash w.params "used", .str "used" c.t1, .ref c.U⟩, ⟨PyData.keyHash w.params "spare", .str "spare" c.t2, .ref c.S⟩, ⟨PyData.keyHash w.params "was_spare", .str "was_spare" c.t3, .ref c.W⟩, ⟨PyData.keyHash w.params "holders", .str "holders" c.t4, .ref c.Hd⟩,
  ⟨PyData.keyHash w.params "first_size", .str "first_size" c.t5, .int c.fs c.tf⟩, ⟨PyData.keyHash w.params "objects", .str "objects" c.t6, .ref c.Ob⟩, ⟨PyData.keyHash w.params "freed", .str "freed" c.t7, .ref c.Fr⟩] 7
theorem changes_init {w : World} {A : Around} {R : Result → Shared → Prop} {H h : Heap} {g : Array GenState} {d : Drawn} {t : Nat} {os : OsState} {l : Ledger} {p : Addr × Obj} {x dx a : Addr} {o : Obj} {m : List (Int × Ent)} {s : Int} {u : Tok} {i : Nat}
    (G : Gd w H) (hA : Room 7 A) (L : Led H h (p :: (x, instObj 426 dx) :: (dx, dictOf [] 0) :: l)) (hi : l[i]? = some (a, o)) (c : DR w (EntR w l) o m) (hs : m.length < 64) (hsz : -100 ≤ s ∧ s ≤ 100)
    (q : ∀ h' t' (c : Cha) uo so wo ho oo ro, Led H h' (p :: (c.x, instObj 426 c.dx) :: (c.dx, c.d w) :: (c.U, uo) :: (c.S, so) :: (c.W, wo) :: (c.Hd, ho) :: (c.Ob, oo) :: (c.Fr, ro) :: l) → c.x = x → c.fs = s → DR w IsI uo (usedOf m (sortI (m.map (·.1)))) → DR w IsI so (nextGen m (s - 1).toNat) → DR w IsI wo (nextGen m (s - 1).toNat) → DR w IsT ho (holdersOf m) →
      (∀ (α : Type) (R : Value → α → Prop), DR w R oo []) → DR w IsT ro [] → R (.ok (.ret .none)) ⟨h', g, d, t', os⟩) :
    Cd w A (.call (.ref 355) ⟨[.ref x, .ref a, .int s u], []⟩) R ⟨h, g, d, t, os⟩ := by
  refine call_fn ["self", "entries", "size"] ["generations_used", "next_generations", "dict", "holders_of"] [.ref x, .ref a, .int s u] 3 G L hA.depth rfl (by kernel_rfl!) rfl (BindsTo.of_eq rfl) (by decide +kernel) rfl ?_
  intro h t fo env V _ L N
  refine calm ?_
  replace L : Led H h ((env.locals, fo) :: (x, instObj 426 dx) :: (dx, dictOf [] 0) :: p :: l) := L.re 4 [0, 2, 3, 1]
  have R5 := (hA.deeper env).mono (by decide : 5 ≤ 6)
  -- used
  refine x_setattr (e_call (e_glob 0 G V L (g_generations_used _) (cw_f G (by kernel_rfl!) (a_cons (e_loc 1 V L N (a_nil ⟨⟨_, L⟩, e_code ?_⟩))))))
  refine gen_used (i := i + 4) G R5 L hi (c.mono fun v e z => z.mono fun q hq => .tail _ (.tail _ (.tail _ (.tail _ hq)))) hs fun h t U uo L cU => ?_
  replace L : Led H h ((env.locals, fo) :: (x, instObj 426 dx) :: (dx, dictOf [] 0) :: (U, uo) :: p :: l) := L.re 4 [0, 2, 3, 1]
  refine e_loc 0 V L N (o_set G L N (by kernel_rfl!) rfl (Nat.zero_le _) fun h t fo t1 L N => ?_)
  -- spare
  refine x_setattr (e_call (e_glob 1 G V L (g_next_generations _) (cw_f G (by kernel_rfl!) (a_cons (e_loc 1 V L N (a_cons (e_loc 2 V L N (a_nil ⟨⟨_, L⟩, e_code ?_⟩))))))))
  refine next_gen (i := i + 5) G R5 L hi (c.mono fun v e z => z.mono fun q hq => .tail _ (.tail _ (.tail _ (.tail _ (.tail _ hq))))) hsz fun h t S so L cS => ?_
  replace L : Led H h ((env.locals, fo) :: (x, instObj 426 dx) :: (dx, _) :: (S, so) :: (U, uo) :: p :: l) := L.re 4 [0, 2, 3, 1]
  refine e_loc 0 V L N (o_set G L N (by kernel_rfl!) rfl (putL_le (Nat.zero_le _)) fun h t fo t2 L N => ?_)
  -- was_spare
  refine x_setattr (e_call (e_blt 2 G V L (b_dict _) (cw_b rfl (a_cons (e_attr (e_loc 0 V L N ?_))))))
  refine o_get 1 2 G L rfl rfl (by kernel_rfl!) rfl rfl fun t => a_nil ?_
  refine r_copy 3 G L rfl cS (by have := nextGen_len m (s - 1).toNat; omega) fun W h wo L cW => ?_
  replace L : Led H h ((env.locals, fo) :: (x, instObj 426 dx) :: (dx, _) :: (W, wo) :: (S, so) :: (U, uo) :: p :: l) := L.re 4 [0, 2, 3, 1]
  refine e_loc 0 V L N (o_set G L N (by kernel_rfl!) rfl (putL_le (putL_le (Nat.zero_le _))) fun h t fo t3 L N => ?_)
  -- holders
  refine x_setattr (e_call (e_glob 3 G V L (g_holders_of _) (cw_f G (by kernel_rfl!) (a_cons (e_loc 1 V L N (a_nil ⟨⟨_, L⟩, e_code ?_⟩))))))
  refine holders (i := i + 7) G R5 L hi (c.mono fun v e z => z.mono fun q hq => .tail _ (.tail _ (.tail _ (.tail _ (.tail _ (.tail _ (.tail _ hq))))))) hs fun h t Hd ho L cH => ?_
  replace L : Led H h ((env.locals, fo) :: (x, instObj 426 dx) :: (dx, _) :: (Hd, ho) :: (W, wo) :: (S, so) :: (U, uo) :: p :: l) := L.re 4 [0, 2, 3, 1]
  refine e_loc 0 V L N (o_set G L N (by kernel_rfl!) rfl (putL_le (putL_le (putL_le (Nat.zero_le _)))) fun h t fo t4 L N => ?_)
  -- first_size
  refine x_setattr (e_loc 2 V L N (e_loc 0 V L N ?_))
  refine o_set G L N (by kernel_rfl!) rfl (putL_le (putL_le (putL_le (putL_le (Nat.zero_le _))))) fun h t fo t5 L N => ?_
  -- objects
  refine x_setattr (r_dict0 IsT L fun Ob h oo L cO => ?_)
  replace L : Led H h ((env.locals, fo) :: (x, instObj 426 dx) :: (dx, _) :: (Ob, oo) :: (Hd, ho) :: (W, wo) :: (S, so) :: (U, uo) :: p :: l) := L.re 4 [0, 2, 3, 1]
  refine e_loc 0 V L N (o_set G L N (by kernel_rfl!) rfl (putL_le (putL_le (putL_le (putL_le (putL_le (Nat.zero_le _)))))) fun h t fo t6 L N => ?_)
  -- freed
  refine x_setattr (r_dict0 IsT L fun Fr h ro L cF => ?_)
  replace L : Led H h ((env.locals, fo) :: (x, instObj 426 dx) :: (dx, _) :: (Fr, ro) :: (Ob, oo) :: (Hd, ho) :: (W, wo) :: (S, so) :: (U, uo) :: p :: l) := L.re 4 [0, 2, 3, 1]
  refine e_loc 0 V L N (o_set G L N (by kernel_rfl!) rfl (putL_le (putL_le (putL_le (putL_le (putL_le (putL_le (Nat.zero_le _))))))) fun h t fo t7 L N => ?_)
  refine x_end ?_
  exact q h t ⟨x, dx, U, S, W, Hd, Ob, Fr, s, u, t1, t2, t3, t4, t5, t6, t7⟩ uo so wo ho oo ro (L.re 10 [9, 1, 2, 8, 7, 6, 5, 4, 3]) rfl rfl cU cS cW cH (fun α R => cO.nil_any) cF
end Mine
namespace Mine
set_option maxRecDepth 100000
section
variable {α : Type} {R : Value → α → Prop} {w : World} {A : Around} {E : Value → Shared → Prop} {H h : Heap} {g : Array GenState} {d : Drawn} {t : Nat} {os : OsState} {l : Ledger} {a b : Addr} {oa ob : Obj} {p : Addr × Obj} {Lf : Addr} {fo : Obj} {names : List Str} {vals : List (Option Value)}
/-- d != {} -/
theorem d_nonempty {m : List (Int × α)} {Q : Value → Shared → Prop} (i j : Nat) (G : Gd w H) (hA : Room 5 A) (L : Led H h l) (hi : l[i]? = some (a, oa)) (hj : l[j]? = some (b, ob)) (ca : DR w R oa m) (cb : DR w IsT ob []) (q : Q (.bool (decide (m ≠ []))) ⟨h, g, d, t, os⟩) :
    Wp w A (compareOp .NotEq (.ref a) (.ref b)) Q E ⟨h, g, d, t, os⟩ := by
  delta Wp
  obtain ⟨ka, ca, ra⟩ := ca
  obtain ⟨kb, cb, rb⟩ := cb
  have hb : kb = [] := by have := rb.length; exact List.length_eq_zero_iff.mp this
  subst hb
  refine keq_ne (s := ⟨h, g, d, t, os⟩) (r := true) (L.notMod G hi) (L.notMod G hj) (L.dict hi ca) (L.dict hj cb) hA.units (fun e => ?_) ?_
  · rw [List.length_eq_zero_iff.mp e]; exact .nil
  · have : (!(ka.length == ([] : List (Int × Value)).length && true)) = decide (m ≠ []) := by
      rw [ra.length]
      cases m <;> simp
    rw [this]; exact q
theorem l_add {xs ys : List Value} {Q : Value → Shared → Prop} (i j : Nat) (L : Led H h (p :: l)) (hi : (p :: l)[i]? = some (a, oa)) (hj : (p :: l)[j]? = some (b, ob)) (ca : LstO oa xs) (cb : LstO ob ys) (hsz : xs.length + ys.length ≤ 10000)
    (q : ∀ D h', Led H h' (p :: (D, lstO (xs ++ ys)) :: l) → Q (.ref D) ⟨h', g, d, t, os⟩) : Wp w A (binaryOp .Add (.ref a) (.ref b)) Q E ⟨h, g, d, t, os⟩ := by
  delta Wp
  obtain ⟨⟨cls, dd, data, sl⟩, ho, hc, n, hd⟩ := ca.at L hi
  obtain ⟨⟨cls2, dd2, data2, sl2⟩, ho2, hc2, n2, hd2⟩ := cb.at L hj
  simp only at hc hd hc2 hd2
  subst hc hd hc2 hd2
  have e : xs.toArray ++ ys.toArray = (xs ++ ys).toArray := by simp
  refine concat_meets (s := ⟨h, g, d, t, os⟩) ⟨_, ho, rfl⟩ ⟨_, ho2, rfl⟩ noFill_list_add seq_list_add PySem.F.slot_list_add PySem.F.entry_list_add (PySem.F.args_list_add_2 _ _) (list_addW a b xs.toArray ys.toArray n n2 dd dd2 sl sl2 (by rw [sizeLine_eq]; simp; omega)) ⟨ho, ho2, ?_⟩
  rw [e]
  exact q _ _ (L.push1 (lstO (xs ++ ys)))
theorem c_max {ns : List Int} {vs : List Value} {Q : Value → Shared → Prop} (i : Nat) (hA : A.handled = none) (L : Led H h ((Lf, fo) :: l)) (N : Loc fo names vals) (hi : l[i]? = some (a, oa)) (c : LstO oa vs) (hI : IntsAre vs ns) (hne : 0 < ns.length)
    (q : ∀ M tk h' t' fo', Led H h' ((Lf, fo') :: l) → Loc fo' names vals → M ∈ ns → (∀ x ∈ ns, x ≤ M) → Q (.int M tk) ⟨h', g, d, t', os⟩) : Wp w A (call (.builtin "max") [.ref a]) Q E ⟨h, g, d, t, os⟩ := by
  delta Wp
  obtain ⟨m, n, hm⟩ := N
  refine kso_max (s := ⟨h, g, d, t, os⟩) (L.fr n) L.news (c.at (i := i) L.tail hi) hI hne hA fun h' M tk t' F' N' h1 h2 => ?_
  obtain ⟨fo', L', n'⟩ := Led.of F' N' L.tail.nodup fun p hp => L.new p (.tail _ hp)
  exact q M tk h' t' fo' L' ⟨m, n', hm⟩ h1 h2
end
theorem ints_snoc {vs : List Value} {ns : List Int} (c : IntsAre vs ns) {n : Int} {t : Tok} : IntsAre (vs ++ [.int n t]) (ns ++ [n]) := by
  induction c with
  | nil => exact .cons _ _ .nil
  | cons n t _ ih => exact .cons _ _ ih
/-- the ledger of a Changes -/
noncomputable abbrev chL (w : World) (c : Cha) (uo so wo ho oo ro : Obj) (l : Ledger) : Ledger := (c.x, instObj 426 c.dx) :: (c.dx, c.d w) :: (c.U, uo) :: (c.S, so) :: (c.W, wo) :: (c.Hd, ho) :: (c.Ob, oo) :: (c.Fr, ro) :: l
theorem ch_changed {α : Type} {R' : Value → α → Prop} {w : World} {A : Around} {R : Result → Shared → Prop} {H h : Heap} {g : Array GenState} {d : Drawn} {t : Nat} {os : OsState} {l : Ledger} {p : Addr × Obj} {c : Cha} {uo so wo ho oo ro : Obj} {mo : List (Int × α)} {mf : List (Int × Unit)}
    (G : Gd w H) (hA : Room 7 A) (L : Led H h (p :: chL w c uo so wo ho oo ro l)) (cO : DR w R' oo mo) (cF : DR w IsT ro mf)
    (q : ∀ h' t', Led H h' (p :: chL w c uo so wo ho oo ro l) → R (.ok (.ret (.bool (decide (mo ≠ []) || decide (mf ≠ []))))) ⟨h', g, d, t', os⟩) :
    Cd w A (.call (.ref 362) ⟨[.ref c.x], []⟩) R ⟨h, g, d, t, os⟩ := by
  refine call_fn ["self"] [] [.ref c.x] 1 G L hA.depth rfl (by kernel_rfl!) rfl (BindsTo.of_eq rfl) (by decide +kernel) rfl ?_
  intro h t fo env V _ L N
  refine calm ?_
  have R5 := (hA.deeper env).mono (by decide : 5 ≤ 6)
  refine x_ret (e_or2 (e_cmp (e_attr (e_loc 0 V L N ?_))))
  refine o_get 2 3 G L rfl rfl (by kernel_rfl!) rfl rfl fun t => ?_
  refine r_dict0 IsT L fun D h od L cD => ?_
  refine d_nonempty 9 1 G R5 L rfl rfl cO cD (t_bool ?_)
  replace L := L.drop1
  by_cases e : mo = []
  · rw [decide_eq_false (by simpa using e)]
    refine if_ff (e_cmp (e_attr (e_loc 0 V L N ?_)))
    refine o_get 2 3 G L rfl rfl (by kernel_rfl!) rfl rfl fun t => ?_
    refine r_dict0 IsT L fun D h od L cD => ?_
    refine d_nonempty 10 1 G R5 L rfl rfl cF cD ?_
    have := q h t L.drop1.tail
    rw [decide_eq_false (by simpa using e), Bool.false_or] at this
    exact this
  · rw [decide_eq_true (by simpa using e)]
    refine if_tt ?_
    have := q h t L.tail
    rw [decide_eq_true (by simpa using e), Bool.true_or] at this
    exact this
theorem comp_succ {α : Type} {R' : Value → α → Prop} {w : World} {A : Around} {E : Value → Shared → Prop} {H h : Heap} {g : Array GenState} {d : Drawn} {t : Nat} {os : OsState} {env : Env} {l : Ledger} {fo o : Obj} {names gl : List Str} {a : Addr} {m : List (Int × α)} {pos p1 p2 p3 p4 : Pos} {k : Nat} {iter : PySem.Expr} {scope : Scope} {Q : Value → Shared → Prop} (i : Nat)
    (G : Gd w H) (V : EnvOk env names gl) (hh : A.handled = none) (L : Led H h ((env.locals, fo) :: l)) (hi : l[i]? = some (a, o)) (c : DR w R' o m) (hz : m.length ≤ 100) (hck : compOk scope ["number"] [] [] = true)
    (q : ∀ h' t' D dob ys, Led H h' ((env.locals, fo) :: (D, dob) :: l) → LstO dob ys → IntsAre ys (m.map (·.1 + 1)) → Q (.ref D) ⟨h', g, d, t', os⟩) :
    Wp w A (pyIter (.ref a)) (fun it s => Cb w A (.BinOp (.Name "number" p1) .Add (.Constant (.int 1) k p2) p3) (.Name "number" p4) iter [] scope pos env none Q E it s) E ⟨h, g, d, t, os⟩ := by
  refine r_it (i + 1) G L hi c fun I iob h It LI c0 src => ?_
  refine cb_run ["number"] [] [] 0 (fun j ex ys => ex = [] ∧ ys.length = j ∧ IntsAre ys ((m.take j).map (·.1 + 1))) V hck hh src (by omega) c0 LI ⟨rfl, rfl, .nil⟩ (fun p' hp' => ?_) (fun j ex ys e => by omega) ?_ ?_
  · rw [List.mem_singleton.mp hp']; exact List.mem_of_getElem? hi
  · intro j v ex ys C' co' D dob iob h t hj hv hP V' eL eF L N'
    obtain ⟨rfl, hl, hI⟩ := hP
    obtain ⟨k, b, tk, hme, rfl⟩ := hv
    refine tests_nil ?_
    rw [if_pos rfl]
    refine e_bin (e_loc 0 V' L N' (e_int fun _ _ => i_add fun tk t => ?_))
    refine ⟨h, t, [], rfl, L, rfl, by simp [hl], ?_⟩
    rw [List.take_add_one, hme, List.map_append]
    exact ints_snoc hI
  · intro h t D dob ex ys L cD hP
    obtain ⟨rfl, hl, hI⟩ := hP
    rw [List.take_length] at hI
    exact q h t D dob ys L cD hI
/-- the greatest of the ints -/
def maxI (n : Int) (xs : List Int) : Int := xs.foldl max n
theorem maxI_mem : ∀ (xs : List Int) (n : Int), maxI n xs ∈ n :: xs
  | [], n => .head _
  | x :: xs, n => by
    have := maxI_mem xs (max n x)
    rcases List.mem_cons.mp this with e | e
    · unfold maxI at e ⊢
      rw [List.foldl_cons, e]
      rcases Int.le_total n x with h | h
      · rw [Int.max_eq_right h]; exact .tail _ (.head _)
      · rw [Int.max_eq_left h]; exact .head _
    · exact .tail _ (.tail _ e)
theorem maxI_ge : ∀ (xs : List Int) (n : Int), ∀ y ∈ n :: xs, y ≤ maxI n xs
  | [], n, y, h => by rw [List.mem_singleton.mp h]; exact Int.le_refl _
  | x :: xs, n, y, h => by
    have ih := maxI_ge xs (max n x)
    show y ≤ maxI (max n x) xs
    rcases List.mem_cons.mp h with rfl | h
    · have := ih _ (.head _); omega
    rcases List.mem_cons.mp h with rfl | h
    · have := ih _ (.head _); omega
    · exact ih y (.tail _ h)
theorem maxI_uniq {M n : Int} {xs : List Int} (h1 : M ∈ n :: xs) (h2 : ∀ y ∈ n :: xs, y ≤ M) : M = maxI n xs := Int.le_antisymm (maxI_ge xs n M h1) (h2 _ (maxI_mem xs n))
def sizeOf (fs : Int) (mu ms : List (Int × Int)) : Int := maxI fs (mu.map (·.1 + 1) ++ ms.map (·.1 + 1))
theorem ch_size {w : World} {A : Around} {R : Result → Shared → Prop} {H h : Heap} {g : Array GenState} {d : Drawn} {t : Nat} {os : OsState} {l : Ledger} {p : Addr × Obj} {c : Cha} {uo so wo ho oo ro : Obj} {mu ms : List (Int × Int)}
    (G : Gd w H) (hA : Room 7 A) (L : Led H h (p :: chL w c uo so wo ho oo ro l)) (cU : DR w IsI uo mu) (cS : DR w IsI so ms) (hu : mu.length ≤ 100) (hs : ms.length ≤ 100)
    (q : ∀ h' t' tk, Led H h' (p :: chL w c uo so wo ho oo ro l) → R (.ok (.ret (.int (sizeOf c.fs mu ms) tk))) ⟨h', g, d, t', os⟩) :
    Cd w A (.call (.ref 367) ⟨[.ref c.x], []⟩) R ⟨h, g, d, t, os⟩ := by
  refine call_fn ["self"] ["max"] [.ref c.x] 1 G L hA.depth rfl (by kernel_rfl!) rfl (BindsTo.of_eq rfl) (by decide +kernel) rfl ?_
  intro h t fo env V _ L N
  refine calm ?_
  refine x_ret (e_call (e_blt 0 G V L (b_max _) (cw_b rfl (a_cons (e_bin (e_bin (e_lst (a_cons (e_attr (e_loc 0 V L N ?_)))))))))) 
  refine o_get 2 3 G L rfl rfl (by kernel_rfl!) rfl rfl fun t => a_nil ?_
  refine n_lst L (by simp) fun D1 h L1 => ?_
  refine e_comp ["number"] [] [] (by decide +kernel) (fun z hz => by cases hz) (e_attr (e_loc 0 V L1 N ?_))
  refine o_get 3 4 G L1 rfl rfl (by kernel_rfl!) rfl rfl fun t => ?_
  refine comp_succ 4 G V hA.u L1 rfl cU hu (by decide +kernel) fun h t D2 d2 y2 L2 c2 I2 => ?_
  have e2 : y2.length = mu.length := by have := I2.length; simpa using this
  refine l_add 2 1 L2 rfl rfl LstO.mk c2 (by simp; omega) fun D3 h L3 => ?_
  refine e_comp ["number"] [] [] (by decide +kernel) (fun z hz => by cases hz) (e_attr (e_loc 0 V L3 N ?_))
  refine o_get 5 6 G L3 rfl rfl (by kernel_rfl!) rfl rfl fun t => ?_
  refine comp_succ 7 G V hA.u L3 rfl cS hs (by decide +kernel) fun h t D4 d4 y4 L4 c4 I4 => ?_
  have e4 : y4.length = ms.length := by have := I4.length; simpa using this
  refine l_add 2 1 L4 rfl rfl LstO.mk c4 (by simp; omega) fun D5 h L5 => a_nil ?_
  have I5 : IntsAre (([.int c.fs c.tf] ++ y2) ++ y4) (c.fs :: (mu.map (·.1 + 1) ++ ms.map (·.1 + 1))) := .cons _ _ (I2.append I4)
  refine c_max 0 hA.u L5 N rfl LstO.mk I5 (by simp) fun M tk h t fo L6 N h1 h2 => ?_
  rw [maxI_uniq h1 h2]
  exact q h t tk (L6.re 7 [6])
end Mine
namespace Mine
set_option maxRecDepth 100000
theorem lit_len {s : String} {n : Nat} (h : (Str.ofString s).length ≤ n) : (Str.ofString s).length ≤ n := h
theorem need_holder {w : World} {A : Around} {R : Result → Shared → Prop} {H h : Heap} {g : Array GenState} {d : Drawn} {t : Nat} {os : OsState} {l fl : Ledger} {outer : List Env} {c : Cha} {uo so wo ho oo ro : Obj} {mh : List (Int × Unit)} {n : Int} {u : Tok}
    (G : Gd w H) (hA : Room 8 A) (hF : A.frames = some outer) (F : FrsOk outer fl) (L : Led H h (chL w c uo so wo ho oo ro (l ++ fl))) (cH : DR w IsT ho mh) (hn : -1 ≤ n ∧ n < 100)
    (q : ∀ h' t', ¬ n < 1 → look mh n = none → Led H h' (chL w c uo so wo ho oo ro (l ++ fl)) → R (.ok (.ret .none)) ⟨h', g, d, t', os⟩)
    (qe : ∀ e h' t' fl', (n < 1 ∨ (look mh n).isSome = true) → SameData fl fl' → Led H h' (chL w c uo so wo ho oo ro (l ++ fl')) → Fly H (chL w c uo so wo ho oo ro l) outer e h' → R (.error (.ref e)) ⟨h', g, d, t', os⟩) :
    Cd w A (.call (.ref 381) ⟨[.ref c.x, .int n u], []⟩) R ⟨h, g, d, t, os⟩ := by
  refine call_fn ["self", "number"] ["DraftFault", "str"] [.ref c.x, .int n u] 2 G L hA.depth rfl (by kernel_rfl!) rfl (BindsTo.of_eq rfl) (by decide +kernel) rfl ?_
  intro h t fo env V eF L N
  have R6 := (hA.deeper env).mono (by decide : 6 ≤ 7)
  have hs := str_small hn.1 hn.2
  have hraise : ∀ (h' : Heap) (t' : Nat) (fo : Obj) (e D a1 : Addr), (n < 1 ∨ (look mh n).isSome = true) → Loc fo ["self", "number"] [some (.ref c.x), some (.int n u)] → Led H h' ((env.locals, fo) :: (e, excO (some D) a1) :: chL w c uo so wo ho oo ro (l ++ fl)) →
      Wp w (A.deeper env) (leaving env (.ref e)) (fun _ s'' => R (.error (.ref e)) s'') (fun e' s'' => R (.error e') s'') ⟨h', g, d, t', os⟩ := fun h' t' fo e D a1 hc N L =>
    leave_first (l := chL w c uo so wo ho oo ro l) hF F eF V N L fun h'' fl' S L' Y => qe e h'' t' fl' hc S L' Y
  refine x_if (t_cmp (e_loc 1 V L N (e_int fun _ _ => i_lt (t_bool (if_two (fun h1 => ?_) fun h1 => ?_)))))
  · refine x_raise 0 G R6 V L ?_
    refine e_bin (e_str fun ts t => e_call (e_blt 1 G V L (b_str _) (cw_b rfl (a_cons (e_loc 1 V L N (a_nil (c_str (a := n) (u := u) (by omega) fun tk t => ?_)))))))
    refine i_addstr (Nat.le_trans (Nat.add_le_add (Nat.le_of_ble_eq_true (m := 100) (by decide +kernel)) hs) (by decide)) fun tk t => ?_
    exact ⟨_, _, h, t, fo, _, rfl, rfl, L, fun e D a1 h' t' L => hraise h' t' fo e D a1 (.inl h1) N L⟩
  · refine x_nil (x_if (t_cmp (e_loc 1 V L N (e_attr (e_loc 0 V L N ?_)))))
    refine o_get 1 2 G L rfl rfl (by kernel_rfl!) rfl rfl fun t => ?_
    refine r_in 6 G L rfl cH fun t => t_bool ?_
    cases hk : look mh n with
    | some b =>
      refine if_tt (x_raise 0 G R6 V L ?_)
      refine e_bin (e_bin (e_str fun ts t => e_call (e_blt 1 G V L (b_str _) (cw_b rfl (a_cons (e_loc 1 V L N (a_nil (c_str (a := n) (u := u) (by omega) fun tk t => ?_))))))))
      refine i_addstr (Nat.le_trans (Nat.add_le_add (Nat.le_of_ble_eq_true (m := 100) (by decide +kernel)) hs) (by decide)) fun tk t => ?_
      refine e_str fun ts t => i_addstr (Nat.le_trans (Nat.add_le_add (len_app (m := 100) (n := 10) (Nat.le_of_ble_eq_true (by decide +kernel)) hs) (Nat.le_of_ble_eq_true (m := 100) (by decide +kernel))) (by decide)) fun tk t => ?_
      exact ⟨_, _, h, t, fo, _, rfl, rfl, L, fun e D a1 h' t' L => hraise h' t' fo e D a1 (.inr (by rw [hk]; rfl)) N L⟩
    | none =>
      refine if_ff (x_nil (x_end ?_))
      exact q h _ h1 hk L.tail
end Mine
namespace Mine
set_option maxRecDepth 100000
theorem Led.toMid {H h : Heap} {l fl : Ledger} {p : Addr × Obj} (L : Led H h (p :: (l ++ fl))) : Led H h (l ++ p :: fl) := L.perm List.perm_middle.symm
theorem Led.ofMid {H h : Heap} {l fl : Ledger} {p : Addr × Obj} (L : Led H h (l ++ p :: fl)) : Led H h (p :: (l ++ fl)) := L.perm List.perm_middle
theorem frames_next {A : Around} {outer : List Env} {env : Env} (hF : A.frames = some outer) : (A.deeper env).frames = some (env :: outer) := Around.frames_deeper hF
theorem frs_next {env : Env} {outer : List Env} {fl : Ledger} {fo : Obj} {names gl : List Str} {vals : List (Option Value)} (F : FrsOk outer fl) (eF : env.frame = some env.locals) (V : EnvOk env names gl) (N : Loc fo names vals) : FrsOk (env :: outer) ((env.locals, fo) :: fl) := ⟨⟨eF, V.kind, N.dict⟩, F⟩
/-- an error of a callee goes on to the caller -/
theorem pass_on {w : World} {A : Around} {E : Value → Shared → Prop} {R : Result → Shared → Prop} {H h : Heap} {g : Array GenState} {d : Drawn} {t : Nat} {os : OsState} {env : Env} {outer : List Env} {lx fl fl₁ : Ledger} {fo : Obj} {e : Addr} {names gl : List Str} {vals : List (Option Value)}
    (hF : A.frames = some outer) (F : FrsOk outer fl) (eF : env.frame = some env.locals) (V : EnvOk env names gl) (N : Loc fo names vals) (S : SameData ((env.locals, fo) :: fl) fl₁) (L : Led H h (lx ++ fl₁)) (Y : Fly H lx (env :: outer) e h)
    (q : ∀ h' fl', SameData fl fl' → Led H h' (lx ++ fl') → Fly H lx outer e h' → R (.error (.ref e)) ⟨h', g, d, t, os⟩) :
    Wp w (A.deeper env) (leaving env (.ref e)) (fun _ s'' => R (.error (.ref e)) s'') E ⟨h, g, d, t, os⟩ := by
  cases fl₁ with
  | nil => exact S.elim
  | cons p fl' =>
    obtain ⟨a, fo'⟩ := p
    obtain ⟨⟨s1, s2⟩, s3⟩ := S
    dsimp only at s1 s2
    subst s1
    obtain ⟨es, ep, hd⟩ := N.dict
    exact leave_next hF (F.same s3) eF V ⟨es, ep, s2.trans hd⟩ L Y fun h' fl'' S' L' Y' => q h' fl'' (s3.trans S') L' Y'
def genFor (mu ms : List (Int × Int)) (n : Int) : Int := (look mu n).getD ((look ms n).getD 0)
def spent (mu ms : List (Int × Int)) (n : Int) : Prop := look mu n = none ∧ 65535 ≤ (look ms n).getD 0
theorem gen_for {w : World} {A : Around} {R : Result → Shared → Prop} {H h : Heap} {g : Array GenState} {d : Drawn} {t : Nat} {os : OsState} {l fl : Ledger} {outer : List Env} {c : Cha} {uo so wo ho oo ro : Obj} {mu ms : List (Int × Int)} {n : Int} {u : Tok}
    (G : Gd w H) (hA : Room 8 A) (hF : A.frames = some outer) (F : FrsOk outer fl) (L : Led H h (chL w c uo so wo ho oo ro (l ++ fl))) (cU : DR w IsI uo mu) (cS : DR w IsI so ms) (hn : -1 ≤ n ∧ n < 100)
    (q : ∀ h' t' tk, ¬ spent mu ms n → Led H h' (chL w c uo so wo ho oo ro (l ++ fl)) → R (.ok (.ret (.int (genFor mu ms n) tk))) ⟨h', g, d, t', os⟩)
    (qe : ∀ e h' t' fl', spent mu ms n → SameData fl fl' → Led H h' (chL w c uo so wo ho oo ro (l ++ fl')) → Fly H (chL w c uo so wo ho oo ro l) outer e h' → R (.error (.ref e)) ⟨h', g, d, t', os⟩) :
    Cd w A (.call (.ref 374) ⟨[.ref c.x, .int n u], []⟩) R ⟨h, g, d, t, os⟩ := by
  refine call_fn ["self", "number", "generation"] ["MOST_GENERATION", "DraftFault", "str"] [.ref c.x, .int n u] 2 G L hA.depth rfl (by kernel_rfl!) rfl (BindsTo.of_eq rfl) (by decide +kernel) rfl ?_
  intro h t fo env V eF L N
  have R6 := (hA.deeper env).mono (by decide : 6 ≤ 7)
  have hs := str_small hn.1 hn.2
  refine x_if (t_cmp (e_loc 1 V L N (e_attr (e_loc 0 V L N ?_))))
  refine o_get 1 2 G L rfl rfl (by kernel_rfl!) rfl rfl fun t => ?_
  refine r_in 3 G L rfl cU fun t => t_bool ?_
  cases hk : look mu n with
  | some b =>
    refine if_tt (x_ret (e_sub (e_attr (e_loc 0 V L N ?_))))
    refine o_get 1 2 G L rfl rfl (by kernel_rfl!) rfl rfl fun t => e_loc 1 V L N ?_
    refine r_item 3 L rfl cU hk fun t v hv => ?_
    obtain ⟨tk, rfl⟩ := hv
    have := q h t tk (fun z => by have := z.1; rw [hk] at this; cases this) L.tail
    unfold genFor at this
    rw [hk] at this
    exact this
  | none =>
    refine if_ff (x_nil (x_assign (e_mcall (e_attr (e_loc 0 V L N ?_)))))
    refine o_get 1 2 G L rfl rfl (by kernel_rfl!) rfl rfl fun t => ?_
    refine r_meth 4 L rfl cS (.inl ⟨rfl, rfl⟩) (cw_b rfl (a_cons (e_loc 1 V L N (a_cons (e_int fun tz t => a_nil ?_)))))
    refine r_get2 4 G L rfl cS fun t v hv => ?_
    obtain ⟨tv, rfl⟩ : ∃ tv, v = .int ((look ms n).getD 0) tv := by
      cases hs : look ms n with
      | some b => rw [hs] at hv; obtain ⟨tv, rfl⟩ := hv; exact ⟨tv, rfl⟩
      | none => rw [hs] at hv; exact ⟨tz, hv⟩
    refine s_loc 2 V L N fun h t fo L N => ?_
    refine x_if (t_cmp (e_loc 2 V L N (e_glob 0 G V L (g_MOST _) (i_ge (t_bool (if_two (fun h1 => ?_) fun h1 => ?_))))))
    · refine x_raise 1 G R6 V L ?_
      refine e_bin (e_bin (e_str fun ts t => e_call (e_blt 2 G V L (b_str _) (cw_b rfl (a_cons (e_loc 1 V L N (a_nil (c_str (a := n) (u := u) (by omega) fun tk t => ?_))))))))
      refine i_addstr (Nat.le_trans (Nat.add_le_add (Nat.le_of_ble_eq_true (m := 100) (by decide +kernel)) hs) (by decide)) fun tk t => ?_
      refine e_str fun ts t => i_addstr (Nat.le_trans (Nat.add_le_add (len_app (m := 100) (n := 10) (Nat.le_of_ble_eq_true (by decide +kernel)) hs) (Nat.le_of_ble_eq_true (m := 100) (by decide +kernel))) (by decide)) fun tk t => ?_
      exact ⟨_, _, h, t, fo, _, rfl, rfl, L, fun e D a1 h' t' L => leave_first (l := chL w c uo so wo ho oo ro l) hF F eF V N L fun h'' fl' S L' Y => qe e h'' t' fl' ⟨hk, h1⟩ S L' Y⟩
    · refine x_nil (x_ret (e_loc 2 V L N ?_))
      have := q h t tv (fun z => h1 z.2) L.tail
      unfold genFor at this
      rw [hk] at this
      exact this
end Mine
namespace Mine
set_option maxRecDepth 100000
/-- a pair (generation, [turn]) as an object laid -/
def ObR (l : Ledger) (v : Value) (b : Int × Int) : Prop := ∃ T K ko u1 u2, v = .ref T ∧ (T, tupO [.int b.1 u1, .ref K]) ∈ l ∧ (K, ko) ∈ l ∧ LstO ko [.int b.2 u2]
theorem ObR.mono {l l' : Ledger} {v : Value} {b : Int × Int} (h : ObR l v b) (k : ∀ p ∈ l, p ∈ l') : ObR l' v b := let ⟨T, K, ko, u1, u2, a, b, c, d⟩ := h; ⟨T, K, ko, u1, u2, a, k _ b, k _ c, d⟩
/-- a Reference -/
def RefR (w : World) (l : Ledger) (v : Value) (n g : Int) : Prop := ∃ x dx u1 u2 t1 t2, v = .ref x ∧ (x, instObj 287 dx) ∈ l ∧ (dx, refD w (.int n u1) (.int g u2) t1 t2) ∈ l
def fillS (ms : List (Int × Int)) (s : Int) : Nat → List (Int × Int)
  | 0 => ms
  | j + 1 => put (fillS ms s j) (s + j) 0
theorem fillS_len (ms : List (Int × Int)) (s : Int) : ∀ j, (fillS ms s j).length ≤ ms.length + j
  | 0 => Nat.le_refl _
  | j + 1 => Nat.le_trans (put_len _ _ _) (by have := fillS_len ms s j; omega)
theorem ch_lay {w : World} {A : Around} {R : Result → Shared → Prop} {H h : Heap} {g : Array GenState} {d : Drawn} {t : Nat} {os : OsState} {l lb fl : Ledger} {outer : List Env} {c : Cha} {uo so wo ho oo ro : Obj} {mu ms : List (Int × Int)} {mh mf : List (Int × Unit)} {mo : List (Int × Int × Int)} {n gen turn : Int} {u ug ut : Tok} {av : Addr} {vo : Obj}
    (G : Gd w H) (hA : Room 12 A) (hF : A.frames = some outer) (F : FrsOk outer fl) (L : Led H h (chL w c uo so wo ho oo ro (l ++ fl))) (cU : DR w IsI uo mu) (cS : DR w IsI so ms) (cH : DR w IsT ho mh) (cO : DR w (ObR lb) oo mo) (cF : DR w IsT ro mf) (hv : (av, vo) ∈ l) (cV : LstO vo [.int turn ut]) (hn : -1 ≤ n ∧ n < 100)
    (b1 : mu.length ≤ 100) (b2 : ms.length ≤ 100) (b3 : mo.length ≤ 100) (b4 : mf.length ≤ 100) (b5 : -100 ≤ c.fs ∧ c.fs ≤ 100) (b6 : ∀ k ∈ mu.map (·.1), -100 ≤ k ∧ k ≤ 100) (b7 : ∀ k ∈ ms.map (·.1), -100 ≤ k ∧ k ≤ 100)
    (q : ∀ h' t' uo' so' oo' ro' ex v, ¬ n < 1 → look mh n = none → Led H h' (chL w c uo' so' wo ho oo' ro' ((ex ++ l) ++ fl)) → DR w IsI uo' (put mu n gen) → DR w IsI so' (del (fillS ms (sizeOf c.fs mu ms) (n - sizeOf c.fs mu ms).toNat) n) → DR w (ObR (ex ++ lb)) oo' (put mo n (gen, turn)) → DR w IsT ro' (del mf n) →
      RefR w (ex ++ l) v n gen → R (.ok (.ret v)) ⟨h', g, d, t', os⟩)
    (qe : ∀ e h' t' fl', (n < 1 ∨ (look mh n).isSome = true) → SameData fl fl' → Led H h' (chL w c uo so wo ho oo ro (l ++ fl')) → Fly H (chL w c uo so wo ho oo ro l) outer e h' → R (.error (.ref e)) ⟨h', g, d, t', os⟩) :
    Cd w A (.call (.ref 388) ⟨[.ref c.x, .int n u, .int gen ug, .ref av], []⟩) R ⟨h, g, d, t, os⟩ := by
  refine call_fn ["self", "number", "generation", "value", "kept", "between"] ["copied", "range", "Reference"] [.ref c.x, .int n u, .int gen ug, .ref av] 4 G L hA.depth rfl (by kernel_rfl!) rfl (BindsTo.of_eq rfl) (by decide +kernel) rfl ?_
  intro h t fo env V eF L N
  have R11 := hA.deeper env
  -- self.need_no_holder(number)
  refine x_expr (e_mcall (e_loc 0 V L N ?_)) V
  refine o_meth (f := 381) 1 2 G L rfl rfl (by kernel_rfl!) rfl ?_
  refine cw_f G (by kernel_rfl!) (a_cons (e_loc 1 V L N (a_nil ⟨⟨_, L⟩, e_code ?_⟩)))
  refine need_holder (l := l) (fl := (env.locals, fo) :: fl) G (R11.mono (by decide)) (frames_next hF) (frs_next F eF V N) (L.toMid (l := chL w c uo so wo ho oo ro l)) cH hn (fun h t h1 h2 L => ?_) (fun e h t fl₁ hc S L Y => pass_on (lx := chL w c uo so wo ho oo ro l) hF F eF V N S L Y fun h' fl' S' L' Y' => qe e h' _ fl' hc S' L' Y')
  replace L : Led H h ((env.locals, fo) :: chL w c uo so wo ho oo ro (l ++ fl)) := L.ofMid (l := chL w c uo so wo ho oo ro l)
  -- kept = copied(value)
  refine x_assign (e_call (e_glob 0 G V L (g_copied _) (cw_f G (by kernel_rfl!) (a_cons (e_loc 3 V L N (a_nil ⟨⟨_, L⟩, e_code ?_⟩))))))
  obtain ⟨iv, hiv⟩ := at_of_mem (show (av, vo) ∈ (env.locals, fo) :: chL w c uo so wo ho oo ro (l ++ fl) from by simp [hv])
  refine copied_list (i := iv) G (R11.mono (by decide)) L hiv cV (fun v hv => ⟨turn, ut, List.mem_singleton.mp hv⟩) (by simp) fun h t K ko L cK => ?_
  refine s_loc 4 V L N fun h t fo L N => ?_
  -- for between in range(self.size(), number)
  refine x_for (e_call (e_blt 1 G V L (b_range _) (cw_b rfl (a_cons (e_mcall (e_loc 0 V L N ?_))))))
  refine o_meth (f := 367) 2 3 G L rfl rfl (by kernel_rfl!) rfl (cw_f0 G L (by kernel_rfl!) (e_code ?_))
  replace L : Led H h ((env.locals, fo) :: chL w c uo so wo ho oo ro ((K, ko) :: (l ++ fl))) := L.re 10 [0, 2, 3, 4, 5, 6, 7, 8, 9, 1]
  refine ch_size G (R11.mono (by decide)) L cU cS b1 b2 fun h t ts L => ?_
  refine a_cons (e_loc 1 V L N (a_nil ?_))
  have hsz : -200 ≤ sizeOf c.fs mu ms ∧ sizeOf c.fs mu ms ≤ 200 := by
    have := maxI_mem (mu.map (·.1 + 1) ++ ms.map (·.1 + 1)) c.fs
    unfold sizeOf
    generalize maxI c.fs _ = M at *
    rcases List.mem_cons.mp this with e | e
    · omega
    · rcases List.mem_append.mp e with e | e
      · obtain ⟨p, hp, rfl⟩ := List.mem_map.mp e
        have := b6 p.1 (List.mem_map_of_mem hp)
        omega
      · obtain ⟨p, hp, rfl⟩ := List.mem_map.mp e
        have := b7 p.1 (List.mem_map_of_mem hp)
        omega
  generalize hse : sizeOf c.fs mu ms = sz at *
  refine it_range2 L (by omega) (by omega) fun I iob h t LI cI src => ?_
  refine for_name 5 (fun j l' vals => vals = [some (.ref c.x), some (.int n u), some (.int gen ug), some (.ref av), some (.ref K)] ∧ ∃ so, l' = chL w c uo so wo ho oo ro ((K, ko) :: (l ++ fl)) ∧ DR w IsI so (fillS ms sz j)) V R11.u src cI LI N ⟨rfl, so, rfl, cS⟩ (fun _ _ _ _ p hp => by cases hp) ?_ ?_
  · intro j v l' vals h t fo iob hj hv hJ L c0 N
    obtain ⟨tk, rfl⟩ := hv
    obtain ⟨rfl, so, rfl, cS⟩ := hJ
    have lenj := fillS_len ms sz j
    refine x_setitem (e_int fun tz t => e_attr (e_loc 0 V L N ?_))
    refine o_get 2 3 G L rfl rfl (by kernel_rfl!) rfl rfl fun t => e_loc 5 V L N ?_
    refine r_set 5 L rfl cS (b := 0) ⟨tz, rfl⟩ (by omega) fun h t so L cS => x_end ?_
    exact ⟨h, t, fo, _, _, iob, rfl, L, c0, N.take 5, rfl, so, rfl, cS⟩
  · intro h t fo l' vals L N hJ
    obtain ⟨rfl, so, rfl, cS⟩ := hJ
    have lenj := fillS_len ms sz (n - sz).toNat
    -- self.objects[number] = (generation, kept)
    refine x_setitem (e_tup (a_cons (e_loc 2 V L N (a_cons (e_loc 4 V L N (a_nil (n_tup L (by simp) fun T h L => ?_)))))))
    replace L : Led H h ((env.locals, fo) :: chL w c uo so wo ho oo ro ((T, tupO [.int gen ug, .ref K]) :: (K, ko) :: (l ++ fl))) := L.re 10 [0, 2, 3, 4, 5, 6, 7, 8, 9, 1]
    refine e_attr (e_loc 0 V L N ?_)
    refine o_get 1 2 G L rfl rfl (by kernel_rfl!) rfl rfl fun t => e_loc 1 V L N ?_
    refine r_set (R := ObR ([(T, tupO [.int gen ug, .ref K]), (K, ko)] ++ lb)) 7 L rfl (cO.mono fun v b z => z.mono fun p hp => List.mem_append_right _ hp) (b := (gen, turn)) ⟨T, K, ko, ug, ut, rfl, .head _, .tail _ (.head _), cK⟩ (by omega) fun h t oo L cO => ?_
    -- self.used[number] = generation
    refine x_setitem (e_loc 2 V L N (e_attr (e_loc 0 V L N ?_)))
    refine o_get 1 2 G L rfl rfl (by kernel_rfl!) rfl rfl fun t => e_loc 1 V L N ?_
    refine r_set 3 L rfl cU (b := gen) ⟨ug, rfl⟩ (by omega) fun h t uo L cU => ?_
    -- self.spare.pop(number, None)
    refine x_expr (e_mcall (e_attr (e_loc 0 V L N ?_))) V
    refine o_get 1 2 G L rfl rfl (by kernel_rfl!) rfl rfl fun t => r_meth 4 L rfl cS (.inr ⟨rfl, rfl⟩) (cw_b rfl (a_cons (e_loc 1 V L N (a_cons (e_none (a_nil ?_))))))
    refine r_pop2 4 G L rfl cS (by omega) fun h t so v L cS => ?_
    -- self.freed.pop(number, None)
    refine x_expr (e_mcall (e_attr (e_loc 0 V L N ?_))) V
    refine o_get 1 2 G L rfl rfl (by kernel_rfl!) rfl rfl fun t => r_meth 8 L rfl cF (.inr ⟨rfl, rfl⟩) (cw_b rfl (a_cons (e_loc 1 V L N (a_cons (e_none (a_nil ?_))))))
    refine r_pop2 8 G L rfl cF (by omega) fun h t ro v L cF => ?_
    -- return Reference(number, generation)
    refine x_ret (e_call (e_glob 2 G V L (g_Reference _) (cw_f G (by kernel_rfl!) (a_cons (e_loc 1 V L N (a_cons (e_loc 2 V L N (a_nil ⟨⟨_, L⟩, ?_⟩))))))))
    refine c_cls (fI := 277) G L (by kernel_rfl!) fun x dx h L => ?_
    refine ref_init G (Room.make (R11.mono (by decide : 6 ≤ 11)) _ _ _).depth (L.re 3 [1, 2, 0]) fun h t t1 t2 L => ⟨rfl, ?_⟩
    refine q h t uo so oo ro [(x, instObj 287 dx), (dx, refD w (.int n u) (.int gen ug) t1 t2), (T, tupO [.int gen ug, .ref K]), (K, ko)] (.ref x) h1 h2 (L.re 13 [3, 4, 5, 6, 7, 8, 9, 10, 0, 1, 11, 12]) cU cS ?_ cF ⟨x, dx, u, ug, t1, t2, rfl, .head _, .tail _ (.head _)⟩
    exact cO.mono fun v b z => z.mono fun p hp => .tail _ (.tail _ hp)
end Mine
namespace Mine
set_option maxRecDepth 100000
theorem x_while {w : World} {A : Around} {E : Value → Shared → Prop} {s : Shared} {env : Env} {pos : Pos} {test : PySem.Expr} {body rest : List Stmt} {Q : Flow → Shared → Prop} (I : Nat → Shared → Prop) (n : Nat) (h : I n s)
    (turn : ∀ n s, I n s → Wp w A (isTrue test env (eval test env)) (fun b s₂ => if b = true then Wp w A (execs body env) (fun f s₃ => match f with | .next | .cont => ∃ m, m < n ∧ I m s₃ | _ => False) (fun _ _ => False) s₂ else Wp w A (execs rest env) Q E s₂) (fun _ _ => False) s) :
    Wp w A (execs (.While test body [] pos :: rest) env) Q E s := by
  refine x_cons ?_
  have turn' := fun n s hI => (turn n s hI).out
  delta Wp
  refine wpAny_While (codeAny_whileLoop I (fun n s hI => ?_) n h)
  refine wp_calmNoted (wpAny_mono (turn' n s hI) (fun b s₂ z => ?_) fun _ _ z => z)
  cases b with
  | false =>
    rw [if_neg Bool.false_ne_true] at z ⊢
    exact wpAny_execs_nil (by unfold thenX; exact z)
  | true =>
    rw [if_pos rfl] at z ⊢
    refine wp_calmNoted (wpAny_mono z.out (fun f s₃ z => ?_) fun _ _ z => z)
    cases f with
    | next => exact z
    | cont => exact z
    | brk => exact z.elim
    | ret v => exact z.elim
section
variable {w : World} {A : Around} {R : Result → Shared → Prop} {H h : Heap} {g : Array GenState} {d : Drawn} {t : Nat} {os : OsState} {l lb fl : Ledger} {outer : List Env} {c : Cha} {uo so wo ho oo ro : Obj} {mu ms : List (Int × Int)} {mh mf : List (Int × Unit)} {mo : List (Int × Int × Int)} {n gen turn : Int} {u ug ut : Tok} {av : Addr} {vo : Obj}
theorem ch_put (G : Gd w H) (hA : Room 14 A) (hF : A.frames = some outer) (F : FrsOk outer fl) (L : Led H h (chL w c uo so wo ho oo ro (l ++ fl))) (cU : DR w IsI uo mu) (cS : DR w IsI so ms) (cH : DR w IsT ho mh) (cO : DR w (ObR lb) oo mo) (cF : DR w IsT ro mf) (hv : (av, vo) ∈ l) (cV : LstO vo [.int turn ut]) (hn : -1 ≤ n ∧ n < 100)
    (b1 : mu.length ≤ 100) (b2 : ms.length ≤ 100) (b3 : mo.length ≤ 100) (b4 : mf.length ≤ 100) (b5 : -100 ≤ c.fs ∧ c.fs ≤ 100) (b6 : ∀ k ∈ mu.map (·.1), -100 ≤ k ∧ k ≤ 100) (b7 : ∀ k ∈ ms.map (·.1), -100 ≤ k ∧ k ≤ 100)
    (q : ∀ h' t' uo' so' oo' ro' ex v, ¬ n < 1 → look mh n = none → ¬ spent mu ms n → Led H h' (chL w c uo' so' wo ho oo' ro' ((ex ++ l) ++ fl)) → DR w IsI uo' (put mu n (genFor mu ms n)) → DR w IsI so' (del (fillS ms (sizeOf c.fs mu ms) (n - sizeOf c.fs mu ms).toNat) n) → DR w (ObR (ex ++ lb)) oo' (put mo n (genFor mu ms n, turn)) → DR w IsT ro' (del mf n) →
      RefR w (ex ++ l) v n (genFor mu ms n) → R (.ok (.ret v)) ⟨h', g, d, t', os⟩)
    (qe : ∀ e h' t' fl', (n < 1 ∨ (look mh n).isSome = true ∨ spent mu ms n) → SameData fl fl' → Led H h' (chL w c uo so wo ho oo ro (l ++ fl')) → Fly H (chL w c uo so wo ho oo ro l) outer e h' → R (.error (.ref e)) ⟨h', g, d, t', os⟩) :
    Cd w A (.call (.ref 395) ⟨[.ref c.x, .int n u, .ref av], []⟩) R ⟨h, g, d, t, os⟩ := by
  refine call_fn ["self", "number", "value"] [] [.ref c.x, .int n u, .ref av] 3 G L hA.depth rfl (by kernel_rfl!) rfl (BindsTo.of_eq rfl) (by decide +kernel) rfl ?_
  intro h t fo env V eF L N
  have R13 := hA.deeper env
  refine x_expr (e_mcall (e_loc 0 V L N ?_)) V
  refine o_meth (f := 381) 1 2 G L rfl rfl (by kernel_rfl!) rfl ?_
  refine cw_f G (by kernel_rfl!) (a_cons (e_loc 1 V L N (a_nil ⟨⟨_, L⟩, e_code ?_⟩)))
  refine need_holder (l := l) (fl := (env.locals, fo) :: fl) G (R13.mono (by decide)) (frames_next hF) (frs_next F eF V N) (L.toMid (l := chL w c uo so wo ho oo ro l)) cH hn (fun h t h1 h2 L => ?_) (fun e h t fl₁ hc S L Y => pass_on (lx := chL w c uo so wo ho oo ro l) hF F eF V N S L Y fun h' fl' S' L' Y' => qe e h' _ fl' (hc.imp id .inl) S' L' Y')
  replace L : Led H h ((env.locals, fo) :: chL w c uo so wo ho oo ro (l ++ fl)) := L.ofMid (l := chL w c uo so wo ho oo ro l)
  refine x_ret (e_mcall (e_loc 0 V L N ?_))
  refine o_meth (f := 388) 1 2 G L rfl rfl (by kernel_rfl!) rfl ?_
  refine cw_f G (by kernel_rfl!) (a_cons (e_loc 1 V L N (a_cons (e_mcall (e_loc 0 V L N ?_)))))
  refine o_meth (f := 374) 1 2 G L rfl rfl (by kernel_rfl!) rfl ?_
  refine cw_f G (by kernel_rfl!) (a_cons (e_loc 1 V L N (a_nil ⟨⟨_, L⟩, e_code ?_⟩)))
  refine gen_for (l := l) (fl := (env.locals, fo) :: fl) G (R13.mono (by decide)) (frames_next hF) (frs_next F eF V N) (L.toMid (l := chL w c uo so wo ho oo ro l)) cU cS hn (fun h t tk h3 L => ?_) (fun e h t fl₁ hc S L Y => pass_on (lx := chL w c uo so wo ho oo ro l) hF F eF V N S L Y fun h' fl' S' L' Y' => qe e h' _ fl' (.inr (.inr hc)) S' L' Y')
  replace L : Led H h ((env.locals, fo) :: chL w c uo so wo ho oo ro (l ++ fl)) := L.ofMid (l := chL w c uo so wo ho oo ro l)
  refine a_cons (e_loc 2 V L N (a_nil ⟨⟨_, L⟩, e_code ?_⟩))
  refine ch_lay (l := l) (fl := (env.locals, fo) :: fl) G (R13.mono (by decide)) (frames_next hF) (frs_next F eF V N) (L.toMid (l := chL w c uo so wo ho oo ro l)) cU cS cH cO cF hv cV hn b1 b2 b3 b4 b5 b6 b7 (fun h t uo' so' oo' ro' ex v _ _ L cU cS cO cF hR => ?_) (fun e h t fl₁ hc _ _ _ => ?_)
  · exact q h t uo' so' oo' ro' ex v h1 h2 h3 (L.ofMid (l := chL w c uo' so' wo ho oo' ro' (ex ++ l))).tail cU cS cO cF hR
  · exfalso
    rcases hc with hc | hc
    · exact h1 hc
    · rw [h2] at hc; cases hc
theorem ch_add (N₀ : Nat) (G : Gd w H) (hA : Room 16 A) (hF : A.frames = some outer) (F : FrsOk outer fl) (L : Led H h (chL w c uo so wo ho oo ro (l ++ fl))) (cU : DR w IsI uo mu) (cS : DR w IsI so ms) (cH : DR w IsT ho mh) (cO : DR w (ObR lb) oo mo) (cF : DR w IsT ro mf) (hv : (av, vo) ∈ l) (cV : LstO vo [.int turn ut]) (hN : N₀ < 90)
    (hbad : ∀ j : Nat, j < N₀ → (look mu (j + 1)).isSome = true ∨ 65535 ≤ (look ms (j + 1)).getD 0) (hgood : ¬ ((look mu (N₀ + 1)).isSome = true ∨ 65535 ≤ (look ms (N₀ + 1)).getD 0)) (hn : n = N₀ + 1)
    (b1 : mu.length ≤ 100) (b2 : ms.length ≤ 100) (b3 : mo.length ≤ 100) (b4 : mf.length ≤ 100) (b5 : -100 ≤ c.fs ∧ c.fs ≤ 100) (b6 : ∀ k ∈ mu.map (·.1), -100 ≤ k ∧ k ≤ 100) (b7 : ∀ k ∈ ms.map (·.1), -100 ≤ k ∧ k ≤ 100)
    (q : ∀ h' t' uo' so' oo' ro' ex v, ¬ n < 1 → look mh n = none → ¬ spent mu ms n → Led H h' (chL w c uo' so' wo ho oo' ro' ((ex ++ l) ++ fl)) → DR w IsI uo' (put mu n (genFor mu ms n)) → DR w IsI so' (del (fillS ms (sizeOf c.fs mu ms) (n - sizeOf c.fs mu ms).toNat) n) → DR w (ObR (ex ++ lb)) oo' (put mo n (genFor mu ms n, turn)) → DR w IsT ro' (del mf n) →
      RefR w (ex ++ l) v n (genFor mu ms n) → R (.ok (.ret v)) ⟨h', g, d, t', os⟩)
    (qe : ∀ e h' t' fl', (n < 1 ∨ (look mh n).isSome = true ∨ spent mu ms n) → SameData fl fl' → Led H h' (chL w c uo so wo ho oo ro (l ++ fl')) → Fly H (chL w c uo so wo ho oo ro l) outer e h' → R (.error (.ref e)) ⟨h', g, d, t', os⟩) :
    Cd w A (.call (.ref 402) ⟨[.ref c.x, .ref av], []⟩) R ⟨h, g, d, t, os⟩ := by
  refine call_fn ["self", "value", "number"] ["MOST_GENERATION"] [.ref c.x, .ref av] 2 G L hA.depth rfl (by kernel_rfl!) rfl (BindsTo.of_eq rfl) (by decide +kernel) rfl ?_
  intro h t fo env V eF L N
  have R15 := hA.deeper env
  refine x_assign (e_int fun tk t => s_loc 2 V L N fun h t fo L N => ?_)
  refine x_while (fun m s => ∃ (j : Nat) (h : Heap) (t : Nat) (fo : Obj) (tk : Tok), s = ⟨h, g, d, t, os⟩ ∧ m = N₀ - j ∧ j ≤ N₀ ∧ Led H h ((env.locals, fo) :: chL w c uo so wo ho oo ro (l ++ fl)) ∧ Loc fo ["self", "value", "number"] [some (.ref c.x), some (.ref av), some (.int ((j : Int) + 1) tk)]) N₀ ⟨0, h, t, fo, tk, rfl, rfl, Nat.zero_le _, L, by rw [show (((0 : Nat) : Int) + 1) = 1 from rfl]; exact N⟩ ?_
  rintro m s ⟨j, h, t, fo, tk, rfl, rfl, hj, L, N⟩
  refine Wp.mono (Q := fun b s => ∃ t, s = ⟨h, g, d, t, os⟩ ∧ (b = true ↔ ((look mu ((j : Int) + 1)).isSome = true ∨ 65535 ≤ (look ms ((j : Int) + 1)).getD 0))) (E := fun _ _ => False) ?_ (fun b s z => ?_) (fun _ _ z => z)
  · refine t_or (t_cmp (e_loc 2 V L N (e_attr (e_loc 0 V L N ?_))))
    refine o_get 1 2 G L rfl rfl (by kernel_rfl!) rfl rfl fun t => r_in 3 G L rfl cU fun t => t_bool ?_
    by_cases hb : (look mu ((j : Int) + 1)).isSome = true
    · rw [hb]
      exact if_tt ⟨t, rfl, by simp⟩
    · rw [Bool.not_eq_true] at hb
      rw [hb]
      refine if_ff (t_or (t_cmp (e_mcall (e_attr (e_loc 0 V L N ?_)))))
      refine o_get 1 2 G L rfl rfl (by kernel_rfl!) rfl rfl fun t => ?_
      refine r_meth 4 L rfl cS (.inl ⟨rfl, rfl⟩) (cw_b rfl (a_cons (e_loc 2 V L N (a_cons (e_int fun tz t => a_nil ?_)))))
      refine r_get2 4 G L rfl cS fun t v hv => ?_
      obtain ⟨tv, rfl⟩ : ∃ tv, v = .int ((look ms ((j : Int) + 1)).getD 0) tv := by
        cases hs : look ms ((j : Int) + 1) with
        | some b => rw [hs] at hv; obtain ⟨tv, rfl⟩ := hv; exact ⟨tv, rfl⟩
        | none => rw [hs] at hv; exact ⟨tz, hv⟩
      refine e_glob 0 G V L (g_MOST _) (i_ge (t_bool (if_two (fun h1 => ?_) fun h1 => ?_)))
      · exact ⟨_, rfl, by simp [h1]⟩
      · exact t_or0 ⟨_, rfl, by simp [h1]⟩
  · obtain ⟨t, rfl, hb⟩ := z
    cases b with
    | false =>
      refine if_ff ?_
      have hg : ¬ ((look mu ((j : Int) + 1)).isSome = true ∨ 65535 ≤ (look ms ((j : Int) + 1)).getD 0) := fun z => Bool.false_ne_true (hb.mpr z)
      have ej : j = N₀ := by
        rcases Nat.lt_or_ge j N₀ with h | h
        · exact absurd (hbad j h) hg
        · omega
      subst ej
      subst hn
      refine x_ret (e_mcall (e_loc 0 V L N ?_))
      refine o_meth (f := 395) 1 2 G L rfl rfl (by kernel_rfl!) rfl ?_
      refine cw_f G (by kernel_rfl!) (a_cons (e_loc 2 V L N (a_cons (e_loc 1 V L N (a_nil ⟨⟨_, L⟩, e_code ?_⟩)))))
      refine ch_put (l := l) (fl := (env.locals, fo) :: fl) G (R15.mono (by decide)) (frames_next hF) (frs_next F eF V N) (L.toMid (l := chL w c uo so wo ho oo ro l)) cU cS cH cO cF hv cV (by omega) b1 b2 b3 b4 b5 b6 b7 (fun h t uo' so' oo' ro' ex v h1 h2 h3 L cU cS cO cF hR => ?_) (fun e h t fl₁ hc S L Y => pass_on (lx := chL w c uo so wo ho oo ro l) hF F eF V N S L Y fun h' fl' S' L' Y' => qe e h' _ fl' hc S' L' Y')
      exact q h t uo' so' oo' ro' ex v h1 h2 h3 (L.ofMid (l := chL w c uo' so' wo ho oo' ro' (ex ++ l))).tail cU cS cO cF hR
    | true =>
      refine if_tt ?_
      have hj' : j < N₀ := by
        rcases Nat.lt_or_ge j N₀ with h | h
        · exact h
        · have : j = N₀ := by omega
          subst this; exact absurd (hb.mp rfl) hgood
      refine x_assign (e_bin (e_loc 2 V L N (e_int fun _ _ => i_add fun tk t => s_loc 2 V L N fun h t fo L N => x_end ?_)))
      have e1 : ((j : Int) + 1 + 1) = (((j + 1 : Nat) : Int) + 1) := by omega
      rw [e1] at N
      exact ⟨N₀ - (j + 1), by omega, j + 1, h, t, fo, tk, rfl, rfl, hj', L, N⟩
theorem ch_free (G : Gd w H) (hA : Room 12 A) (hF : A.frames = some outer) (F : FrsOk outer fl) (L : Led H h (chL w c uo so wo ho oo ro (l ++ fl))) (cU : DR w IsI uo mu) (cS : DR w IsI so ms) (cH : DR w IsT ho mh) (cO : DR w (ObR lb) oo mo) (cF : DR w IsT ro mf) (hn : -1 ≤ n ∧ n < 100)
    (b1 : mu.length ≤ 100) (b2 : ms.length ≤ 100) (b3 : mo.length ≤ 100) (b4 : mf.length ≤ 100)
    (q : ∀ h' t' uo' so' oo' ro' gn, ¬ n < 1 → look mh n = none → look mu n = some gn → Led H h' (chL w c uo' so' wo ho oo' ro' (l ++ fl)) → DR w IsI uo' (del mu n) → DR w IsI so' (put ms n (gn + 1)) → DR w (ObR lb) oo' (del mo n) → DR w IsT ro' (put mf n ()) → R (.ok (.ret .none)) ⟨h', g, d, t', os⟩)
    (qe : ∀ e h' t' fl', (look mu n = none ∨ n < 1 ∨ (look mh n).isSome = true) → SameData fl fl' → Led H h' (chL w c uo so wo ho oo ro (l ++ fl')) → Fly H (chL w c uo so wo ho oo ro l) outer e h' → R (.error (.ref e)) ⟨h', g, d, t', os⟩) :
    Cd w A (.call (.ref 409) ⟨[.ref c.x, .int n u], []⟩) R ⟨h, g, d, t, os⟩ := by
  refine call_fn ["self", "number"] ["DraftFault", "str"] [.ref c.x, .int n u] 2 G L hA.depth rfl (by kernel_rfl!) rfl (BindsTo.of_eq rfl) (by decide +kernel) rfl ?_
  intro h t fo env V eF L N
  have R11 := hA.deeper env
  have hs := str_small hn.1 hn.2
  refine x_if (t_cmp (e_loc 1 V L N (e_attr (e_loc 0 V L N ?_))))
  refine o_get 1 2 G L rfl rfl (by kernel_rfl!) rfl rfl fun t => r_notin 3 G L rfl cU fun t => t_bool ?_
  cases hk : look mu n with
  | none =>
    refine if_tt (x_raise 0 G (R11.mono (by decide)) V L ?_)
    refine e_bin (e_bin (e_str fun ts t => e_call (e_blt 1 G V L (b_str _) (cw_b rfl (a_cons (e_loc 1 V L N (a_nil (c_str (a := n) (u := u) (by omega) fun tk t => ?_))))))))
    refine i_addstr (Nat.le_trans (Nat.add_le_add (Nat.le_of_ble_eq_true (m := 100) (by decide +kernel)) hs) (by decide)) fun tk t => ?_
    refine e_str fun ts t => i_addstr (Nat.le_trans (Nat.add_le_add (len_app (m := 100) (n := 10) (Nat.le_of_ble_eq_true (by decide +kernel)) hs) (Nat.le_of_ble_eq_true (m := 100) (by decide +kernel))) (by decide)) fun tk t => ?_
    exact ⟨_, _, h, t, fo, _, rfl, rfl, L, fun e D a1 h' t' L => leave_first (l := chL w c uo so wo ho oo ro l) hF F eF V N L fun h'' fl' S L' Y => qe e h'' t' fl' (.inl hk) S L' Y⟩
  | some gn =>
    refine if_ff (x_nil (x_expr (e_mcall (e_loc 0 V L N ?_)) V))
    refine o_meth (f := 381) 1 2 G L rfl rfl (by kernel_rfl!) rfl ?_
    refine cw_f G (by kernel_rfl!) (a_cons (e_loc 1 V L N (a_nil ⟨⟨_, L⟩, e_code ?_⟩)))
    refine need_holder (l := l) (fl := (env.locals, fo) :: fl) G (R11.mono (by decide)) (frames_next hF) (frs_next F eF V N) (L.toMid (l := chL w c uo so wo ho oo ro l)) cH hn (fun h t h1 h2 L => ?_) (fun e h t fl₁ hc S L Y => pass_on (lx := chL w c uo so wo ho oo ro l) hF F eF V N S L Y fun h' fl' S' L' Y' => qe e h' _ fl' (.inr hc) S' L' Y')
    replace L : Led H h ((env.locals, fo) :: chL w c uo so wo ho oo ro (l ++ fl)) := L.ofMid (l := chL w c uo so wo ho oo ro l)
    -- self.spare[number] = self.used.pop(number) + 1
    refine x_setitem (e_bin (e_mcall (e_attr (e_loc 0 V L N ?_))))
    refine o_get 1 2 G L rfl rfl (by kernel_rfl!) rfl rfl fun t => r_meth 3 L rfl cU (.inr ⟨rfl, rfl⟩) (cw_b rfl (a_cons (e_loc 1 V L N (a_nil ?_))))
    refine r_pop 3 L rfl cU (by omega) hk fun h t uo v hv L cU => ?_
    obtain ⟨tk, rfl⟩ := hv
    refine e_int fun _ _ => i_add fun tk t => e_attr (e_loc 0 V L N ?_)
    refine o_get 1 2 G L rfl rfl (by kernel_rfl!) rfl rfl fun t => e_loc 1 V L N ?_
    refine r_set 4 L rfl cS (b := gn + 1) ⟨tk, rfl⟩ (by omega) fun h t so L cS => ?_
    -- self.objects.pop(number, None)
    refine x_expr (e_mcall (e_attr (e_loc 0 V L N ?_))) V
    refine o_get 1 2 G L rfl rfl (by kernel_rfl!) rfl rfl fun t => r_meth 7 L rfl cO (.inr ⟨rfl, rfl⟩) (cw_b rfl (a_cons (e_loc 1 V L N (a_cons (e_none (a_nil ?_))))))
    refine r_pop2 7 G L rfl cO (by omega) fun h t oo v L cO => ?_
    -- self.freed[number] = True
    refine x_setitem (e_bool (e_attr (e_loc 0 V L N ?_)))
    refine o_get 1 2 G L rfl rfl (by kernel_rfl!) rfl rfl fun t => e_loc 1 V L N ?_
    refine r_set 8 L rfl cF (b := ()) rfl (by omega) fun h t ro L cF => x_end ?_
    exact q h t uo so oo ro gn h1 h2 hk L.tail cU cS cO cF
theorem ch_ref (G : Gd w H) (hA : Room 10 A) (hF : A.frames = some outer) (F : FrsOk outer fl) (L : Led H h (chL w c uo so wo ho oo ro (l ++ fl))) (cU : DR w IsI uo mu) (hn : -1 ≤ n ∧ n < 100)
    (q : ∀ h' t' ex v gn, look mu n = some gn → Led H h' (chL w c uo so wo ho oo ro ((ex ++ l) ++ fl)) → RefR w (ex ++ l) v n gn → R (.ok (.ret v)) ⟨h', g, d, t', os⟩)
    (qe : ∀ e h' t' fl', look mu n = none → SameData fl fl' → Led H h' (chL w c uo so wo ho oo ro (l ++ fl')) → Fly H (chL w c uo so wo ho oo ro l) outer e h' → R (.error (.ref e)) ⟨h', g, d, t', os⟩) :
    Cd w A (.call (.ref 416) ⟨[.ref c.x, .int n u], []⟩) R ⟨h, g, d, t, os⟩ := by
  refine call_fn ["self", "number"] ["DraftFault", "str", "Reference"] [.ref c.x, .int n u] 2 G L hA.depth rfl (by kernel_rfl!) rfl (BindsTo.of_eq rfl) (by decide +kernel) rfl ?_
  intro h t fo env V eF L N
  have R9 := hA.deeper env
  have hs := str_small hn.1 hn.2
  refine x_if (t_cmp (e_loc 1 V L N (e_attr (e_loc 0 V L N ?_))))
  refine o_get 1 2 G L rfl rfl (by kernel_rfl!) rfl rfl fun t => r_notin 3 G L rfl cU fun t => t_bool ?_
  cases hk : look mu n with
  | none =>
    refine if_tt (x_raise 0 G (R9.mono (by decide)) V L ?_)
    refine e_bin (e_bin (e_str fun ts t => e_call (e_blt 1 G V L (b_str _) (cw_b rfl (a_cons (e_loc 1 V L N (a_nil (c_str (a := n) (u := u) (by omega) fun tk t => ?_))))))))
    refine i_addstr (Nat.le_trans (Nat.add_le_add (Nat.le_of_ble_eq_true (m := 100) (by decide +kernel)) hs) (by decide)) fun tk t => ?_
    refine e_str fun ts t => i_addstr (Nat.le_trans (Nat.add_le_add (len_app (m := 100) (n := 10) (Nat.le_of_ble_eq_true (by decide +kernel)) hs) (Nat.le_of_ble_eq_true (m := 100) (by decide +kernel))) (by decide)) fun tk t => ?_
    exact ⟨_, _, h, t, fo, _, rfl, rfl, L, fun e D a1 h' t' L => leave_first (l := chL w c uo so wo ho oo ro l) hF F eF V N L fun h'' fl' S L' Y => qe e h'' t' fl' hk S L' Y⟩
  | some gn =>
    refine if_ff (x_nil (x_ret (e_call (e_glob 2 G V L (g_Reference _) (cw_f G (by kernel_rfl!) (a_cons (e_loc 1 V L N (a_cons (e_sub (e_attr (e_loc 0 V L N ?_)))))))))))
    refine o_get 1 2 G L rfl rfl (by kernel_rfl!) rfl rfl fun t => e_loc 1 V L N ?_
    refine r_item 3 L rfl cU hk fun t v hv => ?_
    obtain ⟨tk, rfl⟩ := hv
    refine a_nil ⟨⟨_, L⟩, ?_⟩
    refine c_cls (fI := 277) G L (by kernel_rfl!) fun x dx h L => ?_
    refine ref_init G (Room.make (R9.mono (by decide : 6 ≤ 9)) _ _ _).depth (L.re 3 [1, 2, 0]) fun h t t1 t2 L => ⟨rfl, ?_⟩
    exact q h t [(x, instObj 287 dx), (dx, refD w (.int n u) (.int gn tk) t1 t2)] (.ref x) gn hk (L.re 11 [3, 4, 5, 6, 7, 8, 9, 10, 0, 1]) ⟨x, dx, u, tk, t1, t2, rfl, .head _, .tail _ (.head _)⟩
end
end Mine
namespace Mine
set_option maxRecDepth 100000
/-- two dicts of ints, compared -/
def hitI : List (Int × Int) → List (Int × Int) → Bool
  | [], _ => true
  | p :: r, mb => match look mb p.1 with | none => false | some b => decide (p.2 = b) && hitI r mb
def eqI (ma mb : List (Int × Int)) : Bool := ma.length == mb.length && hitI ma mb
theorem eqAt_int {A : Around} {s : Shared} {a b : Int} {u v : Tok} : SeqAt.EqAt A s (.int a u) (.int b v) (decide (a = b)) := by
  have := keq_flat (A := A) (s := s) (v := .int a u) (y := .int b v) (d := .int a) (e := .int b) (fun h => .int _ _) (fun h => .int _ _)
  have e : PyData.eqv (.int a) (.int b) = decide (a = b) := by
    unfold PyData.eqv
    by_cases h : a = b <;> simp [h]
  rwa [e] at this
theorem hits_I {A : Around} {s : Shared} {kb : List (Int × Value)} {mb : List (Int × Int)} (rb : Rel IsI kb mb) : ∀ {ka : List (Int × Value)} {ma : List (Int × Int)}, Rel IsI ka ma → KeqHits A s kb ka (hitI ma mb) := by
  intro ka ma ra
  refine ra.ind (P := fun ka ma => KeqHits A s kb ka (hitI ma mb)) .nil (fun k v a ps qs r _ ih => ?_)
  obtain ⟨u, rfl⟩ := r
  unfold hitI
  rcases rb.look (k := k) with ⟨e1, e2⟩ | ⟨y, b, e1, e2, r2⟩
  · rw [e2]; exact .miss e1
  · obtain ⟨u2, rfl⟩ := r2
    rw [e2]
    exact .hit e1 eqAt_int ih
section
variable {w : World} {A : Around} {E : Value → Shared → Prop} {H h : Heap} {g : Array GenState} {d : Drawn} {t : Nat} {os : OsState} {l : Ledger} {a b : Addr} {oa ob : Obj} {ma mb : List (Int × Int)}
theorem r_ne {Q : Value → Shared → Prop} (i j : Nat) (G : Gd w H) (hA : Room 5 A) (L : Led H h l) (hi : l[i]? = some (a, oa)) (hj : l[j]? = some (b, ob)) (ca : DR w IsI oa ma) (cb : DR w IsI ob mb) (q : Q (.bool (!eqI ma mb)) ⟨h, g, d, t, os⟩) :
    Wp w A (compareOp .NotEq (.ref a) (.ref b)) Q E ⟨h, g, d, t, os⟩ := by
  delta Wp
  obtain ⟨ka, ca, ra⟩ := ca
  obtain ⟨kb, cb, rb⟩ := cb
  refine keq_ne (s := ⟨h, g, d, t, os⟩) (r := hitI ma mb) (L.notMod G hi) (L.notMod G hj) (L.dict hi ca) (L.dict hj cb) hA.units (fun _ => hits_I rb ra) ?_
  rw [ra.length, rb.length]; exact q
theorem r_eq {Q : Value → Shared → Prop} (i j : Nat) (G : Gd w H) (hA : Room 5 A) (L : Led H h l) (hi : l[i]? = some (a, oa)) (hj : l[j]? = some (b, ob)) (ca : DR w IsI oa ma) (cb : DR w IsI ob mb) (q : Q (.bool (eqI ma mb)) ⟨h, g, d, t, os⟩) :
    Wp w A (compareOp .Eq (.ref a) (.ref b)) Q E ⟨h, g, d, t, os⟩ := by
  delta Wp
  obtain ⟨ka, ca, ra⟩ := ca
  obtain ⟨kb, cb, rb⟩ := cb
  refine keq_eq (s := ⟨h, g, d, t, os⟩) (r := hitI ma mb) (L.notMod G hi) (L.notMod G hj) (L.dict hi ca) (L.dict hj cb) hA.units (fun _ => hits_I rb ra) ?_
  rw [ra.length, rb.length]; exact q
end
theorem it_range1 {w : World} {A : Around} {E : Value → Shared → Prop} {H h : Heap} {g : Array GenState} {d : Drawn} {t : Nat} {os : OsState} {l : Ledger} {Q : Value → Shared → Prop} {y : Int} {v : Tok} (L : Led H h l) (hy : -(2 ^ 62) ≤ y ∧ y < 2 ^ 62)
    (q : ∀ I iob h' t', Led H h' ((I, iob) :: l) → ItR 0 (y - 0).toNat 0 iob → Src w H [] I (ItR 0 (y - 0).toNat) (y - 0).toNat (fun j v => ∃ tk, v = .int (0 + j) tk) → Q (.ref I) ⟨h', g, d, t', os⟩) :
    Wp w A (call (.type "range") [.int y v]) (fun v s => Wp w A (pyIter v) Q E s) E ⟨h, g, d, t, os⟩ := by
  have key : ∀ r h' t' u z, Led H h' ((r, { cls := .type "range", data := .fields #[.int 0 u, .int y v, .int 1 z] }) :: l) → Wp w A (pyIter (.ref r)) Q E ⟨h', g, d, t', os⟩ := fun r h' t' u z L => it_range 0 L rfl (by decide) hy fun I iob h' L c src => q I iob h' _ L.drop1 c src
  have := key _ _ (t + 1 + 1) t (t + 1) (L.push { cls := .type "range", data := .fields #[.int 0 t, .int y v, .int 1 (t + 1)] })
  delta Wp
  have key2 := call_range_1 (prog := pw) (w := w) (A := A) (E := E) (n := y) (t := v) (Q := fun v s => wpAny (model pw w) A (pyIter v) Q E s) (s := ⟨h, g, d, t, os⟩) this.out
  delta Wp at *
  exact key2
def lineOf (ns : List Int) : List Int := 0 :: (sortI ns).filter (fun k => decide (0 < k))
def chainAt (ms : List (Int × Int)) (ln : List Int) (j : Nat) : Ent := ⟨"free", ln.getD (j + 1) 0, if j = 0 then 65535 else (look ms (ln.getD j 0)).getD 0⟩
def chainTo (ms : List (Int × Int)) (ln : List Int) : Nat → List (Int × Ent)
  | 0 => []
  | j + 1 => put (chainTo ms ln j) (ln.getD j 0) (chainAt ms ln j)
theorem chainTo_len (ms : List (Int × Int)) (ln : List Int) : ∀ j, (chainTo ms ln j).length ≤ j
  | 0 => Nat.le_refl _
  | j + 1 => Nat.le_trans (put_len _ _ _) (by have := chainTo_len ms ln j; omega)
theorem getD_at {ns : List Int} {j : Nat} (h : j < ns.length) : ns[j]? = some (ns.getD j 0) := by rw [List.getD_eq_getElem?_getD, List.getElem?_eq_getElem h]; rfl
theorem l_item' {w : World} {A : Around} {E : Value → Shared → Prop} {H h : Heap} {g : Array GenState} {d : Drawn} {t : Nat} {os : OsState} {l : Ledger} {a : Addr} {o : Obj} {vs : List Value} {ns : List Int} {k : Int} {tk : Tok} {value slice : PySem.Expr} {Q : Value → Shared → Prop} (i : Nat) (L : Led H h l) (hi : l[i]? = some (a, o)) (c : LstO o vs) (hI : IntsAre vs ns) (j : Nat) (hk : k = j) (hj : j < ns.length) (hz : ns.length ≤ 1000)
    (q : ∀ u, Q (.int (ns.getD j 0) u) ⟨h, g, d, t, os⟩) (hs : subscripted slice false (.ref a) (.int k tk) = operate [.ref a, .int k tk] (getItem (.ref a) (.int k tk)) := by with_unfolding_all rfl) :
    Wp w A (subscriptTail value slice (.ref a) (.int k tk)) Q E ⟨h, g, d, t, os⟩ := by
  obtain ⟨u, e⟩ := ints_at hI j hj
  subst hk
  exact l_item i L hi c (by omega) (by omega) (by simpa using e) (q u) hs
theorem chain_free {w : World} {A : Around} {R : Result → Shared → Prop} {H h : Heap} {g : Array GenState} {d : Drawn} {t : Nat} {os : OsState} {l : Ledger} {p : Addr × Obj} {a b : Addr} {o ob : Obj} {vs : List Value} {ns : List Int} {ms : List (Int × Int)} {i j : Nat}
    (G : Gd w H) (hA : Room 6 A) (L : Led H h (p :: l)) (hi : (p :: l)[i]? = some (a, o)) (hj : (p :: l)[j]? = some (b, ob)) (c : LstO o vs) (hI : IntsAre vs ns) (cS : DR w IsI ob ms) (hz : ns.length < 64)
    (q : ∀ h' t' D od ex, Led H h' (p :: (D, od) :: (ex ++ l)) → DR w (EntR w ex) od (chainTo ms (lineOf ns) (lineOf ns).length) → R (.ok (.ret (.ref D))) ⟨h', g, d, t', os⟩) :
    Cd w A (.call (.ref 54) ⟨[.ref a, .ref b], []⟩) R ⟨h, g, d, t, os⟩ := by
  refine call_fn ["numbers", "generations", "line", "found", "at", "later"] ["sorted", "range", "len", "Entry", "MOST_GENERATION"] [.ref a, .ref b] 2 G L hA.depth rfl (by kernel_rfl!) rfl (BindsTo.of_eq rfl) (by decide +kernel) rfl ?_
  intro h t fo env V _ L N
  refine calm ?_
  have R5 := hA.deeper env
  -- line = [0] + [number for number in sorted(numbers) if number > 0]
  refine x_assign (e_bin (e_lst (a_cons (e_int fun tz t => a_nil (n_lst L (by simp) fun D1 h L => ?_)))))
  refine e_comp ["number"] [] [] (by decide +kernel) (fun z hz => by cases hz) (e_call (e_blt 0 G V L (b_sorted _) (cw_b rfl (a_cons (e_loc 0 V L N (a_nil ?_))))))
  have hi' : ((D1, lstO [.int 0 tz]) :: p :: l)[i + 1]? = some (a, o) := hi
  refine c_sorted_list (i + 1) L N hi' c hI hz fun S h t fo so ws L N cS' hW => ?_
  have hlen : (sortI ns).length = ns.length := (sortI_perm ns).length_eq
  refine it_list 1 L rfl cS' fun I iob h LI c0 src => ?_
  refine cb_run ["number"] [] [] 0 (fun j ex ys => ex = [] ∧ ys.length ≤ j ∧ IntsAre ys (((sortI ns).take j).filter (fun k => decide (0 < k)))) V (by decide +kernel) R5.u src (by rw [hW.length]; omega) c0 LI ⟨rfl, Nat.le_refl _, .nil⟩ (fun p' hp' => by rw [List.mem_singleton.mp hp']; exact .head _) (fun j ex ys e => e.2.1) ?_ ?_
  · intro j v ex ys C' co' D dob iob h t hj hv hP V' eL eF L N'
    obtain ⟨rfl, hl, hY⟩ := hP
    rw [hW.length] at hj
    obtain ⟨u, e⟩ := ints_at hW j hj
    rw [hv] at e; cases e
    have hk := getD_at hj
    generalize (sortI ns).getD j 0 = k at hk N'
    refine tests_one (t_cmp (e_loc 0 V' L N' (e_int fun _ _ => i_gt (t_bool ?_))))
    by_cases hp : 0 < k
    · rw [decide_eq_true hp, if_pos rfl]
      refine e_loc 0 V' L N' ⟨h, _, [], rfl, L, rfl, by simp; omega, ?_⟩
      rw [List.take_add_one, hk, List.filter_append]
      simp only [Option.toList, List.filter_cons, decide_eq_true hp, if_true, List.filter_nil]
      exact ints_snoc hY
    · rw [decide_eq_false hp, if_neg Bool.false_ne_true]
      refine ⟨h, _, rfl, L, rfl, by omega, ?_⟩
      rw [List.take_add_one, hk, List.filter_append]
      simp only [Option.toList, List.filter_cons, decide_eq_false hp, Bool.false_eq_true, if_false, List.filter_nil, List.append_nil]
      exact hY
  · intro h t D2 d2 ex ys L c2 hP
    obtain ⟨rfl, hl, hY⟩ := hP
    rw [hW.length, List.take_length] at hY
    have hyl : ys.length ≤ 64 := by rw [hW.length] at hl; omega
    refine l_add 3 1 L rfl rfl LstO.mk c2 (by simp; omega) fun D3 h L => ?_
    have hLn : IntsAre ([.int 0 tz] ++ ys) (lineOf ns) := .cons _ _ hY
    have cLn : LstO (lstO ([.int 0 tz] ++ ys)) ([.int 0 tz] ++ ys) := LstO.mk
    have hLl : (lineOf ns).length ≤ 65 := by have := hLn.length; simp at this; omega
    have hL0 : 0 < (lineOf ns).length := by unfold lineOf; simp
    have hl0 : (lineOf ns).getD 0 0 = 0 := rfl
    generalize lineOf ns = ln at *
    generalize ([.int 0 tz] ++ ys : List Value) = lv at *
    refine s_loc 2 V L N fun h t fo L N => ?_
    replace L : Led H h ((env.locals, fo) :: (D3, lstO lv) :: p :: l) := L.re 6 [0, 1, 5]
    refine x_assign (r_dict0 (EntR w []) L fun D h od L cD => ?_)
    refine s_loc 3 V L N fun h t fo L N => ?_
    refine x_for (e_call (e_blt 1 G V L (b_range _) (cw_b rfl (a_cons (e_call (e_blt 2 G V L (b_len _) (cw_b rfl (a_cons (e_loc 2 V L N (a_nil ?_))))))))))
    refine l_len 2 L rfl cLn (by have := hLn.length; omega) fun tl t => a_nil ?_
    have hlv : (lv.length : Int) = ln.length := by rw [hLn.length]
    refine it_range1 L (by omega) fun I iob h t LI cI src => ?_
    have hn2 : ((lv.length : Int) - 0).toNat = ln.length := by omega
    rw [hn2] at cI src
    refine for_name 4 (fun j l' vals => vals = [some (.ref a), some (.ref b), some (.ref D3), some (.ref D)] ∧ ∃ od ex, l' = (D, od) :: (D3, lstO lv) :: p :: (ex ++ l) ∧ DR w (EntR w ex) od (chainTo ms ln j)) V R5.u src cI LI (N.take 4) ⟨rfl, od, [], rfl, cD⟩ (fun _ _ _ _ p hp => by cases hp) ?_ ?_
    · intro j' v l' vals h t fo iob hj' hv hJ L c0 N
      obtain ⟨tk, rfl⟩ := hv
      obtain ⟨rfl, od, ex, rfl, cD⟩ := hJ
      rw [show (0 : Int) + (j' : Int) = (j' : Int) by omega] at N
      have lenj := chainTo_len ms ln j'
      -- later
      refine x_assign (Wp.mono (Q := fun v s => ∃ t u, v = .int (ln.getD (j' + 1) 0) u ∧ s = ⟨h, g, d, t, os⟩) (E := fun _ _ => False) ?_ (fun v s z => ?_) fun _ _ z => z.elim)
      · refine e_ife (t_cmp (e_bin (e_loc 4 V L N (e_int fun _ _ => i_add fun tk1 t => ?_))))
        refine e_call (e_blt 2 G V L (b_len _) (cw_b rfl (a_cons (e_loc 2 V L N (a_nil ?_)))))
        refine l_len 3 L rfl cLn (by omega) fun tl t => i_lt (t_bool (if_two (fun hlt => ?_) fun hge => ?_))
        · refine e_sub (e_loc 2 V L N (e_bin (e_loc 4 V L N (e_int fun _ _ => i_add fun tk2 t => ?_))))
          exact l_item' 3 L rfl cLn hLn (j' + 1) (by omega) (by omega) (by omega) fun u => ⟨_, u, rfl, rfl⟩
        · refine e_int fun u t => ⟨t, u, ?_, rfl⟩
          rw [List.getD_eq_getElem?_getD, List.getElem?_eq_none (by omega)]; rfl
      obtain ⟨t, ul, rfl, rfl⟩ := z
      refine s_loc 5 V L N fun h t fo L N => ?_
      -- Entry("free", later, ..)
      refine x_setitem (e_call (e_glob 3 G V L (g_Entry _) (cw_f G (by kernel_rfl!) (a_cons (e_str fun uw t => a_cons (e_loc 5 V L N (a_cons ?_)))))))
      refine Wp.mono (Q := fun v s => ∃ t u, v = .int (chainAt ms ln j').two u ∧ s = ⟨h, g, d, t, os⟩) (E := fun _ _ => False) ?_ (fun v s z => ?_) fun _ _ z => z.elim
      · refine e_ife (t_cmp (e_loc 4 V L N (e_int fun _ _ => i_eqi (t_bool (if_two (fun h0 => ?_) fun h0 => ?_)))))
        · refine e_glob 4 G V L (g_MOST _) ⟨_, 196, ?_, rfl⟩
          unfold chainAt
          rw [if_pos (by omega)]
        · refine e_mcall (e_loc 1 V L N ?_)
          have hmb : (b, ob) ∈ (env.locals, fo) :: (I, iob) :: (D, od) :: (D3, lstO lv) :: p :: (ex ++ l) := by
            rcases List.mem_cons.mp (List.mem_of_getElem? hj) with e | e
            · rw [e]; exact .tail _ (.tail _ (.tail _ (.tail _ (.head _))))
            · exact .tail _ (.tail _ (.tail _ (.tail _ (.tail _ (List.mem_append_right _ e)))))
          obtain ⟨jb, hjb⟩ := at_of_mem hmb
          refine r_meth jb L hjb cS (.inl ⟨rfl, rfl⟩) (cw_b rfl (a_cons (e_sub (e_loc 2 V L N (e_loc 4 V L N ?_)))))
          refine l_item' 3 L rfl cLn hLn j' rfl hj' (by omega) fun uk => a_cons (e_int fun tz t => a_nil ?_)
          refine r_get2 jb G L hjb cS fun t v hv => ?_
          have e2 : (chainAt ms ln j').two = (look ms (ln.getD j' 0)).getD 0 := by unfold chainAt; rw [if_neg (by omega)]
          rw [e2]
          cases hs : look ms (ln.getD j' 0) with
          | some b => rw [hs] at hv; obtain ⟨tv, rfl⟩ := hv; exact ⟨_, tv, rfl, rfl⟩
          | none => rw [hs] at hv; exact ⟨_, tz, hv, rfl⟩
      obtain ⟨t, u3, rfl, rfl⟩ := z
      refine a_nil ⟨⟨_, L⟩, ?_⟩
      refine c_cls (fI := 35) G L (by kernel_rfl!) fun x dx h L => ?_
      refine entry_init G (Room.make (R5.mono (by decide : 4 ≤ 5)) _ _ _).depth (L.re 3 [1, 2, 0]) fun h t t1 t2 t3 L => ⟨rfl, ?_⟩
      replace L : Led H h ((env.locals, fo) :: (I, iob) :: (D, od) :: (D3, lstO lv) :: p :: (x, instObj 45 dx) :: (dx, entryD w (.str "free" uw) (.int (ln.getD (j' + 1) 0) ul) (.int (chainAt ms ln j').two u3) t1 t2 t3) :: (ex ++ l)) := L.re 7 [2, 3, 4, 5, 6, 0, 1]
      refine e_loc 3 V L N (e_sub (e_loc 2 V L N (e_loc 4 V L N ?_)))
      refine l_item' 3 L rfl cLn hLn j' rfl hj' (by omega) fun uk => ?_
      refine r_set (R := EntR w ((x, instObj 45 dx) :: (dx, entryD w (.str "free" uw) (.int (ln.getD (j' + 1) 0) ul) (.int (chainAt ms ln j').two u3) t1 t2 t3) :: ex)) 2 L rfl (cD.mono fun v e z => z.mono fun q hq => .tail _ (.tail _ hq)) (b := chainAt ms ln j') ⟨x, dx, t1, t2, t3, uw, ul, u3, rfl, .head _, .tail _ (.head _)⟩ (by omega) fun h t od L cD => x_end ?_
      exact ⟨h, t, fo, _, _, iob, rfl, L, c0, N.take 4, rfl, od, _ :: _ :: ex, rfl, cD⟩
    · intro h t fo l' vals L N hJ
      obtain ⟨rfl, od, ex, rfl, cD⟩ := hJ
      refine x_ret (e_loc 3 V L N ?_)
      exact q h t D od ex (L.re 4 [3, 1]) cD
end Mine
namespace Mine
set_option maxRecDepth 100000
theorem look_at {α : Type} {m : List (Int × α)} (hn : (m.map (·.1)).Nodup) {j : Nat} {k : Int} {e : α} (h : m[j]? = some (k, e)) : look m k = some e := by
  unfold look
  have hj := (List.getElem?_eq_some_iff.mp h).1
  have : m.find? (fun p => p.1 = k) = some (k, e) := by
    refine List.find?_eq_some_iff_getElem.mpr ⟨by simp, j, hj, (List.getElem?_eq_some_iff.mp h).2, fun i' hi' => ?_⟩
    simp only [Bool.not_eq_true', decide_eq_false_iff_not]
    intro e2
    have h1 : (m.map (·.1))[i']? = some k := by rw [List.getElem?_map, List.getElem?_eq_getElem (Nat.lt_trans hi' hj)]; simp [e2]
    have h2 : (m.map (·.1))[j]? = some k := by rw [List.getElem?_map, h]; rfl
    have := (List.getElem?_inj (by simpa using Nat.lt_trans hi' hj) hn).mp (h1.trans h2.symm)
    omega
  rw [this]; rfl
theorem swaps_true {env : Env} {names gl : List Str} {elt : PySem.Expr} {gens : List Comprehension} {scope : Scope} {cpos py : Pos} {y : Str} {line : Nat} (V : EnvOk env names gl) (hy : y ∈ names) (hl : (py.line == cpos.line && !(scope.names.any fun x => x.1 == y && (x.2 == .local || x.2 == .cell))) = true) :
    swapsWith (.ListComp elt gens scope cpos) (some (.Name y py)) line env = pure true := by
  have h1 : env.blockKind = .function := by unfold Env.blockKind; rw [V.kind]; rfl
  have e : swapsWith (.ListComp elt gens scope cpos) (some (.Name y py)) line env = pure (env.blockKind == .function && env.kindOf y == some .local && py.line == cpos.line && !(scope.names.any fun x => x.1 == y && (x.2 == .local || x.2 == .cell))) := rfl
  rw [e, h1, V.loc y hy]
  obtain ⟨h2, h3⟩ := Bool.and_eq_true_iff.mp hl
  rw [h2, h3]; rfl
def liveKeys (ms : List (Int × Int)) : List Int := (ms.filter (fun p => decide (p.2 < 65535))).map (·.1)
def spentStep (f : List (Int × Ent)) (p : Int × Int) : List (Int × Ent) := if 65535 ≤ p.2 then put f p.1 ⟨"free", 0, 65535⟩ else f
def freeOf (ms : List (Int × Int)) : List (Int × Ent) := ms.foldl spentStep (chainTo ms (lineOf (liveKeys ms)) (lineOf (liveKeys ms)).length)
theorem liveKeys_len (ms : List (Int × Int)) : (liveKeys ms).length ≤ ms.length := by unfold liveKeys; rw [List.length_map]; exact List.length_filter_le _ _
theorem lineOf_len (ns : List Int) : (lineOf ns).length ≤ ns.length + 1 := by
  unfold lineOf
  have h1 := List.length_filter_le (fun k => decide (0 < k)) (sortI ns)
  have h2 := (sortI_perm ns).length_eq
  simp only [List.length_cons]; omega
theorem free_ent {w : World} {A : Around} {R : Result → Shared → Prop} {H h : Heap} {g : Array GenState} {d : Drawn} {t : Nat} {os : OsState} {l : Ledger} {p : Addr × Obj} {b : Addr} {ob : Obj} {ms : List (Int × Int)} {j : Nat}
    (G : Gd w H) (hA : Room 8 A) (L : Led H h (p :: l)) (hj : (p :: l)[j]? = some (b, ob)) (cS : DR w IsI ob ms) (hz : ms.length < 60)
    (q : ∀ h' t' D od ex, Led H h' (p :: (D, od) :: (ex ++ l)) → DR w (EntR w ex) od (freeOf ms) → R (.ok (.ret (.ref D))) ⟨h', g, d, t', os⟩) :
    Cd w A (.call (.ref 341) ⟨[.ref b], []⟩) R ⟨h, g, d, t, os⟩ := by
  refine call_fn_c ["generations"] ["line", "found", "number"] ["generations"] ["MOST_GENERATION", "free_chain", "Entry"] [none, none, none] [some 0] [.ref b] G L hA.depth rfl (by kernel_rfl!) rfl (BindsTo.of_eq rfl) rfl (by decide +kernel) rfl ?_
  intro h t fo env cs V _ hck CI L N
  obtain ⟨c, co, rfl, C, hv⟩ := cells_1 CI
  replace hv : co.data = .cell (some (.ref b)) := hv
  have R7 := hA.deeper env
  refine calm ?_
  have hj1 : ((env.locals, fo) :: (c, co) :: p :: l)[j + 2]? = some (b, ob) := hj
  refine x_assign_comp ["number"] ["MOST_GENERATION"] ["generations"] (by decide +kernel) (fun z hz => by rw [List.mem_singleton.mp hz, C.look]; rfl) (e_cell 1 V C L hv ?_) (hsw := swaps_true V (.head _) (by decide +kernel))
  refine r_it (j + 2) G L hj1 cS fun I iob h It LI c0 src => ?_
  refine cb_run_loc ["number"] ["MOST_GENERATION"] ["generations"] 0 0 (fun j ex ys => ex = [] ∧ ys.length ≤ j ∧ IntsAre ys (liveKeys (ms.take j))) V N (by decide +kernel) R7.u src (by omega) c0 LI ⟨rfl, Nat.le_refl _, .nil⟩ (fun p' hp' => by rw [List.mem_singleton.mp hp']; exact .tail _ (List.mem_of_getElem? hj)) (fun j ex ys e => e.2.1) ?_ ?_
  · intro j' v ex ys C' co' D dob iob h t hj' hvv hP V' eL eF L N'
    obtain ⟨rfl, hl, hY⟩ := hP
    obtain ⟨k, e, tk, hme, rfl⟩ := hvv
    have hk := look_at cS.nodup hme
    have hj2 : ((C', co') :: (D, dob) :: (I, iob) :: (env.locals, fo) :: (c, co) :: p :: l)[j + 5]? = some (b, ob) := hj
    refine tests_one (t_cmp (e_sub (e_cell 4 V' (compE_cell rfl C) L hv (e_loc 0 V' L N' ?_))))
    refine r_item (j + 5) L hj2 cS hk fun t v hv' => ?_
    obtain ⟨tv, rfl⟩ := hv'
    refine e_glob 0 G V' L (g_MOST _) (i_lt (t_bool ?_))
    have e1 : liveKeys (ms.take (j' + 1)) = liveKeys (ms.take j') ++ (if e < 65535 then [k] else []) := by
      unfold liveKeys
      rw [List.take_add_one, hme, List.filter_append, List.map_append]
      by_cases h : e < 65535 <;> simp [h, List.filter_cons]
    by_cases hp : e < 65535
    · rw [decide_eq_true hp, if_pos rfl]
      refine e_loc 0 V' L N' ⟨h, _, [], rfl, L, rfl, by simp; omega, ?_⟩
      rw [e1, if_pos hp]; exact ints_snoc hY
    · rw [decide_eq_false hp, if_neg Bool.false_ne_true]
      refine ⟨h, _, rfl, L, rfl, by omega, ?_⟩
      rw [e1, if_neg hp, List.append_nil]; exact hY
  · intro h t fo D1 d1 ex ys L N c1 hP
    obtain ⟨rfl, hl, hY⟩ := hP
    rw [List.take_length] at hY
    have hj3 : ((env.locals, fo) :: (D1, d1) :: (c, co) :: p :: l)[j + 3]? = some (b, ob) := hj
    have hlk := liveKeys_len ms
    refine x_assign (e_call (e_glob 1 G V L (g_free_chain _) (cw_f G (by kernel_rfl!) (a_cons (e_loc 0 V L N (a_cons (e_cell 2 V C L hv (a_nil ⟨⟨_, L⟩, e_code ?_⟩))))))))
    refine chain_free (i := 1) (j := j + 3) G (R7.mono (by decide)) L rfl hj3 c1 hY cS (by omega) fun h t D od ex L cD => ?_
    refine s_loc 1 V L N fun h t fo L N => ?_
    replace L : Led H h ((env.locals, fo) :: (D, od) :: (ex ++ (D1, d1) :: (c, co) :: p :: l)) := L
    replace L : Led H h ((env.locals, fo) :: (D, od) :: (D1, d1) :: (c, co) :: p :: (ex ++ l)) := L.perm (.cons _ (.cons _ mv3))
    have hmem : ∀ ex' : Ledger, (b, ob) ∈ p :: (ex' ++ l) := fun ex' => by
      rcases List.mem_cons.mp (List.mem_of_getElem? hj) with e | e
      · rw [e]; exact .head _
      · exact .tail _ (List.mem_append_right _ e)
    refine x_for (e_cell 3 V C L hv ?_)
    obtain ⟨jb, hjb⟩ := at_of_mem (show (b, ob) ∈ (env.locals, fo) :: (D, od) :: (D1, d1) :: (c, co) :: p :: (ex ++ l) from .tail _ (.tail _ (.tail _ (.tail _ (hmem ex)))))
    refine r_it jb G L hjb cS fun I iob h It LI c0 src => ?_
    refine for_name 2 (fun j l' vals => vals = [some (.ref D1), some (.ref D)] ∧ ∃ od ex, l' = (D, od) :: (D1, d1) :: (c, co) :: p :: (ex ++ l) ∧ DR w (EntR w ex) od ((ms.take j).foldl spentStep (chainTo ms (lineOf (liveKeys ms)) (lineOf (liveKeys ms)).length))) V R7.u src c0 LI (N.take 2) ⟨rfl, od, ex, rfl, cD⟩ (fun j l' vals hJ p' hp' => by
      obtain ⟨_, od, ex, rfl, _⟩ := hJ
      rw [List.mem_singleton.mp hp']; exact .tail _ (.tail _ (.tail _ (hmem ex)))) ?_ ?_
    · intro j' v l' vals h t fo iob hj' hvv hJ L c0 N
      obtain ⟨rfl, od, ex, rfl, cD⟩ := hJ
      obtain ⟨k, e, tk, hme, rfl⟩ := hvv
      have hk := look_at cS.nodup hme
      have lenj : ((ms.take j').foldl spentStep (chainTo ms (lineOf (liveKeys ms)) (lineOf (liveKeys ms)).length)).length ≤ 1000 := by
        have h1 := fold_len spentStep (fun b a => by unfold spentStep; split; exact put_len _ _ _; omega) (ms.take j') (chainTo ms (lineOf (liveKeys ms)) (lineOf (liveKeys ms)).length)
        have h2 := chainTo_len ms (lineOf (liveKeys ms)) (lineOf (liveKeys ms)).length
        have h3 := lineOf_len (liveKeys ms)
        have h4 : (ms.take j').length ≤ ms.length := by simp; omega
        omega
      obtain ⟨jb, hjb⟩ := at_of_mem (show (b, ob) ∈ (env.locals, fo) :: (I, iob) :: (D, od) :: (D1, d1) :: (c, co) :: p :: (ex ++ l) from .tail _ (.tail _ (.tail _ (.tail _ (.tail _ (hmem ex))))))
      refine x_if (t_cmp (e_sub (e_cell 4 V C L hv (e_loc 2 V L N ?_))))
      refine r_item jb L hjb cS hk fun t v hv' => ?_
      obtain ⟨tv, rfl⟩ := hv'
      refine e_glob 0 G V L (g_MOST _) (i_ge (t_bool (if_two (fun h1 => ?_) fun h1 => ?_)))
      · refine x_setitem (e_call (e_glob 2 G V L (g_Entry _) (cw_f G (by kernel_rfl!) (a_cons (e_str fun uw t => a_cons (e_int fun uo t => a_cons (e_glob 0 G V L (g_MOST _) (a_nil ⟨⟨_, L⟩, ?_⟩))))))))
        refine c_cls (fI := 35) G L (by kernel_rfl!) fun x dx h L => ?_
        refine entry_init G (Room.make (R7.mono (by decide : 4 ≤ 7)) _ _ _).depth (L.re 3 [1, 2, 0]) fun h t t1 t2 t3 L => ⟨rfl, ?_⟩
        replace L : Led H h ((env.locals, fo) :: (I, iob) :: (D, od) :: (D1, d1) :: (c, co) :: p :: (x, instObj 45 dx) :: (dx, entryD w (.str "free" uw) (.int 0 uo) (.int 65535 196) t1 t2 t3) :: (ex ++ l)) := L.re 8 [2, 3, 4, 5, 6, 7, 0, 1]
        refine e_loc 1 V L N (e_loc 2 V L N ?_)
        refine r_set (R := EntR w ((x, instObj 45 dx) :: (dx, entryD w (.str "free" uw) (.int 0 uo) (.int 65535 196) t1 t2 t3) :: ex)) 2 L rfl (cD.mono fun v e z => z.mono fun q hq => .tail _ (.tail _ hq)) (b := ⟨"free", 0, 65535⟩) ⟨x, dx, t1, t2, t3, uw, uo, 196, rfl, .head _, .tail _ (.head _)⟩ (by omega) fun h t od L cD => x_nil (x_end ?_)
        refine ⟨h, t, fo, _, _, iob, rfl, L, c0, N.take 2, rfl, od, _ :: _ :: ex, rfl, ?_⟩
        rw [fold_take _ _ _ j' _ hme]
        unfold spentStep; rw [if_pos h1]; exact cD
      · refine x_nil (x_end ⟨h, _, fo, _, _, iob, rfl, L, c0, N.take 2, rfl, od, ex, rfl, ?_⟩)
        rw [fold_take _ _ _ j' _ hme]
        unfold spentStep; rw [if_neg h1]; exact cD
    · intro h t fo l' vals L N hJ
      obtain ⟨rfl, od, ex, rfl, cD⟩ := hJ
      rw [List.take_length] at cD
      refine x_ret (e_loc 1 V L N ?_)
      exact q h t D od ex (L.re 5 [4, 1]) cD
end Mine
namespace Mine
set_option maxRecDepth 100000
def mergeE (ml mf : List (Int × Ent)) : List (Int × Ent) := mf.foldl (fun f p => put f p.1 p.2) ml
def newEnts (ml : List (Int × Ent)) (ms mw : List (Int × Int)) : List (Int × Ent) := if eqI ms mw = true then ml else mergeE ml (freeOf ms)
theorem freeOf_len (ms : List (Int × Int)) : (freeOf ms).length ≤ 2 * ms.length + 1 := by
  have h1 := fold_len spentStep (fun b a => by unfold spentStep; split; exact put_len _ _ _; omega) ms (chainTo ms (lineOf (liveKeys ms)) (lineOf (liveKeys ms)).length)
  have h2 := chainTo_len ms (lineOf (liveKeys ms)) (lineOf (liveKeys ms)).length
  have h3 := lineOf_len (liveKeys ms)
  have h4 := liveKeys_len ms
  unfold freeOf; omega
theorem ch_new {w : World} {A : Around} {R : Result → Shared → Prop} {H h : Heap} {g : Array GenState} {d : Drawn} {t : Nat} {os : OsState} {l lb : Ledger} {p : Addr × Obj} {c : Cha} {uo so wo ho oo ro lo : Obj} {la : Addr} {ms mw : List (Int × Int)} {ml : List (Int × Ent)}
    (G : Gd w H) (hA : Room 12 A) (L : Led H h (p :: chL w c uo so wo ho oo ro l)) (cS : DR w IsI so ms) (cW : DR w IsI wo mw) (hl : (la, lo) ∈ l) (cL : DR w (EntR w lb) lo ml) (b1 : ms.length < 60) (b2 : ml.length ≤ 100)
    (q : ∀ h' t' D od ex, Led H h' (p :: (D, od) :: chL w c uo so wo ho oo ro (ex ++ l)) → DR w (EntR w (ex ++ lb)) od (newEnts ml ms mw) → R (.ok (.ret (.ref D))) ⟨h', g, d, t', os⟩) :
    Cd w A (.call (.ref 423) ⟨[.ref c.x, .ref la], []⟩) R ⟨h, g, d, t, os⟩ := by
  refine call_fn ["self", "laid", "found", "free", "number"] ["dict", "free_entries"] [.ref c.x, .ref la] 2 G L hA.depth rfl (by kernel_rfl!) rfl (BindsTo.of_eq rfl) (by decide +kernel) rfl ?_
  intro h t fo env V _ L N
  have R11 := hA.deeper env
  refine calm ?_
  have hml : ∀ (pre : Ledger), (la, lo) ∈ pre ++ l := fun pre => List.mem_append_right _ hl
  obtain ⟨i, hi⟩ := at_of_mem (show (la, lo) ∈ (env.locals, fo) :: p :: chL w c uo so wo ho oo ro l by simp [hl])
  refine x_assign (e_call (e_blt 0 G V L (b_dict _) (cw_b rfl (a_cons (e_loc 1 V L N (a_nil ?_))))))
  refine r_copy i G L hi cL (by omega) fun D h od L cD => ?_
  refine s_loc 2 V L N fun h t fo L N => ?_
  refine x_if (t_cmp (e_attr (e_loc 0 V L N ?_)))
  refine o_get 3 4 G L rfl rfl (by kernel_rfl!) rfl rfl fun t => e_attr (e_loc 0 V L N ?_)
  refine o_get 3 4 G L rfl rfl (by kernel_rfl!) rfl rfl fun t => ?_
  refine r_ne 6 7 G (R11.mono (by decide)) L rfl rfl cS cW (t_bool ?_)
  cases hq : eqI ms mw with
  | true =>
    refine if_ff (x_nil (x_ret (e_loc 2 V L N ?_)))
    refine q h t D od [] (L.tail.perm (List.Perm.swap _ _ _)) ?_
    unfold newEnts; rw [if_pos hq]; exact cD
  | false =>
    refine if_tt (x_assign (e_call (e_glob 1 G V L (g_free_entries _) (cw_f G (by kernel_rfl!) (a_cons (e_attr (e_loc 0 V L N ?_)))))))
    refine o_get 3 4 G L rfl rfl (by kernel_rfl!) rfl rfl fun t => a_nil ⟨⟨_, L⟩, e_code ?_⟩
    refine free_ent (j := 6) G (R11.mono (by decide)) L rfl cS b1 fun h t F fr ex L cF => ?_
    replace L : Led H h ((env.locals, fo) :: (F, fr) :: (D, od) :: p :: chL w c uo so wo ho oo ro (ex ++ l)) := L.perm (.cons _ (.cons _ (mv4.trans (.cons _ (.cons _ (.cons _ (.cons _ (mv4.trans (.cons _ (.cons _ (.cons _ (.cons _ (mv2))))))))))))) 
    refine s_loc 3 V L N fun h t fo L N => ?_
    refine x_for (e_loc 3 V L N ?_)
    have lenF := freeOf_len ms
    refine r_it 1 G L rfl cF fun I iob h It LI c0 src => ?_
    refine for_name 4 (fun j l' vals => vals = [some (.ref c.x), some (.ref la), some (.ref D), some (.ref F)] ∧ ∃ od, l' = (F, fr) :: (D, od) :: p :: chL w c uo so wo ho oo ro (ex ++ l) ∧ DR w (EntR w (ex ++ lb)) od (mergeE ml ((freeOf ms).take j))) V R11.u src c0 LI (N.take 4) ⟨rfl, od, rfl, cD.mono fun v e z => z.mono fun q hq => List.mem_append_right _ hq⟩ (fun j l' vals hJ p' hp' => by
      obtain ⟨_, od, rfl, _⟩ := hJ
      rw [List.mem_singleton.mp hp']; exact .head _) ?_ ?_
    · intro j' v l' vals h t fo iob hj' hvv hJ L c0 N
      obtain ⟨rfl, od, rfl, cD⟩ := hJ
      obtain ⟨k, e, tk, hme, rfl⟩ := hvv
      have hk := look_at cF.nodup hme
      have lenj : (mergeE ml ((freeOf ms).take j')).length ≤ 1000 := by
        have h1 := fold_len (fun (f : List (Int × Ent)) (p : Int × Ent) => put f p.1 p.2) (fun b a => put_len _ _ _) ((freeOf ms).take j') ml
        have h4 : ((freeOf ms).take j').length ≤ (freeOf ms).length := by simp; omega
        unfold mergeE; omega
      refine x_setitem (e_sub (e_loc 3 V L N (e_loc 4 V L N ?_)))
      refine r_item 2 L rfl cF hk fun t v hv => e_loc 2 V L N (e_loc 4 V L N ?_)
      refine r_set 3 L rfl cD (b := e) (hv.mono fun q hq => List.mem_append_left _ hq) (by omega) fun h t od L cD => x_end ?_
      refine ⟨h, t, fo, _, _, iob, rfl, L, c0, N.take 4, rfl, od, rfl, ?_⟩
      unfold mergeE
      rw [fold_take _ _ _ j' _ hme]; exact cD
    · intro h t fo l' vals L N hJ
      obtain ⟨rfl, od, rfl, cD⟩ := hJ
      rw [List.take_length] at cD
      refine x_nil (x_ret (e_loc 2 V L N ?_))
      refine q h t D od ex (L.re 4 [3, 2]) ?_
      unfold newEnts; rw [if_neg (by rw [hq]; decide)]; exact cD
end Mine
namespace Mine
set_option maxRecDepth 100000
theorem Led.keep {H h h' : Heap} {p : Addr × Obj} {l : Ledger} (L : Led H h (p :: l)) (k : ∀ b o, h.get? b = some o → h'.get? b = some o) : Led H h' (p :: l) :=
  ⟨fun b o e => k b o (L.base b o e), Nat.le_trans (L.new p (.head _)) (Nat.le_of_lt (Heap.lt_size (k _ _ (L.here p (.head _))))), fun q hq => k _ _ (L.here q hq), L.new, L.nodup⟩
theorem lk_list_keys : typeLookup (.type "list") "keys" = pure none := by rw [typeLookup_type, builtinLookup_eq_fast]; kernel_rfl
theorem getAttrQ_miss_list {prog : Program} {w : World} {A : Around} {E : Value → Shared → Prop} {h : Heap} {g : Array GenState} {d : Drawn} {t : Nat} {os : OsState} {a : Addr} {xs : Array Value} {k : Nat} {sl : Array (Option Value)} {name : Str} {Q : Option Value → Shared → Prop}
    (hx : h.get? a = some { cls := .type "list", dict := none, data := .seq xs k, slots := sl }) (hmiss : typeLookup (.type "list") name = pure none) (hname : (["__module__", "__name__", "__qualname__", "__doc__", "__annotations__"] : List Str).contains name = false) (hA : A.handled = none)
    (q : ∀ h' tk, (∀ b o, h.get? b = some o → h'.get? b = some o) → Q none ⟨h', g, d, tk, os⟩) (hsz : name.length + 100 ≤ sizeLine) :
    wpAny (model prog w) A (getAttr? (.ref a) name) Q E ⟨h, g, d, t, os⟩ := by
  have hT : ∀ tk', (⟨h, g, d, tk', os⟩ : Shared).TypeIs (.ref a) "list" := fun _ => ⟨_, hx, rfl⟩
  have f1 := sub_AttributeError
  have f3 := F.slot_list_getattribute.lookup
  have f4 := F.slot_list_getattribute.bind (.ref a)
  have f5 := am_list_getattr_none
  unfold getAttr? getAttrBy? getAttrBy
  repeat (any_goals (first | assumption | exact hT _ | ((with_reducible show wpAny _ _ (call (Value.builtin "list.__getattribute__") _ _) _ _ _); refine call_meets F.slot_list_getattribute (hT _) am_entry_list_getattribute (F.args_list_getattribute_2 _ _) (meets_getattribute_miss_list a xs k sl name _ hmiss hname hsz) ⟨hx, hA, fun h' tk' e hx' => ?_⟩) | wp_step))
  obtain ⟨t', u', he⟩ := hx'.there
  show wpAny _ _ (getattributeRaised _ _ _ _ _ _ _) _ _ _
  unfold getattributeRaised
  repeat (any_goals (first | assumption | wp_step))
  exact q h' _ hx'.keeps
end Mine
namespace Mine
set_option maxRecDepth 100000
theorem entry_upd_loop : entryFor table "dict.update.loop" = some Builtin.«dict.update.loop» := entryFor_of_fast (by kernel_rfl)
theorem plain_upd_loop : plainId "dict.update.loop" = true := by decide +kernel
section
variable {w : World} {A : Around} {E : Value → Shared → Prop} {R : Result → Shared → Prop} {H h : Heap} {g : Array GenState} {d : Drawn} {t : Nat} {os : OsState} {l : Ledger} {K : Type} [DecidableEq K] {knd : KeyKind pw w K}
theorem wpAny_pairItems_tuple {h : Heap} {T : Addr} {vs : List Value} {Q : List Value → Shared → Prop} (hT : h.get? T = some (tupO vs)) (q : Q vs ⟨h, g, d, t, os⟩) : wpAny (model pw w) A (Builtin.Dict.pairItems (.ref T)) Q E ⟨h, g, d, t, os⟩ := by
  unfold Builtin.Dict.pairItems
  refine wpAny_bind (wpAny_typeOf (T := "tuple") ⟨_, hT, rfl⟩ ?_)
  rw [if_pos (by decide)]
  refine wpAny_bind (wpAny_seqItems hT rfl ?_)
  exact wpAny_pure (by simpa using q)
theorem upd_loop {need : Ledger} {I D : Addr} {It : Nat → Obj → Prop} {n : Nat} {item : Nat → Value → Prop} {ps : List (Value × Value)} {kvs : List (K × Value)} (hh : A.handled = none) (src : Src w H need I It n item) (hneed : ∀ p ∈ need, p ∈ l) (hc : Carries knd ps kvs) (hn : ps.length = n) (hz : n ≤ 10000)
    (hit : ∀ j v, item j v → ∃ T p, v = .ref T ∧ ps[j]? = some p ∧ (T, tupO [p.1, p.2]) ∈ l)
    (q : ∀ h' t' d1, Led H h' ((D, d1) :: l) → d1.IsDictOf knd (merged [] kvs) → R (.ok (.ret .none)) ⟨h', g, d, t', os⟩) :
    ∀ (k j : Nat) (h : Heap) (t : Nat) (iob d0 : Obj) (c : Int) (u : Tok), n - j = k → j ≤ n → Led H h ((I, iob) :: (D, d0) :: l) → It j iob → d0.IsDictOf knd (merged [] (kvs.take j)) →
      codeAny (model pw w) A (.builtin "dict.update.loop" ⟨[.ref D, .ref I, .int c u, .none], []⟩) R ⟨h, g, d, t, os⟩ := by
  have hkl : kvs.length = n := by rw [hc.length, hn]
  intro k
  induction k with
  | zero =>
    intro j h t iob d0 c u hk hj L c0 cD
    have e : j = n := by omega
    subst e
    refine codeAny_builtin entry_upd_loop ?_
    rw [Around.under_plainId plain_upd_loop _]
    show wpAny _ A.in1 (pyNext (.ref I) >>= _) _ _ _
    have key := src.stop (A := A.in1) (E := fun e s' => R (.error e) s') (g := g) (d := d) (t := t) (os := os) hh L c0 (fun p hp => .tail _ (hneed p hp)) (Q := fun r s => r = none ∧ R (.ok (.ret .none)) s) (fun h' t' L' => ⟨rfl, q h' t' d0 L' (by rw [← hkl, List.take_length] at cD; exact cD)⟩)
    refine wpAny_bind (wpAny_mono key.out (fun r s z => ?_) fun _ _ z => z)
    obtain ⟨rfl, z⟩ := z
    exact wpAny_pure z
  | succ k ih =>
    intro j h t iob d0 c u hk hj L c0 cD
    have hlt : j < n := by omega
    refine codeAny_builtin entry_upd_loop ?_
    rw [Around.under_plainId plain_upd_loop _]
    show wpAny _ A.in1 (pyNext (.ref I) >>= _) _ _ _
    have key := src.step (A := A.in1) (E := fun e s' => R (.error e) s') (g := g) (d := d) (t := t) (os := os) hlt L c0 (fun p hp => .tail _ (hneed p hp)) (Q := fun r s => ∃ v h' t' iob', r = some v ∧ s = ⟨h', g, d, t', os⟩ ∧ item j v ∧ Led H h' ((I, iob') :: (D, d0) :: l) ∧ It (j + 1) iob') (fun v h' t' iob' hv L' c' => ⟨v, h', t', iob', rfl, rfl, hv, L', c'⟩)
    refine wpAny_bind (wpAny_mono key.out (fun r s z => ?_) fun _ _ z => z)
    obtain ⟨v, h', t', iob', rfl, rfl, hv, L', c'⟩ := z
    obtain ⟨T, p, rfl, hp, hT⟩ := hit j v hv
    have hTm := L'.mem (.tail _ (.tail _ hT))
    have hkj : ∃ kk, kvs[j]? = some (kk, p.2) ∧ knd.is kk p.1 = true := by
      clear key
      have : ∀ (ps : List (Value × Value)) (kvs : List (K × Value)) (j : Nat), Carries knd ps kvs → ps[j]? = some p → ∃ kk, kvs[j]? = some (kk, p.2) ∧ knd.is kk p.1 = true := by
        intro ps
        induction ps with
        | nil => intro kvs j _ h; simp at h
        | cons a ps ih =>
          intro kvs j hc h
          cases kvs with
          | nil => exact hc.elim
          | cons b kvs =>
            obtain ⟨a1, a2⟩ := a
            obtain ⟨b1, b2⟩ := b
            obtain ⟨h1, h2, h3⟩ := hc
            cases j with
            | zero => simp at h; subst h; subst h2; exact ⟨b1, rfl, h1⟩
            | succ j => obtain ⟨kk, e1, e2⟩ := ih kvs j h3 (by simpa using h); exact ⟨kk, by simpa using e1, e2⟩
      exact this ps kvs j hc hp
    obtain ⟨kk, hkk, hkis⟩ := hkj
    refine wpAny_bind (wpAny_holding (wpAny_bind (wpAny_tryCatch (wpAny_pairItems_tuple hTm ?_))))
    dsimp only
    refine wpAny_holding (wpAny_dictSet_pairs (knd := knd) (k := kk) hkis (L'.dict (i := 1) rfl cD) (fun h₂ hd₂ hs₂ => ?_) ?_)
    · obtain ⟨d2, hd2, c2⟩ := Heap.dictOf_iff.mp hd₂
      have em : stored (merged [] (kvs.take j)) kk p.2 = merged [] (kvs.take (j + 1)) := by
        rw [List.take_add_one, hkk]
        unfold merged
        rw [List.foldl_append]; rfl
      rw [em] at c2
      refine wpAny_pure ⟨plainId_quiet plain_upd_loop _, ?_⟩
      exact ih (j + 1) h₂ _ iob' d2 (c + 1) _ (by omega) hlt (L'.setAt (i := 1) rfl hs₂ hd2) c' c2
    · have hm : ∀ (xs : List (K × Value)) (acc : List (K × Value)), (merged acc xs).length ≤ acc.length + xs.length := by
        intro xs
        induction xs with
        | nil => intro acc; simp [merged]
        | cons x xs ih =>
          intro acc
          have h1 := ih (stored acc x.1 x.2)
          have h2 := stored_length_le acc x.1 x.2
          simp only [merged, List.foldl_cons, List.length_cons] at h1 ⊢
          omega
      have := hm (kvs.take j) []
      have h2 : (kvs.take j).length ≤ j := by simp; omega
      rw [sizeLine_eq]
      simp only [List.length_nil] at this
      omega
end
end Mine
namespace Mine
set_option maxRecDepth 100000
section
variable {w : World} {A : Around} {E : Value → Shared → Prop} {H h : Heap} {g : Array GenState} {d : Drawn} {t : Nat} {os : OsState} {l : Ledger} {K : Type} [DecidableEq K] {knd : KeyKind pw w K} {a : Addr} {o : Obj} {xs : List Value} {p : Addr × Obj}
/-- dict([(k, v), ..]) -/
theorem c_dictpairs {ps : List (Value × Value)} {kvs : List (K × Value)} {Q : Value → Shared → Prop} (i : Nat) (hh : A.handled = none) (L : Led H h (p :: l)) (hi : (p :: l)[i]? = some (a, o)) (c : LstO o xs) (hd : o.dict = none) (hc : Carries knd ps kvs) (hlen : xs.length = ps.length) (hz : ps.length ≤ 10000)
    (hit : ∀ (j : Nat) (v : Value), xs[j]? = some v → ∃ (T : Addr) (q : Value × Value), v = .ref T ∧ ps[j]? = some q ∧ (T, tupO [q.1, q.2]) ∈ p :: l)
    (q : ∀ D h' t' d1, Led H h' (p :: (D, d1) :: l) → d1.IsDictOf knd (merged [] kvs) → Q (.ref D) ⟨h', g, d, t', os⟩) :
    Wp w A (call (.type "dict") [.ref a]) Q E ⟨h, g, d, t, os⟩ := by
  delta Wp
  refine callType_codes (Q₁ := fun obj s₁ => obj = .ref h.objs.size ∧ s₁ = ⟨h.push { cls := .type "dict", data := .dict #[] }, g, d, t, os⟩) PySem.F.kt_called_dict (PySem.F.kt_typeCall_dict_1 _) PySem.F.entry_dict_init (kt_code_dict_new _ ⟨rfl, rfl⟩) ?_
  rintro obj s₁ ⟨rfl, rfl⟩
  have L1 : Led H (h.push { cls := .type "dict", data := .dict #[] }) ((h.objs.size, { cls := .type "dict", data := .dict #[] }) :: p :: l) := L.push _
  have hnew : (h.push { cls := .type "dict", data := .dict #[] }).DictOf knd h.objs.size [] := Heap.DictOf.new h
  have c0 : ({ cls := .type "dict", data := .dict #[] } : Obj).IsDictOf knd [] := by
    obtain ⟨o', ho, hc⟩ := Heap.dictOf_iff.mp hnew
    rw [Heap.get?_push_size _ rfl] at ho
    cases ho; exact hc
  generalize h.objs.size = D at *
  generalize (h.push { cls := .type "dict", data := .dict #[] }) = h1 at *
  refine ⟨hnew.typeIs, PySem.F.args_dict_init_2 _ _, ?_⟩
  unfold Builtin.«dict.__init__»
  refine wpAny_bind ?_
  unfold Builtin.Dict.selfAndRest
  refine wpAny_bind (wpAny_notOrdered_dict hnew.typeIs ?_)
  show wpAny _ _ (pure (D, [Value.ref a])) _ _ _
  refine wpAny_pure ?_
  show wpAny _ _ (Builtin.Dict.updateFrom "dict.__init__" D (.ref a) [] .none) _ _ _
  unfold Builtin.Dict.updateFrom
  have hia : ((D, ({ cls := .type "dict", data := .dict #[] } : Obj)) :: p :: l)[i + 1]? = some (a, o) := hi
  have hl := c.at L1 hia
  refine wpAny_bind (wpAny_typeOf hl.typeIs ?_)
  rw [if_pos (by decide)]
  obtain ⟨c1, n, c2⟩ := id c
  have hx := L1.get hia
  refine wpAny_bind (getAttrQ_miss_list (xs := xs.toArray) (k := n) (sl := o.slots) (by rw [hx]; obtain ⟨oc, od, odt, osl⟩ := o; subst c1 c2 hd; rfl) lk_list_keys (by decide +kernel) hh (fun h2 t2 k2 => ?_) (by rw [sizeLine_eq]; decide +kernel))
  have L2 := L1.keep k2
  rw [if_pos (show (none : Option Value).isNone = true from rfl)]
  refine wpAny_bind (wpAny_rule (wpAny_bind ?_))
  have it := it_list (w := w) (A := A.in1.in1) (E := fun _ _ => False) (g := g) (d := d) (t := t2) (os := os) (Q := fun v s => ∃ I iob h', v = .ref I ∧ s = ⟨h', g, d, t2, os⟩ ∧ Led H h' ((I, iob) :: (D, { cls := .type "dict", data := .dict #[] }) :: p :: l) ∧ ItL a 0 iob ∧ Src w H [(a, o)] I (ItL a) xs.length (fun j v => xs[j]? = some v)) (i + 1) L2 hia c (fun I iob h' L c s => ⟨I, iob, h', rfl, rfl, L, c, s⟩)
  refine wpAny_mono it.out (fun v s z => ?_) fun _ _ z => z.elim
  obtain ⟨I, iob, h3, rfl, rfl, L3, cI, src⟩ := z
  refine wpAny_pure ⟨plainId_quiet plain_upd_loop _, ?_⟩
  refine upd_loop (A := A.in1) (l := p :: l) (knd := knd) (ps := ps) (kvs := kvs) (need := [(a, o)]) (n := xs.length) (item := fun j v => xs[j]? = some v) hh src (fun p' hp' => by rw [List.mem_singleton.mp hp']; exact List.mem_of_getElem? hi) hc hlen.symm (by omega) hit (fun h' t' d1 L' c' => ?_) xs.length 0 h3 t2 iob _ 0 0 rfl (Nat.zero_le _) L3 cI (by simpa [merged] using c0)
  exact ⟨rfl, q D h' t' d1 (L'.perm (List.Perm.swap _ _ _)) c'⟩
end
end Mine
namespace Mine
set_option maxRecDepth 100000
theorem Wp.of {α : Type} {w : World} {A : Around} {T : Sem α} {Q : α → Shared → Prop} {E : Value → Shared → Prop} {s : Shared} (q : wpAny (model pw w) A T Q E s) : Wp w A T Q E s := by delta Wp; exact q
section
variable {w : World} {A : Around} {E : Value → Shared → Prop} {H h : Heap} {g : Array GenState} {d : Drawn} {t : Nat} {os : OsState} {env : Env} {l : Ledger} {p : Addr × Obj} {fo : Obj} {names gl : List Str} {vals : List (Option Value)} {x y z : Str} {px py pz tp vp pos : Pos} {T : Addr} {v1 v2 v3 : Value} {k k2 : Nat} {s : Shared}
theorem Led.tup {vs : List Value} {i : Nat} (L : Led H h l) (hi : l[i]? = some (T, tupO vs)) : h.IsTuple T vs.toArray := ⟨_, L.get hi, rfl, 0, rfl⟩
theorem u_items {vs : List Value} {Q : List Value → Shared → Prop} (i : Nat) (hh : A.handled = none) (L : Led H h (p :: l)) (hi : (p :: l)[i]? = some (T, tupO vs)) (q : ∀ h', Led H h' (p :: l) → Q vs ⟨h', g, d, t, os⟩) : Wp w A (unpackItems (.ref T) vs.length none) Q E ⟨h, g, d, t, os⟩ := by
  delta Wp
  have := wpAny_unpackItems_tuple (prog := pw) (w := w) (A := A) (E := E) (s := ⟨h, g, d, t, os⟩) (Q := Q) hh (L.tup hi) fun h' he => by
    have := q h' (L.keep fun b o e => he b o (Nat.ne_of_lt (Heap.lt_size e)) e)
    simpa using this
  simpa using this
theorem u_two {Q : Unit → Shared → Prop} (i : Nat) (hh : A.handled = none) (L : Led H h (p :: l)) (hi : (p :: l)[i]? = some (T, tupO [v1, v2])) (q : ∀ h', Led H h' (p :: l) → Wp w A (storeName env x v1) (fun _ s => Wp w A (storeName env y v2) Q E s) E ⟨h', g, d, t, os⟩) :
    Wp w A (assign (.Tuple [.Name x px, .Name y py] k tp) env (.ref T)) Q E ⟨h, g, d, t, os⟩ := by
  delta Wp at *
  refine wpAny_assign_Tuple (s := ⟨h, g, d, t, os⟩) hh (L.tup hi) rfl rfl fun h' he => ?_
  have := q h' (L.keep fun b o e => he b o (Nat.ne_of_lt (Heap.lt_size e)) e)
  show wpAny _ _ (do holding [v2] (assign (.Name x px) env v1); (do holding [] (assign (.Name y py) env v2); pure ())) _ _ _
  exact wpAny_bind (wpAny_holding (wpAny_assign_Name (wpAny_mono this (fun _ s z => wpAny_bind (wpAny_holding (wpAny_assign_Name (wpAny_mono z (fun _ s z => wpAny_pure z) fun _ _ e => e)))) fun _ _ e => e)))
theorem u_three {Q : Unit → Shared → Prop} (i : Nat) (hh : A.handled = none) (L : Led H h (p :: l)) (hi : (p :: l)[i]? = some (T, tupO [v1, v2, v3])) (q : ∀ h', Led H h' (p :: l) → Wp w A (storeName env x v1) (fun _ s => Wp w A (storeName env y v2) (fun _ s => Wp w A (storeName env z v3) Q E s) E s) E ⟨h', g, d, t, os⟩) :
    Wp w A (assign (.Tuple [.Name x px, .Name y py, .Name z pz] k tp) env (.ref T)) Q E ⟨h, g, d, t, os⟩ := by
  delta Wp at *
  refine wpAny_assign_Tuple (s := ⟨h, g, d, t, os⟩) hh (L.tup hi) rfl rfl fun h' he => ?_
  have := q h' (L.keep fun b o e => he b o (Nat.ne_of_lt (Heap.lt_size e)) e)
  show wpAny _ _ (do holding [v2, v3] (assign (.Name x px) env v1); (do holding [v3] (assign (.Name y py) env v2); (do holding [] (assign (.Name z pz) env v3); pure ()))) _ _ _
  exact wpAny_bind (wpAny_holding (wpAny_assign_Name (wpAny_mono this (fun _ s z => wpAny_bind (wpAny_holding (wpAny_assign_Name (wpAny_mono z (fun _ s z => wpAny_bind (wpAny_holding (wpAny_assign_Name (wpAny_mono z (fun _ s z => wpAny_pure z) fun _ _ e => e)))) fun _ _ e => e)))) fun _ _ e => e)))
/-- x, y = value (no swap of the stores) -/
theorem x_unpack {elts : List PySem.Expr} {value : PySem.Expr} {rest : List Stmt} {Q : Flow → Shared → Prop} (q : Wp w A (eval value env) (fun v s => Wp w A (assign (.Tuple elts k tp) env v) (fun _ s => Wp w A (execs rest env) Q E s) E s) E s)
    (hw : swappedStores [.Tuple elts k tp] value env = pure none) (hs : swapsWithSole [.Tuple elts k tp] value pos.line env = pure false := by rfl) : Wp w A (execs (.Assign [.Tuple elts k tp] value pos :: rest) env) Q E s :=
  x_cons (by unfold thenX; delta Wp at *; exact Assign_Tuple q hs hw)
theorem swapped2 {vs : List PySem.Expr} (V : EnvOk env names gl) (hx : x ∈ names) (hy : y ∈ names) (hck : (vs.length == 2 && !(vs.any fun | .Starred .. => true | _ => false) && !(vs.all (foldedForSure 8)) && !(vs.all (constantsAlone 8)) && py.line == px.line && ([x, y].eraseDups.length == 2)) = true) :
    swappedStores [.Tuple [.Name x px, .Name y py] k tp] (.Tuple vs k2 vp) env = pure (some [x, y]) := by
  have h1 : env.blockKind = .function := by unfold Env.blockKind; rw [V.kind]; rfl
  simp only [Bool.and_eq_true, beq_iff_eq, Bool.not_eq_true'] at hck
  obtain ⟨⟨⟨⟨⟨c1, c2⟩, c3⟩, c4⟩, c5⟩, c6⟩ := hck
  have e : swappedStores [.Tuple [.Name x px, .Name y py] k tp] (.Tuple vs k2 vp) env = (
      if (!(2 == 2 || 2 == 3) || vs.length != 2 || env.blockKind != .function) = true then pure none else
      if (vs.any fun | .Starred .. => true | _ => false) = true then pure none else
      let names := ([.Name x px, .Name y py] : List PySem.Expr).filterMap fun
        | .Name id pos => if (env.kindOf id == some .local && pos.line == px.line) = true then some id else none
        | _ => none
      if (names.length != 2 || names.eraseDups.length != names.length) = true then pure none else
      if vs.all (foldedForSure 8) = true then pure none else
      if vs.all (constantsAlone 8) = true then ((unsupported "assign.tuple-of-constant-expressions:order-of-the-stores" : Sem PUnit) >>= fun _ => pure (some names)) else pure (some names)) := by
    rfl
  rw [e]
  have n1 : (([.Name x px, .Name y py] : List PySem.Expr).filterMap fun
        | .Name id pos => if (env.kindOf id == some .local && pos.line == px.line) = true then some id else none
        | _ => none) = [x, y] := by
    simp only [List.filterMap_cons, V.loc x hx, V.loc y hy, c5, beq_self_eq_true, Bool.and_self, if_true, List.filterMap_nil]
  rw [n1, c1, h1, c2, c3, c4]
  dsimp only
  rw [c6]
  rfl
theorem swapped3 {vs : List PySem.Expr} (V : EnvOk env names gl) (hx : x ∈ names) (hy : y ∈ names) (hz : z ∈ names) (hck : (vs.length == 3 && !(vs.any fun | .Starred .. => true | _ => false) && !(vs.all (foldedForSure 8)) && !(vs.all (constantsAlone 8)) && py.line == px.line && pz.line == px.line && ([x, y, z].eraseDups.length == 3)) = true) :
    swappedStores [.Tuple [.Name x px, .Name y py, .Name z pz] k tp] (.Tuple vs k2 vp) env = pure (some [x, y, z]) := by
  have h1 : env.blockKind = .function := by unfold Env.blockKind; rw [V.kind]; rfl
  simp only [Bool.and_eq_true, beq_iff_eq, Bool.not_eq_true'] at hck
  obtain ⟨⟨⟨⟨⟨⟨c1, c2⟩, c3⟩, c4⟩, c5⟩, c5'⟩, c6⟩ := hck
  have e : swappedStores [.Tuple [.Name x px, .Name y py, .Name z pz] k tp] (.Tuple vs k2 vp) env = (
      if (!(3 == 2 || 3 == 3) || vs.length != 3 || env.blockKind != .function) = true then pure none else
      if (vs.any fun | .Starred .. => true | _ => false) = true then pure none else
      let names := ([.Name x px, .Name y py, .Name z pz] : List PySem.Expr).filterMap fun
        | .Name id pos => if (env.kindOf id == some .local && pos.line == px.line) = true then some id else none
        | _ => none
      if (names.length != 3 || names.eraseDups.length != names.length) = true then pure none else
      if vs.all (foldedForSure 8) = true then pure none else
      if vs.all (constantsAlone 8) = true then ((unsupported "assign.tuple-of-constant-expressions:order-of-the-stores" : Sem PUnit) >>= fun _ => pure (some names)) else pure (some names)) := by
    rfl
  rw [e]
  have n1 : (([.Name x px, .Name y py, .Name z pz] : List PySem.Expr).filterMap fun
        | .Name id pos => if (env.kindOf id == some .local && pos.line == px.line) = true then some id else none
        | _ => none) = [x, y, z] := by
    simp only [List.filterMap_cons, V.loc x hx, V.loc y hy, V.loc z hz, c5, c5', beq_self_eq_true, Bool.and_self, if_true, List.filterMap_nil]
  rw [n1, c1, h1, c2, c3, c4]
  dsimp only
  rw [c6]
  rfl
theorem x_swap2 {vs : List PySem.Expr} {rest : List Stmt} {Q : Flow → Shared → Prop} (i j : Nat) (V : EnvOk env names gl) (hh : A.handled = none)
    (q : Wp w A (spliced (backTo vp (starEach vs env))) (fun us s => ∃ v1 v2 h t fo l vals, us = [v1, v2] ∧ s = ⟨h, g, d, t, os⟩ ∧ Led H h ((env.locals, fo) :: l) ∧ Loc fo names vals ∧ ∀ h' t' fo', Led H h' ((env.locals, fo') :: l) → Loc fo' names (setV (setV vals j v2) i v1) → Wp w A (execs rest env) Q E ⟨h', g, d, t', os⟩) E s)
    (hck : (vs.length == 2 && !(vs.any fun | .Starred .. => true | _ => false) && !(vs.all (foldedForSure 8)) && !(vs.all (constantsAlone 8)) && py.line == px.line && ([x, y].eraseDups.length == 2)) = true) (hx : names[i]? = some x := by rfl) (hy : names[j]? = some y := by rfl) :
    Wp w A (execs (.Assign [.Tuple [.Name x px, .Name y py] k tp] (.Tuple vs k2 vp) pos :: rest) env) Q E s := by
  have hw := swapped2 (px := px) (py := py) (k := k) (tp := tp) (k2 := k2) (vp := vp) V (List.mem_of_getElem? hx) (List.mem_of_getElem? hy) hck
  have key : Wp w A (eval (.Tuple vs k2 vp) env) (fun v s => Wp w A (unpackItems v 2 none) (fun items s => Wp w A (assignInOrder ([x, y].reverse.map fun n => bindName env n) items.reverse) (fun _ s => Wp w A (execs rest env) Q E s) E s) E s) E s := by
    refine e_tup (q.mono (fun us s z => ?_) fun _ _ e => e)
    obtain ⟨v1, v2, h, t, fo, l, vals, rfl, rfl, L, N, k⟩ := z
    refine n_tup L (by simp) fun T h L => ?_
    refine u_items (vs := [v1, v2]) 1 hh L rfl fun h L => ?_
    have st := s_loc (w := w) (A := A) (E := E) (g := g) (d := d) (t := t) (os := os) (x := y) (v := v2) (Q := fun _ s => Wp w A (storeName env x v1) (fun _ s => Wp w A (execs rest env) Q E s) E s) j V L N (fun h t fo L N => s_loc i V L N (fun h t fo L N => k h t fo L.drop1 N) hx) hy
    refine Wp.of ?_
    show wpAny _ _ (do holding [v1] (bindName env y v2); (do holding [] (bindName env x v1); pure ())) _ _ _
    exact wpAny_bind (wpAny_holding (wpAny_bindName (wpAny_mono st.out (fun _ s z => wpAny_bind (wpAny_holding (wpAny_bindName (wpAny_mono z.out (fun _ s z => wpAny_pure z) fun _ _ e => e)))) fun _ _ e => e)))
  have hs : swapsWithSole [.Tuple [.Name x px, .Name y py] k tp] (.Tuple vs k2 vp) pos.line env = pure false := rfl
  refine x_cons (Wp.of ?_)
  refine Assign_Tuple_swapped (hs := hs) (hw := hw) ?_
  exact wpAny_mono key.out (fun v s z => wpAny_mono z.out (fun us s z => z.out) fun _ _ e => e) fun _ _ e => e
theorem x_swap3 {vs : List PySem.Expr} {rest : List Stmt} {Q : Flow → Shared → Prop} (i j m : Nat) (V : EnvOk env names gl) (hh : A.handled = none)
    (q : Wp w A (spliced (backTo vp (starEach vs env))) (fun us s => ∃ v1 v2 v3 h t fo l vals, us = [v1, v2, v3] ∧ s = ⟨h, g, d, t, os⟩ ∧ Led H h ((env.locals, fo) :: l) ∧ Loc fo names vals ∧ ∀ h' t' fo', Led H h' ((env.locals, fo') :: l) → Loc fo' names (setV (setV (setV vals m v3) j v2) i v1) → Wp w A (execs rest env) Q E ⟨h', g, d, t', os⟩) E s)
    (hck : (vs.length == 3 && !(vs.any fun | .Starred .. => true | _ => false) && !(vs.all (foldedForSure 8)) && !(vs.all (constantsAlone 8)) && py.line == px.line && pz.line == px.line && ([x, y, z].eraseDups.length == 3)) = true) (hx : names[i]? = some x := by rfl) (hy : names[j]? = some y := by rfl) (hz : names[m]? = some z := by rfl) :
    Wp w A (execs (.Assign [.Tuple [.Name x px, .Name y py, .Name z pz] k tp] (.Tuple vs k2 vp) pos :: rest) env) Q E s := by
  have hw := swapped3 (px := px) (py := py) (pz := pz) (k := k) (tp := tp) (k2 := k2) (vp := vp) V (List.mem_of_getElem? hx) (List.mem_of_getElem? hy) (List.mem_of_getElem? hz) hck
  have key : Wp w A (eval (.Tuple vs k2 vp) env) (fun v s => Wp w A (unpackItems v 3 none) (fun items s => Wp w A (assignInOrder ([x, y, z].reverse.map fun n => bindName env n) items.reverse) (fun _ s => Wp w A (execs rest env) Q E s) E s) E s) E s := by
    refine e_tup (q.mono (fun us s z => ?_) fun _ _ e => e)
    obtain ⟨v1, v2, v3, h, t, fo, l, vals, rfl, rfl, L, N, k⟩ := z
    refine n_tup L (by simp) fun T h L => ?_
    refine u_items (vs := [v1, v2, v3]) 1 hh L rfl fun h L => ?_
    have st := s_loc (w := w) (A := A) (E := E) (g := g) (d := d) (t := t) (os := os) (x := z) (v := v3) (Q := fun _ s => Wp w A (storeName env y v2) (fun _ s => Wp w A (storeName env x v1) (fun _ s => Wp w A (execs rest env) Q E s) E s) E s) m V L N (fun h t fo L N => s_loc j V L N (fun h t fo L N => s_loc i V L N (fun h t fo L N => k h t fo L.drop1 N) hx) hy) hz
    refine Wp.of ?_
    show wpAny _ _ (do holding [v2, v1] (bindName env z v3); (do holding [v1] (bindName env y v2); (do holding [] (bindName env x v1); pure ()))) _ _ _
    exact wpAny_bind (wpAny_holding (wpAny_bindName (wpAny_mono st.out (fun _ s z => wpAny_bind (wpAny_holding (wpAny_bindName (wpAny_mono z.out (fun _ s z => wpAny_bind (wpAny_holding (wpAny_bindName (wpAny_mono z.out (fun _ s z => wpAny_pure z) fun _ _ e => e)))) fun _ _ e => e)))) fun _ _ e => e)))
  have hs : swapsWithSole [.Tuple [.Name x px, .Name y py, .Name z pz] k tp] (.Tuple vs k2 vp) pos.line env = pure false := rfl
  refine x_cons (Wp.of ?_)
  refine Assign_Tuple_swapped (hs := hs) (hw := hw) ?_
  exact wpAny_mono key.out (fun v s z => wpAny_mono z.out (fun us s z => z.out) fun _ _ e => e) fun _ _ e => e
end
end Mine
namespace Mine
set_option maxRecDepth 100000
theorem draw_at {w : World} {A : Around} {R : Result → Shared → Prop} {H h : Heap} {g : Array GenState} {d : Drawn} {t : Nat} {os : OsState} {l : Ledger} {p c : Addr} {op oc : Obj} {cells : List Int} {k : Nat} {sm many : Int} {tm : Tok} {i j : Nat}
    (G : Gd w H) (hA : Room 2 A) (L : Led H h l) (hi : l[i]? = some (p, op)) (hj : l[j]? = some (c, oc)) (hij : i ≠ j) (P : PenO op oc c cells k sm) (hk : k ≤ 1000) (hc : cells.length ≤ 100) (hm : many ≠ 0)
    (q : ∀ h' t' op' tk, Led H h' (l.set i (p, op')) → PenO op' oc c cells (k + 1) sm → R (.ok (.ret (.int (drawV cells sm k many) tk))) ⟨h', g, d, t', os⟩) :
    Cd w A (.call (.ref 437) ⟨[.ref p, .int many tm], []⟩) R ⟨h, g, d, t, os⟩ := by
  obtain ⟨vs, tk, ts, P1, P2, P3⟩ := P
  refine call_fn ["pen", "many", "spot"] ["len"] [.ref p, .int many tm] 2 G L hA.depth rfl (by kernel_rfl!) rfl (BindsTo.of_eq rfl) (by decide +kernel) rfl ?_
  intro h t fo env V _ L N
  have hi0 : ∀ fo : Obj, ((env.locals, fo) :: l)[i + 1]? = some (p, op) := fun _ => hi
  refine calm ?_
  refine x_assign (e_sub (e_loc 0 V L N ?_))
  refine e_int fun _ _ => ?_
  refine l_item (i + 1) L (hi0 _) P3 (by decide) (by decide) rfl ?_
  refine s_loc 2 V L N fun h t fo L N => ?_
  refine x_setitem (e_bin (e_loc 2 V L N ?_))
  refine e_int fun _ _ => ?_
  refine i_add fun tk t => ?_
  refine e_loc 0 V L N ?_
  refine e_int fun _ _ => ?_
  refine l_setitem (i + 1) L (hi0 _) P3 (by decide) (by decide) (by simp) fun h t op L P3 => ?_
  replace L : Led H h ((env.locals, fo) :: l.set i (p, op)) := L
  have hi1 : ((env.locals, fo) :: l.set i (p, op))[i + 1]? = some (p, op) := by
    show (l.set i (p, op))[i]? = _
    rw [List.getElem?_set, if_pos rfl, if_pos (List.getElem?_eq_some_iff.mp hi).1]
  have hj1 : ((env.locals, fo) :: l.set i (p, op))[j + 1]? = some (c, oc) := by
    show (l.set i (p, op))[j]? = _
    rw [List.getElem?_set, if_neg hij]; exact hj
  refine x_if (t_cmp (e_loc 2 V L N ?_))
  refine e_call (e_blt 0 G V L (b_len _) ?_)
  refine cw_b rfl (a_cons (e_sub (e_loc 0 V L N ?_)))
  refine e_int fun _ _ => ?_
  refine l_item (i + 1) L hi1 P3 (by decide) (by decide) rfl ?_
  refine a_nil ?_
  refine l_len (j + 1) L hj1 P1 (by have := P2.length; omega) fun tk t => ?_
  refine i_lt (t_bool ?_)
  refine if_two (fun c1 => ?_) fun c1 => ?_
  · refine x_ret (e_bin (e_sub (e_sub (e_loc 0 V L N ?_))))
    refine e_int fun _ _ => ?_
    refine l_item (i + 1) L hi1 P3 (by decide) (by decide) rfl ?_
    refine e_loc 2 V L N ?_
    have hkl : k < cells.length := by have := P2.length; omega
    obtain ⟨tv, hv⟩ := ints_at P2 k hkl
    refine l_item (j + 1) L hj1 P1 (by omega) (by omega) (by simpa using hv) ?_
    refine e_loc 1 V L N ?_
    refine i_mod hm fun tk t => ?_
    have := q h t op tk L.tail ⟨vs, _, _, P1, P2, by simpa using P3⟩
    rw [drawV, if_pos hkl] at this
    exact this
  · refine x_nil ?_
    refine x_ret (e_bin (e_bin (e_bin (e_sub (e_loc 0 V L N ?_)))))
    refine e_int fun _ _ => ?_
    refine l_item (i + 1) L hi1 P3 (by decide) (by decide) rfl ?_
    refine e_bin (e_int fun _ _ => e_loc 2 V L N ?_)
    refine i_mul (IntMulOk.of_left (by decide)) fun tk t => ?_
    refine i_add fun tk t => ?_
    refine e_bin (e_bin (e_loc 2 V L N (e_loc 2 V L N ?_)))
    refine i_mul (IntMulOk.of_left (bits_small (by omega))) fun tk t => ?_
    refine e_int fun _ _ => ?_
    refine i_fdiv (by decide) (pylong_small (by decide)) fun tk t => ?_
    refine i_add fun tk t => ?_
    refine e_loc 1 V L N ?_
    refine i_mod hm fun tk t => ?_
    have hkl : ¬ k < cells.length := by have := P2.length; omega
    have := q h t op tk L.tail ⟨vs, _, _, P1, P2, by simpa using P3⟩
    rw [drawV, if_neg hkl] at this
    exact this
theorem drawV_lt {cells : List Int} {sm : Int} {k : Nat} {many : Int} (h : 0 < many) : 0 ≤ drawV cells sm k many ∧ drawV cells sm k many < many := by
  unfold drawV
  split
  · exact ⟨Int.fmod_nonneg_of_pos _ h, Int.fmod_lt_of_pos _ h⟩
  · exact ⟨Int.fmod_nonneg_of_pos _ h, Int.fmod_lt_of_pos _ h⟩
section
variable {w : World} {A : Around} {E : Value → Shared → Prop} {H h : Heap} {g : Array GenState} {d : Drawn} {t : Nat} {os : OsState} {env : Env} {l : Ledger} {fo op oc : Obj} {names gl : List Str} {vals : List (Option Value)} {p c : Addr} {cells : List Int} {k kk : Nat} {sm many : Int} {p1 p2 p3 p4 : Pos}
theorem e_draw {Q : Value → Shared → Prop} (i j vi gi : Nat) (G : Gd w H) (hA : Room 2 A) (V : EnvOk env names gl) (N : Loc fo names vals) (L : Led H h ((env.locals, fo) :: l)) (P : PenO op oc c cells k sm) (hk : k ≤ 1000) (hc : cells.length ≤ 100) (hm : many ≠ 0)
    (hi : l[i]? = some (p, op)) (hj : l[j]? = some (c, oc)) (hij : i ≠ j)
    (q : ∀ h' t' op' tk, Led H h' ((env.locals, fo) :: l.set i (p, op')) → PenO op' oc c cells (k + 1) sm → Q (.int (drawV cells sm k many) tk) ⟨h', g, d, t', os⟩)
    (hx : names[vi]? = some ("pen" : Str) := by rfl) (hv : vals[vi]? = some (some (.ref p)) := by rfl) (hg : gl[gi]? = some ("_law_draw" : Str) := by rfl) :
    Wp w A (eval (.Call (.Name "_law_draw" p1) [.Name "pen" p2, .Constant (.int many) kk p3] [] p4) env) Q E ⟨h, g, d, t, os⟩ := by
  refine e_call (e_glob gi G V L (g_law_draw _) (cw_f G (by kernel_rfl!) (a_cons (e_loc vi V L N (a_cons (e_int fun tk t => a_nil ⟨⟨_, L⟩, e_code ?_⟩) ) hx hv))) hg)
  exact draw_at (i := i + 1) (j := j + 1) G hA L hi hj (by omega) P hk hc hm fun h t op' tk L P => q h t op' tk L P
end
def entStep (D : Nat → Int → Int) (mk : List (Int × Ent) × Nat) (n : Int) : List (Int × Ent) × Nat :=
  if D mk.2 6 < 2 then (put mk.1 n ⟨"used", 50 * n, ([0, 0, 2, 65535] : List Int).getD (D (mk.2 + 1) 4).toNat 0⟩, mk.2 + 2)
  else if D mk.2 6 = 2 then (put mk.1 n ⟨"free", 0, ([0, 1, 7, 65535] : List Int).getD (D (mk.2 + 1) 4).toNat 0⟩, mk.2 + 2)
  else if D mk.2 6 = 3 then (put mk.1 n ⟨"packed", 1 + D (mk.2 + 1) 5, n⟩, mk.2 + 2)
  else (mk.1, mk.2 + 1)
def entTo (D : Nat → Int → Int) (k : Nat) : Nat → List (Int × Ent) × Nat
  | 0 => ([], k)
  | j + 1 => entStep D (entTo D k j) (j + 1)
theorem entTo_len (D : Nat → Int → Int) (k : Nat) : ∀ j, (entTo D k j).1.length ≤ j ∧ (entTo D k j).2 ≤ k + 2 * j
  | 0 => ⟨Nat.le_refl _, Nat.le_refl _⟩
  | j + 1 => by
    obtain ⟨h1, h2⟩ := entTo_len D k j
    unfold entTo entStep
    split
    · exact ⟨Nat.le_trans (put_len _ _ _) (by omega), by dsimp only; omega⟩
    split
    · exact ⟨Nat.le_trans (put_len _ _ _) (by omega), by dsimp only; omega⟩
    split
    · exact ⟨Nat.le_trans (put_len _ _ _) (by omega), by dsimp only; omega⟩
    · exact ⟨by dsimp only; omega, by dsimp only; omega⟩
end Mine
namespace Mine
set_option maxRecDepth 100000
def entSize (D : Nat → Int → Int) (k : Nat) : Int := 1 + D k 5
def entAll (D : Nat → Int → Int) (k : Nat) : List (Int × Ent) × Nat :=
  let r := entTo D (k + 1) (entSize D k - 1).toNat
  (if D r.2 2 = 0 then put r.1 0 ⟨"free", 0, 65535⟩ else r.1, r.2 + 1)
theorem law_entries {w : World} {A : Around} {R : Result → Shared → Prop} {H h : Heap} {g : Array GenState} {d : Drawn} {t : Nat} {os : OsState} {l : Ledger} {p c : Addr} {op oc : Obj} {p0 : Addr × Obj} {cells : List Int} {k : Nat} {sm : Int}
    (G : Gd w H) (hA : Room 6 A) (L : Led H h (p0 :: (p, op) :: (c, oc) :: l)) (P : PenO op oc c cells k sm) (hk : k ≤ 100) (hc : cells.length ≤ 100)
    (q : ∀ h' t' op' T D od ex ts, Led H h' (p0 :: (T, tupO [.ref D, .int (entSize (drawV cells sm) k) ts]) :: (p, op') :: (c, oc) :: (D, od) :: (ex ++ l)) → PenO op' oc c cells (entAll (drawV cells sm) k).2 sm → DR w (EntR w ex) od (entAll (drawV cells sm) k).1 → R (.ok (.ret (.ref T))) ⟨h', g, d, t', os⟩) :
    Cd w A (.call (.ref 444) ⟨[.ref p], []⟩) R ⟨h, g, d, t, os⟩ := by
  refine call_fn ["pen", "entries", "size", "number", "way"] ["_law_draw", "range", "Entry"] [.ref p] 1 G L hA.depth rfl (by kernel_rfl!) rfl (BindsTo.of_eq rfl) (by decide +kernel) rfl ?_
  intro h t fo env V _ L N
  refine calm ?_
  have R5 := hA.deeper env
  generalize hD : drawV cells sm = D at *
  have hlt : ∀ (k : Nat) (m : Int), 0 < m → 0 ≤ D k m ∧ D k m < m := fun k m hm => by rw [← hD]; exact drawV_lt hm
  have hs := hlt k 5 (by decide)
  -- entries, size = ({}, 1 + _law_draw(pen, 5))
  refine x_swap2 (H := H) (g := g) (d := d) (os := os) 1 2 V R5.u ?_ (by decide +kernel)
  refine a_cons (r_dict0 (EntR w []) L fun De h od L cD => ?_)
  refine a_cons (e_bin (e_int fun t1 t => e_draw 2 3 0 0 G (R5.mono (by decide)) V N L P (by omega) hc (by decide) rfl rfl (by decide) fun h t op tk L P => ?_))
  rw [hD]
  refine i_add fun ts t => a_nil ⟨.ref De, .int (1 + D k 5) ts, h, t, fo, _, _, rfl, rfl, L, N, fun h t fo L N => ?_⟩
  replace L : Led H h ((env.locals, fo) :: (De, od) :: p0 :: (p, op) :: (c, oc) :: l) := L
  -- the loop
  refine x_for (e_call (e_blt 1 G V L (b_range _) (cw_b rfl (a_cons (e_int fun _ _ => a_cons (e_loc 2 V L N (a_nil ?_)))))))
  refine it_range2 L (by decide) (by omega) fun I iob h t LI cI src => ?_
  have hn : (1 + D k 5 - 1).toNat = (entSize D k - 1).toNat := rfl
  rw [hn] at cI src
  have hn4 : (entSize D k - 1).toNat ≤ 4 := by unfold entSize; omega
  refine for_name 3 (fun j l' vals => vals = [some (.ref p), some (.ref De), some (.int (1 + D k 5) ts)] ∧ ∃ od op ex, l' = (De, od) :: p0 :: (p, op) :: (c, oc) :: (ex ++ l) ∧ DR w (EntR w ex) od (entTo D (k + 1) j).1 ∧ PenO op oc c cells (entTo D (k + 1) j).2 sm) V R5.u src cI LI (N.take 3) ⟨rfl, od, op, [], rfl, cD, P⟩ (fun _ _ _ _ p hp => by cases hp) ?_ ?_
  · intro j v l' vals h t fo iob hj hv hJ L c0 N
    obtain ⟨tkn, rfl⟩ := hv
    obtain ⟨rfl, od, op, ex, rfl, cD, P⟩ := hJ
    have he : (1 : Int) + (j : Int) = (j : Int) + 1 := by omega
    rw [he] at N
    obtain ⟨lm, lk⟩ := entTo_len D (k + 1) j
    have e1 : entTo D (k + 1) (j + 1) = entStep D (entTo D (k + 1) j) ((j : Int) + 1) := rfl
    generalize entTo D (k + 1) j = mk at *
    obtain ⟨m, kj⟩ := mk
    dsimp only at cD P lm lk e1
    have hw := hlt kj 6 (by decide)
    have h4 := hlt (kj + 1) 4 (by decide)
    have h5 := hlt (kj + 1) 5 (by decide)
    -- the end of every branch
    refine x_assign (e_draw 3 4 0 0 G (R5.mono (by decide)) V N L P (by omega) hc (by decide) rfl rfl (by decide) fun h t op tk L P => ?_)
    rw [hD]
    refine s_loc 4 V L N fun h t fo L N => ?_
    replace L : Led H h ((env.locals, fo) :: (I, iob) :: (De, od) :: p0 :: (p, op) :: (c, oc) :: (ex ++ l)) := L
    refine x_if (t_cmp (e_loc 4 V L N (e_int fun _ _ => i_lt (t_bool (if_two (fun c1 => ?_) fun c1 => ?_)))))
    · refine x_setitem (e_call (e_glob 2 G V L (g_Entry _) (cw_f G (by kernel_rfl!) (a_cons (e_str fun uw t => a_cons (e_bin (e_int fun _ _ => e_loc 3 V L N ?_)))))))
      refine i_mul (IntMulOk.of_left (by decide)) fun uo t => a_cons (e_sub (e_lst (a_cons (e_int fun ua t => a_cons (e_int fun ub t => a_cons (e_int fun uc t => a_cons (e_int fun ud t => a_nil (n_lst L (by simp) fun Ls h L => ?_))))))))
      refine e_draw 4 5 0 0 G (R5.mono (by decide)) V N L P (by omega) hc (by decide) rfl rfl (by decide) fun h t op tk2 L P => ?_
      rw [hD]
      have hI : IntsAre [.int 0 ua, .int 0 ub, .int 2 uc, .int 65535 ud] [0, 0, 2, 65535] := .cons _ _ (.cons _ _ (.cons _ _ (.cons _ _ .nil)))
      refine l_item' 1 L rfl LstO.mk hI (D (kj + 1) 4).toNat (by omega) (by simp; omega) (by simp) fun u3 => ?_
      refine a_nil ⟨⟨_, L⟩, ?_⟩
      refine c_cls (fI := 35) G L (by kernel_rfl!) fun x dx h L => ?_
      refine entry_init G (Room.make (R5.mono (by decide : 4 ≤ 5)) _ _ _).depth (L.re 3 [1, 2, 0]) fun h t t1 t2 t3 L => ⟨rfl, ?_⟩
      replace L : Led H h ((env.locals, fo) :: (I, iob) :: (De, od) :: p0 :: (p, op) :: (c, oc) :: (x, instObj 45 dx) :: (dx, entryD w (.str "used" uw) (.int (50 * ((j : Int) + 1)) uo) (.int (([0, 0, 2, 65535] : List Int).getD (D (kj + 1) 4).toNat 0) u3) t1 t2 t3) :: (ex ++ l)) := L.re 9 [2, 4, 5, 6, 7, 8, 0, 1]
      refine e_loc 1 V L N (e_loc 3 V L N ?_)
      refine r_set (R := EntR w ((x, instObj 45 dx) :: (dx, entryD w (.str "used" uw) (.int (50 * ((j : Int) + 1)) uo) (.int (([0, 0, 2, 65535] : List Int).getD (D (kj + 1) 4).toNat 0) u3) t1 t2 t3) :: ex)) 2 L rfl (cD.mono fun v e z => z.mono fun q hq => .tail _ (.tail _ hq)) (b := ⟨"used", (50 * ((j : Int) + 1)), (([0, 0, 2, 65535] : List Int).getD (D (kj + 1) 4).toNat 0)⟩) ⟨x, dx, t1, t2, t3, uw, uo, u3, rfl, .head _, .tail _ (.head _)⟩ (by omega) fun h t od L cD => x_nil (x_end ?_)
      refine ⟨h, t, fo, _, _, iob, rfl, L, c0, N.take 3, rfl, od, op, _ :: _ :: ex, rfl, ?_, ?_⟩
      · rw [e1]; unfold entStep; dsimp only; rw [if_pos c1]; exact cD
      · rw [e1]; unfold entStep; dsimp only; rw [if_pos c1]; exact P
    · refine x_if (t_cmp (e_loc 4 V L N (e_int fun _ _ => i_eqi (t_bool (if_two (fun c2 => ?_) fun c2 => ?_)))))
      · refine x_setitem (e_call (e_glob 2 G V L (g_Entry _) (cw_f G (by kernel_rfl!) (a_cons (e_str fun uw t => a_cons (e_int fun uo t => ?_))))))
        refine a_cons (e_sub (e_lst (a_cons (e_int fun ua t => a_cons (e_int fun ub t => a_cons (e_int fun uc t => a_cons (e_int fun ud t => a_nil (n_lst L (by simp) fun Ls h L => ?_))))))))
        refine e_draw 4 5 0 0 G (R5.mono (by decide)) V N L P (by omega) hc (by decide) rfl rfl (by decide) fun h t op tk2 L P => ?_
        rw [hD]
        have hI : IntsAre [.int 0 ua, .int 1 ub, .int 7 uc, .int 65535 ud] [0, 1, 7, 65535] := .cons _ _ (.cons _ _ (.cons _ _ (.cons _ _ .nil)))
        refine l_item' 1 L rfl LstO.mk hI (D (kj + 1) 4).toNat (by omega) (by simp; omega) (by simp) fun u3 => ?_
        refine a_nil ⟨⟨_, L⟩, ?_⟩
        refine c_cls (fI := 35) G L (by kernel_rfl!) fun x dx h L => ?_
        refine entry_init G (Room.make (R5.mono (by decide : 4 ≤ 5)) _ _ _).depth (L.re 3 [1, 2, 0]) fun h t t1 t2 t3 L => ⟨rfl, ?_⟩
        replace L : Led H h ((env.locals, fo) :: (I, iob) :: (De, od) :: p0 :: (p, op) :: (c, oc) :: (x, instObj 45 dx) :: (dx, entryD w (.str "free" uw) (.int 0 uo) (.int (([0, 1, 7, 65535] : List Int).getD (D (kj + 1) 4).toNat 0) u3) t1 t2 t3) :: (ex ++ l)) := L.re 9 [2, 4, 5, 6, 7, 8, 0, 1]
        refine e_loc 1 V L N (e_loc 3 V L N ?_)
        refine r_set (R := EntR w ((x, instObj 45 dx) :: (dx, entryD w (.str "free" uw) (.int 0 uo) (.int (([0, 1, 7, 65535] : List Int).getD (D (kj + 1) 4).toNat 0) u3) t1 t2 t3) :: ex)) 2 L rfl (cD.mono fun v e z => z.mono fun q hq => .tail _ (.tail _ hq)) (b := ⟨"free", 0, (([0, 1, 7, 65535] : List Int).getD (D (kj + 1) 4).toNat 0)⟩) ⟨x, dx, t1, t2, t3, uw, uo, u3, rfl, .head _, .tail _ (.head _)⟩ (by omega) fun h t od L cD => x_nil (x_nil (x_end ?_))
        refine ⟨h, t, fo, _, _, iob, rfl, L, c0, N.take 3, rfl, od, op, _ :: _ :: ex, rfl, ?_, ?_⟩
        · rw [e1]; unfold entStep; dsimp only; rw [if_neg c1, if_pos c2]; exact cD
        · rw [e1]; unfold entStep; dsimp only; rw [if_neg c1, if_pos c2]; exact P
      · refine x_if (t_cmp (e_loc 4 V L N (e_int fun _ _ => i_eqi (t_bool (if_two (fun c3 => ?_) fun c3 => ?_)))))
        · refine x_setitem (e_call (e_glob 2 G V L (g_Entry _) (cw_f G (by kernel_rfl!) (a_cons (e_str fun uw t => a_cons (e_bin (e_int fun _ t => ?_)))))))
          refine e_draw 3 4 0 0 G (R5.mono (by decide)) V N L P (by omega) hc (by decide) rfl rfl (by decide) fun h t op tk2 L P => ?_
          rw [hD]
          refine i_add fun uo t => a_cons (e_loc 3 V L N ?_)
          refine a_nil ⟨⟨_, L⟩, ?_⟩
          refine c_cls (fI := 35) G L (by kernel_rfl!) fun x dx h L => ?_
          refine entry_init G (Room.make (R5.mono (by decide : 4 ≤ 5)) _ _ _).depth (L.re 3 [1, 2, 0]) fun h t t1 t2 t3 L => ⟨rfl, ?_⟩
          replace L : Led H h ((env.locals, fo) :: (I, iob) :: (De, od) :: p0 :: (p, op) :: (c, oc) :: (x, instObj 45 dx) :: (dx, entryD w (.str "packed" uw) (.int (1 + D (kj + 1) 5) uo) (.int ((j : Int) + 1) tkn) t1 t2 t3) :: (ex ++ l)) := L.re 8 [2, 3, 4, 5, 6, 7, 0, 1]
          refine e_loc 1 V L N (e_loc 3 V L N ?_)
          refine r_set (R := EntR w ((x, instObj 45 dx) :: (dx, entryD w (.str "packed" uw) (.int (1 + D (kj + 1) 5) uo) (.int ((j : Int) + 1) tkn) t1 t2 t3) :: ex)) 2 L rfl (cD.mono fun v e z => z.mono fun q hq => .tail _ (.tail _ hq)) (b := ⟨"packed", (1 + D (kj + 1) 5), ((j : Int) + 1)⟩) ⟨x, dx, t1, t2, t3, uw, uo, tkn, rfl, .head _, .tail _ (.head _)⟩ (by omega) fun h t od L cD => x_nil (x_nil (x_nil (x_end ?_)))
          refine ⟨h, t, fo, _, _, iob, rfl, L, c0, N.take 3, rfl, od, op, _ :: _ :: ex, rfl, ?_, ?_⟩
          · rw [e1]; unfold entStep; dsimp only; rw [if_neg c1, if_neg c2, if_pos c3]; exact cD
          · rw [e1]; unfold entStep; dsimp only; rw [if_neg c1, if_neg c2, if_pos c3]; exact P
        · refine x_nil (x_nil (x_nil (x_end ?_)))
          refine ⟨h, _, fo, _, _, iob, rfl, L, c0, N.take 3, rfl, od, op, ex, rfl, ?_, ?_⟩
          · rw [e1]; unfold entStep; dsimp only; rw [if_neg c1, if_neg c2, if_neg c3]; exact cD
          · rw [e1]; unfold entStep; dsimp only; rw [if_neg c1, if_neg c2, if_neg c3]; exact P
  · intro h t fo l' vals L N hJ
    obtain ⟨rfl, od, op, ex, rfl, cD, P⟩ := hJ
    obtain ⟨lm, lk⟩ := entTo_len D (k + 1) (entSize D k - 1).toNat
    have e2 : entAll D k = (if D (entTo D (k + 1) (entSize D k - 1).toNat).2 2 = 0 then put (entTo D (k + 1) (entSize D k - 1).toNat).1 0 ⟨"free", 0, 65535⟩ else (entTo D (k + 1) (entSize D k - 1).toNat).1, (entTo D (k + 1) (entSize D k - 1).toNat).2 + 1) := rfl
    rw [e2] at q
    generalize entTo D (k + 1) (entSize D k - 1).toNat = mk at *
    obtain ⟨m, kj⟩ := mk
    dsimp only at cD P lm lk q
    replace L : Led H h ((env.locals, fo) :: (De, od) :: p0 :: (p, op) :: (c, oc) :: (ex ++ l)) := L
    refine x_if (t_cmp (e_draw 2 3 0 0 G (R5.mono (by decide)) V N L P (by omega) hc (by decide) rfl rfl (by decide) fun h t op tk L P => ?_))
    rw [hD]
    replace L : Led H h ((env.locals, fo) :: (De, od) :: p0 :: (p, op) :: (c, oc) :: (ex ++ l)) := L
    refine e_int fun _ _ => i_eqi (t_bool (if_two (fun c1 => ?_) fun c1 => ?_))
    · rw [if_pos c1] at q
      refine x_setitem (e_call (e_glob 2 G V L (g_Entry _) (cw_f G (by kernel_rfl!) (a_cons (e_str fun uw t => a_cons (e_int fun uo t => a_cons (e_int fun ut t => a_nil ⟨⟨_, L⟩, ?_⟩)))))))
      refine c_cls (fI := 35) G L (by kernel_rfl!) fun x dx h L => ?_
      refine entry_init G (Room.make (R5.mono (by decide : 4 ≤ 5)) _ _ _).depth (L.re 3 [1, 2, 0]) fun h t t1 t2 t3 L => ⟨rfl, ?_⟩
      replace L : Led H h ((env.locals, fo) :: (De, od) :: p0 :: (p, op) :: (c, oc) :: (x, instObj 45 dx) :: (dx, entryD w (.str "free" uw) (.int 0 uo) (.int 65535 ut) t1 t2 t3) :: (ex ++ l)) := L.re 7 [2, 3, 4, 5, 6, 0, 1]
      refine e_loc 1 V L N (e_int fun _ _ => ?_)
      refine r_set (R := EntR w ((x, instObj 45 dx) :: (dx, entryD w (.str "free" uw) (.int 0 uo) (.int 65535 ut) t1 t2 t3) :: ex)) 1 L rfl (cD.mono fun v e z => z.mono fun q hq => .tail _ (.tail _ hq)) (b := ⟨"free", 0, 65535⟩) ⟨x, dx, t1, t2, t3, uw, uo, ut, rfl, .head _, .tail _ (.head _)⟩ (by omega) fun h t od L cD => x_nil ?_
      refine x_ret (e_tup (a_cons (e_loc 1 V L N (a_cons (e_loc 2 V L N (a_nil (n_tup L (by simp) fun T h L => ?_)))))))
      exact q h _ op T De od (_ :: _ :: ex) ts (L.re 6 [3, 1, 4, 5, 2]) P cD
    · rw [if_neg c1] at q
      refine x_nil (x_ret (e_tup (a_cons (e_loc 1 V L N (a_cons (e_loc 2 V L N (a_nil (n_tup L (by simp) fun T h L => ?_))))))))
      exact q h _ op T De od ex ts (L.re 6 [3, 1, 4, 5, 2]) P cD
end Mine
namespace Mine
set_option maxRecDepth 100000
section
variable {w : World} {A : Around} {E : Value → Shared → Prop} {H h : Heap} {g : Array GenState} {d : Drawn} {t : Nat} {os : OsState} {env : Env} {l : Ledger} {fo o : Obj} {names gl : List Str} {vals : List (Option Value)} {a Lf : Addr} {vs : List Value} {p : Addr × Obj} {pos : Pos}
theorem l_mul {x : Int} {u : Tok} {Q : Value → Shared → Prop} (i : Nat) (L : Led H h ((Lf, fo) :: l)) (N : Loc fo names vals) (hi : l[i]? = some (a, o)) (c : LstO o vs) (hx : -100 ≤ x ∧ x ≤ 100) (hz : vs.length * x.toNat ≤ 256)
    (q : ∀ D h' fo', Led H h' ((Lf, fo') :: (D, lstO (List.replicate x.toNat vs).flatten) :: l) → Loc fo' names vals → Q (.ref D) ⟨h', g, d, t, os⟩) : Wp w A (binaryOp .Mult (.ref a) (.int x u)) Q E ⟨h, g, d, t, os⟩ := by
  delta Wp
  obtain ⟨m, n, hm⟩ := N
  refine KMa.mul (s := ⟨h, g, d, t, os⟩) (L.fr n) L.news (c.at (i := i) L.tail hi) (by omega) (by omega) hz rfl fun D h' F' N' x => ?_
  obtain ⟨fo', L', n'⟩ := back (l' := l) L F' N' x _ (List.mem_of_getElem? hi)
  exact q D h' fo' L' ⟨m, n', hm⟩
theorem c_intb {b : Bool} {Q : Value → Shared → Prop} (q : ∀ tk t', Q (.int (if b then 1 else 0) tk) ⟨h, g, d, t', os⟩) : Wp w A (call (.type "int") [.bool b]) Q E ⟨h, g, d, t, os⟩ := by delta Wp; exact PySem.call_int_bool (s := ⟨h, g, d, t, os⟩) (q _ _)
theorem c_inti {n : Int} {u : Tok} {Q : Value → Shared → Prop} {s : Shared} (q : Q (.int n u) s) : Wp w A (call (.type "int") [.int n u]) Q E s := by delta Wp; exact PySem.call_int_int q
/-- the pairs of a dict display -/
def pairsOf (env : Env) (pos : Pos) : List PySem.Expr → List PySem.Expr → List (Sem Value × Sem Value)
  | k :: ks, v :: vs => (eval k env, do let x ← eval v env; standAt pos; pure x) :: pairsOf env pos ks vs
  | _, _ => []
theorem p_nil {Q : List (Value × Value) → Shared → Prop} {s : Shared} (q : Q [] s) : Wp w A (evalPairs (pairsOf env pos [] [])) Q E s := Wp.of (evalPairs_nil q)
theorem p_cons {k v : PySem.Expr} {ks vs : List PySem.Expr} {Q : List (Value × Value) → Shared → Prop} {s : Shared} (q : Wp w A (eval k env) (fun kv s => Wp w A (eval v env) (fun vv s => Wp w A (evalPairs (pairsOf env pos ks vs)) (fun r s => Q ((kv, vv) :: r) s) E s) E s) E s) :
    Wp w A (evalPairs (pairsOf env pos (k :: ks) (v :: vs))) Q E s := by
  refine Wp.of (evalPairs_cons (wpAny_mono q.out (fun kv s z => ?_) fun _ _ e => e))
  exact wpAny_bind (wpAny_mono z.out (fun vv s z => wpAny_bind (wpAny_standAt (wpAny_pure z.out))) fun _ _ e => e)
theorem e_dictS {ks vs : List PySem.Expr} {Q : Value → Shared → Prop} (L : Led H h (p :: l))
    (q : ∀ D h' d0, Led H h' (p :: (D, d0) :: l) → d0.IsDictOf (sK w) [] → Wp w A (evalPairs (pairsOf env pos ks vs)) (fun us s => ∃ kvs h t p' l', s = ⟨h, g, d, t, os⟩ ∧ Led H h (p' :: (D, d0) :: l') ∧ Carries (sK w) us kvs ∧
      ∀ h' t' d1, Led H h' (p' :: (D, d1) :: l') → d1.IsDictOf (sK w) (merged [] kvs) → Q (.ref D) ⟨h', g, d, t', os⟩) E ⟨h', g, d, t, os⟩)
    (hlen : (pairsOf env pos ks vs).length ≤ 15 := by exact Nat.le_of_ble_eq_true rfl) (h0 : pairsOf env pos ks vs ≠ [] := by exact List.cons_ne_nil _ _)
    (hshape : (evalEachOpt (ks.map some) env).zip ((evalEach vs env).map fun v => do let x ← v; standAt pos; pure x) = (pairsOf env pos ks vs).map fun p => (some p.1, p.2) := by rfl) : Wp w A (eval (.Dict (ks.map some) vs pos) env) Q E ⟨h, g, d, t, os⟩ := by
  refine Wp.of (wpAny_Dict_pairs (knd := sK w) hshape h0 hlen ?_)
  have L1 := L.push1 { cls := .type "dict", data := .dict #[] }
  have c0 : ({ cls := .type "dict", data := .dict #[] } : Obj).IsDictOf (sK w) [] := by
    obtain ⟨o', ho, hc⟩ := Heap.dictOf_iff.mp (Heap.DictOf.new (knd := sK w) h)
    rw [Heap.get?_push_size _ rfl] at ho
    cases ho; exact hc
  refine wpAny_mono (q _ _ _ L1 c0).out (fun us s z => ?_) fun _ _ e => e
  obtain ⟨kvs, h', t', p', l', rfl, L', hc, k⟩ := z
  refine ⟨kvs, hc, L'.dict (i := 1) rfl c0, fun h'' hd hs => ?_⟩
  obtain ⟨d1, hd1, c1⟩ := Heap.dictOf_iff.mp hd
  exact k h'' _ d1 (L'.setAt (i := 1) rfl hs hd1) c1
end
def bookEnt (m : List (Int × Ent)) (n : Int) : Ent := (look m n).getD ⟨"free", 0, 0⟩
def bookStep (m : List (Int × Ent)) (b : List (Int × Int) × List (Int × Int) × List Int) (n : Int) : List (Int × Int) × List (Int × Int) × List Int :=
  if (bookEnt m n).way = ("free" : Str) then (b.1, put b.2.1 n (bookEnt m n).two, b.2.2)
  else (put b.1 n (if (bookEnt m n).way = ("used" : Str) then (bookEnt m n).two else 0), b.2.1, b.2.2 ++ if (bookEnt m n).way = ("packed" : Str) then [(bookEnt m n).one] else [])
def bookTo (m : List (Int × Ent)) : Nat → List (Int × Int) × List (Int × Int) × List Int
  | 0 => ([], [], [])
  | j + 1 => bookStep m (bookTo m j) (j + 1)
theorem bookTo_len (m : List (Int × Ent)) : ∀ j, (bookTo m j).1.length ≤ j ∧ (bookTo m j).2.1.length ≤ j ∧ (bookTo m j).2.2.length ≤ j
  | 0 => ⟨Nat.le_refl _, Nat.le_refl _, Nat.le_refl _⟩
  | j + 1 => by
    obtain ⟨h1, h2, h3⟩ := bookTo_len m j
    unfold bookTo bookStep
    split
    · refine ⟨?_, Nat.le_trans (put_len _ _ _) (by omega), ?_⟩ <;> dsimp only <;> omega
    · refine ⟨Nat.le_trans (put_len _ _ _) (by omega), by dsimp only; omega, ?_⟩
      dsimp only
      rw [List.length_append]
      split <;> simp <;> omega
/-- the six values of a book -/
def bookKV (U S Hd La F : Addr) (sz : Int) (ts : Tok) : List (Str × Value) := [("used", .ref U), ("spare", .ref S), ("holders", .ref Hd), ("laid", .ref La), ("size", .int sz ts), ("first", .ref F)]
theorem law_book {w : World} {A : Around} {R : Result → Shared → Prop} {H h : Heap} {g : Array GenState} {d : Drawn} {t : Nat} {os : OsState} {l : Ledger} {p0 : Addr × Obj} {a : Addr} {o : Obj} {m : List (Int × Ent)} {s : Int} {u : Tok}
    (G : Gd w H) (hA : Room 6 A) (L : Led H h (p0 :: l)) (hi : (a, o) ∈ l) (c : DR w (EntR w l) o m) (hs : -100 ≤ s ∧ s ≤ 50)
    (q : ∀ h' t' B bo U uo S so Hd ho La lo F fo ts vs, Led H h' (p0 :: (B, bo) :: (U, uo) :: (S, so) :: (Hd, ho) :: (La, lo) :: (F, fo) :: l) → bo.IsDictOf (sK w) (bookKV U S Hd La F s ts) → DR w IsI uo (bookTo m (s - 1).toNat).1 → DR w IsI so (bookTo m (s - 1).toNat).2.1 → LstO ho vs → IntsAre vs (bookTo m (s - 1).toNat).2.2 →
      (∀ (α : Type) (R : Value → α → Prop), DR w R lo []) → DR w IsI fo (bookTo m (s - 1).toNat).2.1 → R (.ok (.ret (.ref B))) ⟨h', g, d, t', os⟩) :
    Cd w A (.call (.ref 451) ⟨[.ref a, .int s u], []⟩) R ⟨h, g, d, t, os⟩ := by
  refine call_fn ["entries", "size", "used", "spare", "holders", "number", "entry"] ["range", "Entry", "int", "dict"] [.ref a, .int s u] 2 G L hA.depth rfl (by kernel_rfl!) rfl (BindsTo.of_eq rfl) (by decide +kernel) rfl ?_
  intro h t fo env V _ L N
  refine calm ?_
  have R5 := hA.deeper env
  refine x_swap3 (H := H) (g := g) (d := d) (os := os) 2 3 4 V R5.u ?_ (by decide +kernel)
  refine a_cons (r_dict0 IsI L fun U h uo L cU => ?_)
  refine a_cons (r_dict0 IsI L fun S h so L cS => ?_)
  refine a_cons (e_lst (a_nil (n_lst L (by simp) fun Hl h L => a_nil ⟨.ref U, .ref S, .ref Hl, h, _, fo, _, _, rfl, rfl, L, N, fun h t fo L N => ?_⟩)))
  replace L : Led H h ((env.locals, fo) :: (Hl, lstO []) :: (S, so) :: (U, uo) :: p0 :: l) := L
  refine x_for (e_call (e_blt 0 G V L (b_range _) (cw_b rfl (a_cons (e_int fun _ _ => a_cons (e_loc 1 V L N (a_nil ?_)))))))
  refine it_range2 L (by decide) (by omega) fun I iob h t LI cI src => ?_
  refine for_name 5 (fun j l' vals => ∃ Hl hl so uo ex vs, vals = [some (.ref a), some (.int s u), some (.ref U), some (.ref S), some (.ref Hl)] ∧ l' = (Hl, hl) :: (S, so) :: (U, uo) :: p0 :: (ex ++ l) ∧ DR w IsI uo (bookTo m j).1 ∧ DR w IsI so (bookTo m j).2.1 ∧ LstO hl vs ∧ IntsAre vs (bookTo m j).2.2) V R5.u src cI LI (N.take 5) ⟨Hl, _, so, uo, [], [], rfl, rfl, cU, cS, LstO.mk, .nil⟩ (fun _ _ _ _ p hp => by cases hp) ?_ ?_
  · intro j v l' vals h t fo iob hj hv hJ L c0 N
    obtain ⟨tkn, rfl⟩ := hv
    obtain ⟨Hl, hl, so, uo, ex, vs, rfl, rfl, cU, cS, cHl, hI⟩ := hJ
    rw [show (1 : Int) + (j : Int) = (j : Int) + 1 by omega] at N
    obtain ⟨l1, l2, l3⟩ := bookTo_len m j
    have e1 : bookTo m (j + 1) = bookStep m (bookTo m j) ((j : Int) + 1) := rfl
    generalize bookTo m j = b at *
    obtain ⟨bu, bs, bh⟩ := b
    dsimp only at cU cS hI l1 l2 l3 e1
    -- entry = entries.get(number, Entry('free', 0, 0))
    obtain ⟨ia, hia⟩ := at_of_mem (show (a, o) ∈ (env.locals, fo) :: (I, iob) :: (Hl, hl) :: (S, so) :: (U, uo) :: p0 :: (ex ++ l) by simp [hi])
    refine x_assign (e_mcall (e_loc 0 V L N ?_))
    refine r_meth ia L hia c (.inl ⟨rfl, rfl⟩) (cw_b rfl (a_cons (e_loc 5 V L N (a_cons ?_))))
    refine e_call (e_glob 1 G V L (g_Entry _) (cw_f G (by kernel_rfl!) (a_cons (e_str fun uw t => a_cons (e_int fun uo1 t => a_cons (e_int fun ut t => a_nil ⟨⟨_, L⟩, ?_⟩))))))
    refine c_cls (fI := 35) G L (by kernel_rfl!) fun x dx h L => ?_
    refine entry_init G (Room.make (R5.mono (by decide : 4 ≤ 5)) _ _ _).depth (L.re 3 [1, 2, 0]) fun h t t1 t2 t3 L => ⟨rfl, ?_⟩
    replace L : Led H h ((env.locals, fo) :: (I, iob) :: (Hl, hl) :: (S, so) :: (U, uo) :: p0 :: (x, instObj 45 dx) :: (dx, entryD w (.str "free" uw) (.int 0 uo1) (.int 0 ut) t1 t2 t3) :: (ex ++ l)) := L.re 8 [2, 3, 4, 5, 6, 7, 0, 1]
    obtain ⟨ib, hib⟩ := at_of_mem (show (a, o) ∈ (env.locals, fo) :: (I, iob) :: (Hl, hl) :: (S, so) :: (U, uo) :: p0 :: (x, instObj 45 dx) :: (dx, entryD w (.str "free" uw) (.int 0 uo1) (.int 0 ut) t1 t2 t3) :: (ex ++ l) by simp [hi])
    refine a_nil (r_get2 ib G L hib c fun t v hv => ?_)
    have hE : EntR w ((x, instObj 45 dx) :: (dx, entryD w (.str "free" uw) (.int 0 uo1) (.int 0 ut) t1 t2 t3) :: (ex ++ l)) v (bookEnt m ((j : Int) + 1)) := by
      unfold bookEnt
      cases hk : look m ((j : Int) + 1) with
      | some e => rw [hk] at hv; exact hv.mono fun q hq => .tail _ (.tail _ (List.mem_append_right _ hq))
      | none => rw [hk] at hv; exact ⟨x, dx, t1, t2, t3, uw, uo1, ut, hv, .head _, .tail _ (.head _)⟩
    generalize hex : (x, instObj 45 dx) :: (dx, entryD w (.str "free" uw) (.int 0 uo1) (.int 0 ut) t1 t2 t3) :: (ex ++ l) = exl at *
    refine s_loc 6 V L N fun h t fo L N => ?_
    have hm : ∀ {q0 : Addr × Obj} {pre : Ledger}, ∀ q ∈ exl, q ∈ pre ++ exl := fun q hq => List.mem_append_right _ hq
    have hE6 : EntR w ((env.locals, fo) :: (I, iob) :: (Hl, hl) :: (S, so) :: (U, uo) :: p0 :: exl) v (bookEnt m ((j : Int) + 1)) := hE.mono fun q hq => .tail _ (.tail _ (.tail _ (.tail _ (.tail _ (.tail _ hq)))))
    generalize hbe : bookEnt m ((j : Int) + 1) = be at *
    refine x_if (t_cmp (e_attr (e_loc 6 V L N ?_)))
    refine ent_way G L hE6 fun t uy => e_str fun _ _ => i_eqs' (t_bool (if_two (fun c1 => ?_) fun c1 => ?_))
    · refine x_setitem (e_attr (e_loc 6 V L N ?_))
      refine ent_two G L hE6 fun t u2 => e_loc 3 V L N (e_loc 5 V L N ?_)
      refine r_set 3 L rfl cS (b := be.two) ⟨u2, rfl⟩ (by omega) fun h t so L cS => x_nil (x_end ?_)
      subst hex
      refine ⟨h, t, fo, _, _, iob, rfl, L, c0, N.take 5, Hl, hl, so, uo, _ :: _ :: ex, vs, rfl, rfl, ?_, ?_, cHl, ?_⟩ <;> rw [e1] <;> unfold bookStep <;> rw [hbe, if_pos c1]
      · exact cU
      · exact cS
      · exact hI
    · refine x_setitem (Wp.mono (Q := fun v s => ∃ t u2, v = .int (if be.way = ("used" : Str) then be.two else 0) u2 ∧ s = ⟨h, g, d, t, os⟩) (E := fun _ _ => False) ?_ (fun v s z => ?_) fun _ _ z => z.elim)
      · refine e_ife (t_cmp (e_attr (e_loc 6 V L N ?_)))
        refine ent_way G L hE6 fun t uy => e_str fun _ _ => i_eqs' (t_bool (if_two (fun c2 => ?_) fun c2 => ?_))
        · refine e_attr (e_loc 6 V L N ?_)
          exact ent_two G L hE6 fun t u2 => ⟨t, u2, by rw [if_pos c2], rfl⟩
        · exact e_int fun u2 t => ⟨t, u2, by rw [if_neg c2], rfl⟩
      obtain ⟨t, u2, rfl, rfl⟩ := z
      refine e_loc 2 V L N (e_loc 5 V L N ?_)
      refine r_set 4 L rfl cU (b := if be.way = ("used" : Str) then be.two else 0) ⟨u2, rfl⟩ (by omega) fun h t uo L cU => ?_
      replace L : Led H h ((env.locals, fo) :: (I, iob) :: (Hl, hl) :: (S, so) :: (U, uo) :: p0 :: exl) := L
      have hE6 : EntR w ((env.locals, fo) :: (I, iob) :: (Hl, hl) :: (S, so) :: (U, uo) :: p0 :: exl) v (be) := hE.mono fun q hq => .tail _ (.tail _ (.tail _ (.tail _ (.tail _ (.tail _ hq)))))
      refine x_assign (e_bin (e_loc 4 V L N (e_bin (e_lst (a_cons (e_attr (e_loc 6 V L N ?_)))))))
      refine ent_one G L hE6 fun t u3 => a_nil (n_lst L (by simp) fun D1 h L => ?_)
      have hE7 : EntR w ((env.locals, fo) :: (D1, lstO [.int be.one u3]) :: (I, iob) :: (Hl, hl) :: (S, so) :: (U, uo) :: p0 :: exl) v be := hE.mono fun q hq => .tail _ (.tail _ (.tail _ (.tail _ (.tail _ (.tail _ (.tail _ hq))))))
      refine e_call (e_blt 2 G V L (b_int _) (cw_b rfl (a_cons (e_cmp (e_attr (e_loc 6 V L N ?_))))))
      refine ent_way G L hE7 fun t uy => e_str fun _ _ => i_eqs' (a_nil (c_intb fun tk t => ?_))
      have hb : ∀ b : Bool, -100 ≤ (if b then (1 : Int) else 0) ∧ (if b then (1 : Int) else 0) ≤ 100 := fun b => by cases b <;> decide
      refine l_mul 0 L N rfl LstO.mk (hb _) (by cases decide (be.way = ("packed" : Str)) <;> exact Nat.le_of_ble_eq_true rfl) fun D2 h fo L N => ?_
      have hz : (List.replicate (if decide (be.way = ("packed" : Str)) = true then (1 : Int) else 0).toNat [Value.int be.one u3]).flatten = if be.way = ("packed" : Str) then [Value.int be.one u3] else [] := by
        by_cases c3 : be.way = ("packed" : Str) <;> simp [c3]
      rw [hz] at L
      have hvl : vs.length = bh.length := hI.length
      refine l_add 4 1 L rfl rfl cHl LstO.mk (by split <;> simp <;> omega) fun D3 h L => ?_
      refine s_loc 4 V L N fun h t fo L N => x_nil (x_end ?_)
      subst hex
      refine ⟨h, t, fo, _, _, iob, rfl, L.re 9 [0, 4, 1, 6, 7, 8], c0, N.take 5, D3, _, so, uo, _ :: _ :: ex, _, rfl, rfl, ?_, ?_, LstO.mk, ?_⟩ <;> rw [e1] <;> unfold bookStep <;> rw [hbe, if_neg c1]
      · exact cU
      · exact cS
      · dsimp only
        by_cases c3 : be.way = ("packed" : Str)
        · rw [if_pos c3, if_pos c3]; exact ints_snoc hI
        · rw [if_neg c3, if_neg c3]; simpa using hI
  · intro h t fo l' vals L N hJ
    obtain ⟨Hl, hl, so, uo, ex, vs, rfl, rfl, cU, cS, cHl, hI⟩ := hJ
    obtain ⟨l1, l2, l3⟩ := bookTo_len m (s - 1).toNat
    have h49 : (s - 1).toNat ≤ 49 := by omega
    refine x_ret (e_dictS (ks := [.Constant (.str "used") _ _, .Constant (.str "spare") _ _, .Constant (.str "holders") _ _, .Constant (.str "laid") _ _, .Constant (.str "size") _ _, .Constant (.str "first") _ _]) L fun B h d0 L c0 => ?_)
    refine p_cons (e_str fun k1 t => e_loc 2 V L N (p_cons (e_str fun k2 t => e_loc 3 V L N (p_cons (e_str fun k3 t => e_loc 4 V L N (p_cons (e_str fun k4 t => ?_)))))))
    refine r_dict0 IsI L fun La h lo L cL => p_cons (e_str fun k5 t => e_loc 1 V L N (p_cons (e_str fun k6 t => ?_)))
    refine e_call (e_blt 3 G V L (b_dict _) (cw_b rfl (a_cons (e_loc 3 V L N (a_nil ?_)))))
    refine r_copy 4 G L rfl cS (by omega) fun F h fo2 L cF => p_nil ?_
    refine ⟨bookKV U S Hl La F s u, h, t, _, _, rfl, L.re 4 [0, 3, 1, 2], ⟨PySem.strKind_is _ _ _ _, rfl, PySem.strKind_is _ _ _ _, rfl, PySem.strKind_is _ _ _ _, rfl, PySem.strKind_is _ _ _ _, rfl, PySem.strKind_is _ _ _ _, rfl, PySem.strKind_is _ _ _ _, rfl, trivial⟩, fun h t bo L cB => ?_⟩
    have em : merged [] (bookKV U S Hl La F s u) = bookKV U S Hl La F s u := by rfl
    rw [em] at cB
    replace L : Led H h ((env.locals, fo) :: (B, bo) :: (F, fo2) :: (La, lo) :: (Hl, hl) :: (S, so) :: (U, uo) :: p0 :: (ex ++ l)) := L
    have L3 : Led H h (p0 :: (B, bo) :: (U, uo) :: (S, so) :: (Hl, hl) :: (La, lo) :: (F, fo2) :: (ex ++ l)) := L.re 8 [7, 1, 6, 5, 4, 3, 2]
    have L2 : Led H h (p0 :: (B, bo) :: (U, uo) :: (S, so) :: (Hl, hl) :: (La, lo) :: (F, fo2) :: l) := L3.sub (.cons_cons _ (.cons_cons _ (.cons_cons _ (.cons_cons _ (.cons_cons _ (.cons_cons _ (.cons_cons _ (List.sublist_append_right _ _))))))))
    exact q h t B bo U uo S so Hl hl La lo F fo2 u vs L2 cB cU cS cHl hI (fun α R => cL.nil_any) cF
end Mine
namespace Mine
set_option maxRecDepth 100000
/-- a list of pairs, told by m -/
def PairP {α : Type} (w : World) (R : Value → α → Prop) (ex : Ledger) (ys : List Value) (m : List (Int × α)) : Prop :=
  ∃ (ps : List (Value × Value)) (kvs : List (Int × Value)), ys.length = ps.length ∧ (∀ (i : Nat) (v : Value), ys[i]? = some v → ∃ (T : Addr) (q : Value × Value), v = .ref T ∧ ps[i]? = some q ∧ (T, tupO [q.1, q.2]) ∈ ex) ∧ Carries (iK w) ps kvs ∧ Rel R kvs m
theorem carries_snoc {w : World} {ps : List (Value × Value)} {kvs : List (Int × Value)} {k : Int} {tk : Tok} {v : Value} (c : Carries (iK w) ps kvs) : Carries (iK w) (ps ++ [(.int k tk, v)]) (kvs ++ [(k, v)]) := by
  induction ps generalizing kvs with
  | nil => cases kvs with
    | nil => exact ⟨iK_is _ _, rfl, trivial⟩
    | cons _ _ => exact c.elim
  | cons p ps ih => cases kvs with
    | nil => obtain ⟨a, b⟩ := p; exact c.elim
    | cons q qs => obtain ⟨a, b⟩ := p; obtain ⟨a', b'⟩ := q; exact ⟨c.1, c.2.1, ih c.2.2⟩
section
variable {α : Type} {w : World} {R : Value → α → Prop} {ex : Ledger} {ys : List Value} {m : List (Int × α)}
theorem PairP.nil : PairP w R [] [] [] := ⟨[], [], rfl, fun i v h => by simp at h, trivial, trivial⟩
theorem PairP.snoc (c : PairP w R ex ys m) {T : Addr} {k : Int} {tk : Tok} {v : Value} {a : α} (r : R v a) : PairP w R ((T, tupO [.int k tk, v]) :: ex) (ys ++ [.ref T]) (m ++ [(k, a)]) := by
  obtain ⟨ps, kvs, h1, h2, h3, h4⟩ := c
  refine ⟨ps ++ [(.int k tk, v)], kvs ++ [(k, v)], by simp [h1], fun i u hu => ?_, carries_snoc h3, h4.snoc r⟩
  rw [List.getElem?_append] at hu
  split at hu
  · obtain ⟨T', q, e1, e2, e3⟩ := h2 i u hu
    refine ⟨T', q, e1, ?_, .tail _ e3⟩
    rw [List.getElem?_append_left (List.getElem?_eq_some_iff.mp e2).1]; exact e2
  · rename_i hge
    have e : i = ys.length := by
      have := (List.getElem?_eq_some_iff.mp hu).1
      simp at this; omega
    subst e
    simp at hu; subst hu
    exact ⟨T, (.int k tk, v), rfl, by rw [h1]; simp, .head _⟩
theorem PairP.len (c : PairP w R ex ys m) : ys.length = m.length := by
  obtain ⟨ps, kvs, h1, h2, h3, h4⟩ := c
  rw [h1, ← h3.length, h4.length]
variable {A : Around} {E : Value → Shared → Prop} {H h : Heap} {g : Array GenState} {d : Drawn} {t : Nat} {os : OsState} {l : Ledger} {p : Addr × Obj} {a : Addr} {o : Obj}
/-- dict of such a list -/
theorem c_pairs {Q : Value → Shared → Prop} (i : Nat) (hh : A.handled = none) (L : Led H h (p :: l)) (hi : (p :: l)[i]? = some (a, o)) (c : LstO o ys) (hd : o.dict = none) (P : PairP w R ex ys m) (hex : ∀ q ∈ ex, q ∈ l) (hn : (m.map (·.1)).Nodup) (hz : m.length ≤ 1000)
    (q : ∀ D h' t' d1, Led H h' (p :: (D, d1) :: l) → DR w R d1 m → Q (.ref D) ⟨h', g, d, t', os⟩) : Wp w A (call (.type "dict") [.ref a]) Q E ⟨h, g, d, t, os⟩ := by
  have hl := P.len
  obtain ⟨ps, kvs, h1, h2, h3, h4⟩ := P
  refine c_dictpairs (knd := iK w) i hh L hi c hd h3 h1 (by omega) (fun j v hv => ?_) fun D h' t' d1 L' c' => ?_
  · obtain ⟨T, q, e1, e2, e3⟩ := h2 j v hv
    exact ⟨T, q, e1, e2, .tail _ (hex _ e3)⟩
  · rw [merged_nil_of_nodup kvs (by rw [h4.keys]; exact hn)] at c'
    exact q D h' t' d1 L' ⟨kvs, c', h4⟩
theorem del_take {j : Nat} {k n : Int} {b : α} (h : m[j]? = some (k, b)) : del (m.take (j + 1)) n = del (m.take j) n ++ if k ≠ n then [(k, b)] else [] := by
  unfold del
  rw [List.take_add_one, h, List.filter_append]
  by_cases e : k = n <;> simp [e]
theorem del_nodup (hn : (m.map (·.1)).Nodup) (n : Int) : ((del m n).map (·.1)).Nodup := hn.sublist ((List.filter_sublist).map _)
theorem del_len (n : Int) : (del m n).length ≤ m.length := List.length_filter_le _ _
end
theorem mvK {β : Type} (k : Nat) (ex r : List β) : (ex ++ r).Perm (r.take k ++ (ex ++ r.drop k)) := by
  have h := List.perm_append_comm_assoc ex (r.take k) (r.drop k)
  rw [List.take_append_drop] at h
  exact h
abbrev bkL (B : Addr) (bo : Obj) (U : Addr) (uo : Obj) (S : Addr) (so : Obj) (Hd : Addr) (ho : Obj) (La : Addr) (lo : Obj) (F : Addr) (fo : Obj) (l : Ledger) : Ledger := (B, bo) :: (U, uo) :: (S, so) :: (Hd, ho) :: (La, lo) :: (F, fo) :: l
section
variable {w : World} {A : Around} {E : Value → Shared → Prop} {H h : Heap} {g : Array GenState} {d : Drawn} {t : Nat} {os : OsState} {l : Ledger} {a : Addr} {o : Obj} {kvs : List (Str × Value)} {k : Str} {v : Value} {u : Tok}
theorem s_item {value slice : PySem.Expr} {Q : Value → Shared → Prop} (i : Nat) (L : Led H h l) (hi : l[i]? = some (a, o)) (c : o.IsDictOf (sK w) kvs) (hv : valueAt kvs k = some v) (q : ∀ t', Q v ⟨h, g, d, t', os⟩)
    (hs : subscripted slice false (.ref a) (.str k u) = operate [.ref a, .str k u] (getItem (.ref a) (.str k u)) := by with_unfolding_all rfl) : Wp w A (subscriptTail value slice (.ref a) (.str k u)) Q E ⟨h, g, d, t, os⟩ := d_item i L hi c (PySem.strKind_is _ _ _ _) hv q hs
theorem s_set {Q : Unit → Shared → Prop} (i : Nat) (L : Led H h l) (hi : l[i]? = some (a, o)) (c : o.IsDictOf (sK w) kvs) (hz : kvs.length ≤ 100) (q : ∀ h' t' o', Led H h' (l.set i (a, o')) → o'.IsDictOf (sK w) (stored kvs k v) → Q () ⟨h', g, d, t', os⟩) : Wp w A (setItem (.ref a) (.str k u) v) Q E ⟨h, g, d, t, os⟩ :=
  d_setitem i L hi c (PySem.strKind_is _ _ _ _) (by omega) q
theorem c_max2 {x y : Int} {u v : Tok} {p : Addr × Obj} {Q : Value → Shared → Prop} (hh : A.handled = none) (L : Led H h (p :: l)) (q : ∀ h' t' tk, Led H h' (p :: l) → Q (.int (max x y) tk) ⟨h', g, d, t', os⟩) : Wp w A (call (.builtin "max") [.int x u, .int y v]) Q E ⟨h, g, d, t, os⟩ := by
  delta Wp
  refine max_two_ints (s := ⟨h, g, d, t, os⟩) hh fun h' tk k => ?_
  have L' := L.keep (h' := h') k
  split
  · rename_i c; have := q h' tk v L'; rw [Int.max_eq_right (by omega)] at this; exact this
  · rename_i c; have := q h' tk u L'; rw [Int.max_eq_left (by omega)] at this; exact this
end
end Mine
namespace Mine
set_option maxRecDepth 100000
theorem law_lay {w : World} {A : Around} {R : Result → Shared → Prop} {H h : Heap} {g : Array GenState} {d : Drawn} {t : Nat} {os : OsState} {l lb : Ledger} {p0 : Addr × Obj} {B U S Hd La F av : Addr} {bo uo so ho lo fo2 vo : Obj} {mu ms : List (Int × Int)} {ml : List (Int × Int × Int)} {n gen turn sz : Int} {ts u ug ut : Tok}
    (G : Gd w H) (hA : Room 4 A) (L : Led H h (p0 :: bkL B bo U uo S so Hd ho La lo F fo2 l)) (cB : bo.IsDictOf (sK w) (bookKV U S Hd La F sz ts)) (cU : DR w IsI uo mu) (cS : DR w IsI so ms) (cL : DR w (ObR lb) lo ml) (hv : (av, vo) ∈ lb) (cV : LstO vo [.int turn ut])
    (b1 : mu.length ≤ 100) (b2 : ms.length ≤ 100) (b3 : ml.length ≤ 100) (b5 : -100 ≤ sz ∧ sz ≤ 100) (hn : -1 ≤ n ∧ n < 100)
    (q : ∀ h' t' T bo' uo' S' so' lo' ts' ex, Led H h' (p0 :: (T, tupO [.int n u, .int gen ug]) :: bkL B bo' U uo' S' so' Hd ho La lo' F fo2 (ex ++ l)) → bo'.IsDictOf (sK w) (bookKV U S' Hd La F (max sz (n + 1)) ts') → DR w IsI uo' (put mu n gen) → DR w IsI so' (del (fillS ms sz (n - sz).toNat) n) → DR w (ObR (ex ++ lb)) lo' (put ml n (gen, turn)) → R (.ok (.ret (.ref T))) ⟨h', g, d, t', os⟩) :
    Cd w A (.call (.ref 456) ⟨[.ref B, .int n u, .int gen ug, .ref av], []⟩) R ⟨h, g, d, t, os⟩ := by
  refine call_fn_c ["book", "number", "generation", "value"] ["generation", "value", "between"] ["book", "number"] ["range", "max", "dict"] [some 2, some 3, none] [some 0, some 1] [.ref B, .int n u, .int gen ug, .ref av] G L hA.depth rfl (by kernel_rfl!) rfl (BindsTo.of_eq rfl) rfl (by decide +kernel) rfl ?_
  intro h t fo env cs V _ hck CI L N
  obtain ⟨c1, o1, c2, o2, rfl, ⟨C1, v1⟩, C2, v2⟩ := cells_2 CI
  replace v1 : o1.data = .cell (some (.ref B)) := v1
  replace v2 : o2.data = .cell (some (.int n u)) := v2
  have R3 := hA.deeper env
  refine calm ?_
  replace L : Led H h ((env.locals, fo) :: (c1, o1) :: (c2, o2) :: p0 :: bkL B bo U uo S so Hd ho La lo F fo2 l) := L
  -- for between in range(book['size'], number)
  refine x_for (e_call (e_blt 0 G V L (b_range _) (cw_b rfl (a_cons (e_sub (e_cell 1 V C1 L v1 (e_str fun k1 t => ?_)))))))
  refine s_item 4 L rfl cB rfl fun t => a_cons (e_cell 2 V C2 L v2 (a_nil ?_))
  refine it_range2 L (by omega) (by omega) fun I iob h t LI cI src => ?_
  refine for_name 2 (fun j l' vals => vals = [some (.int gen ug), some (.ref av)] ∧ ∃ so, l' = (c1, o1) :: (c2, o2) :: p0 :: bkL B bo U uo S so Hd ho La lo F fo2 l ∧ DR w IsI so (fillS ms sz j)) V R3.u src cI LI (N.take 2) ⟨rfl, so, rfl, cS⟩ (fun _ _ _ _ p hp => by cases hp) ?_ ?_
  · intro j v l' vals h t fo iob hj hv hJ L c0 N
    obtain ⟨tk, rfl⟩ := hv
    obtain ⟨rfl, so, rfl, cS⟩ := hJ
    have lenj := fillS_len ms sz j
    refine x_setitem (e_int fun tz t => e_sub (e_cell 2 V C1 L v1 (e_str fun k1 t => ?_)))
    refine s_item 5 L rfl cB rfl fun t => e_loc 2 V L N ?_
    refine r_set 7 L rfl cS (b := 0) ⟨tz, rfl⟩ (by omega) fun h t so L cS => x_end ?_
    exact ⟨h, t, fo, _, _, iob, rfl, L, c0, N.take 2, rfl, so, rfl, cS⟩
  · intro h t fo l' vals L N hJ
    obtain ⟨rfl, so, rfl, cS⟩ := hJ
    have lenj := fillS_len ms sz (n - sz).toNat
    -- book['size'] = max(book['size'], number + 1)
    refine x_setitem (e_call (e_blt 1 G V L (b_max _) (cw_b rfl (a_cons (e_sub (e_cell 1 V C1 L v1 (e_str fun k1 t => ?_)))))))
    refine s_item 4 L rfl cB rfl fun t => a_cons (e_bin (e_cell 2 V C2 L v2 (e_int fun _ _ => i_add fun tk t => a_nil ?_)))
    refine c_max2 R3.u L fun h t tm L => e_cell 1 V C1 L v1 (e_str fun k2 t => ?_)
    refine s_set 4 L rfl cB (Nat.le_of_ble_eq_true rfl) fun h t bo L cB => ?_
    rw [show stored (bookKV U S Hd La F sz ts) "size" (.int (max sz (n + 1)) tm) = bookKV U S Hd La F (max sz (n + 1)) tm from rfl] at cB
    -- book['used'][number] = generation
    refine x_setitem (e_loc 0 V L N (e_sub (e_cell 1 V C1 L v1 (e_str fun k3 t => ?_))))
    refine s_item 4 L rfl cB rfl fun t => e_cell 2 V C2 L v2 ?_
    refine r_set 5 L rfl cU (b := gen) ⟨ug, rfl⟩ (by omega) fun h t uo L cU => ?_
    -- book['laid'][number] = (generation, value)
    refine x_setitem (e_tup (a_cons (e_loc 0 V L N (a_cons (e_loc 1 V L N (a_nil (n_tup L (by simp) fun T1 h L => ?_)))))))
    replace L : Led H h ((env.locals, fo) :: (c1, o1) :: (c2, o2) :: p0 :: bkL B bo U uo S so Hd ho La lo F fo2 ((T1, tupO [.int gen ug, .ref av]) :: l)) := L.re 11 [0, 2, 3, 4, 5, 6, 7, 8, 9, 10, 1]
    refine e_sub (e_cell 1 V C1 L v1 (e_str fun k4 t => ?_))
    refine s_item 4 L rfl cB rfl fun t => e_cell 2 V C2 L v2 ?_
    refine r_set (R := ObR ((T1, tupO [.int gen ug, .ref av]) :: lb)) 8 L rfl (cL.mono fun v b z => z.mono fun p hp => .tail _ hp) (b := (gen, turn)) ⟨T1, av, vo, ug, ut, rfl, .head _, .tail _ hv, cV⟩ (by omega) fun h t lo L cL => ?_
    -- book['spare'] = dict([...])
    refine x_setitem (e_call (e_blt 2 G V L (b_dict _) (cw_b rfl (a_cons (e_comp ["one"] [] ["book", "number"] (by decide +kernel) (fun z hz => ?_) (e_sub (e_cell 1 V C1 L v1 (e_str fun k5 t => ?_))))))))
    · rcases List.mem_cons.mp hz with rfl | hz
      · rw [C1.look]; rfl
      · rw [List.mem_singleton.mp hz, C2.look]; rfl
    refine s_item 4 L rfl cB rfl fun t => ?_
    refine r_it 6 G L rfl cS fun I iob h It LI c0 src => ?_
    refine cb_runP ["one"] [] ["book", "number"] 0 (fun j ex ys => PairP w IsI ex ys (del ((fillS ms sz (n - sz).toNat).take j) n)) V (by decide +kernel) R3.u src (by omega) c0 LI PairP.nil (fun p' hp' => by rw [List.mem_singleton.mp hp']; simp) (fun j ex ys P => by rw [P.len]; exact Nat.le_trans (del_len n) (by simp; omega)) ?_ ?_
    · intro j v ex ys C' co' D dob iob h t hj hvv P V' eL eF L N'
      obtain ⟨k, b, tk, hme, rfl⟩ := hvv
      have hk := look_at cS.nodup hme
      have Lc : Led H h ((C', co') :: (D, dob) :: (I, iob) :: (env.locals, fo) :: (c1, o1) :: (c2, o2) :: p0 :: bkL B bo U uo S so Hd ho La lo F fo2 (ex ++ (T1, tupO [.int gen ug, .ref av]) :: l)) := L.perm (.cons _ (.cons _ (.cons _ (.cons _ (mvK 9 ex _)))))
      refine tests_one (t_cmp (e_loc 0 V' Lc N' (e_cell 5 V' (compE_cell rfl C2) Lc v2 (i_nei (t_bool ?_)))))
      have e1 := del_take (n := n) hme
      by_cases hp : k ≠ n
      · rw [decide_eq_true hp, if_pos rfl]
        refine e_tup (a_cons (e_loc 0 V' Lc N' (a_cons (e_sub (e_sub (e_cell 4 V' (compE_cell rfl C1) Lc v1 (e_str fun k6 t => ?_)))))))
        refine s_item 7 Lc rfl cB rfl fun t => e_loc 0 V' Lc N' ?_
        refine r_item 9 Lc rfl cS hk fun t v hv => a_nil ?_
        refine n_tup L (by simp) fun T h L => ?_
        refine ⟨h, t, (T, tupO [.int k tk, v]) :: ex, rfl, L.re 5 [0, 2, 3, 4, 1], ?_⟩
        rw [e1, if_pos hp]; exact P.snoc hv
      · rw [decide_eq_false hp, if_neg Bool.false_ne_true]
        refine ⟨h, _, rfl, L, ?_⟩
        rw [e1, if_neg hp, List.append_nil]; exact P
    · intro h t D dob ex ys L cD cDd P
      rw [List.take_length] at P
      have hdl := del_len (m := fillS ms sz (n - sz).toNat) n
      refine a_nil (c_pairs 1 R3.u L rfl cD cDd P (fun q hq => .tail _ (List.mem_append_left _ hq)) (del_nodup cS.nodup n) (by omega) fun S' h t so' L cS' => ?_)
      have Lc : Led H h ((env.locals, fo) :: (S', so') :: (D, dob) :: (c1, o1) :: (c2, o2) :: p0 :: bkL B bo U uo S so Hd ho La lo F fo2 (ex ++ (T1, tupO [.int gen ug, .ref av]) :: l)) := L.perm (.cons _ (.cons _ (.cons _ (mvK 9 ex _))))
      refine e_cell 3 V C1 Lc v1 (e_str fun k7 t => ?_)
      refine s_set 6 Lc rfl cB (Nat.le_of_ble_eq_true rfl) fun h t bo Lc cB => ?_
      rw [show stored (bookKV U S Hd La F (max sz (n + 1)) tm) "spare" (.ref S') = bookKV U S' Hd La F (max sz (n + 1)) tm from rfl] at cB
      refine x_ret (e_tup (a_cons (e_cell 4 V C2 Lc v2 (a_cons (e_loc 0 V Lc N (a_nil (n_tup Lc (by simp) fun T h L => ?_)))))))
      replace L : Led H h ((env.locals, fo) :: (T, tupO [.int n u, .int gen ug]) :: (S', so') :: (D, dob) :: (c1, o1) :: (c2, o2) :: p0 :: bkL B bo U uo S so Hd ho La lo F fo2 (ex ++ (T1, tupO [.int gen ug, .ref av]) :: l)) := L
      have L2 : Led H h (p0 :: (T, tupO [.int n u, .int gen ug]) :: bkL B bo U uo S' so' Hd ho La lo F fo2 ((T1, tupO [.int gen ug, .ref av]) :: (ex ++ l))) := (L.re 13 [6, 1, 7, 8, 2, 10, 11, 12]).perm (.cons _ (.cons _ (.cons _ (.cons _ (.cons _ (.cons _ (.cons _ (.cons _ mv1))))))))
      exact q h t T bo uo S' so' lo tm ((T1, tupO [.int gen ug, .ref av]) :: ex) L2 cB cU cS' (cL.mono fun v b z => z.mono fun p hp => by
        rcases List.mem_cons.mp hp with rfl | hp
        · exact .head _
        · exact .tail _ (List.mem_append_right _ hp))
end Mine
namespace Mine
set_option maxRecDepth 100000
theorem swappedNo3 {env : Env} {names gl : List Str} {x y z : Str} {px py pz tp vp : Pos} {k k2 : Nat} {vs : List PySem.Expr} (V : EnvOk env names gl) (hx : env.kindOf x = some .cell) (hck : (vs.length == 3 && !(vs.any fun | .Starred .. => true | _ => false)) = true) :
    swappedStores [.Tuple [.Name x px, .Name y py, .Name z pz] k tp] (.Tuple vs k2 vp) env = pure none := by
  have h1 : env.blockKind = .function := by unfold Env.blockKind; rw [V.kind]; rfl
  simp only [Bool.and_eq_true, beq_iff_eq, Bool.not_eq_true'] at hck
  obtain ⟨c1, c2⟩ := hck
  have e : swappedStores [.Tuple [.Name x px, .Name y py, .Name z pz] k tp] (.Tuple vs k2 vp) env = (
      if (!(3 == 2 || 3 == 3) || vs.length != 3 || env.blockKind != .function) = true then pure none else
      if (vs.any fun | .Starred .. => true | _ => false) = true then pure none else
      let names := ([.Name x px, .Name y py, .Name z pz] : List PySem.Expr).filterMap fun
        | .Name id pos => if (env.kindOf id == some .local && pos.line == px.line) = true then some id else none
        | _ => none
      if (names.length != 3 || names.eraseDups.length != names.length) = true then pure none else
      if vs.all (foldedForSure 8) = true then pure none else
      if vs.all (constantsAlone 8) = true then ((unsupported "assign.tuple-of-constant-expressions:order-of-the-stores" : Sem PUnit) >>= fun _ => pure (some names)) else pure (some names)) := by
    rfl
  rw [e, c1, h1, c2]
  have n1 : (([.Name x px, .Name y py, .Name z pz] : List PySem.Expr).filterMap fun
        | .Name id pos => if (env.kindOf id == some .local && pos.line == px.line) = true then some id else none
        | _ => none).length ≤ 2 := by
    rw [List.filterMap_cons]
    have h0 : (if (env.kindOf x == some .local && px.line == px.line) = true then some x else none) = none := by rw [hx]; rfl
    simp only [h0]
    exact Nat.le_trans (List.length_filterMap_le _ _) (Nat.le_refl _)
  dsimp only
  generalize (([.Name x px, .Name y py, .Name z pz] : List PySem.Expr).filterMap fun
        | .Name id pos => if (env.kindOf id == some .local && pos.line == px.line) = true then some id else none
        | _ => none) = nms at n1 ⊢
  have h3 : (nms.length != 3) = true := by simp; omega
  rw [h3]; rfl
theorem i_inlist {w : World} {A : Around} {E : Value → Shared → Prop} {H h : Heap} {g : Array GenState} {d : Drawn} {t : Nat} {os : OsState} {l : Ledger} {a : Addr} {o : Obj} {vs : List Value} {ns : List Int} {k : Int} {u : Tok} {Q : Value → Shared → Prop} (i : Nat) (L : Led H h l) (hi : l[i]? = some (a, o)) (c : LstO o vs) (hI : IntsAre vs ns) (q : Q (.bool (ns.any (· == k))) ⟨h, g, d, t, os⟩) :
    Wp w A (compareOp .In (.int k u) (.ref a)) Q E ⟨h, g, d, t, os⟩ := Wp.of (in_list_ints (s := ⟨h, g, d, t, os⟩) (c.at L hi) hI q)
theorem s_if {w : World} {A : Around} {E : Value → Shared → Prop} {s : Shared} {env : Env} {pos : Pos} {test : PySem.Expr} {body orelse : List Stmt} {Q : Flow → Shared → Prop}
    (q : Wp w A (isTrue test env (eval test env)) (fun b s => if b = true then Wp w A (execs body env) Q E s else Wp w A (execs orelse env) Q E s) E s) : Wp w A (exec (.If test body orelse pos) env) Q E s := by delta Wp at *; exact wpAny_If q
def goodK (mu ms : List (Int × Int)) (k : Int) : Bool := !(look mu k).isSome && decide ((look ms k).getD 0 < 65535)
def goodTo (mu ms : List (Int × Int)) (j : Nat) : List Int := ((List.range j).map fun (i : Nat) => (1 : Int) + i).filter (goodK mu ms)
theorem goodTo_succ (mu ms : List (Int × Int)) (j : Nat) : goodTo mu ms (j + 1) = goodTo mu ms j ++ if goodK mu ms (1 + j) = true then [(1 : Int) + j] else [] := by
  unfold goodTo
  rw [List.range_succ, List.map_append, List.filter_append]
  by_cases h : goodK mu ms (1 + (j : Int)) = true <;> simp [h]
theorem goodTo_len (mu ms : List (Int × Int)) (j : Nat) : (goodTo mu ms j).length ≤ j := by
  unfold goodTo
  exact Nat.le_trans (List.length_filter_le _ _) (by simp)
theorem goodTo_pos {mu ms : List (Int × Int)} {j : Nat} : ∀ k ∈ goodTo mu ms j, 1 ≤ k ∧ k ≤ j := by
  intro k hk
  unfold goodTo at hk
  obtain ⟨i, hi, rfl⟩ := List.mem_map.mp (List.mem_filter.mp hk).1
  have := List.mem_range.mp hi
  omega
def actNum (act : Str) (n : Int) (mu ms : List (Int × Int)) : Int := if act = ("add" : Str) then (goodTo mu ms 29).getD 0 0 else n
def refC (act : Str) (mu : List (Int × Int)) (hs : List Int) (n : Int) : Prop := (act = ("free" : Str) ∧ look mu n = none) ∨ n < 1 ∨ hs.any (· == n) = true
theorem law_act {w : World} {A : Around} {R : Result → Shared → Prop} {H h : Heap} {g : Array GenState} {d : Drawn} {t : Nat} {os : OsState} {l lb : Ledger} {p0 : Addr × Obj} {B U S Hd La F av : Addr} {bo uo so ho lo fo2 vo : Obj} {mu ms : List (Int × Int)} {ml : List (Int × Int × Int)} {n turn sz : Int} {ts u ua ut : Tok} {act : Str} {hv : List Value} {hs : List Int}
    (G : Gd w H) (hA : Room 6 A) (L : Led H h (p0 :: bkL B bo U uo S so Hd ho La lo F fo2 l)) (cB : bo.IsDictOf (sK w) (bookKV U S Hd La F sz ts)) (cU : DR w IsI uo mu) (cS : DR w IsI so ms) (cH : LstO ho hv) (hI : IntsAre hv hs) (cL : DR w (ObR lb) lo ml) (hmv : (av, vo) ∈ lb) (cV : LstO vo [.int turn ut]) (hact : act = ("add" : Str) → goodTo mu ms 29 ≠ [])
    (b1 : mu.length ≤ 100) (b2 : ms.length ≤ 100) (b3 : ml.length ≤ 100) (b5 : -100 ≤ sz ∧ sz ≤ 100) (hn : -1 ≤ n ∧ n < 100)
    (q1 : ∀ h' t' tk, (refC act mu hs (actNum act n mu ms) ∨ (act ≠ ("lay" : Str) ∧ spent mu ms (actNum act n mu ms))) → Led H h' (p0 :: bkL B bo U uo S so Hd ho La lo F fo2 l) → R (.ok (.ret (.str "refused" tk))) ⟨h', g, d, t', os⟩)
    (q2 : ∀ h' t' bo' U' uo' so' La' lo' ex gn, act = ("free" : Str) → ¬ refC act mu hs (actNum act n mu ms) → look mu (actNum act n mu ms) = some gn → Led H h' (p0 :: bkL B bo' U' uo' S so' Hd ho La' lo' F fo2 (ex ++ l)) → bo'.IsDictOf (sK w) (bookKV U' S Hd La' F sz ts) → DR w IsI uo' (del mu (actNum act n mu ms)) → DR w IsI so' (put ms (actNum act n mu ms) (gn + 1)) → DR w (ObR lb) lo' (del ml (actNum act n mu ms)) → R (.ok (.ret .none)) ⟨h', g, d, t', os⟩)
    (q3 : ∀ h' t' T bo' uo' S' so' lo' ts' ex u2 ug gen, act ≠ ("free" : Str) → ¬ refC act mu hs (actNum act n mu ms) → ¬ (act ≠ ("lay" : Str) ∧ spent mu ms (actNum act n mu ms)) → gen = (if act = ("lay" : Str) then 5 else genFor mu ms (actNum act n mu ms)) → Led H h' (p0 :: (T, tupO [.int (actNum act n mu ms) u2, .int gen ug]) :: bkL B bo' U uo' S' so' Hd ho La lo' F fo2 (ex ++ l)) → bo'.IsDictOf (sK w) (bookKV U S' Hd La F (max sz (actNum act n mu ms + 1)) ts') → DR w IsI uo' (put mu (actNum act n mu ms) gen) → DR w IsI so' (del (fillS ms sz (actNum act n mu ms - sz).toNat) (actNum act n mu ms)) → DR w (ObR (ex ++ lb)) lo' (put ml (actNum act n mu ms) (gen, turn)) → R (.ok (.ret (.ref T))) ⟨h', g, d, t', os⟩) :
    Cd w A (.call (.ref 461) ⟨[.ref B, .str act ua, .int n u, .ref av], []⟩) R ⟨h, g, d, t, os⟩ := by
  refine call_fn_c ["book", "act", "number", "value"] ["act", "value", "holders", "generation"] ["book", "number", "used", "spare"] ["dict", "_law_lay", "range"] [some 1, some 3, none, none] [some 0, some 2, none, none] [.ref B, .str act ua, .int n u, .ref av] G L hA.depth rfl (by kernel_rfl!) rfl (BindsTo.of_eq rfl) rfl (by decide +kernel) rfl ?_
  intro h t fo env cs V _ hck CI L N
  obtain ⟨c1, o1, c2, o2, c3, o3, c4, o4, rfl, ⟨C1, v1⟩, ⟨C2, v2⟩, ⟨C3, v3⟩, C4, v4⟩ := cells_4 CI
  replace v1 : o1.data = .cell (some (.ref B)) := v1
  replace v2 : o2.data = .cell (some (.int n u)) := v2
  replace v3 : o3.data = .cell none := v3
  replace v4 : o4.data = .cell none := v4
  have R5 := hA.deeper env
  refine calm ?_
  replace L : Led H h ((env.locals, fo) :: (c1, o1) :: (c2, o2) :: (c3, o3) :: (c4, o4) :: p0 :: bkL B bo U uo S so Hd ho La lo F fo2 l) := L
  -- used, spare, holders = ...
  refine x_unpack (e_tup (a_cons (e_sub (e_cell 1 V C1 L v1 (e_str fun k1 t => ?_))))) (swappedNo3 V (hck "used" (.tail _ (.tail _ (.head _)))) (by decide +kernel))
  refine s_item 6 L rfl cB rfl fun t => a_cons (e_sub (e_cell 1 V C1 L v1 (e_str fun k2 t => ?_)))
  refine s_item 6 L rfl cB rfl fun t => a_cons (e_sub (e_cell 1 V C1 L v1 (e_str fun k3 t => ?_)))
  refine s_item 6 L rfl cB rfl fun t => a_nil (n_tup L (by simp) fun T0 h L => ?_)
  refine u_three 1 R5.u L rfl fun h L => ?_
  refine s_cell 4 V C3 (hck _ (.tail _ (.tail _ (.head _)))) L v3 rfl fun h o3 L v3 => ?_
  refine s_cell 5 V C4 (hck _ (.tail _ (.tail _ (.tail _ (.head _))))) L v4 rfl fun h o4 L v4 => ?_
  refine s_loc 2 V L N fun h t fo L N => ?_
  replace L : Led H h ((env.locals, fo) :: (c1, o1) :: (c2, o2) :: (c3, o3) :: (c4, o4) :: p0 :: bkL B bo U uo S so Hd ho La lo F fo2 l) := L.re 2 [0]
  -- if act == 'add': number = [..][0]
  refine x_cons (Wp.mono (Q := fun f s => f = .next ∧ ∃ h t fo o2 u2, s = ⟨h, g, d, t, os⟩ ∧ Led H h ((env.locals, fo) :: (c1, o1) :: (c2, o2) :: (c3, o3) :: (c4, o4) :: p0 :: bkL B bo U uo S so Hd ho La lo F fo2 l) ∧ o2.data = .cell (some (.int (actNum act n mu ms) u2)) ∧ Loc fo ["act", "value", "holders", "generation"] [some (.str act ua), some (.ref av), some (.ref Hd)]) (E := fun _ _ => False) ?_ (fun f s z => ?_) fun _ _ z => z.elim)
  · refine s_if (t_cmp (e_loc 0 V L N (e_str fun ka t => i_eqs' (t_bool (if_two (fun ha => ?_) fun ha => ?_)))))
    · refine x_assign (e_sub (e_comp ["one"] [] ["used", "spare"] (by decide +kernel) (fun z hz => ?_) (e_call (e_blt 2 G V L (b_range _) (cw_b rfl (a_cons (e_int fun _ _ => a_cons (e_int fun _ _ => a_nil ?_))))))))
      · rcases List.mem_cons.mp hz with rfl | hz
        · rw [C3.look]; rfl
        · rw [List.mem_singleton.mp hz, C4.look]; rfl
      refine it_range2 L (by decide) (by decide) fun I iob h t LI cI src => ?_
      refine cb_run ["one"] [] ["used", "spare"] 0 (fun j ex ys => ex = [] ∧ ys.length ≤ j ∧ IntsAre ys (goodTo mu ms j)) V (by decide +kernel) R5.u src (by decide) cI LI ⟨rfl, Nat.le_refl _, .nil⟩ (fun p' hp' => by cases hp') (fun j ex ys e => e.2.1) ?_ ?_
      · intro j v ex ys C' co' D dob iob h t hj hvv hP V' eL eF L N'
        obtain ⟨rfl, hl, hY⟩ := hP
        obtain ⟨tk, rfl⟩ := hvv
        have es := goodTo_succ mu ms j
        refine tests_one (t_and (t_cmp (e_loc 0 V' L N' (e_cell 6 V' (compE_cell rfl C3) L v3 ?_))))
        refine r_notin 10 G L rfl cU fun t => t_bool ?_
        have no : goodK mu ms (1 + (j : Int)) = false → ∃ h' t', (⟨h, g, d, t, os⟩ : Shared) = ⟨h', g, d, t', os⟩ ∧ Led H h' ((C', co') :: (D, dob) :: (I, iob) :: (env.locals, fo) :: ([] ++ (c1, o1) :: (c2, o2) :: (c3, o3) :: (c4, o4) :: p0 :: bkL B bo U uo S so Hd ho La lo F fo2 l)) ∧ ([] : Ledger) = [] ∧ ys.length ≤ j + 1 ∧ IntsAre ys (goodTo mu ms (j + 1)) := fun e => ⟨h, t, rfl, L, rfl, by omega, by rw [es, if_neg (by rw [e]; decide), List.append_nil]; exact hY⟩
        cases hk : look mu (1 + (j : Int)) with
        | some b =>
          refine if_ff ?_
          rw [if_neg Bool.false_ne_true]
          exact no (by unfold goodK; rw [hk]; rfl)
        | none =>
          refine if_tt (t_and (t_cmp (e_mcall (e_cell 7 V' (compE_cell rfl C4) L v4 ?_))))
          refine r_meth 11 L rfl cS (.inl ⟨rfl, rfl⟩) (cw_b rfl (a_cons (e_loc 0 V' L N' (a_cons (e_int fun tz t => a_nil ?_)))))
          refine r_get2 11 G L rfl cS fun t v hvv => ?_
          obtain ⟨tv, rfl⟩ : ∃ tv, v = .int ((look ms (1 + (j : Int))).getD 0) tv := by
            cases hs : look ms (1 + (j : Int)) with
            | some b => rw [hs] at hvv; obtain ⟨tv, rfl⟩ := hvv; exact ⟨tv, rfl⟩
            | none => rw [hs] at hvv; exact ⟨tz, hvv⟩
          refine e_int fun _ t => i_lt (t_bool ?_)
          by_cases hp : (look ms (1 + (j : Int))).getD 0 < 65535
          · rw [decide_eq_true hp]
            refine if_tt (t_and0 ?_)
            rw [if_pos rfl]
            refine e_loc 0 V' L N' ⟨h, _, [], rfl, L, rfl, by simp; omega, ?_⟩
            rw [es, if_pos (by unfold goodK; rw [hk, decide_eq_true hp]; rfl)]
            exact ints_snoc hY
          · rw [decide_eq_false hp]
            refine if_ff ?_
            rw [if_neg Bool.false_ne_true]
            obtain ⟨_, _, _, z⟩ := no (by unfold goodK; rw [decide_eq_false hp, Bool.and_false])
            exact ⟨h, _, rfl, L, z.2⟩
      · intro h t D dob ex ys L cD hP
        obtain ⟨rfl, hl, hY⟩ := hP
        replace hY : IntsAre ys (goodTo mu ms 29) := hY
        have hne := hact ha
        have hl29 := goodTo_len mu ms 29
        refine e_int fun ki t => ?_
        have hlt : 0 < (goodTo mu ms 29).length := List.length_pos_iff.mpr hne
        refine l_item' 1 L rfl cD hY 0 rfl hlt (by omega) fun u2 => ?_
        refine s_cell 3 V C2 (hck _ (.tail _ (.head _))) L v2 rfl fun h o2 L v2 => x_end ⟨rfl, h, t, fo, o2, u2, rfl, L.re 2 [0], ?_, N.take 3⟩
        unfold actNum; rw [if_pos ha]; exact v2
    · refine x_end ⟨rfl, h, _, fo, o2, u, rfl, L, ?_, N.take 3⟩
      unfold actNum; rw [if_neg ha]; exact v2
  obtain ⟨rfl, h, t, fo, o2, u2, rfl, L, v2, N⟩ := z
  unfold thenX
  dsimp only
  have hnum : -1 ≤ actNum act n mu ms ∧ actNum act n mu ms < 100 := by
    unfold actNum
    split
    · rename_i ha
      have hne := hact ha
      cases hg : goodTo mu ms 29 with
      | nil => exact absurd hg hne
      | cons k r =>
        have := goodTo_pos (mu := mu) (ms := ms) (j := 29) k (by rw [hg]; exact .head _)
        show -1 ≤ k ∧ k < 100
        omega
    · exact hn
  generalize actNum act n mu ms = num at *
  -- the refusal
  refine x_cons (Wp.mono (Q := fun f s => ∃ t, s = ⟨h, g, d, t, os⟩ ∧ ((refC act mu hs num ∧ ∃ tk, f = .ret (.str "refused" tk)) ∨ (¬ refC act mu hs num ∧ f = .next))) (E := fun _ _ => False) ?_ (fun f s z => ?_) fun _ _ z => z.elim)
  · refine s_if (Wp.mono (Q := fun b s => ∃ t, s = ⟨h, g, d, t, os⟩ ∧ (b = true ↔ refC act mu hs num)) (E := fun _ _ => False) ?_ (fun b s z => ?_) fun _ _ z => z)
    · refine t_or (Wp.mono (Q := fun c s => ∃ t, s = ⟨h, g, d, t, os⟩ ∧ (c = true ↔ (act = ("free" : Str) ∧ look mu num = none))) (E := fun _ _ => False) ?_ (fun c s z => ?_) fun _ _ z => z)
      · refine t_and (t_cmp (e_loc 0 V L N (e_str fun kf t => i_eqs' (t_bool (if_two (fun ha => ?_) fun ha => ?_)))))
        · refine t_and (t_cmp (e_cell 2 V C2 L v2 (e_cell 3 V C3 L v3 ?_)))
          refine r_notin 7 G L rfl cU fun t => t_bool ?_
          cases hk : look mu num with
          | none => exact if_tt (t_and0 ⟨t, rfl, by simp [ha]⟩)
          | some b => exact if_ff ⟨t, rfl, by simp⟩
        · exact ⟨_, rfl, by simp [ha]⟩
      · obtain ⟨t, rfl, hc⟩ := z
        cases c with
        | true => exact if_tt ⟨t, rfl, by unfold refC; simp [hc.mp rfl]⟩
        | false =>
          have hno : ¬ (act = ("free" : Str) ∧ look mu num = none) := fun z => Bool.false_ne_true (hc.mpr z)
          refine if_ff (t_or (t_cmp (e_cell 2 V C2 L v2 (e_int fun _ t => i_lt (t_bool (if_two (fun h1 => ?_) fun h1 => ?_))))))
          · exact ⟨t, rfl, by unfold refC; simp [h1]⟩
          · refine t_or (t_cmp (e_cell 2 V C2 L v2 (e_loc 2 V L N ?_)))
            refine i_inlist 9 L rfl cH hI (t_bool ?_)
            cases hb : hs.any (· == num) with
            | true => exact if_tt ⟨t, rfl, by unfold refC; simp [hb]⟩
            | false => exact if_ff (t_or0 ⟨t, rfl, iff_of_false Bool.false_ne_true (fun z => z.elim hno fun z => z.elim h1 fun z => by rw [hb] at z; cases z)⟩)
    · obtain ⟨t, rfl, hb⟩ := z
      cases b with
      | true => exact if_tt (x_ret (e_str fun tk t => ⟨t, rfl, .inl ⟨hb.mp rfl, tk, rfl⟩⟩))
      | false => exact if_ff (x_end ⟨t, rfl, .inr ⟨fun z => Bool.false_ne_true (hb.mpr z), rfl⟩⟩)
  obtain ⟨t, rfl, ⟨hr, tk, rfl⟩ | ⟨hr, rfl⟩⟩ := z
  · exact q1 h t tk (.inl hr) (L.re 5 [])
  unfold thenX
  dsimp only
  refine x_if (t_cmp (e_loc 0 V L N (e_str fun kf t => i_eqs' (t_bool (if_two (fun hf => ?_) fun hf => ?_)))))
  · -- act == 'free'
    obtain ⟨gn, hgn⟩ : ∃ gn, look mu num = some gn := by
      cases hk : look mu num with
      | some gn => exact ⟨gn, rfl⟩
      | none => exact absurd (.inl ⟨hf, hk⟩) hr
    refine x_setitem (e_bin (e_sub (e_cell 3 V C3 L v3 (e_cell 2 V C2 L v2 ?_))))
    refine r_item 7 L rfl cU hgn fun t v hv => ?_
    obtain ⟨tg, rfl⟩ := hv
    refine e_int fun _ _ => i_add fun tk t => e_cell 4 V C4 L v4 (e_cell 2 V C2 L v2 ?_)
    refine r_set 8 L rfl cS (b := gn + 1) ⟨tk, rfl⟩ (by omega) fun h t so L cS => ?_
    -- book['used'] = dict([..])
    refine x_setitem (e_call (e_blt 0 G V L (b_dict _) (cw_b rfl (a_cons (e_comp ["one"] [] ["used", "number"] (by decide +kernel) (fun z hz => ?_) (e_cell 3 V C3 L v3 ?_))))))
    · rcases List.mem_cons.mp hz with rfl | hz
      · rw [C3.look]; rfl
      · rw [List.mem_singleton.mp hz, C2.look]; rfl
    refine r_it 7 G L rfl cU fun I iob h It LI c0 src => ?_
    refine cb_runP ["one"] [] ["used", "number"] 0 (fun j ex ys => PairP w IsI ex ys (del (mu.take j) num)) V (by decide +kernel) R5.u src (by omega) c0 LI PairP.nil (fun p' hp' => by rw [List.mem_singleton.mp hp']; simp) (fun j ex ys P => by rw [P.len]; exact Nat.le_trans (del_len num) (by simp; omega)) ?_ ?_
    · intro j v ex ys C' co' D dob iob h t hj hvv P V' eL eF L N'
      obtain ⟨k, b, tk, hme, rfl⟩ := hvv
      have hk := look_at cU.nodup hme
      have Lc : Led H h ((C', co') :: (D, dob) :: (I, iob) :: (env.locals, fo) :: (c1, o1) :: (c2, o2) :: (c3, o3) :: (c4, o4) :: p0 :: bkL B bo U uo S so Hd ho La lo F fo2 (ex ++ l)) := L.perm (.cons _ (.cons _ (.cons _ (.cons _ (mvK 11 ex _)))))
      refine tests_one (t_cmp (e_loc 0 V' Lc N' (e_cell 5 V' (compE_cell rfl C2) Lc v2 (i_nei (t_bool ?_)))))
      have e1 := del_take (n := num) hme
      by_cases hp : k ≠ num
      · rw [decide_eq_true hp, if_pos rfl]
        refine e_tup (a_cons (e_loc 0 V' Lc N' (a_cons (e_sub (e_cell 6 V' (compE_cell rfl C3) Lc v3 (e_loc 0 V' Lc N' ?_))))))
        refine r_item 10 Lc rfl cU hk fun t v hv => a_nil ?_
        refine n_tup L (by simp) fun T h L => ?_
        refine ⟨h, t, (T, tupO [.int k tk, v]) :: ex, rfl, L.re 5 [0, 2, 3, 4, 1], ?_⟩
        rw [e1, if_pos hp]; exact P.snoc hv
      · rw [decide_eq_false hp, if_neg Bool.false_ne_true]
        refine ⟨h, _, rfl, L, ?_⟩
        rw [e1, if_neg hp, List.append_nil]; exact P
    intro h t D dob ex1 ys L cD cDd P
    rw [List.take_length] at P
    have hdl := del_len (m := mu) num
    refine a_nil (c_pairs 1 R5.u L rfl cD cDd P (fun q hq => .tail _ (List.mem_append_left _ hq)) (del_nodup cU.nodup num) (by omega) fun U' h t uo' L cU' => ?_)
    have Lc : Led H h ((env.locals, fo) :: (U', uo') :: (D, dob) :: (c1, o1) :: (c2, o2) :: (c3, o3) :: (c4, o4) :: p0 :: bkL B bo U uo S so Hd ho La lo F fo2 (ex1 ++ l)) := L.perm (.cons _ (.cons _ (.cons _ (mvK 11 ex1 _))))
    refine e_cell 3 V C1 Lc v1 (e_str fun k7 t => ?_)
    refine s_set 8 Lc rfl cB (Nat.le_of_ble_eq_true rfl) fun h t bo Lc cB => ?_
    rw [show stored (bookKV U S Hd La F sz ts) "used" (.ref U') = bookKV U' S Hd La F sz ts from rfl] at cB
    have L1 : Led H h ((env.locals, fo) :: (c1, o1) :: (c2, o2) :: (c3, o3) :: (c4, o4) :: p0 :: bkL B bo U' uo' S so Hd ho La lo F fo2 (ex1 ++ l)) := Lc.re 14 [0, 3, 4, 5, 6, 7, 8, 1, 10, 11, 12, 13]
    clear L Lc
    -- book['laid'] = dict([..])
    refine x_setitem (e_call (e_blt 0 G V L1 (b_dict _) (cw_b rfl (a_cons (e_comp ["one"] [] ["book", "number"] (by decide +kernel) (fun z hz => ?_) (e_sub (e_cell 1 V C1 L1 v1 (e_str fun k5 t => ?_))))))))
    · rcases List.mem_cons.mp hz with rfl | hz
      · rw [C1.look]; rfl
      · rw [List.mem_singleton.mp hz, C2.look]; rfl
    refine s_item 6 L1 rfl cB rfl fun t => ?_
    refine r_it 10 G L1 rfl cL fun I iob h It LI c0 src => ?_
    refine cb_runP ["one"] [] ["book", "number"] 0 (fun j ex ys => PairP w (ObR lb) ex ys (del (ml.take j) num)) V (by decide +kernel) R5.u src (by omega) c0 LI PairP.nil (fun p' hp' => by rw [List.mem_singleton.mp hp']; simp) (fun j ex ys P => by rw [P.len]; exact Nat.le_trans (del_len num) (by simp; omega)) ?_ ?_
    · intro j v ex ys C' co' D dob iob h t hj hvv P V' eL eF L N'
      obtain ⟨k, b, tk, hme, rfl⟩ := hvv
      have hk := look_at cL.nodup hme
      have Lc : Led H h ((C', co') :: (D, dob) :: (I, iob) :: (env.locals, fo) :: (c1, o1) :: (c2, o2) :: (c3, o3) :: (c4, o4) :: p0 :: bkL B bo U' uo' S so Hd ho La lo F fo2 (ex ++ (ex1 ++ l))) := L.perm (.cons _ (.cons _ (.cons _ (.cons _ (mvK 11 ex _)))))
      refine tests_one (t_cmp (e_loc 0 V' Lc N' (e_cell 5 V' (compE_cell rfl C2) Lc v2 (i_nei (t_bool ?_)))))
      have e1 := del_take (n := num) hme
      by_cases hp : k ≠ num
      · rw [decide_eq_true hp, if_pos rfl]
        refine e_tup (a_cons (e_loc 0 V' Lc N' (a_cons (e_sub (e_sub (e_cell 4 V' (compE_cell rfl C1) Lc v1 (e_str fun k6 t => ?_)))))))
        refine s_item 9 Lc rfl cB rfl fun t => e_loc 0 V' Lc N' ?_
        refine r_item 13 Lc rfl cL hk fun t v hv => a_nil ?_
        refine n_tup L (by simp) fun T h L => ?_
        refine ⟨h, t, (T, tupO [.int k tk, v]) :: ex, rfl, L.re 5 [0, 2, 3, 4, 1], ?_⟩
        rw [e1, if_pos hp]; exact P.snoc hv
      · rw [decide_eq_false hp, if_neg Bool.false_ne_true]
        refine ⟨h, _, rfl, L, ?_⟩
        rw [e1, if_neg hp, List.append_nil]; exact P
    intro h t D2 dob2 ex2 ys2 L cD2 cDd2 P2
    rw [List.take_length] at P2
    have hdl2 := del_len (m := ml) num
    refine a_nil (c_pairs 1 R5.u L rfl cD2 cDd2 P2 (fun q hq => .tail _ (List.mem_append_left _ hq)) (del_nodup cL.nodup num) (by omega) fun La' h t lo' L cL' => ?_)
    have Lc : Led H h ((env.locals, fo) :: (La', lo') :: (D2, dob2) :: (c1, o1) :: (c2, o2) :: (c3, o3) :: (c4, o4) :: p0 :: bkL B bo U' uo' S so Hd ho La lo F fo2 (ex2 ++ (ex1 ++ l))) := L.perm (.cons _ (.cons _ (.cons _ (mvK 11 ex2 _))))
    refine e_cell 3 V C1 Lc v1 (e_str fun k8 t => ?_)
    refine s_set 8 Lc rfl cB (Nat.le_of_ble_eq_true rfl) fun h t bo Lc cB => ?_
    rw [show stored (bookKV U' S Hd La F sz ts) "laid" (.ref La') = bookKV U' S Hd La' F sz ts from rfl] at cB
    refine x_ret (e_none ?_)
    have L2 : Led H h (p0 :: bkL B bo U' uo' S so Hd ho La' lo' F fo2 ((ex2 ++ ex1) ++ l)) := by
      rw [List.append_assoc]; exact Lc.re 14 [7, 8, 9, 10, 11, 1, 13]
    exact q2 h t bo U' uo' so La' lo' (ex2 ++ ex1) gn hf hr hgn L2 cB cU' cS cL'
  · refine x_nil (x_assign (Wp.mono (Q := fun v s => ∃ t ug, v = .int (if act = ("lay" : Str) then 5 else genFor mu ms num) ug ∧ s = ⟨h, g, d, t, os⟩) (E := fun _ _ => False) ?_ (fun v s z => ?_) fun _ _ z => z.elim))
    · refine e_ife (t_cmp (e_loc 0 V L N (e_str fun kf t => i_eqs' (t_bool (if_two (fun hl => ?_) fun hl => ?_)))))
      · exact e_int fun tk t => ⟨t, tk, by rw [if_pos hl], rfl⟩
      · rw [if_neg hl]
        refine e_mcall (e_cell 3 V C3 L v3 ?_)
        refine r_meth 7 L rfl cU (.inl ⟨rfl, rfl⟩) (cw_b rfl (a_cons (e_cell 2 V C2 L v2 (a_cons (e_mcall (e_cell 4 V C4 L v4 ?_))))))
        refine r_meth 8 L rfl cS (.inl ⟨rfl, rfl⟩) (cw_b rfl (a_cons (e_cell 2 V C2 L v2 (a_cons (e_int fun tz t => a_nil ?_)))))
        refine r_get2 8 G L rfl cS fun t v hv => a_nil ?_
        obtain ⟨tv, rfl⟩ : ∃ tv, v = .int ((look ms num).getD 0) tv := by
          cases hs : look ms num with
          | some b => rw [hs] at hv; obtain ⟨tv, rfl⟩ := hv; exact ⟨tv, rfl⟩
          | none => rw [hs] at hv; exact ⟨tz, hv⟩
        refine r_get2 7 G L rfl cU fun t v hv => ?_
        unfold genFor
        cases hs : look mu num with
        | some b => rw [hs] at hv; obtain ⟨tv, rfl⟩ := hv; exact ⟨t, tv, rfl, rfl⟩
        | none => rw [hs] at hv; exact ⟨t, tv, hv, rfl⟩
    obtain ⟨t, ug, rfl, rfl⟩ := z
    refine s_loc 3 V L N fun h t fo L N => ?_
    -- the second refusal
    refine x_cons (Wp.mono (Q := fun f s => ∃ t, s = ⟨h, g, d, t, os⟩ ∧ (((act ≠ ("lay" : Str) ∧ spent mu ms num) ∧ ∃ tk, f = .ret (.str "refused" tk)) ∨ (¬ (act ≠ ("lay" : Str) ∧ spent mu ms num) ∧ f = .next))) (E := fun _ _ => False) ?_ (fun f s z => ?_) fun _ _ z => z.elim)
    · refine s_if (t_and (t_cmp (e_loc 0 V L N (e_str fun kf t => i_nes (t_bool (if_two (fun hl => ?_) fun hl => ?_))))))
      · refine t_and (t_cmp (e_cell 2 V C2 L v2 (e_cell 3 V C3 L v3 ?_)))
        refine r_notin 7 G L rfl cU fun t => t_bool ?_
        cases hk : look mu num with
        | some b => exact if_ff (if_ff (x_end ⟨t, rfl, .inr ⟨fun z => (by have := z.2.1; rw [hk] at this; cases this), rfl⟩⟩))
        | none =>
          refine if_tt (t_and (t_cmp (e_loc 3 V L N (e_int fun _ t => i_ge (t_bool (if_two (fun h6 => ?_) fun h6 => ?_))))))
          · rw [if_neg hl] at h6
            unfold genFor at h6
            rw [hk] at h6
            exact t_and0 (if_tt (x_ret (e_str fun tk t => ⟨t, rfl, .inl ⟨⟨hl, hk, h6⟩, tk, rfl⟩⟩)))
          · rw [if_neg hl] at h6
            unfold genFor at h6
            rw [hk] at h6
            exact if_ff (x_end ⟨t, rfl, .inr ⟨fun z => h6 z.2.2, rfl⟩⟩)
      · exact if_ff (x_end ⟨_, rfl, .inr ⟨fun z => hl z.1, rfl⟩⟩)
    obtain ⟨t, rfl, ⟨hs, tk, rfl⟩ | ⟨hs, rfl⟩⟩ := z
    · exact q1 h t tk (.inr hs) (L.re 5 [])
    unfold thenX
    dsimp only
    -- return _law_lay(book, number, generation, value)
    refine x_ret (e_call (e_glob 1 G V L (g_law_lay _) (cw_f G (by kernel_rfl!) (a_cons (e_cell 1 V C1 L v1 (a_cons (e_cell 2 V C2 L v2 (a_cons (e_loc 3 V L N (a_cons (e_loc 1 V L N (a_nil ⟨⟨_, L⟩, e_code ?_⟩))))))))))))
    refine law_lay (p0 := p0) (l := l) G (R5.mono (by decide)) (L.re 5 []) cB cU cS cL hmv cV b1 b2 b3 b5 hnum fun h t T bo' uo' S' so' lo' ts' ex L cB cU cS cL => ?_
    exact q3 h t T bo' uo' S' so' lo' ts' ex u2 ug _ hf hr hs rfl L cB cU cS cL
end Mine
namespace Mine
set_option maxRecDepth 100000
theorem x_try {w : World} {A : Around} {E : Value → Shared → Prop} {s : Shared} {env : Env} {pos : Pos} {body rest : List Stmt} {h₀ : ExceptHandler} {hs : List ExceptHandler} {Q : Flow → Shared → Prop}
    (q : Wp w A (execs body env) (thenX w A rest env Q E) (fun e s => wpAny (model pw w) A (noteFrame e env) (fun _ s₂ => wpAny (model pw w) A (setFlight e none) (fun _ s₃ => wpAny (model pw w) A (handleBy e env (h₀ :: hs)) (thenX w A rest env Q E) E s₃) E s₂) E s) s) :
    Wp w A (execs (.Try body (h₀ :: hs) [] [] pos :: rest) env) Q E s := by
  refine x_cons (Wp.of (wpAny_Try_except (wpAny_mono q.out (fun f s z => ?_) fun _ _ z => z)))
  cases f with
  | next => exact wpAny_execs_nil z
  | cont => exact z
  | brk => exact z
  | ret v => exact z
theorem s_try {w : World} {A : Around} {E : Value → Shared → Prop} {s : Shared} {env : Env} {pos : Pos} {body : List Stmt} {h₀ : ExceptHandler} {hs : List ExceptHandler} {Q : Flow → Shared → Prop}
    (q : Wp w A (execs body env) Q (fun e s => wpAny (model pw w) A (noteFrame e env) (fun _ s₂ => wpAny (model pw w) A (setFlight e none) (fun _ s₃ => wpAny (model pw w) A (handleBy e env (h₀ :: hs)) Q E s₃) E s₂) E s) s) :
    Wp w A (exec (.Try body (h₀ :: hs) [] [] pos) env) Q E s := by
  refine Wp.of (wpAny_Try_except (wpAny_mono q.out (fun f s z => ?_) fun _ _ z => z))
  cases f with
  | next => exact wpAny_execs_nil z
  | cont => exact z
  | brk => exact z
  | ret v => exact z
section
variable {w : World} {A : Around} {R : Result → Shared → Prop} {H h : Heap} {g : Array GenState} {d : Drawn} {t : Nat} {os : OsState} {l lb fl : Ledger} {outer : List Env} {c : Cha} {uo so wo ho oo ro : Obj} {mu ms : List (Int × Int)} {mh mf : List (Int × Unit)} {mo : List (Int × Int × Int)} {n turn : Int} {u ua ut : Tok} {av : Addr} {vo : Obj} {act : Str}
theorem law_done (N₀ : Nat) (G : Gd w H) (hA : Room 18 A) (hF : A.frames = some outer) (F : FrsOk outer fl) (L : Led H h (chL w c uo so wo ho oo ro (l ++ fl))) (cU : DR w IsI uo mu) (cS : DR w IsI so ms) (cH : DR w IsT ho mh) (cO : DR w (ObR lb) oo mo) (cF : DR w IsT ro mf) (hv : (av, vo) ∈ l) (cV : LstO vo [.int turn ut]) (hn : -1 ≤ n ∧ n < 100) (hN : N₀ < 90)
    (hadd : act = ("add" : Str) → (∀ j : Nat, j < N₀ → (look mu (j + 1)).isSome = true ∨ 65535 ≤ (look ms (j + 1)).getD 0) ∧ ¬ ((look mu (N₀ + 1)).isSome = true ∨ 65535 ≤ (look ms (N₀ + 1)).getD 0))
    (hact : act = ("put" : Str) ∨ act = ("free" : Str) ∨ act = ("add" : Str) ∨ act = ("lay" : Str))
    (b1 : mu.length ≤ 100) (b2 : ms.length ≤ 100) (b3 : mo.length ≤ 100) (b4 : mf.length ≤ 100) (b5 : -100 ≤ c.fs ∧ c.fs ≤ 100) (b6 : ∀ k ∈ mu.map (·.1), -100 ≤ k ∧ k ≤ 100) (b7 : ∀ k ∈ ms.map (·.1), -100 ≤ k ∧ k ≤ 100)
    (num : Int) (hnum : num = if act = ("add" : Str) then (N₀ : Int) + 1 else n)
    (q1 : ∀ h' t' tk fl', ((act = ("free" : Str) ∧ look mu num = none) ∨ num < 1 ∨ (look mh num).isSome = true ∨ (act ≠ ("free" : Str) ∧ act ≠ ("lay" : Str) ∧ spent mu ms num)) → SameData fl fl' → Led H h' (chL w c uo so wo ho oo ro (l ++ fl')) → R (.ok (.ret (.str "refused" tk))) ⟨h', g, d, t', os⟩)
    (q2 : ∀ h' t' uo' so' oo' ro' gn, act = ("free" : Str) → ¬ num < 1 → look mh num = none → look mu num = some gn → Led H h' (chL w c uo' so' wo ho oo' ro' (l ++ fl)) → DR w IsI uo' (del mu num) → DR w IsI so' (put ms num (gn + 1)) → DR w (ObR lb) oo' (del mo num) → DR w IsT ro' (put mf num ()) → R (.ok (.ret .none)) ⟨h', g, d, t', os⟩)
    (q3 : ∀ h' t' uo' so' oo' ro' ex T u1 u2 gen, act ≠ ("free" : Str) → ¬ num < 1 → look mh num = none → ¬ (act ≠ ("lay" : Str) ∧ spent mu ms num) → gen = (if act = ("lay" : Str) then 5 else genFor mu ms num) → Led H h' (chL w c uo' so' wo ho oo' ro' (((T, tupO [.int num u1, .int gen u2]) :: (ex ++ l)) ++ fl)) → DR w IsI uo' (put mu num gen) → DR w IsI so' (del (fillS ms (sizeOf c.fs mu ms) (num - sizeOf c.fs mu ms).toNat) num) → DR w (ObR (ex ++ lb)) oo' (put mo num (gen, turn)) → DR w IsT ro' (del mf num) → R (.ok (.ret (.ref T))) ⟨h', g, d, t', os⟩) :
    Cd w A (.call (.ref 468) ⟨[.ref c.x, .str act ua, .int n u, .ref av], []⟩) R ⟨h, g, d, t, os⟩ := by
  refine call_fn ["changes", "act", "number", "value", "found"] ["DraftFault"] [.ref c.x, .str act ua, .int n u, .ref av] 4 G L hA.depth rfl (by kernel_rfl!) rfl (BindsTo.of_eq rfl) (by decide +kernel) rfl ?_
  intro h t fo env V eF L N
  refine calm ?_
  have R17 := hA.deeper env
  have hFn := frames_next (env := env) hF
  have hc : ∀ {e : Addr} {h : Heap} {t : Nat} {fl₁ : Ledger} {Q : Flow → Shared → Prop} {px pos : Pos} {rest : List ExceptHandler} {sp : Pos} {kk : Nat} {cp : Pos}, SameData ((env.locals, fo) :: fl) fl₁ → Led H h (chL w c uo so wo ho oo ro (l ++ fl₁)) → Fly H (chL w c uo so wo ho oo ro l) (env :: outer) e h →
      (∀ tk h' t' fl', SameData fl fl' → Led H h' (chL w c uo so wo ho oo ro (l ++ fl')) → Q (.ret (.str "refused" tk)) ⟨h', g, d, t', os⟩) →
      wpAny (model pw w) (A.deeper env) (noteFrame (.ref e) env) (fun _ s₂ => wpAny (model pw w) (A.deeper env) (setFlight (.ref e) none) (fun _ s₃ => wpAny (model pw w) (A.deeper env) (handleBy (.ref e) env (.ExceptHandler (some (.Name "DraftFault" px)) none [.Return (some (.Constant (.str "refused") kk cp)) sp] pos :: rest)) Q (fun _ _ => False) s₃) (fun _ _ => False) s₂) (fun _ _ => False) ⟨h, g, d, t, os⟩ := by
    intro e h t fl₁ Q px pos rest sp kk cp S L Y k
    cases fl₁ with
    | nil => exact S.elim
    | cons p fl' =>
      obtain ⟨a, fo'⟩ := p
      obtain ⟨⟨s1, s2⟩, s3⟩ := S
      dsimp only at s1 s2
      subst s1
      refine catch_own (l := chL w c uo so wo ho oo ro l) (fl := fl') 0 G hFn (F.same s3) eF V (N.same s2) L Y fun h' fo'' fl'' S' N' L' => ?_
      refine x_ret (e_str fun tk t => k tk h' t fl'' (s3.trans S') ?_)
      exact (L'.ofMid (l := chL w c uo so wo ho oo ro l)).tail
  refine x_cons (Wp.mono (Q := fun f s => (∃ v, f = .ret v ∧ R (.ok (.ret v)) s) ∨ (f = .next ∧ ∃ h t fo uo' so' oo' ro' ex v gen, s = ⟨h, g, d, t, os⟩ ∧ act ≠ ("free" : Str) ∧ ¬ num < 1 ∧ look mh num = none ∧ ¬ (act ≠ ("lay" : Str) ∧ spent mu ms num) ∧ gen = (if act = ("lay" : Str) then 5 else genFor mu ms num) ∧ Led H h ((env.locals, fo) :: chL w c uo' so' wo ho oo' ro' ((ex ++ l) ++ fl)) ∧ Loc fo ["changes", "act", "number", "value", "found"] [some (.ref c.x), some (.str act ua), some (.int n u), some (.ref av), some v] ∧
      DR w IsI uo' (put mu num gen) ∧ DR w IsI so' (del (fillS ms (sizeOf c.fs mu ms) (num - sizeOf c.fs mu ms).toNat) num) ∧ DR w (ObR (ex ++ lb)) oo' (put mo num (gen, turn)) ∧ DR w IsT ro' (del mf num) ∧ RefR w (ex ++ l) v num gen)) (E := fun _ _ => False) (s_try ?_) (fun f s z => ?_) fun _ _ z => z.elim)
  rotate_left
  · rcases z with ⟨v, rfl, z⟩ | ⟨rfl, h, t, fo, uo', so', oo', ro', ex, v, gen, rfl, k1, k2, k3, k4, k5, L, N, cU, cS, cO, cF, hR⟩
    · exact z
    · obtain ⟨x, dx, u1, u2, t1, t2, rfl, hx, hd⟩ := hR
      obtain ⟨i, hi⟩ := at_of_mem (show (x, instObj 287 dx) ∈ (env.locals, fo) :: chL w c uo' so' wo ho oo' ro' ((ex ++ l) ++ fl) from .tail _ (.tail _ (.tail _ (.tail _ (.tail _ (.tail _ (.tail _ (.tail _ (.tail _ (List.mem_append_left _ hx))))))))))
      obtain ⟨j, hj⟩ := at_of_mem (show (dx, refD w (.int num u1) (.int gen u2) t1 t2) ∈ (env.locals, fo) :: chL w c uo' so' wo ho oo' ro' ((ex ++ l) ++ fl) from .tail _ (.tail _ (.tail _ (.tail _ (.tail _ (.tail _ (.tail _ (.tail _ (.tail _ (List.mem_append_left _ hd))))))))))
      unfold thenX
      dsimp only
      refine x_ret (e_mcall (e_loc 4 V L N ?_))
      refine o_meth (f := 284) i j G L hi hj (by kernel_rfl!) rfl (cw_f0 G L (by kernel_rfl!) (e_code ?_))
      refine ref_pair (i := i) (j := j) G R17.depth L hi hj rfl rfl fun h t T L => ?_
      exact q3 h t uo' so' oo' ro' ex T u1 u2 gen k1 k2 k3 k4 k5 (L.re 10 [2, 3, 4, 5, 6, 7, 8, 9, 1]) cU cS cO cF
  refine x_if (t_cmp (e_loc 1 V L N (e_str fun kf t => i_eqs' (t_bool (if_two (fun hf => ?_) fun hf => ?_)))))
  · have en : num = n := by rw [hnum, if_neg (by rw [hf]; decide +kernel)]
    subst en
    refine x_ret (e_mcall (e_loc 0 V L N ?_))
    refine o_meth (f := 409) 1 2 G L rfl rfl (by kernel_rfl!) rfl ?_
    refine cw_f G (by kernel_rfl!) (a_cons (e_loc 2 V L N (a_nil ⟨⟨_, L⟩, e_code ?_⟩)))
    refine ch_free (l := l) (fl := (env.locals, fo) :: fl) G (R17.mono (by decide)) hFn (frs_next F eF V N) (L.toMid (l := chL w c uo so wo ho oo ro l)) cU cS cH cO cF hn b1 b2 b3 b4 (fun h t uo' so' oo' ro' gn k1 k2 k3 L cU cS cO cF => ?_) (fun e h t fl₁ k S L Y => ?_)
    · exact .inl ⟨_, rfl, q2 h t uo' so' oo' ro' gn hf k1 k2 k3 (L.ofMid (l := chL w c uo' so' wo ho oo' ro' l)).tail cU cS cO cF⟩
    · refine hc S L Y fun tk h' t' fl' S' L' => .inl ⟨_, rfl, q1 h' t' tk fl' ?_ S' L'⟩
      rcases k with k | k | k
      · exact .inl ⟨hf, k⟩
      · exact .inr (.inl k)
      · exact .inr (.inr (.inl k))
  · refine x_nil ?_
    refine x_assign (e_ife (t_cmp (e_loc 1 V L N (e_str fun kf t => i_eqs' (t_bool (if_two (fun ha => ?_) fun ha => ?_))))))
    · have en : num = (N₀ : Int) + 1 := by rw [hnum, if_pos ha]
      refine e_mcall (e_loc 0 V L N ?_)
      refine o_meth (f := 402) 1 2 G L rfl rfl (by kernel_rfl!) rfl ?_
      refine cw_f G (by kernel_rfl!) (a_cons (e_loc 3 V L N (a_nil ⟨⟨_, L⟩, e_code ?_⟩)))
      refine ch_add N₀ (n := num) (l := l) (fl := (env.locals, fo) :: fl) G (R17.mono (by decide)) hFn (frs_next F eF V N) (L.toMid (l := chL w c uo so wo ho oo ro l)) cU cS cH cO cF hv cV hN (hadd ha).1 (hadd ha).2 en b1 b2 b3 b4 b5 b6 b7 (fun h t uo' so' oo' ro' ex v k1 k2 k3 L cU cS cO cF hR => ?_) (fun e h t fl₁ k S L Y => ?_)
      · refine s_loc 4 V (L.ofMid (l := chL w c uo' so' wo ho oo' ro' (ex ++ l))) N fun h t fo L N => x_end ?_
        exact .inr ⟨rfl, h, t, fo, uo', so', oo', ro', ex, v, _, rfl, hf, k1, k2, fun z => k3 z.2, by rw [if_neg (by rw [ha]; decide +kernel)], L, N, cU, cS, cO, cF, hR⟩
      · refine hc S L Y fun tk h' t' fl' S' L' => .inl ⟨_, rfl, q1 h' t' tk fl' ?_ S' L'⟩
        rcases k with k | k | k
        · exact .inr (.inl k)
        · exact .inr (.inr (.inl k))
        · exact .inr (.inr (.inr ⟨hf, by rw [ha]; decide +kernel, k⟩))
    · have en : num = n := by rw [hnum, if_neg ha]
      subst en
      refine e_ife (t_cmp (e_loc 1 V L N (e_str fun kf t => i_eqs' (t_bool (if_two (fun hp => ?_) fun hp => ?_)))))
      · refine e_mcall (e_loc 0 V L N ?_)
        refine o_meth (f := 395) 1 2 G L rfl rfl (by kernel_rfl!) rfl ?_
        refine cw_f G (by kernel_rfl!) (a_cons (e_loc 2 V L N (a_cons (e_loc 3 V L N (a_nil ⟨⟨_, L⟩, e_code ?_⟩)))))
        refine ch_put (l := l) (fl := (env.locals, fo) :: fl) G (R17.mono (by decide)) hFn (frs_next F eF V N) (L.toMid (l := chL w c uo so wo ho oo ro l)) cU cS cH cO cF hv cV hn b1 b2 b3 b4 b5 b6 b7 (fun h t uo' so' oo' ro' ex v k1 k2 k3 L cU cS cO cF hR => ?_) (fun e h t fl₁ k S L Y => ?_)
        · refine s_loc 4 V (L.ofMid (l := chL w c uo' so' wo ho oo' ro' (ex ++ l))) N fun h t fo L N => x_end ?_
          exact .inr ⟨rfl, h, t, fo, uo', so', oo', ro', ex, v, _, rfl, hf, k1, k2, fun z => k3 z.2, by rw [if_neg (by rw [hp]; decide +kernel)], L, N, cU, cS, cO, cF, hR⟩
        · refine hc S L Y fun tk h' t' fl' S' L' => .inl ⟨_, rfl, q1 h' t' tk fl' ?_ S' L'⟩
          rcases k with k | k | k
          · exact .inr (.inl k)
          · exact .inr (.inr (.inl k))
          · exact .inr (.inr (.inr ⟨hf, by rw [hp]; decide +kernel, k⟩))
      · have hl : act = ("lay" : Str) := by
          rcases hact with k | k | k | k
          · exact absurd k hp
          · exact absurd k hf
          · exact absurd k ha
          · exact k
        refine e_mcall (e_loc 0 V L N ?_)
        refine o_meth (f := 388) 1 2 G L rfl rfl (by kernel_rfl!) rfl ?_
        refine cw_f G (by kernel_rfl!) (a_cons (e_loc 2 V L N (a_cons (e_int fun t5 t => a_cons (e_loc 3 V L N (a_nil ⟨⟨_, L⟩, e_code ?_⟩))))))
        refine ch_lay (l := l) (fl := (env.locals, fo) :: fl) G (R17.mono (by decide)) hFn (frs_next F eF V N) (L.toMid (l := chL w c uo so wo ho oo ro l)) cU cS cH cO cF hv cV hn b1 b2 b3 b4 b5 b6 b7 (fun h t uo' so' oo' ro' ex v k1 k2 L cU cS cO cF hR => ?_) (fun e h t fl₁ k S L Y => ?_)
        · refine s_loc 4 V (L.ofMid (l := chL w c uo' so' wo ho oo' ro' (ex ++ l))) N fun h t fo L N => x_end ?_
          exact .inr ⟨rfl, h, t, fo, uo', so', oo', ro', ex, v, _, rfl, hf, k1, k2, fun z => z.1 hl, by rw [if_pos hl], L, N, cU, cS, cO, cF, hR⟩
        · refine hc S L Y fun tk h' t' fl' S' L' => .inl ⟨_, rfl, q1 h' t' tk fl' ?_ S' L'⟩
          rcases k with k | k
          · exact .inr (.inl k)
          · exact .inr (.inr (.inl k))
end
end Mine
namespace Mine
set_option maxRecDepth 100000
theorem law_toldref {w : World} {A : Around} {R : Result → Shared → Prop} {H h : Heap} {g : Array GenState} {d : Drawn} {t : Nat} {os : OsState} {l fl : Ledger} {outer : List Env} {c : Cha} {uo so wo ho oo ro : Obj} {mu : List (Int × Int)} {n : Int} {u : Tok}
    (G : Gd w H) (hA : Room 18 A) (hF : A.frames = some outer) (F : FrsOk outer fl) (L : Led H h (chL w c uo so wo ho oo ro (l ++ fl))) (cU : DR w IsI uo mu) (hn : -1 ≤ n ∧ n < 100)
    (q1 : ∀ h' t' tk fl', look mu n = none → SameData fl fl' → Led H h' (chL w c uo so wo ho oo ro (l ++ fl')) → R (.ok (.ret (.str "refused" tk))) ⟨h', g, d, t', os⟩)
    (q2 : ∀ h' t' T u1 u2 gn ex, look mu n = some gn → Led H h' (chL w c uo so wo ho oo ro (((T, tupO [.int n u1, .int gn u2]) :: (ex ++ l)) ++ fl)) → R (.ok (.ret (.ref T))) ⟨h', g, d, t', os⟩) :
    Cd w A (.call (.ref 475) ⟨[.ref c.x, .int n u], []⟩) R ⟨h, g, d, t, os⟩ := by
  refine call_fn ["changes", "number"] ["DraftFault"] [.ref c.x, .int n u] 2 G L hA.depth rfl (by kernel_rfl!) rfl (BindsTo.of_eq rfl) (by decide +kernel) rfl ?_
  intro h t fo env V eF L N
  refine calm ?_
  have R17 := hA.deeper env
  have hFn := frames_next (env := env) hF
  refine x_try ?_
  refine x_ret (e_mcall (e_mcall (e_loc 0 V L N ?_)))
  refine o_meth (f := 416) 1 2 G L rfl rfl (by kernel_rfl!) rfl ?_
  refine cw_f G (by kernel_rfl!) (a_cons (e_loc 1 V L N (a_nil ⟨⟨_, L⟩, e_code ?_⟩)))
  refine ch_ref (l := l) (fl := (env.locals, fo) :: fl) G (R17.mono (by decide)) hFn (frs_next F eF V N) (L.toMid (l := chL w c uo so wo ho oo ro l)) cU hn (fun h t ex v gn hk L hR => ?_) (fun e h t fl₁ hk S L Y => ?_)
  · replace L : Led H h ((env.locals, fo) :: chL w c uo so wo ho oo ro ((ex ++ l) ++ fl)) := L.ofMid (l := chL w c uo so wo ho oo ro (ex ++ l))
    obtain ⟨x, dx, u1, u2, t1, t2, rfl, hx, hd⟩ := hR
    obtain ⟨i, hi⟩ := at_of_mem (show (x, instObj 287 dx) ∈ (env.locals, fo) :: chL w c uo so wo ho oo ro ((ex ++ l) ++ fl) from .tail _ (.tail _ (.tail _ (.tail _ (.tail _ (.tail _ (.tail _ (.tail _ (.tail _ (List.mem_append_left _ hx))))))))))
    obtain ⟨j, hj⟩ := at_of_mem (show (dx, refD w (.int n u1) (.int gn u2) t1 t2) ∈ (env.locals, fo) :: chL w c uo so wo ho oo ro ((ex ++ l) ++ fl) from .tail _ (.tail _ (.tail _ (.tail _ (.tail _ (.tail _ (.tail _ (.tail _ (.tail _ (List.mem_append_left _ hd))))))))))
    refine o_meth (f := 284) i j G L hi hj (by kernel_rfl!) rfl (cw_f0 G L (by kernel_rfl!) (e_code ?_))
    refine ref_pair (i := i) (j := j) G R17.depth L hi hj rfl rfl fun h t T L => ?_
    exact q2 h t T u1 u2 gn ex hk (L.re 10 [2, 3, 4, 5, 6, 7, 8, 9, 1])
  · cases fl₁ with
    | nil => exact S.elim
    | cons p fl' =>
      obtain ⟨a, fo'⟩ := p
      obtain ⟨⟨s1, s2⟩, s3⟩ := S
      dsimp only at s1 s2
      subst s1
      refine catch_own (l := chL w c uo so wo ho oo ro l) (fl := fl') 0 G hFn (F.same s3) eF V (N.same s2) L Y fun h' fo'' fl'' S' N' L' => ?_
      refine x_ret (e_str fun tk t => q1 h' t tk fl'' hk (s3.trans S') ?_)
      exact (L'.ofMid (l := chL w c uo so wo ho oo ro l)).tail
end Mine
namespace Mine
set_option maxRecDepth 100000
theorem plain_int {w : World} {A : Around} {R : Result → Shared → Prop} {H h : Heap} {g : Array GenState} {d : Drawn} {t : Nat} {os : OsState} {l : Ledger} {p : Addr × Obj} {n : Int} {u uk : Tok}
    (G : Gd w H) (hA : Room 3 A) (L : Led H h (p :: l))
    (q : ∀ h' t' T tk, Led H h' (p :: (T, tupO [.str "int" tk, .int n u]) :: l) → R (.ok (.ret (.ref T))) ⟨h', g, d, t', os⟩) :
    Cd w A (.call (.ref 305) ⟨[.str "int" uk, .int n u], []⟩) R ⟨h, g, d, t, os⟩ := by
  refine call_fn ["kind", "value"] [] [.str "int" uk, .int n u] 2 G L hA.depth rfl (by kernel_rfl!) rfl (BindsTo.of_eq rfl) (by decide +kernel) rfl ?_
  intro h t fo env V _ L N
  refine calm ?_
  refine x_if (t_cmp (e_loc 0 V L N ?_))
  refine e_str fun _ _ => i_eqs false (by decide +kernel) (t_bool (if_ff (x_nil ?_)))
  refine x_if (t_cmp (e_loc 0 V L N ?_))
  refine e_str fun _ _ => i_eqs false (by decide +kernel) (t_bool (if_ff (x_nil ?_)))
  refine x_if (t_cmp (e_loc 0 V L N ?_))
  refine e_str fun _ _ => i_eqs true (by decide +kernel) (t_bool (if_tt ?_))
  refine x_ret (e_tup (a_cons (e_str fun tk t => a_cons (e_loc 1 V L N (a_nil (n_tup L (by simp) fun T h L => ?_))))))
  exact q h t T tk (L.re 3 [2, 1])
theorem told_int {w : World} {A : Around} {R : Result → Shared → Prop} {H h : Heap} {g : Array GenState} {d : Drawn} {t : Nat} {os : OsState} {l : Ledger} {p : Addr × Obj} {n : Int} {u : Tok}
    (G : Gd w H) (hA : Room 5 A) (L : Led H h (p :: l))
    (q : ∀ h' t' T tk, Led H h' (p :: (T, tupO [.str "int" tk, .int n u]) :: l) → R (.ok (.ret (.ref T))) ⟨h', g, d, t', os⟩) :
    Cd w A (.call (.ref 310) ⟨[.int n u], []⟩) R ⟨h, g, d, t, os⟩ := by
  refine call_fn_c ["value"] ["kind"] ["value"] ["kind_of", "told", "tuple", "sorted", "bytes", "told_plain"] [none] [some 0] [.int n u] G L hA.depth rfl (by kernel_rfl!) rfl (BindsTo.of_eq rfl) rfl (by decide +kernel) rfl ?_
  intro h t fo env cs V _ _ C L N
  obtain ⟨c, co, rfl, C, hv⟩ := cells_1 C
  replace hv : co.data = .cell (some (.int n u)) := hv
  refine calm ?_
  refine x_assign (e_call (e_glob 0 G V L (g_kind_of _) (cw_f G (by kernel_rfl!) (a_cons (e_cell 1 V C L hv (a_nil ⟨⟨_, L⟩, e_code ?_⟩))))))
  refine kind_int G (hA.deeper env).depth L fun h t tk L => ?_
  refine s_loc 0 V L N fun h t fo L N => ?_
  refine x_if (t_cmp (e_loc 0 V L N ?_))
  refine e_str fun _ _ => i_eqs false (by decide +kernel) (t_bool (if_ff (x_nil ?_)))
  refine x_if (t_cmp (e_loc 0 V L N ?_))
  refine e_str fun _ _ => i_eqs false (by decide +kernel) (t_bool (if_ff (x_nil ?_)))
  refine x_if (t_cmp (e_loc 0 V L N ?_))
  refine e_str fun _ _ => i_eqs false (by decide +kernel) (t_bool (if_ff (x_nil ?_)))
  refine x_ret (e_call (e_glob 5 G V L (g_told_plain _) (cw_f G (by kernel_rfl!) (a_cons (e_loc 0 V L N (a_cons (e_cell 1 V C L hv (a_nil ⟨⟨_, L⟩, e_code ?_⟩))))))))
  refine plain_int G ((hA.deeper env).mono (by decide)) L fun h t T tk L => ?_
  exact q h t T tk (L.re 4 [3, 1])
section
variable {w : World} {A : Around} {E : Value → Shared → Prop} {H h : Heap} {g : Array GenState} {d : Drawn} {t : Nat} {os : OsState} {l : Ledger} {Lf a b : Addr} {fo o : Obj} {names : List Str} {vals : List (Option Value)} {vs ws : List Value}
theorem c_tuple {Q : Value → Shared → Prop} (i : Nat) (L : Led H h ((Lf, fo) :: l)) (N : Loc fo names vals) (hi : l[i]? = some (a, o)) (c : LstO o vs) (hz : vs.length ≤ 1000)
    (q : ∀ D h' fo', Led H h' ((Lf, fo') :: (D, tupO vs) :: l) → Loc fo' names vals → Q (.ref D) ⟨h', g, d, t, os⟩) : Wp w A (call (.type "tuple") [.ref a]) Q E ⟨h, g, d, t, os⟩ := by
  delta Wp
  obtain ⟨m, n, hm⟩ := N
  refine kde_tupleOf (s := ⟨h, g, d, t, os⟩) (L.fr n) L.news (c.at (i := i) L.tail hi) (by simp; omega) (zs := vs) (by simp) fun D h' F' N' x => ?_
  obtain ⟨fo', L', n'⟩ := back (l' := l) L F' N' x _ (List.mem_of_getElem? hi)
  exact q D h' fo' L' ⟨m, n', hm⟩
theorem t_add {Q : Value → Shared → Prop} (i j : Nat) (L : Led H h ((Lf, fo) :: l)) (N : Loc fo names vals) (hi : l[i]? = some (a, tupO vs)) (hj : l[j]? = some (b, tupO ws)) (hv : vs ≠ []) (hw : ws ≠ []) (hz : vs.length + ws.length ≤ 1000)
    (q : ∀ D h' fo', Led H h' ((Lf, fo') :: (D, tupO (vs ++ ws)) :: l) → Loc fo' names vals → Q (.ref D) ⟨h', g, d, t, os⟩) : Wp w A (binaryOp .Add (.ref a) (.ref b)) Q E ⟨h, g, d, t, os⟩ := by
  delta Wp
  obtain ⟨m, n, hm⟩ := N
  refine add_tuples (s := ⟨h, g, d, t, os⟩) (L.fr n) L.news ⟨_, L.tail.get hi, rfl, 0, rfl⟩ ⟨_, L.tail.get hj, rfl, 0, rfl⟩ (fun e => absurd e hv) (fun _ e => absurd e hw) (fun _ _ h' F' N' => ?_) (by rw [sizeLine_eq]; omega)
  obtain ⟨fo', L', n'⟩ := back (l' := l) L F' N' (fun q hq => Heap.lt_size (L.here q (.tail _ hq))) _ (List.mem_of_getElem? hi)
  exact q _ h' fo' L' ⟨m, n', hm⟩
end
theorem told_list {w : World} {A : Around} {R : Result → Shared → Prop} {H h : Heap} {g : Array GenState} {d : Drawn} {t : Nat} {os : OsState} {l : Ledger} {p : Addr × Obj} {a : Addr} {o : Obj} {n : Int} {u : Tok} {i : Nat}
    (G : Gd w H) (hA : Room 7 A) (L : Led H h (p :: l)) (hi : (p :: l)[i]? = some (a, o)) (c : LstO o [.int n u])
    (q : ∀ h' t' T T2 k1 k2, Led H h' (p :: (T, tupO [.str "array" k1, .ref T2]) :: (T2, tupO [.str "int" k2, .int n u]) :: l) → R (.ok (.ret (.ref T))) ⟨h', g, d, t', os⟩) :
    Cd w A (.call (.ref 310) ⟨[.ref a], []⟩) R ⟨h, g, d, t, os⟩ := by
  refine call_fn_c ["value"] ["kind"] ["value"] ["kind_of", "told", "tuple", "sorted", "bytes", "told_plain"] [none] [some 0] [.ref a] G L hA.depth rfl (by kernel_rfl!) rfl (BindsTo.of_eq rfl) rfl (by decide +kernel) rfl ?_
  intro h t fo env cs V _ _ C L N
  obtain ⟨c', co, rfl, C, hv⟩ := cells_1 C
  replace hv : co.data = .cell (some (.ref a)) := hv
  have hi' : ∀ fo : Obj, ((env.locals, fo) :: (c', co) :: p :: l)[i + 2]? = some (a, o) := fun _ => hi
  refine calm ?_
  have R6 := hA.deeper env
  refine x_assign (e_call (e_glob 0 G V L (g_kind_of _) (cw_f G (by kernel_rfl!) (a_cons (e_cell 1 V C L hv (a_nil ⟨⟨_, L⟩, e_code ?_⟩))))))
  refine kind_list G R6.depth L (hi' _) c fun h t tk L => ?_
  refine s_loc 0 V L N fun h t fo L N => ?_
  refine x_if (t_cmp (e_loc 0 V L N ?_))
  refine e_str fun _ _ => i_eqs true (by decide +kernel) (t_bool (if_tt ?_))
  refine x_ret (e_bin (e_tup (a_cons (e_str fun k1 t => a_nil (n_tup L (by simp) fun T0 h L => ?_)))))
  have hi2 : ((env.locals, fo) :: (T0, tupO [.str "array" k1]) :: (c', co) :: p :: l)[i + 3]? = some (a, o) := hi
  refine e_call (e_blt 2 G V L (b_tuple _) (cw_b rfl (a_cons (e_comp ["part"] ["told"] [] (by decide +kernel) (fun z hz => by cases hz) (e_cell 2 V C L hv ?_)))))
  refine it_list (i + 3) L hi2 c fun I iob h L c0 src => ?_
  refine cb_run ["part"] ["told"] [] 0 (fun j ex ys => (j = 0 ∧ ex = [] ∧ ys = []) ∨ (j = 1 ∧ ∃ T k2, ex = [(T, tupO [.str "int" k2, .int n u])] ∧ ys = [.ref T])) V (by decide +kernel) R6.u src (Nat.le_of_ble_eq_true rfl) c0 L (.inl ⟨rfl, rfl, rfl⟩) (fun p' hp' => ?_) (fun j ex ys e => by rcases e with ⟨rfl, _, rfl⟩ | ⟨rfl, _, _, _, rfl⟩ <;> simp) ?_ ?_
  · rw [List.mem_singleton.mp hp']
    rcases List.mem_cons.mp (List.mem_of_getElem? hi) with e | e
    · rw [e]; exact .tail _ (.tail _ (.head _))
    · exact .tail _ (.tail _ (.tail _ e))
  · intro j v ex ys C' co' D dob iob h t hj hv' hP V' eL eF L N'
    have j0 : j = 0 := by simp at hj; exact hj
    subst j0
    rcases hP with ⟨_, rfl, rfl⟩ | ⟨h01, _⟩
    · simp at hv'; subst hv'
      refine tests_nil ?_
      rw [if_pos rfl]
      refine e_call (e_glob 0 G V' L (g_told _) (cw_f G (by kernel_rfl!) (a_cons (e_loc 0 V' L N' (a_nil ⟨⟨_, L⟩, e_code ?_⟩)))))
      refine told_int G (R6.mono (by decide)) L fun h t T k2 L => ?_
      exact ⟨h, t, [(T, tupO [.str "int" k2, .int n u])], rfl, L.re 5 [0, 2, 3, 4, 1], .inr ⟨rfl, T, k2, rfl, rfl⟩⟩
    · cases h01
  · intro h t D dob ex ys L cD hP
    rcases hP with ⟨h01, _⟩ | ⟨_, T, k2, rfl, rfl⟩
    · cases h01
    · refine a_nil (c_tuple 0 L N rfl cD (by simp) fun D2 h fo L N => ?_)
      replace L : Led H h ((env.locals, fo) :: (D2, tupO [.ref T]) :: (D, dob) :: (T, tupO [.str "int" k2, .int n u]) :: (T0, tupO [.str "array" k1]) :: (c', co) :: p :: l) := L
      refine t_add 3 0 L N rfl rfl (by simp) (by simp) (by simp) fun D3 h fo L N => ?_
      exact q h t D3 T k1 k2 (L.re 8 [7, 1, 4])
end Mine
namespace Mine
set_option maxRecDepth 100000
theorem nextGen_eq (m : List (Int × Ent)) : ∀ j, nextGen m j = (bookTo m j).2.1
  | 0 => rfl
  | j + 1 => by
    have ih := nextGen_eq m j
    unfold nextGen bookTo bookStep bookEnt
    cases h : look m ((j : Int) + 1) with
    | none => simp [ih]
    | some e =>
      by_cases hw : e.way = ("free" : Str)
      · simp [hw, ih]
      · simp [hw, ih]
theorem bookUsed_fold (m : List (Int × Ent)) : ∀ j, (bookTo m j).1 = ((List.range j).map fun (i : Nat) => (i : Int) + 1).foldl (stepUsed m) []
  | 0 => rfl
  | j + 1 => by
    have ih := bookUsed_fold m j
    rw [List.range_succ, List.map_append, List.foldl_append, ← ih]
    show (bookStep m (bookTo m j) ((j : Int) + 1)).1 = stepUsed m (bookTo m j).1 ((j : Int) + 1)
    unfold bookStep stepUsed bookEnt
    cases h : look m ((j : Int) + 1) with
    | none => simp
    | some e =>
      by_cases hw : e.way = ("free" : Str)
      · simp [hw]
      · have : (0 : Int) < (j : Int) + 1 := by omega
        simp [hw, this]
theorem fold_skip {m : List (Int × Ent)} : ∀ (ks : List Int) (f : List (Int × Int)), (ks.filter fun k => (look m k).isSome).foldl (stepUsed m) f = ks.foldl (stepUsed m) f
  | [], f => rfl
  | k :: ks, f => by
    cases h : look m k with
    | none =>
      have e : stepUsed m f k = f := by unfold stepUsed; rw [h]
      simp [h, e, fold_skip ks f]
    | some a => simp [h, fold_skip ks _]
theorem look_some_mem {α : Type} {m : List (Int × α)} {k : Int} : (look m k).isSome = true ↔ k ∈ m.map (·.1) := by
  constructor
  · intro h
    unfold look at h
    cases e : m.find? (fun p => p.1 = k) with
    | none => rw [e] at h; cases h
    | some p =>
      have h1 := List.mem_of_find?_eq_some e
      have h2 := List.find?_some e
      simp at h2
      exact List.mem_map.mpr ⟨p, h1, h2⟩
  · intro h
    obtain ⟨a, e⟩ := look_mem h
    rw [e]; rfl
/-- keys within 0 .. N, each once: the used ones come out as in the book -/
theorem used_eq {m : List (Int × Ent)} {N : Nat} (hn : (m.map (·.1)).Nodup) (hk : ∀ k : Int, k ∈ m.map (·.1) → 0 ≤ k ∧ k ≤ (N : Int)) : usedOf m (sortI (m.map (·.1))) = (bookTo m N).1 := by
  rw [bookUsed_fold]
  have e : sortI (m.map (·.1)) = ((0 : Int) :: ((List.range N).map fun (i : Nat) => (i : Int) + 1)).filter fun k => (look m k).isSome := by
    refine (sortI_eq ?_ ?_).symm
    · refine (List.perm_ext_iff_of_nodup ?_ hn).mpr fun k => ?_
      · refine List.Nodup.sublist (List.filter_sublist) (List.nodup_cons.mpr ⟨fun h => ?_, ?_⟩)
        · obtain ⟨i, _, e⟩ := List.mem_map.mp h; omega
        · rw [List.nodup_iff_pairwise_ne, List.pairwise_map]
          exact (List.nodup_range (n := N)).imp (fun h e => h (by omega))
      · rw [List.mem_filter, look_some_mem]
        refine ⟨fun h => h.2, fun h => ⟨?_, h⟩⟩
        obtain ⟨h0, h1⟩ := hk k h
        rcases Int.lt_or_le 0 k with h2 | h2
        · exact .tail _ (List.mem_map.mpr ⟨(k - 1).toNat, List.mem_range.mpr (by omega), by omega⟩)
        · rw [show k = 0 by omega]; exact .head _
    · refine List.Pairwise.sublist (List.filter_sublist) (List.pairwise_cons.mpr ⟨fun k hk => ?_, ?_⟩)
      · obtain ⟨i, _, e⟩ := List.mem_map.mp hk; omega
      · rw [List.pairwise_map]
        exact (List.pairwise_lt_range (n := N)).imp (fun h => by omega)
  unfold usedOf
  rw [e, fold_skip]
  show (_ : List Int).foldl (stepUsed m) (stepUsed m [] 0) = _
  have e0 : stepUsed m [] 0 = [] := by
    unfold stepUsed
    cases look m 0 with
    | none => rfl
    | some e => simp
  rw [e0]
theorem put_keys {α : Type} {m : List (Int × α)} {k : Int} {v : α} : ∀ x, x ∈ (put m k v).map (·.1) ↔ x = k ∨ x ∈ m.map (·.1) := by
  intro x
  unfold put
  split
  · rename_i h
    obtain ⟨p, hp, e⟩ := List.any_eq_true.mp h
    have e1 : (m.map fun p => if p.1 = k then (p.1, v) else p).map (·.1) = m.map (·.1) := by
      rw [List.map_map]
      refine List.map_congr_left fun q _ => ?_
      show (if q.1 = k then (q.1, v) else q).1 = q.1
      split <;> rfl
    rw [e1]
    refine ⟨.inr, fun h => h.elim (fun h => ?_) id⟩
    subst h
    have : p.1 = x := by simpa using e
    exact List.mem_map.mpr ⟨p, hp, this⟩
  · rw [List.map_append, List.mem_append]
    simp [or_comm]
theorem entTo_keys (D : Nat → Int → Int) (k : Nat) : ∀ (j : Nat) (x : Int), x ∈ (entTo D k j).1.map (·.1) → 1 ≤ x ∧ x ≤ j
  | 0, x, h => by simp [entTo] at h
  | j + 1, x, h => by
    have ih := entTo_keys D k j x
    have key : x = (j : Int) + 1 ∨ x ∈ (entTo D k j).1.map (·.1) := by
      unfold entTo entStep at h
      split at h
      · exact (put_keys x).mp h
      split at h
      · exact (put_keys x).mp h
      split at h
      · exact (put_keys x).mp h
      · exact .inr h
    rcases key with e | e
    · omega
    · have := ih e; omega
theorem entAll_keys (D : Nat → Int → Int) (k : Nat) (x : Int) (h : x ∈ (entAll D k).1.map (·.1)) : 0 ≤ x ∧ x ≤ ((entSize D k - 1).toNat : Int) := by
  have key : x = 0 ∨ x ∈ (entTo D (k + 1) (entSize D k - 1).toNat).1.map (·.1) := by
    unfold entAll at h
    dsimp only at h
    split at h
    · exact (put_keys x).mp h
    · exact .inr h
  rcases key with e | e
  · omega
  · have := entTo_keys D (k + 1) _ x e; omega
theorem holders_mem (m : List (Int × Ent)) (x : Int) : (look (holdersOf m) x).isSome = true ↔ ∃ p ∈ m, p.2.way = ("packed" : Str) ∧ p.2.one = x := by
  rw [look_some_mem]
  have key : ∀ (m : List (Int × Ent)) (f : List (Int × Unit)), x ∈ (m.foldl (fun f p => if p.2.way = ("packed" : Str) then put f p.2.one () else f) f).map (·.1) ↔ (x ∈ f.map (·.1) ∨ ∃ p ∈ m, p.2.way = ("packed" : Str) ∧ p.2.one = x) := by
    intro m
    induction m with
    | nil => intro f; simp
    | cons p m ih =>
      intro f
      rw [List.foldl_cons, ih]
      by_cases h : p.2.way = ("packed" : Str)
      · rw [if_pos h, put_keys]
        constructor
        · rintro ((e | e) | ⟨q, hq, e⟩)
          · exact .inr ⟨p, .head _, h, e.symm⟩
          · exact .inl e
          · exact .inr ⟨q, .tail _ hq, e⟩
        · rintro (e | ⟨q, hq, e1, e2⟩)
          · exact .inl (.inr e)
          · rcases List.mem_cons.mp hq with rfl | hq
            · exact .inl (.inl e2.symm)
            · exact .inr ⟨q, hq, e1, e2⟩
      · rw [if_neg h]
        constructor
        · rintro (e | ⟨q, hq, e⟩)
          · exact .inl e
          · exact .inr ⟨q, .tail _ hq, e⟩
        · rintro (e | ⟨q, hq, e1, e2⟩)
          · exact .inl e
          · rcases List.mem_cons.mp hq with rfl | hq
            · exact absurd e1 h
            · exact .inr ⟨q, hq, e1, e2⟩
  have := key m []
  simpa [holdersOf] using this
theorem book_holders (m : List (Int × Ent)) (x : Int) : ∀ j, x ∈ (bookTo m j).2.2 ↔ ∃ n : Nat, n < j ∧ (bookEnt m ((n : Int) + 1)).way = ("packed" : Str) ∧ (bookEnt m ((n : Int) + 1)).one = x
  | 0 => by simp [bookTo]
  | j + 1 => by
    have ih := book_holders m x j
    have step : x ∈ (bookTo m (j + 1)).2.2 ↔ x ∈ (bookTo m j).2.2 ∨ ((bookEnt m ((j : Int) + 1)).way = ("packed" : Str) ∧ (bookEnt m ((j : Int) + 1)).one = x) := by
      show x ∈ (bookStep m (bookTo m j) ((j : Int) + 1)).2.2 ↔ _
      unfold bookStep
      split
      · rename_i h
        rw [h]
        have : ("free" : Str) ≠ ("packed" : Str) := by decide +kernel
        simp [this]
      · dsimp only
        rw [List.mem_append]
        split
        · rename_i h; simp [h, eq_comm]
        · rename_i h; simp [h]
    rw [step, ih]
    constructor
    · rintro (⟨n, h1, h2⟩ | h)
      · exact ⟨n, by omega, h2⟩
      · exact ⟨j, by omega, h⟩
    · rintro ⟨n, h1, h2⟩
      rcases Nat.lt_or_ge n j with h | h
      · exact .inl ⟨n, h, h2⟩
      · have : n = j := by omega
        subst this; exact .inr h2
end Mine
namespace Mine
set_option maxRecDepth 100000
section
variable {w : World} {A : Around} {E : Value → Shared → Prop} {H h : Heap} {g : Array GenState} {d : Drawn} {t : Nat} {os : OsState} {l : Ledger}
theorem reads_tup {T : Addr} {vs : List Value} {xs : List PyData} {as : List Addr} {i : Nat} (L : Led H h l) (hi : l[i]? = some (T, tupO vs)) (r : ReadsAll h vs xs as) : Reads h (.ref T) (.tuple xs) as := .tuple (L.get hi) rfl rfl (by simpa using r)
theorem pair_data (a b : Int) (a' b' : Int) : PyData.eqv (.tuple [.int a, .int b]) (.tuple [.int a', .int b']) = decide (a = a' ∧ b = b') := by
  simp only [PyData.eqv, PyData.eqvAll]
  by_cases h1 : a = a' <;> by_cases h2 : b = b' <;> simp [h1, h2]
theorem i_nepair {T1 T2 : Addr} {a b a' b' : Int} {u1 u2 u3 u4 : Tok} {Q : Value → Shared → Prop} (i j : Nat) (hA : Room 5 A) (L : Led H h l) (hi : l[i]? = some (T1, tupO [.int a u1, .int b u2])) (hj : l[j]? = some (T2, tupO [.int a' u3, .int b' u4])) (q : Q (.bool (!decide (a = a' ∧ b = b'))) ⟨h, g, d, t, os⟩) :
    Wp w A (compareOp .NotEq (.ref T1) (.ref T2)) Q E ⟨h, g, d, t, os⟩ := by
  delta Wp
  refine ne_dataH (s := ⟨h, g, d, t, os⟩) (reads_tup L hi (.cons (.int _ _) (.cons (.int _ _) .nil))) (reads_tup L hj (.cons (.int _ _) (.cons (.int _ _) .nil))) rfl rfl (by obtain ⟨_, _, x⟩ := hA; omega) ?_
  rw [pair_data]; exact q
end
end Mine
namespace Mine
set_option maxRecDepth 100000
/-- what a turn of enumerate does to the ledger -/
theorem Led.enum {H h h' : Heap} {e it : Addr} {eo io eo' io' tup : Obj} {l : Ledger} (L : Led H h ((e, eo) :: (it, io) :: l)) (he : h'.get? e = some eo') (hi : h'.get? it = some io') (ht : h'.get? h.objs.size = some tup)
    (k : ∀ b o, b ≠ e → b ≠ it → h.get? b = some o → h'.get? b = some o) (hs : h.objs.size ≤ h'.objs.size) : Led H h' ((h.objs.size, tup) :: (e, eo') :: (it, io') :: l) := by
  have n1 := List.nodup_cons.mp L.nodup
  have n2 := List.nodup_cons.mp n1.2
  have old : ∀ p ∈ l, p.1 ≠ e ∧ p.1 ≠ it := fun p hp => ⟨fun q => n1.1 (List.mem_map.mpr ⟨p, .tail _ hp, q⟩), fun q => n2.1 (List.mem_map.mpr ⟨p, hp, q⟩)⟩
  refine ⟨fun b o x => k b o (fun q => ?_) (fun q => ?_) (L.base b o x), Nat.le_trans L.le hs, fun p hp => ?_, fun p hp => ?_, ?_⟩
  · have := L.fresh (.head _); rw [q] at x; rw [x] at this; cases this
  · have := L.fresh (.tail _ (.head _)); rw [q] at x; rw [x] at this; cases this
  · rcases List.mem_cons.mp hp with rfl | hp
    · exact ht
    rcases List.mem_cons.mp hp with rfl | hp
    · exact he
    rcases List.mem_cons.mp hp with rfl | hp
    · exact hi
    · exact k _ _ (old p hp).1 (old p hp).2 (L.here p (.tail _ (.tail _ hp)))
  · rcases List.mem_cons.mp hp with rfl | hp
    · exact L.le
    rcases List.mem_cons.mp hp with rfl | hp
    · exact L.new (e, eo) (.head _)
    rcases List.mem_cons.mp hp with rfl | hp
    · exact L.new (it, io) (.tail _ (.head _))
    · exact L.new p (.tail _ (.tail _ hp))
  · rw [List.map_cons, List.nodup_cons]
    refine ⟨fun hm => ?_, L.nodup⟩
    have hm' : h.objs.size ∈ ((e, eo) :: (it, io) :: l).map (·.1) := hm
    obtain ⟨p, hp, q⟩ := List.mem_map.mp hm'
    have := Heap.lt_size (L.here p hp)
    rw [q] at this; exact Nat.lt_irrefl _ this
theorem Led.leaveBut {H h h' : Heap} {it : Addr} {io : Obj} {p : Addr × Obj} {l : Ledger} (L : Led H h ((it, io) :: p :: l)) (k : Heap.ExtBut it h h') : Led H h' (p :: l) := by
  have n1 := List.nodup_cons.mp L.nodup
  have kk : ∀ q ∈ p :: l, h'.get? q.1 = some q.2 := fun q hq => k _ _ (fun e => n1.1 (List.mem_map.mpr ⟨q, hq, e⟩)) (L.here q (.tail _ hq))
  refine ⟨fun b o x => k b o (fun q => ?_) (L.base b o x), Nat.le_trans (L.new p (.tail _ (.head _))) (Nat.le_of_lt (Heap.lt_size (kk p (.head _)))), kk, fun q hq => L.new q (.tail _ hq), n1.2⟩
  have := L.fresh (.head _); rw [q] at x; rw [x] at this; cases this
section
variable {w : World} {A : Around} {E : Value → Shared → Prop} {H h : Heap} {g : Array GenState} {d : Drawn} {t : Nat} {os : OsState} {env : Env} {l : Ledger} {fo : Obj} {names gl : List Str} {vals : List (Option Value)} {x y : Str} {px py tp : Pos} {a : Addr} {o : Obj} {xs : List Value} {kk : Nat}
/-- for x, y in enumerate(list) -/
theorem for_enum {e it : Addr} {eo io : Obj} {body : List Stmt} {Q : Flow → Shared → Prop} (i1 i2 : Nat) (J : Nat → Ledger → List (Option Value) → Prop)
    (V : EnvOk env names gl) (hh : A.handled = none) (c : LstO o xs) (L : Led H h ((e, eo) :: (it, io) :: (env.locals, fo) :: l)) (he : IsEnum h e it 0 .none) (hit : h.IsListIter it a 0) (N : Loc fo names vals) (hJ : J 0 l vals) (hl : ∀ j l vals, J j l vals → (a, o) ∈ l)
    (turn : ∀ j v tk l vals h t fo eo io, xs[j]? = some v → J j l vals → Led H h ((env.locals, fo) :: (e, eo) :: (it, io) :: l) → Loc fo names (setV (setV vals i1 (.int j tk)) i2 v) →
      Wp w A (execs body env) (fun f s => match f with
        | .next | .cont => ∃ h t fo l vals, s = ⟨h, g, d, t, os⟩ ∧ Led H h ((env.locals, fo) :: (e, eo) :: (it, io) :: l) ∧ Loc fo names vals ∧ J (j + 1) l vals
        | .brk => False
        | .ret v => Q (.ret v) s) (fun _ _ => False) ⟨h, g, d, t, os⟩)
    (done : ∀ h t fo l vals, Led H h ((env.locals, fo) :: l) → Loc fo names vals → J xs.length l vals → Q .next ⟨h, g, d, t, os⟩)
    (hx : names[i1]? = some x := by rfl) (hy : names[i2]? = some y := by rfl) : Fl w A (.Tuple [.Name x px, .Name y py] kk tp) (.ref e) body env Q ⟨h, g, d, t, os⟩ := by
  delta Fl
  refine codeAny_forLoop_any (fun m s => ∃ (j : Nat) (h : Heap) (t : Nat) (fo eo io : Obj) (l : Ledger) (vals : List (Option Value)) (old : Value), s = ⟨h, g, d, t, os⟩ ∧ m = xs.length + 1 - j ∧ j ≤ xs.length ∧ Led H h ((e, eo) :: (it, io) :: (env.locals, fo) :: l) ∧ IsEnum h e it ((j : Nat) : Int) old ∧ h.IsListIter it a j ∧ Loc fo names vals ∧ J j l vals) ?_ (xs.length + 1) ⟨0, h, t, fo, eo, io, l, vals, .none, rfl, rfl, Nat.zero_le _, L, he, hit, N, hJ⟩
  rintro m s ⟨j, h, t, fo, eo, io, l, vals, old, rfl, rfl, hj, L, he, hit, N, hJ⟩
  have hlist : h.IsList a xs.toArray := ⟨o, L.here (a, o) (.tail _ (.tail _ (.tail _ (hl j l vals hJ)))), c.1, c.2⟩
  have hei : e ≠ it := fun q => (List.nodup_cons.mp L.nodup).1 (q ▸ .head _)
  rcases Nat.lt_or_ge j xs.length with hlt | hge
  · refine wpAny_pyNext_enum_item (s := ⟨h, g, d, t, os⟩) he hit hlist (x := xs[j]) (by simp [hlt]) hei fun h₁ heo hit₁ ht₁ hz₁ hk₁ => ?_
    obtain ⟨io₁, hio₁, pio₁⟩ := id hit₁
    have L1 := L.enum heo hio₁ ht₁ hk₁ (by rw [hz₁]; exact Nat.le_succ _)
    refine wpAny_letOwnedTupleGo_enum heo fun h₂ he₂ hs₂ => ?_
    have L2 := L1.setAt (i := 1) rfl hs₂ he₂
    have tup : h₂.IsTuple h.objs.size #[.int j t, xs[j]] := ⟨_, L2.here (h.objs.size, _) (.head _), rfl, _, rfl⟩
    refine wpAny_assign_Tuple (s := ⟨h₂, g, d, t + 1, os⟩) hh tup rfl rfl fun h₃ hx₃ => ?_
    have L3 := L2.keep fun b o q => hx₃ b o (Nat.ne_of_lt (Heap.lt_size q)) q
    have L4 := L3.re 4 [3, 1, 2]
    show wpAny _ A (do holding [xs[j]] (assign (.Name x px) env (.int j t)); (do holding [] (assign (.Name y py) env xs[j]); pure ())) _ _ _
    have store : Wp w A (storeName env x (.int j t)) (fun _ s => Wp w A (storeName env y xs[j]) (fun _ s => Wp w A (execs body env) (fun f s => match f with
        | .next | .cont => ∃ h t fo l vals, s = ⟨h, g, d, t, os⟩ ∧ Led H h ((env.locals, fo) :: (e, { cls := .type "enumerate", dict := none, data := .fields #[.none, .bool false, .ref it, rawInt ((j : Int) + 1), .none, xs[j]], slots := #[] }) :: (it, io₁) :: l) ∧ Loc fo names vals ∧ J (j + 1) l vals
        | .brk => False
        | .ret v => Q (.ret v) s) (fun _ _ => False) s) (fun _ _ => False) s) (fun _ _ => False) ⟨h₃, g, d, t + 1, os⟩ := by
      refine s_loc i1 V L4 N (fun h₄ t₄ fo₄ L5 N4 => ?_) hx
      refine s_loc i2 V L5 N4 (fun h₅ t₅ fo₅ L6 N5 => ?_) hy
      exact turn j xs[j] t l vals h₅ t₅ fo₅ _ _ (by simp [hlt]) hJ L6 N5
    refine wp_calmNoted (wpAny_bind (wpAny_holding (wpAny_assign_Name (wpAny_mono store.out (fun _ s z => ?_) fun _ _ z => z))))
    refine wpAny_bind (wpAny_holding (wpAny_assign_Name (wpAny_mono z.out (fun _ s z => wpAny_pure ?_) fun _ _ z => z.elim)))
    refine wp_calmNoted (wpAny_mono z.out (fun f s z => ?_) fun _ _ z => z.elim)
    cases f with
    | next => obtain ⟨h, t, fo, l, vals, rfl, L, N, hJ⟩ := z; exact ⟨xs.length + 1 - (j + 1), by omega, j + 1, h, t, fo, _, _, l, vals, xs[j], rfl, rfl, hlt, L.re 3 [1, 2, 0], L.here (e, _) (.tail _ (.head _)), ⟨_, L.here (it, _) (.tail _ (.tail _ (.head _))), pio₁⟩, N, hJ⟩
    | cont => obtain ⟨h, t, fo, l, vals, rfl, L, N, hJ⟩ := z; exact ⟨xs.length + 1 - (j + 1), by omega, j + 1, h, t, fo, _, _, l, vals, xs[j], rfl, rfl, hlt, L.re 3 [1, 2, 0], L.here (e, _) (.tail _ (.head _)), ⟨_, L.here (it, _) (.tail _ (.tail _ (.head _))), pio₁⟩, N, hJ⟩
    | brk => exact z.elim
    | ret v => exact z
  · have hx : xs.toArray[j]? = none := by simp; exact hge
    refine wpAny_pyNext_enum_end (s := ⟨h, g, d, t, os⟩) hh he hit hlist hx fun h₁ he₁ => wpAny_execs_nil ?_
    have hjn : j = xs.length := Nat.le_antisymm hj hge
    subst hjn
    exact done h₁ t fo l vals ((L.re 3 [1, 2]).leaveBut he₁) N hJ
end
end Mine
namespace Mine
set_option maxRecDepth 100000
/-- a told entry: a triple in the ledger -/
def TupR (l : Ledger) (v : Value) (e : Ent) : Prop := PyData.strOk e.way = true ∧ ∃ T u1 u2 u3, v = .ref T ∧ (T, tupO [.str e.way u1, .int e.one u2, .int e.two u3]) ∈ l
theorem TupR.mono {l l' : Ledger} {v : Value} {e : Ent} (h : TupR l v e) (k : ∀ p ∈ l, p ∈ l') : TupR l' v e := let ⟨s, T, u1, u2, u3, a, b⟩ := h; ⟨s, T, u1, u2, u3, a, k _ b⟩
def sameE (a b : Ent) : Bool := decide (a.way = b.way ∧ a.one = b.one ∧ a.two = b.two)
def hitE : List (Int × Ent) → List (Int × Ent) → Bool
  | [], _ => true
  | p :: r, mb => match look mb p.1 with | none => false | some b => sameE p.2 b && hitE r mb
def eqE (ma mb : List (Int × Ent)) : Bool := ma.length == mb.length && hitE ma mb
theorem ent_data (a b : Ent) : PyData.eqv (.tuple [.str a.way, .int a.one, .int a.two]) (.tuple [.str b.way, .int b.one, .int b.two]) = sameE a b := by
  simp only [PyData.eqv, PyData.eqvAll, sameE]
  by_cases h1 : a.way = b.way <;> by_cases h2 : a.one = b.one <;> by_cases h3 : a.two = b.two <;> simp [h1, h2, h3]
theorem ent_shaped {a : Ent} (h : PyData.strOk a.way = true) : SeqAt.shaped (.tuple [.str a.way, .int a.one, .int a.two]) = true := by
  simp [SeqAt.shaped, PyData.canLay0, PyData.canLayAll0, PyData.depth, PyData.depthAll, h]
section
variable {w : World} {A : Around} {E : Value → Shared → Prop} {H h : Heap} {g : Array GenState} {d : Drawn} {t : Nat} {os : OsState} {l : Ledger} {a b : Addr} {oa ob : Obj} {ma mb : List (Int × Ent)}
theorem eqAt_ent {v y : Value} {e f : Ent} (L : Led H h l) (hA : Room 5 A) (r1 : TupR l v e) (r2 : TupR l y f) : SeqAt.EqAt A.in1 ⟨h, g, d, t, os⟩ v y (sameE e f) := by
  obtain ⟨s1, T1, u1, u2, u3, rfl, m1⟩ := r1
  obtain ⟨s2, T2, u4, u5, u6, rfl, m2⟩ := r2
  obtain ⟨i, hi⟩ := at_of_mem m1
  obtain ⟨j, hj⟩ := at_of_mem m2
  rw [← ent_data]
  exact keq_at (s := ⟨h, g, d, t, os⟩) (reads_tup L hi (.cons (.str _ _) (.cons (.int _ _) (.cons (.int _ _) .nil)))) (reads_tup L hj (.cons (.str _ _) (.cons (.int _ _) (.cons (.int _ _) .nil)))) (ent_shaped s1) (ent_shaped s2)
    (by obtain ⟨_, _, x⟩ := hA; show A.units + 1 + 64 < cLine; omega)
theorem hits_E {kb : List (Int × Value)} (L : Led H h l) (hA : Room 5 A) (rb : Rel (TupR l) kb mb) : ∀ {ka : List (Int × Value)} {ma : List (Int × Ent)}, Rel (TupR l) ka ma → KeqHits A.in1 ⟨h, g, d, t, os⟩ kb ka (hitE ma mb) := by
  intro ka ma ra
  refine ra.ind (P := fun ka ma => KeqHits A.in1 ⟨h, g, d, t, os⟩ kb ka (hitE ma mb)) .nil (fun k v a ps qs r _ ih => ?_)
  unfold hitE
  rcases rb.look (k := k) with ⟨e1, e2⟩ | ⟨y, b, e1, e2, r2⟩
  · rw [e2]; exact .miss e1
  · rw [e2]
    exact .hit e1 (eqAt_ent L hA r r2) ih
theorem r_eqE {Q : Value → Shared → Prop} (i j : Nat) (G : Gd w H) (hA : Room 5 A) (L : Led H h l) (hi : l[i]? = some (a, oa)) (hj : l[j]? = some (b, ob)) (ca : DR w (TupR l) oa ma) (cb : DR w (TupR l) ob mb) (q : Q (.bool (eqE ma mb)) ⟨h, g, d, t, os⟩) :
    Wp w A (compareOp .Eq (.ref a) (.ref b)) Q E ⟨h, g, d, t, os⟩ := by
  delta Wp
  obtain ⟨ka, ca, ra⟩ := ca
  obtain ⟨kb, cb, rb⟩ := cb
  refine keq_eq (s := ⟨h, g, d, t, os⟩) (r := hitE ma mb) (L.notMod G hi) (L.notMod G hj) (L.dict hi ca) (L.dict hj cb) hA.units (fun _ => hits_E L hA rb ra) ?_
  rw [ra.length, rb.length]; exact q
end
theorem PairP.mono {α : Type} {w : World} {R R' : Value → α → Prop} {ex ex' : Ledger} {ys : List Value} {m : List (Int × α)} (c : PairP w R ex ys m) (hR : ∀ v a, R v a → R' v a) (hx : ∀ p ∈ ex, p ∈ ex') : PairP w R' ex' ys m := by
  obtain ⟨ps, kvs, h1, h2, h3, h4⟩ := c
  exact ⟨ps, kvs, h1, fun i v hv => let ⟨T, q, a, b, c⟩ := h2 i v hv; ⟨T, q, a, b, hx _ c⟩, h3, h4.mono hR⟩
/-- v.told() of an entry -/
theorem e_told {w : World} {A : Around} {E : Value → Shared → Prop} {H h : Heap} {g : Array GenState} {d : Drawn} {t : Nat} {os : OsState} {env : Env} {l : Ledger} {p : Addr × Obj} {v : Value} {e : Ent} {pl : Sem Bool} {pos : Pos} {Q : Value → Shared → Prop} {n : Nat}
    (G : Gd w H) (hA : Room 2 A) (L : Led H h (p :: l)) (c : EntR w (p :: l) v e)
    (q : ∀ h' t' T u1 u2 u3, Led H h' (p :: (T, tupO [.str e.way u1, .int e.one u2, .int e.two u3]) :: l) → Q (.ref T) ⟨h', g, d, t', os⟩) :
    Wp w A (getMethod v "told" pl) (fun fx s => Wp w A (callWith pos fx.1 fx.2 (backTo pos (starEach [] env)) []) Q E s) E ⟨h, g, d, t, os⟩ := by
  obtain ⟨x, dx, t1, t2, t3, u1, u2, u3, rfl, hx, hd⟩ := c
  obtain ⟨i, hi⟩ := at_of_mem hx
  obtain ⟨j, hj⟩ := at_of_mem hd
  refine o_meth (f := 42) i j G L hi hj (by kernel_rfl!) rfl (cw_f0 G L (by kernel_rfl!) (e_code ?_))
  exact entry_told (i := i) (j := j) G hA.depth L hi hj rfl rfl rfl fun h t T L => q h t T u1 u2 u3 L
/-- dict([(x, cn[x].told()) for x in cn]) -/
theorem told_dict {w : World} {A : Around} {E : Value → Shared → Prop} {H h : Heap} {g : Array GenState} {d : Drawn} {t : Nat} {os : OsState} {env : Env} {l : Ledger} {fo : Obj} {names gl : List Str} {c a : Addr} {co o : Obj} {m : List (Int × Ent)} {x cn : Str} {p0 p1 p2 p3 p4 p5 p6 p7 p8 p9 p10 : Pos} {kk : Nat} {scope : Scope} {pl : Env → Sem Bool} {Q : Value → Shared → Prop} (ib : Nat)
    (G : Gd w H) (hA : Room 3 A) (V : EnvOk env names gl) (C : CellOk env cn c) (hv : co.data = .cell (some (.ref a))) (L : Led H h ((env.locals, fo) :: l)) (hc : (c, co) ∈ l) (ha : (a, o) ∈ l) (cD : DR w (EntR w l) o m) (hw : ∀ q ∈ m, PyData.strOk q.2.way = true) (hz : m.length ≤ 1000)
    (hck : compOk scope [x] [] [cn] = true) (hfr : scope.names.lookup cn = some .free)
    (q : ∀ h' t' D d1 ex, Led H h' ((env.locals, fo) :: (D, d1) :: (ex ++ l)) → DR w (TupR ex) d1 m → Q (.ref D) ⟨h', g, d, t', os⟩) (hb : gl[ib]? = some ("dict" : Str) := by rfl)
    (he : ∀ env : Env, eval (.Call (.Attribute (.Subscript (.Name cn p2) (.Name x p3) p4) "told" p5) [] [] p6) env = (do let ov ← eval (.Subscript (.Name cn p2) (.Name x p3) p4) env; standAt p5.atName; let (f, first) ← holding [ov] (getMethod ov "told" (pl env)); callWith p6 f first (backTo p6 (starEach [] env)) []) := by intro _; rfl) :
    Wp w A (eval (.Call (.Name "dict" p0) [.ListComp (.Tuple [.Name x p1, .Call (.Attribute (.Subscript (.Name cn p2) (.Name x p3) p4) "told" p5) [] [] p6] kk p7) [⟨.Name x p8, .Name cn p9, [], 0⟩] scope p10] [] pos) env) Q E ⟨h, g, d, t, os⟩ := by
  obtain ⟨ic, hic⟩ := at_of_mem hc
  obtain ⟨ia, hia⟩ := at_of_mem ha
  have hic1 : ((env.locals, fo) :: l)[ic + 1]? = some (c, co) := hic
  have hia1 : ((env.locals, fo) :: l)[ia + 1]? = some (a, o) := hia
  refine e_call (e_blt ib G V L (b_dict _) (cw_b rfl (a_cons (e_comp [x] [] [cn] hck (fun z hz => by rw [List.mem_singleton.mp hz, C.look]; rfl) (e_cell (ic + 1) V C L hv ?_ hic1)))) hb)
  refine r_it (ia + 1) G L hia1 cD fun I iob h It LI c0 src => ?_
  refine cb_runP [x] [] [cn] 0 (fun j ex ys => PairP w (TupR ex) ex ys (m.take j)) V hck hA.u src (by omega) c0 LI PairP.nil (fun p' hp' => by rw [List.mem_singleton.mp hp']; exact ha) (fun j ex ys P => by rw [P.len]; simp; omega) ?_ ?_
  · intro j v ex ys C' co' D dob iob h t hj hvv P V' eL eF L N'
    obtain ⟨k, b, tk, hme, rfl⟩ := hvv
    have hk := look_at cD.nodup hme
    obtain ⟨ic2, hic2⟩ := at_of_mem (show (c, co) ∈ (C', co') :: (D, dob) :: (I, iob) :: (env.locals, fo) :: (ex ++ l) from .tail _ (.tail _ (.tail _ (.tail _ (List.mem_append_right _ hc)))))
    obtain ⟨ia2, hia2⟩ := at_of_mem (show (a, o) ∈ (C', co') :: (D, dob) :: (I, iob) :: (env.locals, fo) :: (ex ++ l) from .tail _ (.tail _ (.tail _ (.tail _ (List.mem_append_right _ ha)))))
    refine tests_nil ?_
    rw [if_pos rfl]
    refine e_tup (a_cons (e_loc 0 V' L N' (a_cons (e_mcall (he := he _) (e_sub (e_cell ic2 V' (compE_cell hfr C) L hv (e_loc 0 V' L N' ?_) hic2))))))
    refine r_item ia2 L hia2 cD hk fun t v hv' => ?_
    refine e_told (n := 0) G (hA.mono (by decide)) L (hv'.mono fun q hq => .tail _ (.tail _ (.tail _ (.tail _ (List.mem_append_right _ hq))))) fun h t T u1 u2 u3 L => a_nil ?_
    refine n_tup L (by simp) fun T2 h L => ?_
    refine ⟨h, t, (T2, tupO [.int k tk, .ref T]) :: (T, tupO [.str b.way u1, .int b.one u2, .int b.two u3]) :: ex, rfl, L.re 6 [0, 3, 4, 5, 1, 2], ?_⟩
    have et : m.take (j + 1) = m.take j ++ [(k, b)] := by rw [List.take_add_one, hme]; rfl
    rw [et]
    have P2 : PairP w (TupR ((T2, tupO [.int k tk, .ref T]) :: (T, tupO [.str b.way u1, .int b.one u2, .int b.two u3]) :: ex)) ((T, tupO [.str b.way u1, .int b.one u2, .int b.two u3]) :: ex) ys (m.take j) := P.mono (fun v a z => z.mono fun p hp => .tail _ (.tail _ hp)) (fun p hp => .tail _ hp)
    exact P2.snoc ⟨hw _ (List.mem_of_getElem? hme), T, u1, u2, u3, rfl, .tail _ (.head _)⟩
  · intro h t D dob ex ys L c1 cDd P
    rw [List.take_length] at P
    refine a_nil (c_pairs 1 hA.u L rfl c1 cDd P (fun q hq => .tail _ (List.mem_append_left _ hq)) cD.nodup (by omega) fun S' h t so' L cS' => ?_)
    exact q h t S' so' ex (L.re 3 [0, 1]) cS'
end Mine
namespace Mine
set_option maxRecDepth 100000
/-- enumerate(list), its iterator at once -/
theorem it_enum {w : World} {A : Around} {E : Value → Shared → Prop} {H h : Heap} {g : Array GenState} {d : Drawn} {t : Nat} {os : OsState} {l : Ledger} {p : Addr × Obj} {a : Addr} {o : Obj} {xs : List Value} {Q : Value → Shared → Prop} (i : Nat) (L : Led H h (p :: l)) (hi : (p :: l)[i]? = some (a, o)) (c : LstO o xs)
    (q : ∀ e it eo io h', Led H h' ((e, eo) :: (it, io) :: p :: l) → IsEnum h' e it 0 .none → h'.IsListIter it a 0 → Q (.ref e) ⟨h', g, d, t, os⟩) :
    Wp w A (call (.type "enumerate") [.ref a]) (fun v s => Wp w A (pyIter v) Q E s) E ⟨h, g, d, t, os⟩ := by
  delta Wp
  refine call_enumerate_list (s := ⟨h, g, d, t, os⟩) (c.at L hi) fun h' he hit hz hk => wpAny_pyIter_enum he ?_
  obtain ⟨io, hio, _⟩ := id hit
  have hz' : h'.objs.size = h.objs.size + 2 := hz
  have L1 := L.grow hk (by rw [hz']; omega)
  have ne : ∀ q ∈ p :: l, @Nat.lt q.1 h.objs.size := fun q hq => Heap.lt_size (L.here q hq)
  have heo : ∃ eo, h'.get? (h.objs.size + 1) = some eo := ⟨_, he⟩
  obtain ⟨eo, heo⟩ := heo
  refine q (h.objs.size + 1) h.objs.size eo io h' ⟨L1.base, L1.le, fun q hq => ?_, fun q hq => ?_, ?_⟩ he hit
  · rcases List.mem_cons.mp hq with rfl | hq
    · exact heo
    rcases List.mem_cons.mp hq with rfl | hq
    · exact hio
    · exact L1.here q hq
  · rcases List.mem_cons.mp hq with rfl | hq
    · exact Nat.le_succ_of_le L.le
    rcases List.mem_cons.mp hq with rfl | hq
    · exact L.le
    · exact L1.new q hq
  · rw [List.map_cons, List.map_cons, List.nodup_cons, List.nodup_cons]
    refine ⟨fun hm => ?_, fun hm => ?_, L.nodup⟩
    · rcases List.mem_cons.mp hm with e | hm
      · exact absurd e (Nat.succ_ne_self _)
      · obtain ⟨q, hq, e⟩ := List.mem_map.mp hm
        have := ne q hq
        rw [e] at this; exact Nat.not_succ_lt_self this
    · obtain ⟨q, hq, e⟩ := List.mem_map.mp hm
      have := ne q hq
      rw [e] at this; exact Nat.lt_irrefl _ this
def lineR (ms : List (Int × Int)) : List Int := 0 :: (sortI (ms.map (·.1))).filter (fun k => decide ((look ms k).getD 0 < 65535))
def dueAt (ms : List (Int × Int)) (ln : List Int) (j : Nat) : Ent := ⟨"free", ln.getD (j + 1) 0, if ln.getD j 0 = 0 then 65535 else (look ms (ln.getD j 0)).getD 0⟩
def dueTo (ml : List (Int × Ent)) (ms : List (Int × Int)) (ln : List Int) : Nat → List (Int × Ent)
  | 0 => ml
  | j + 1 => put (dueTo ml ms ln j) (ln.getD j 0) (dueAt ms ln j)
def dueOf (ml : List (Int × Ent)) (ms : List (Int × Int)) : List (Int × Ent) := ms.foldl spentStep (dueTo ml ms (lineR ms) (lineR ms).length)
theorem dueTo_len (ml : List (Int × Ent)) (ms : List (Int × Int)) (ln : List Int) : ∀ j, (dueTo ml ms ln j).length ≤ ml.length + j
  | 0 => Nat.le_refl _
  | j + 1 => by
    have := dueTo_len ml ms ln j
    exact Nat.le_trans (put_len _ _ _) (by omega)
theorem lineR_len (ms : List (Int × Int)) : (lineR ms).length ≤ ms.length + 1 := by
  unfold lineR
  rw [List.length_cons]
  have h1 := List.length_filter_le (fun k => decide ((look ms k).getD 0 < 65535)) (sortI (ms.map (·.1)))
  have h2 := (sortI_perm (ms.map (·.1))).length_eq
  rw [List.length_map] at h2
  omega
theorem lineR_key {ms : List (Int × Int)} {k : Int} (h : k ∈ lineR ms) (h0 : k ≠ 0) : ∃ v, look ms k = some v := by
  unfold lineR at h
  rcases List.mem_cons.mp h with h | h
  · exact absurd h h0
  · exact look_mem ((sortI_perm _).mem_iff.mp (List.mem_filter.mp h).1)
theorem chain_right {w : World} {A : Around} {R : Result → Shared → Prop} {H h : Heap} {g : Array GenState} {d : Drawn} {t : Nat} {os : OsState} {l : Ledger} {p : Addr × Obj} {Fn La S : Addr} {fob lo so : Obj} {mf ml : List (Int × Ent)} {ms : List (Int × Int)}
    (G : Gd w H) (hA : Room 6 A) (L : Led H h (p :: l)) (hF : (Fn, fob) ∈ l) (hL : (La, lo) ∈ l) (hS : (S, so) ∈ l) (cF : DR w (EntR w l) fob mf) (cL : DR w (EntR w l) lo ml) (cS : DR w IsI so ms) (wF : ∀ q ∈ mf, PyData.strOk q.2.way = true) (wL : ∀ q ∈ ml, PyData.strOk q.2.way = true)
    (bF : mf.length ≤ 1000) (bL : ml.length ≤ 100) (bS : ms.length < 60)
    (q : ∀ h' t' l', Led H h' l' → R (.ok (.ret (.bool (eqE mf (dueOf ml ms))))) ⟨h', g, d, t', os⟩) :
    Cd w A (.call (.ref 480) ⟨[.ref Fn, .ref La, .ref S], []⟩) R ⟨h, g, d, t, os⟩ := by
  refine call_fn_c ["found", "laid", "spare"] ["line", "due", "at", "number"] ["found", "laid", "spare"] ["sorted", "dict", "enumerate"] [none, none, none, none] [some 0, some 1, some 2] [.ref Fn, .ref La, .ref S] G L hA.depth rfl (by kernel_rfl!) rfl (BindsTo.of_eq rfl) rfl (by decide +kernel) rfl ?_
  intro h t fo env cs V _ hck CI L N
  obtain ⟨c1, o1, c2, o2, c3, o3, rfl, ⟨C1, v1⟩, ⟨C2, v2⟩, C3, v3⟩ := cells_3 CI
  replace v1 : o1.data = .cell (some (.ref Fn)) := v1
  replace v2 : o2.data = .cell (some (.ref La)) := v2
  replace v3 : o3.data = .cell (some (.ref S)) := v3
  have R5 := hA.deeper env
  refine calm ?_
  replace L : Led H h ((env.locals, fo) :: (c1, o1) :: (c2, o2) :: (c3, o3) :: p :: l) := L
  -- line = [0] + [number for number in sorted(spare) if spare[number] < 65535]
  refine x_assign (e_bin (e_lst (a_cons (e_int fun tz t => a_nil (n_lst L (by simp) fun D1 h L => ?_)))))
  refine e_comp ["number"] [] ["spare"] (by decide +kernel) (fun z hz => by rw [List.mem_singleton.mp hz, C3.look]; rfl) (e_call (e_blt 0 G V L (b_sorted _) (cw_b rfl (a_cons (e_cell 4 V C3 L v3 (a_nil ?_))))))
  obtain ⟨iS, hiS⟩ := at_of_mem (show (S, so) ∈ (D1, lstO [.int 0 tz]) :: (c1, o1) :: (c2, o2) :: (c3, o3) :: p :: l by simp [hS])
  refine c_sorted_dict iS G R5.u L N hiS cS (by omega) fun Sd h t fo sdo ws L N cS' hW => ?_
  have hlen : (sortI (ms.map (·.1))).length = ms.length := by rw [(sortI_perm _).length_eq, List.length_map]
  refine it_list 1 L rfl cS' fun I iob h LI c0 src => ?_
  refine cb_run ["number"] [] ["spare"] 0 (fun j ex ys => ex = [] ∧ ys.length ≤ j ∧ IntsAre ys (((sortI (ms.map (·.1))).take j).filter (fun k => decide ((look ms k).getD 0 < 65535)))) V (by decide +kernel) R5.u src (by rw [hW.length]; omega) c0 LI ⟨rfl, Nat.le_refl _, .nil⟩ (fun p' hp' => by rw [List.mem_singleton.mp hp']; exact .head _) (fun j ex ys e => e.2.1) ?_ ?_
  · intro j v ex ys C' co' D dob iob h t hj hv hP V' eL eF L N'
    obtain ⟨rfl, hl, hY⟩ := hP
    rw [hW.length] at hj
    obtain ⟨u, e⟩ := ints_at hW j hj
    rw [hv] at e; cases e
    have hk := getD_at hj
    generalize (sortI (ms.map (·.1))).getD j 0 = k at hk N'
    obtain ⟨v, hkv⟩ := look_mem ((sortI_perm _).mem_iff.mp (List.mem_of_getElem? hk))
    have hS' : (S, so) ∈ (C', co') :: (D, dob) :: (I, iob) :: (env.locals, fo) :: ([] ++ (Sd, sdo) :: (D1, lstO [.int 0 tz]) :: (c1, o1) :: (c2, o2) :: (c3, o3) :: p :: l) := by simp [hS]
    obtain ⟨iS2, hiS2⟩ := at_of_mem hS'
    refine tests_one (t_cmp (e_sub (e_cell 8 V' (compE_cell rfl C3) L v3 (e_loc 0 V' L N' ?_))))
    refine r_item iS2 L hiS2 cS hkv fun t v' hv' => ?_
    obtain ⟨tv, rfl⟩ := hv'
    refine e_int fun _ _ => i_lt (t_bool ?_)
    have e1 : ((sortI (ms.map (·.1))).take (j + 1)).filter (fun k => decide ((look ms k).getD 0 < 65535)) = ((sortI (ms.map (·.1))).take j).filter (fun k => decide ((look ms k).getD 0 < 65535)) ++ if v < 65535 then [k] else [] := by
      rw [List.take_add_one, hk, List.filter_append]
      by_cases hp : v < 65535 <;> simp [hkv, hp]
    by_cases hp : v < 65535
    · rw [decide_eq_true hp, if_pos rfl]
      refine e_loc 0 V' L N' ⟨h, _, [], rfl, L, rfl, by simp; omega, ?_⟩
      rw [e1, if_pos hp]
      exact ints_snoc hY
    · rw [decide_eq_false hp, if_neg Bool.false_ne_true]
      refine ⟨h, _, rfl, L, rfl, by omega, ?_⟩
      rw [e1, if_neg hp, List.append_nil]
      exact hY
  · intro h t D2 d2 ex ys L c2' hP
    obtain ⟨rfl, hl, hY⟩ := hP
    rw [hW.length, List.take_length] at hY
    have hyl : ys.length ≤ 64 := by rw [hW.length] at hl; omega
    refine l_add 3 1 L rfl rfl LstO.mk c2' (by simp; omega) fun D3 h L => ?_
    have hLn : IntsAre ([.int 0 tz] ++ ys) (lineR ms) := .cons _ _ hY
    have cLn : LstO (lstO ([.int 0 tz] ++ ys)) ([.int 0 tz] ++ ys) := LstO.mk
    have hLl := lineR_len ms
    have hkey := fun k => lineR_key (ms := ms) (k := k)
    have edue : dueOf ml ms = ms.foldl spentStep (dueTo ml ms (lineR ms) (lineR ms).length) := rfl
    rw [edue] at q
    generalize lineR ms = ln at *
    generalize ([.int 0 tz] ++ ys : List Value) = lv at *
    refine s_loc 0 V L N fun h t fo L N => ?_
    replace L : Led H h ((env.locals, fo) :: (D3, lstO lv) :: (c1, o1) :: (c2, o2) :: (c3, o3) :: p :: l) := L.re 5 [0, 1]
    -- due = dict([...])
    refine x_assign (told_dict (m := ml) 1 G (R5.mono (by decide)) V C2 v2 L (.tail _ (.tail _ (.head _))) (show (La, lo) ∈ _ by simp [hL]) (cL.mono fun v e z => z.mono fun q hq => by simp [hq]) wL (by omega) (by decide +kernel) rfl fun h t D d1 ex L cD => ?_)
    refine s_loc 1 V L N fun h t fo L N => ?_
    replace L : Led H h ((env.locals, fo) :: (D, d1) :: (D3, lstO lv) :: (c1, o1) :: (c2, o2) :: (c3, o3) :: p :: (ex ++ l)) := L.perm (.cons _ (.cons _ (mvK 5 ex _)))
    -- for at, number in enumerate(line)
    refine x_for (e_call (e_blt 2 G V L (b_enumerate _) (cw_b rfl (a_cons (e_loc 0 V L N (a_nil ?_))))))
    refine it_enum 2 L rfl cLn fun e it eo io h L he hit => ?_
    have hlv : lv.length = ln.length := hLn.length
    have bd := dueTo_len ml ms ln
    refine for_enum 2 3 (fun j l' vals => ∃ d1 ex, vals = [some (.ref D3), some (.ref D)] ∧ l' = (D, d1) :: (D3, lstO lv) :: (c1, o1) :: (c2, o2) :: (c3, o3) :: p :: (ex ++ l) ∧ DR w (TupR ex) d1 (dueTo ml ms ln j)) V R5.u cLn L he hit (N.take 2) ⟨d1, ex, rfl, rfl, cD⟩ (fun j l' vals hJ => by obtain ⟨d1, ex, _, rfl, _⟩ := hJ; exact .tail _ (.head _)) ?_ ?_
    · intro j v tk l' vals h t fo eo io hv hJ L N
      obtain ⟨d1, ex, rfl, rfl, cD⟩ := hJ
      have hj : j < ln.length := by have := (List.getElem?_eq_some_iff.mp hv).1; omega
      obtain ⟨u, e'⟩ := ints_at hLn j hj
      rw [hv] at e'; cases e'
      have hk := getD_at hj
      have hd : dueTo ml ms ln (j + 1) = put (dueTo ml ms ln j) (ln.getD j 0) (dueAt ms ln j) := rfl
      have hkk := hkey _ (List.mem_of_getElem? hk)
      have bj := bd j
      have hda : dueAt ms ln j = ⟨"free", (ln ++ [0]).getD (j + 1) 0, if ln.getD j 0 = 0 then 65535 else (look ms (ln.getD j 0)).getD 0⟩ := by
        unfold dueAt
        have : (ln ++ [0]).getD (j + 1) 0 = ln.getD (j + 1) 0 := by
          rw [List.getD_eq_getElem?_getD, List.getD_eq_getElem?_getD, List.getElem?_append]
          split
          · rfl
          · rename_i hge
            have : j + 1 = ln.length := by omega
            rw [this]; simp
        rw [this]
      generalize ln.getD j 0 = k at *
      generalize dueTo ml ms ln j = dm at *
      generalize dueAt ms ln j = da at *
      refine x_setitem (e_tup (a_cons (e_str fun uw t => a_cons (e_sub (e_bin (e_loc 0 V L N (e_lst (a_cons (e_int fun tz2 t => a_nil (n_lst L (by simp) fun Dz h L => ?_))))))))))
      refine l_add 5 1 L rfl rfl cLn LstO.mk (by simp; omega) fun D4 h L => ?_
      have hL2 : IntsAre (lv ++ [.int 0 tz2]) (ln ++ [0]) := ints_snoc hLn
      refine e_bin (e_loc 2 V L N (e_int fun _ _ => i_add fun t1 t => ?_))
      refine l_item' 1 L rfl LstO.mk hL2 (j + 1) (by omega) (by simp; omega) (by simp; omega) fun u2 => a_cons ?_
      refine Wp.mono (Q := fun v s => ∃ t u, v = .int da.two u ∧ s = ⟨h, g, d, t, os⟩) (E := fun _ _ => False) ?_ (fun v s z => ?_) fun _ _ z => z.elim
      · refine e_ife (t_cmp (e_loc 3 V L N (e_int fun _ _ => i_eqi (t_bool (if_two (fun h0 => ?_) fun h0 => ?_)))))
        · exact e_int fun u t => ⟨t, u, by rw [hda]; dsimp only; rw [if_pos h0], rfl⟩
        · obtain ⟨v, hkv⟩ := hkk h0
          obtain ⟨iS2, hiS2⟩ := at_of_mem (show (S, so) ∈ (env.locals, fo) :: (D4, lstO (lv ++ [.int 0 tz2])) :: (Dz, lstO [.int 0 tz2]) :: (e, eo) :: (it, io) :: (D, d1) :: (D3, lstO lv) :: (c1, o1) :: (c2, o2) :: (c3, o3) :: p :: (ex ++ l) by simp [hS])
          refine e_sub (e_cell 9 V C3 L v3 (e_loc 3 V L N ?_))
          refine r_item iS2 L hiS2 cS hkv fun t v' hv' => ?_
          obtain ⟨tv, rfl⟩ := hv'
          exact ⟨t, tv, by rw [hda]; dsimp only; rw [if_neg h0, hkv]; rfl, rfl⟩
      obtain ⟨t, u3, rfl, rfl⟩ := z
      refine a_nil (n_tup L (by simp) fun T h L => ?_)
      have hw1 : da.way = ("free" : Str) := by rw [hda]
      have hw2 : da.one = (ln ++ [0]).getD (j + 1) 0 := by rw [hda]
      rw [← hw2, ← hw1] at L
      replace L : Led H h ((env.locals, fo) :: (e, eo) :: (it, io) :: (D, d1) :: (D3, lstO lv) :: (c1, o1) :: (c2, o2) :: (c3, o3) :: p :: (T, tupO [.str da.way uw, .int da.one u2, .int da.two u3]) :: (ex ++ l)) := L.re 12 [0, 4, 5, 6, 7, 8, 9, 10, 11, 1]
      refine e_loc 1 V L N (e_loc 3 V L N ?_)
      refine r_set (R := TupR ((T, tupO [.str da.way uw, .int da.one u2, .int da.two u3]) :: ex)) 3 L rfl (cD.mono fun v e z => z.mono fun q hq => .tail _ hq) (b := da) ⟨by rw [hw1]; decide +kernel, T, uw, u2, u3, rfl, .head _⟩ (by omega) fun h t d1 L cD => x_end ?_
      exact ⟨h, t, fo, _, _, rfl, L, N.take 2, d1, _ :: ex, rfl, rfl, by rw [hd]; exact cD⟩
    · intro h t fo l' vals L N hJ
      obtain ⟨d1, ex, rfl, rfl, cD⟩ := hJ
      rw [hlv] at cD
      have bn := bd ln.length
      generalize dueTo ml ms ln ln.length = dm at *
      refine x_for (e_cell 5 V C3 L v3 ?_)
      obtain ⟨jb, hjb⟩ := at_of_mem (show (S, so) ∈ (env.locals, fo) :: (D, d1) :: (D3, lstO lv) :: (c1, o1) :: (c2, o2) :: (c3, o3) :: p :: (ex ++ l) by simp [hS])
      refine r_it jb G L hjb cS fun I iob h It LI c0 src => ?_
      refine for_name 3 (fun j l' vals => vals = [some (.ref D3), some (.ref D)] ∧ ∃ d1 ex, l' = (D, d1) :: (D3, lstO lv) :: (c1, o1) :: (c2, o2) :: (c3, o3) :: p :: (ex ++ l) ∧ DR w (TupR ex) d1 ((ms.take j).foldl spentStep dm)) V R5.u src c0 LI (N.take 2) ⟨rfl, d1, ex, rfl, cD⟩ (fun j l' vals hJ p' hp' => by
        obtain ⟨_, d1, ex, rfl, _⟩ := hJ
        rw [List.mem_singleton.mp hp']; simp [hS]) ?_ ?_
      · intro j v l' vals h t fo iob hj hvv hJ L c0 N
        obtain ⟨rfl, d1, ex, rfl, cD⟩ := hJ
        obtain ⟨k, e, tk, hme, rfl⟩ := hvv
        have hk := look_at cS.nodup hme
        have lenj : ((ms.take j).foldl spentStep dm).length ≤ 1000 := by
          have h1 := fold_len spentStep (fun b a => by unfold spentStep; split; exact put_len _ _ _; omega) (ms.take j) dm
          have h4 : (ms.take j).length ≤ ms.length := by simp; omega
          omega
        obtain ⟨jb, hjb⟩ := at_of_mem (show (S, so) ∈ (env.locals, fo) :: (I, iob) :: (D, d1) :: (D3, lstO lv) :: (c1, o1) :: (c2, o2) :: (c3, o3) :: p :: (ex ++ l) by simp [hS])
        refine x_if (t_cmp (e_sub (e_cell 6 V C3 L v3 (e_loc 3 V L N ?_))))
        refine r_item jb L hjb cS hk fun t v hv' => ?_
        obtain ⟨tv, rfl⟩ := hv'
        refine e_int fun _ _ => i_ge (t_bool (if_two (fun h1 => ?_) fun h1 => ?_))
        · refine x_setitem (e_tup (a_cons (e_str fun uw t => a_cons (e_int fun uo t => a_cons (e_int fun ut t => a_nil (n_tup L (by simp) fun T h L => ?_))))))
          replace L : Led H h ((env.locals, fo) :: (I, iob) :: (D, d1) :: (D3, lstO lv) :: (c1, o1) :: (c2, o2) :: (c3, o3) :: p :: (T, tupO [.str "free" uw, .int 0 uo, .int 65535 ut]) :: (ex ++ l)) := L.re 9 [0, 2, 3, 4, 5, 6, 7, 8, 1]
          refine e_loc 1 V L N (e_loc 3 V L N ?_)
          refine r_set (R := TupR ((T, tupO [.str "free" uw, .int 0 uo, .int 65535 ut]) :: ex)) 2 L rfl (cD.mono fun v e z => z.mono fun q hq => .tail _ hq) (b := ⟨"free", 0, 65535⟩) ⟨by decide +kernel, T, uw, uo, ut, rfl, .head _⟩ (by omega) fun h t d1 L cD => x_nil (x_end ?_)
          refine ⟨h, t, fo, _, _, iob, rfl, L, c0, N.take 2, rfl, d1, _ :: ex, rfl, ?_⟩
          rw [fold_take _ _ _ j _ hme]
          unfold spentStep; rw [if_pos h1]; exact cD
        · refine x_nil (x_end ⟨h, _, fo, _, _, iob, rfl, L, c0, N.take 2, rfl, d1, ex, rfl, ?_⟩)
          rw [fold_take _ _ _ j _ hme]
          unfold spentStep; rw [if_neg h1]; exact cD
      · intro h t fo l' vals L N hJ
        obtain ⟨rfl, d1, ex, rfl, cD⟩ := hJ
        rw [List.take_length] at cD
        refine x_ret (e_cmp (told_dict (m := mf) 1 G (R5.mono (by decide)) V C1 v1 L (.tail _ (.tail _ (.head _))) (show (Fn, fob) ∈ _ by simp [hF]) (cF.mono fun v e z => z.mono fun q hq => by simp [hq]) wF (by omega) (by decide +kernel) rfl fun h t D2 d2 ex2 L cD2 => ?_))
        refine e_loc 1 V L N ?_
        obtain ⟨jd, hjd⟩ := at_of_mem (show (D, d1) ∈ (env.locals, fo) :: (D2, d2) :: (ex2 ++ (D, d1) :: (D3, lstO lv) :: (c1, o1) :: (c2, o2) :: (c3, o3) :: p :: (ex ++ l)) by simp)
        refine r_eqE 1 jd G R5 L rfl hjd (cD2.mono fun v e z => z.mono fun q hq => by simp [hq]) (cD.mono fun v e z => z.mono fun q hq => by simp [hq]) ?_
        exact q h _ _ L
end Mine
namespace Mine
set_option maxRecDepth 100000
section
variable {α : Type} {m : List (Int × α)} {k x : Int} {v : α}
theorem look_cons (p : Int × α) (r : List (Int × α)) (x : Int) : look (p :: r) x = if p.1 = x then some p.2 else look r x := by
  unfold look
  rw [List.find?_cons]
  by_cases h : p.1 = x <;> simp [h]
theorem look_app (a b : List (Int × α)) (x : Int) : look (a ++ b) x = (look a x).or (look b x) := by
  induction a with
  | nil => rfl
  | cons p r ih =>
    rw [List.cons_append, look_cons, look_cons, ih]
    by_cases h : p.1 = x <;> simp [h]
theorem look_none_iff : look m x = none ↔ x ∉ m.map (·.1) := by
  have h := look_some_mem (m := m) (k := x)
  cases e : look m x with
  | none => rw [e] at h; simp at h; simp; exact h
  | some a => rw [e] at h; simp at h; simp; exact h
theorem look_map (m : List (Int × α)) (k x : Int) (v : α) : look (m.map fun p => if p.1 = k then (p.1, v) else p) x = if x = k then (look m x).map (fun _ => v) else look m x := by
  induction m with
  | nil => by_cases h : x = k <;> simp [look, h]
  | cons p r ih =>
    rw [List.map_cons, look_cons, look_cons, ih]
    by_cases h1 : p.1 = k
    · by_cases h2 : p.1 = x
      · have : x = k := by omega
        simp [h1, this]
      · by_cases h3 : x = k
        · omega
        · have h4 : ¬ k = x := fun e => h3 e.symm
          simp [h1, h3, h4]
    · by_cases h2 : p.1 = x
      · have : ¬ x = k := by omega
        simp [h1, h2, this]
      · simp [h1, h2]
theorem look_put (m : List (Int × α)) (k x : Int) (v : α) : look (put m k v) x = if x = k then some v else look m x := by
  unfold put
  split
  · rename_i h
    rw [look_map]
    by_cases e : x = k
    · subst e
      obtain ⟨p, hp, e⟩ := List.any_eq_true.mp h
      have hx : x ∈ m.map (·.1) := List.mem_map.mpr ⟨p, hp, by simpa using e⟩
      obtain ⟨a, ha⟩ := look_mem hx
      simp [ha]
    · simp [e]
  · rename_i h
    rw [look_app, look_cons]
    by_cases e : x = k
    · subst e
      have : look m x = none := by
        rw [look_none_iff]
        intro hm
        obtain ⟨p, hp, e⟩ := List.mem_map.mp hm
        exact h (List.any_eq_true.mpr ⟨p, hp, by simpa using e⟩)
      simp [this]
    · have : ¬ k = x := fun h => e h.symm
      simp [e, this, look]
theorem look_del (m : List (Int × α)) (k x : Int) : look (del m k) x = if x = k then none else look m x := by
  unfold del
  induction m with
  | nil => by_cases h : x = k <;> simp [look, h]
  | cons p r ih =>
    rw [List.filter_cons]
    by_cases h1 : p.1 = k
    · have : decide (p.1 ≠ k) = false := by simp [h1]
      rw [this]
      simp only [Bool.false_eq_true, if_false]
      rw [ih, look_cons]
      by_cases e : x = k
      · simp [e]
      · have : ¬ p.1 = x := by omega
        simp [e, this]
    · have : decide (p.1 ≠ k) = true := by simp [h1]
      rw [this]
      simp only [if_true]
      rw [look_cons, look_cons, ih]
      by_cases e2 : p.1 = x
      · have : ¬ x = k := by omega
        simp [e2, this]
      · simp [e2]
theorem del_keys (m : List (Int × α)) (k x : Int) : x ∈ (del m k).map (·.1) ↔ x ∈ m.map (·.1) ∧ x ≠ k := by
  rw [← look_some_mem, ← look_some_mem, look_del]
  by_cases e : x = k <;> simp [e]
theorem put_nodup (h : (m.map (·.1)).Nodup) (k : Int) (v : α) : ((put m k v).map (·.1)).Nodup := by
  unfold put
  split
  · have e1 : (m.map fun p => if p.1 = k then (p.1, v) else p).map (·.1) = m.map (·.1) := by
      rw [List.map_map]
      refine List.map_congr_left fun q _ => ?_
      show (if q.1 = k then (q.1, v) else q).1 = q.1
      split <;> rfl
    rw [e1]; exact h
  · rename_i hn
    rw [List.map_append, List.nodup_append]
    refine ⟨h, by simp, fun a ha b hb e => ?_⟩
    simp at hb; subst hb; subst e
    obtain ⟨p, hp, e⟩ := List.mem_map.mp ha
    exact hn (List.any_eq_true.mpr ⟨p, hp, by simpa using e⟩)
end
theorem fillS_keys (ms : List (Int × Int)) (s x : Int) : ∀ n : Nat, x ∈ (fillS ms s n).map (·.1) ↔ x ∈ ms.map (·.1) ∨ (s ≤ x ∧ x < s + n)
  | 0 => by
    show x ∈ ms.map (·.1) ↔ _
    constructor
    · exact .inl
    · rintro (h | h)
      · exact h
      · omega
  | n + 1 => by
    unfold fillS
    rw [put_keys, fillS_keys ms s x n]
    constructor
    · rintro (h | h | h)
      · right; omega
      · exact .inl h
      · right; omega
    · rintro (h | h)
      · exact .inr (.inl h)
      · by_cases e : x = s + n
        · exact .inl e
        · right; right; omega
theorem len_upto : ∀ (n : Nat) (ks : List Int), ks.Nodup → (∀ k ∈ ks, 1 ≤ k ∧ k ≤ n) → ks.length ≤ n
  | 0, ks, _, h => by
    cases ks with
    | nil => exact Nat.le_refl _
    | cons k r => have := h k (.head _); omega
  | n + 1, ks, hn, h => by
    have ih := len_upto n (ks.erase ((n : Int) + 1)) (hn.erase _) (fun k hk => by
      have h1 := h k (List.mem_of_mem_erase hk)
      have h2 : k ≠ (n : Int) + 1 := fun e => by rw [e] at hk; exact (hn.not_mem_erase) hk
      omega)
    have := List.length_erase (a := ((n : Int) + 1)) (l := ks)
    split at this <;> omega
/-- n ints, each once, within 1 .. s - 1 -/
theorem len_keys {ks : List Int} {s : Int} (hn : ks.Nodup) (h : ∀ k ∈ ks, 1 ≤ k ∧ k < s) : ks.length ≤ (s - 1).toNat :=
  len_upto _ ks hn fun k hk => by have := h k hk; omega
def keyIn {α : Type} (m : List (Int × α)) (s : Int) : Prop := ∀ k ∈ m.map (·.1), 1 ≤ k ∧ k < s
theorem keyIn.len {α : Type} {m : List (Int × α)} {s : Int} (h : keyIn m s) (hn : (m.map (·.1)).Nodup) : m.length ≤ (s - 1).toNat := by
  have := len_keys hn h
  simpa using this
theorem keyIn.off {α : Type} {m : List (Int × α)} {s k : Int} (h : keyIn m s) (hk : s ≤ k) : look m k = none := by
  rw [look_none_iff]
  intro hm
  have := h k hm
  omega
/-- what both sides hold, told once -/
structure Bk where
  (mu ms : List (Int × Int)) (mo : List (Int × Int × Int)) (mf : List (Int × Unit)) (sz : Int)
structure Inv (fs : Int) (j : Nat) (b : Bk) : Prop where
  ku : keyIn b.mu b.sz
  ks : keyIn b.ms b.sz
  ko : keyIn b.mo b.sz
  kf : keyIn b.mf b.sz
  s1 : 1 ≤ b.sz
  s8 : b.sz ≤ 8 + j
  f2 : fs ≤ b.sz
  f1 : 1 ≤ fs
  top : b.sz = fs ∨ (b.sz - 1) ∈ b.mu.map (·.1) ∨ (b.sz - 1) ∈ b.ms.map (·.1)
theorem Inv.size {fs : Int} {j : Nat} {b : Bk} (I : Inv fs j b) : sizeOf fs b.mu b.ms = b.sz := by
  unfold sizeOf
  refine (maxI_uniq ?_ ?_).symm
  · rcases I.top with h | h | h
    · rw [h]; exact .head _
    · refine .tail _ (List.mem_append_left _ ?_)
      obtain ⟨p, hp, e⟩ := List.mem_map.mp h
      exact List.mem_map.mpr ⟨p, hp, by omega⟩
    · refine .tail _ (List.mem_append_right _ ?_)
      obtain ⟨p, hp, e⟩ := List.mem_map.mp h
      exact List.mem_map.mpr ⟨p, hp, by omega⟩
  · intro y hy
    rcases List.mem_cons.mp hy with rfl | hy
    · exact I.f2
    rcases List.mem_append.mp hy with hy | hy
    · obtain ⟨p, hp, e⟩ := List.mem_map.mp hy
      have := I.ku p.1 (List.mem_map.mpr ⟨p, hp, rfl⟩)
      omega
    · obtain ⟨p, hp, e⟩ := List.mem_map.mp hy
      have := I.ks p.1 (List.mem_map.mpr ⟨p, hp, rfl⟩)
      omega
theorem Inv.next {fs : Int} {j : Nat} {b : Bk} (I : Inv fs j b) : Inv fs (j + 1) b := { I with s8 := by have := I.s8; omega }
def Bk.freed (b : Bk) (num gn : Int) : Bk := ⟨del b.mu num, put b.ms num (gn + 1), del b.mo num, put b.mf num (), b.sz⟩
def Bk.laid (b : Bk) (num gen turn : Int) : Bk := ⟨put b.mu num gen, del (fillS b.ms b.sz (num - b.sz).toNat) num, put b.mo num (gen, turn), del b.mf num, max b.sz (num + 1)⟩
theorem Inv.freed {fs : Int} {j : Nat} {b : Bk} (I : Inv fs j b) {num gn : Int} (h : look b.mu num = some gn) : Inv fs (j + 1) (b.freed num gn) := by
  have hm : num ∈ b.mu.map (·.1) := look_some_mem.mp (by rw [h]; rfl)
  have hk := I.ku num hm
  have s8 := I.s8
  refine ⟨fun k hk => I.ku k ((del_keys _ _ _).mp hk).1, fun k hk' => ?_, fun k hk => I.ko k ((del_keys _ _ _).mp hk).1, fun k hk' => ?_, I.s1, by show b.sz ≤ _; omega, I.f2, I.f1, ?_⟩
  · rcases (put_keys k).mp hk' with rfl | h
    · exact hk
    · exact I.ks k h
  · rcases (put_keys k).mp hk' with rfl | h
    · exact hk
    · exact I.kf k h
  · rcases I.top with h | h | h
    · exact .inl h
    · by_cases e : b.sz - 1 = num
      · right; right; exact (put_keys _).mpr (.inl e)
      · right; left; exact (del_keys _ _ _).mpr ⟨h, e⟩
    · right; right; exact (put_keys _).mpr (.inr h)
theorem Inv.laid {fs : Int} {j : Nat} {b : Bk} (I : Inv fs j b) {num gen turn : Int} (h1 : 1 ≤ num) (h2 : num ≤ 7 ∨ num ≤ b.sz) : Inv fs (j + 1) (b.laid num gen turn) := by
  have s8 := I.s8
  have s1 := I.s1
  have fs1 := I.f2
  refine ⟨fun k hk' => ?_, fun k hk' => ?_, fun k hk' => ?_, fun k hk' => ?_, by show 1 ≤ max _ _; omega, by show max _ _ ≤ (_ : Int); omega, by show _ ≤ max _ _; omega, I.f1, ?_⟩
  · show 1 ≤ k ∧ k < max b.sz (num + 1)
    rcases (put_keys k).mp hk' with rfl | h
    · omega
    · have := I.ku k h; omega
  · show 1 ≤ k ∧ k < max b.sz (num + 1)
    obtain ⟨hk', ne⟩ := (del_keys _ _ _).mp hk'
    rcases (fillS_keys _ _ _ _).mp hk' with h | h
    · have := I.ks k h; omega
    · omega
  · show 1 ≤ k ∧ k < max b.sz (num + 1)
    rcases (put_keys k).mp hk' with rfl | h
    · omega
    · have := I.ko k h; omega
  · show 1 ≤ k ∧ k < max b.sz (num + 1)
    have := I.kf k ((del_keys _ _ _).mp hk').1
    omega
  · show max b.sz (num + 1) = fs ∨ (max b.sz (num + 1) - 1) ∈ (put b.mu num gen).map (·.1) ∨ (max b.sz (num + 1) - 1) ∈ (del (fillS b.ms b.sz (num - b.sz).toNat) num).map (·.1)
    by_cases e : b.sz ≤ num + 1
    · right; left
      refine (put_keys _).mpr (.inl ?_)
      omega
    · have em : max b.sz (num + 1) = b.sz := by omega
      rw [em]
      rcases I.top with h | h | h
      · exact .inl h
      · right; left; exact (put_keys _).mpr (.inr h)
      · right; right
        exact (del_keys _ _ _).mpr ⟨(fillS_keys _ _ _ _).mpr (.inl h), by omega⟩
theorem least_nat {p : Nat → Bool} : ∀ n : Nat, p n = true → ∃ m : Nat, m ≤ n ∧ p m = true ∧ ∀ j : Nat, j < m → p j = false := by
  intro n
  induction n using Nat.strongRecOn with
  | _ n ih =>
    intro h
    by_cases e : ∃ j : Nat, j < n ∧ p j = true
    · obtain ⟨j, hj, hp⟩ := e
      obtain ⟨m, a, b, c⟩ := ih j hj hp
      exact ⟨m, by omega, b, c⟩
    · refine ⟨n, Nat.le_refl _, h, fun j hj => ?_⟩
      cases q : p j with
      | false => rfl
      | true => exact absurd ⟨j, hj, q⟩ e
/-- the least good number -/
theorem least_good {mu ms : List (Int × Int)} {s : Int} (h1 : 1 ≤ s) (h2 : s ≤ 29) (ku : keyIn mu s) (ks : keyIn ms s) : ∃ N₀ : Nat, (goodTo mu ms 29).getD 0 0 = (N₀ : Int) + 1 ∧ (N₀ : Int) + 1 ≤ s ∧ goodTo mu ms 29 ≠ [] ∧
    (∀ j : Nat, j < N₀ → (look mu (j + 1)).isSome = true ∨ 65535 ≤ (look ms (j + 1)).getD 0) ∧ ¬ ((look mu (N₀ + 1)).isSome = true ∨ 65535 ≤ (look ms (N₀ + 1)).getD 0) := by
  have hgood : goodK mu ms s = true := by
    unfold goodK
    rw [ku.off (Int.le_refl _), ks.off (Int.le_refl _)]; rfl
  obtain ⟨N₀, hN, hp, hno⟩ := least_nat (p := fun n => goodK mu ms ((n : Int) + 1)) (s - 1).toNat (by rw [show (((s - 1).toNat : Int) + 1) = s by omega]; exact hgood)
  have h0 : goodTo mu ms N₀ = [] := by
    unfold goodTo
    refine List.filter_eq_nil_iff.mpr fun k hk => ?_
    obtain ⟨i, hi, rfl⟩ := List.mem_map.mp hk
    have := hno i (List.mem_range.mp hi)
    rw [show (1 : Int) + i = i + 1 by omega, this]
    exact Bool.false_ne_true
  have key : ∀ d : Nat, (goodTo mu ms (N₀ + 1 + d))[0]? = some ((N₀ : Int) + 1) := by
    intro d
    induction d with
    | zero =>
      show (goodTo mu ms (N₀ + 1))[0]? = _
      rw [goodTo_succ, h0, show (1 : Int) + N₀ = N₀ + 1 by omega, if_pos hp]; rfl
    | succ d ih =>
      show (goodTo mu ms (N₀ + 1 + d + 1))[0]? = _
      rw [goodTo_succ, List.getElem?_append_left (List.getElem?_eq_some_iff.mp ih).1]
      exact ih
  have k29 := key (29 - (N₀ + 1))
  rw [show N₀ + 1 + (29 - (N₀ + 1)) = 29 by omega] at k29
  refine ⟨N₀, ?_, by omega, ?_, fun j hj => ?_, ?_⟩
  · rw [List.getD_eq_getElem?_getD, k29]; rfl
  · intro e; rw [e] at k29; cases k29
  · have := hno j hj
    unfold goodK at this
    cases h : (look mu ((j : Int) + 1)).isSome with
    | true => exact .inl rfl
    | false => rw [h] at this; simp at this; exact .inr this
  · skip
    unfold goodK at hp
    rintro (h | h)
    · rw [h] at hp; simp at hp
    · simp at hp; omega
end Mine
namespace Mine
set_option maxRecDepth 100000
section
variable {α : Type} {m : List (Int × α)}
theorem look_of_mem (hn : (m.map (·.1)).Nodup) {p : Int × α} (h : p ∈ m) : look m p.1 = some p.2 := by
  obtain ⟨j, hj⟩ := List.getElem?_of_mem h
  exact look_at hn hj
theorem mem_of_look {k : Int} {v : α} (h : look m k = some v) : (k, v) ∈ m := by
  unfold look at h
  cases e : m.find? (fun p => p.1 = k) with
  | none => rw [e] at h; cases h
  | some p =>
    rw [e] at h
    have h1 := List.mem_of_find?_eq_some e
    have h2 := List.find?_some e
    simp at h h2
    obtain ⟨a, b⟩ := p
    simp at h h2
    subst h; subst h2
    exact h1
theorem look_ext_len {a b : List (Int × α)} (ha : (a.map (·.1)).Nodup) (hb : (b.map (·.1)).Nodup) (h : ∀ x, look a x = look b x) : a.length = b.length := by
  have : (a.map (·.1)).Perm (b.map (·.1)) := (List.perm_ext_iff_of_nodup ha hb).mpr fun x => by rw [← look_some_mem, ← look_some_mem, h]
  simpa using this.length_eq
end
theorem eqI_refl {m : List (Int × Int)} (hn : (m.map (·.1)).Nodup) : eqI m m = true := by
  have key : ∀ r : List (Int × Int), (∀ p ∈ r, p ∈ m) → hitI r m = true := by
    intro r
    induction r with
    | nil => intro _; rfl
    | cons p r ih =>
      intro h
      unfold hitI
      rw [look_of_mem hn (h p (.head _))]
      simp [ih fun q hq => h q (.tail _ hq)]
  unfold eqI
  rw [key m fun p hp => hp]; simp
theorem sameE_refl (a : Ent) : sameE a a = true := by simp [sameE]
theorem eqE_of {a b : List (Int × Ent)} (ha : (a.map (·.1)).Nodup) (hb : (b.map (·.1)).Nodup) (h : ∀ x, look a x = look b x) : eqE a b = true := by
  have key : ∀ r : List (Int × Ent), (∀ p ∈ r, p ∈ a) → hitE r b = true := by
    intro r
    induction r with
    | nil => intro _; rfl
    | cons p r ih =>
      intro hr
      unfold hitE
      rw [← h, look_of_mem ha (hr p (.head _))]
      simp [ih fun q hq => hr q (.tail _ hq), sameE_refl]
  unfold eqE
  rw [key a fun p hp => hp, look_ext_len ha hb h]; simp
theorem line_eq {ms : List (Int × Int)} (hn : (ms.map (·.1)).Nodup) (hk : ∀ k : Int, k ∈ ms.map (·.1) → 1 ≤ k) : lineOf (liveKeys ms) = lineR ms := by
  unfold lineOf lineR
  congr 1
  have e1 : liveKeys ms = (ms.map (·.1)).filter (fun k => decide ((look ms k).getD 0 < 65535)) := by
    unfold liveKeys
    rw [List.filter_map]
    congr 1
    refine List.filter_congr fun p hp => ?_
    show decide (p.2 < 65535) = decide ((look ms p.1).getD 0 < 65535)
    rw [look_of_mem hn hp]; rfl
  have e2 : (sortI (liveKeys ms)).filter (fun k => decide (0 < k)) = sortI (liveKeys ms) := by
    refine List.filter_eq_self.mpr fun k hk' => ?_
    have h1 : k ∈ liveKeys ms := (sortI_perm _).mem_iff.mp hk'
    rw [e1] at h1
    have := hk k (List.mem_filter.mp h1).1
    simp; omega
  rw [e2]
  refine (sortI_eq ?_ ?_).symm
  · rw [e1]; exact (sortI_perm _).filter _
  · exact (sortI_sorted _).sublist List.filter_sublist
theorem lineR_get {ms : List (Int × Int)} (hk : ∀ k : Int, k ∈ ms.map (·.1) → 1 ≤ k) {j : Nat} (hj : j < (lineR ms).length) : (lineR ms).getD j 0 = 0 ↔ j = 0 := by
  cases j with
  | zero => simp [lineR]
  | succ j =>
    have h := getD_at hj
    unfold lineR at h
    rw [List.getElem?_cons_succ] at h
    have h1 := (List.mem_filter.mp (List.mem_of_getElem? h)).1
    have h2 := hk _ ((sortI_perm _).mem_iff.mp h1)
    unfold lineR
    constructor
    · intro e; rw [e] at h2; omega
    · intro e; cases e
theorem chain_due {ms : List (Int × Int)} {ml : List (Int × Ent)} (hk : ∀ k : Int, k ∈ ms.map (·.1) → 1 ≤ k) (x : Int) : ∀ j : Nat, j ≤ (lineR ms).length → look (dueTo ml ms (lineR ms) j) x = (look (chainTo ms (lineR ms) j) x).or (look ml x)
  | 0, _ => by simp [dueTo, chainTo, look]
  | j + 1, hj => by
    have ih := chain_due (ml := ml) hk x j (by omega)
    have e : chainAt ms (lineR ms) j = dueAt ms (lineR ms) j := by
      unfold chainAt dueAt
      by_cases h : j = 0
      · rw [if_pos h, if_pos ((lineR_get hk (by omega)).mpr h)]
      · rw [if_neg h, if_neg fun q => h ((lineR_get hk (by omega)).mp q)]
    unfold dueTo chainTo
    rw [look_put, look_put, ih, e]
    by_cases h : x = (lineR ms).getD j 0
    · rw [if_pos h, if_pos h]; rfl
    · rw [if_neg h, if_neg h]
theorem spent_due {ml : List (Int × Ent)} (x : Int) : ∀ (ms : List (Int × Int)) (f g : List (Int × Ent)), look g x = (look f x).or (look ml x) → look (ms.foldl spentStep g) x = (look (ms.foldl spentStep f) x).or (look ml x)
  | [], f, g, h => h
  | p :: r, f, g, h => by
    rw [List.foldl_cons, List.foldl_cons]
    refine spent_due x r _ _ ?_
    unfold spentStep
    split
    · rw [look_put, look_put, h]
      by_cases e : x = p.1
      · rw [if_pos e, if_pos e]; rfl
      · rw [if_neg e, if_neg e]
    · exact h
theorem merge_look (x : Int) : ∀ (mf ml : List (Int × Ent)), (mf.map (·.1)).Nodup → look (mergeE ml mf) x = (look mf x).or (look ml x)
  | [], ml, _ => by simp [mergeE, look]
  | p :: r, ml, hn => by
    rw [List.map_cons, List.nodup_cons] at hn
    have ih := merge_look x r (put ml p.1 p.2) hn.2
    show look (mergeE (put ml p.1 p.2) r) x = _
    rw [ih, look_put, look_cons]
    by_cases e : x = p.1
    · have e2 : look r x = none := by rw [look_none_iff, e]; exact hn.1
      rw [e2, if_pos e, if_pos e.symm]; rfl
    · rw [if_neg e, if_neg fun q => e q.symm]
theorem spent_nodup : ∀ (ms : List (Int × Int)) (f : List (Int × Ent)), (f.map (·.1)).Nodup → ((ms.foldl spentStep f).map (·.1)).Nodup
  | [], f, h => h
  | p :: r, f, h => by
    rw [List.foldl_cons]
    refine spent_nodup r _ ?_
    unfold spentStep
    split
    · exact put_nodup h _ _
    · exact h
theorem chain_nodup (ms : List (Int × Int)) (ln : List Int) : ∀ j, ((chainTo ms ln j).map (·.1)).Nodup
  | 0 => List.nodup_nil
  | j + 1 => put_nodup (chain_nodup ms ln j) _ _
theorem due_nodup {ml : List (Int × Ent)} (hn : (ml.map (·.1)).Nodup) (ms : List (Int × Int)) (ln : List Int) : ∀ j, ((dueTo ml ms ln j).map (·.1)).Nodup
  | 0 => hn
  | j + 1 => put_nodup (due_nodup hn ms ln j) _ _
theorem merge_nodup : ∀ (mf ml : List (Int × Ent)), (ml.map (·.1)).Nodup → ((mergeE ml mf).map (·.1)).Nodup
  | [], ml, h => h
  | p :: r, ml, h => merge_nodup r (put ml p.1 p.2) (put_nodup h _ _)
/-- the new entries are those that are due -/
theorem found_due {ml : List (Int × Ent)} {ms mw : List (Int × Int)} (hm : (ml.map (·.1)).Nodup) (hn : (ms.map (·.1)).Nodup) (hk : ∀ k : Int, k ∈ ms.map (·.1) → 1 ≤ k) (hw : eqI ms mw = false) : eqE (newEnts ml ms mw) (dueOf ml ms) = true := by
  unfold newEnts
  rw [if_neg (by rw [hw]; decide)]
  have hf : ((freeOf ms).map (·.1)).Nodup := spent_nodup _ _ (chain_nodup _ _ _)
  refine eqE_of (merge_nodup _ _ hm) (spent_nodup _ _ (due_nodup hm _ _ _)) fun x => ?_
  rw [merge_look x _ _ hf]
  unfold freeOf dueOf
  rw [line_eq hn hk]
  exact (spent_due x ms _ _ (chain_due hk x _ (Nat.le_refl _))).symm
theorem found_same {ml : List (Int × Ent)} {ms mw : List (Int × Int)} (hm : (ml.map (·.1)).Nodup) (hw : eqI ms mw = true) : eqE (newEnts ml ms mw) ml = true := by
  unfold newEnts
  rw [if_pos hw]
  exact eqE_of hm hm fun x => rfl
/-- every way of the new entries can be laid -/
theorem put_all {α : Type} {P : α → Prop} {m : List (Int × α)} (h : ∀ q ∈ m, P q.2) {k : Int} {v : α} (hv : P v) : ∀ q ∈ put m k v, P q.2 := by
  intro q hq
  unfold put at hq
  split at hq
  · obtain ⟨p, hp, e⟩ := List.mem_map.mp hq
    split at e
    · subst e; exact hv
    · subst e; exact h _ hp
  · rcases List.mem_append.mp hq with hq | hq
    · exact h q hq
    · rw [List.mem_singleton.mp hq]; exact hv
theorem new_ok {ml : List (Int × Ent)} {ms mw : List (Int × Int)} (h : ∀ q ∈ ml, PyData.strOk q.2.way = true) : ∀ q ∈ newEnts ml ms mw, PyData.strOk q.2.way = true := by
  have hfree : PyData.strOk ("free" : Str) = true := by decide +kernel
  have h1 : ∀ (ln : List Int) (j : Nat), ∀ q ∈ chainTo ms ln j, PyData.strOk q.2.way = true := by
    intro ln j
    induction j with
    | zero => intro q hq; cases hq
    | succ j ih => exact put_all (P := fun e : Ent => PyData.strOk e.way = true) ih hfree
  have h2 : ∀ (r : List (Int × Int)) (f : List (Int × Ent)), (∀ q ∈ f, PyData.strOk q.2.way = true) → ∀ q ∈ r.foldl spentStep f, PyData.strOk q.2.way = true := by
    intro r
    induction r with
    | nil => intro f hf; exact hf
    | cons p r ih =>
      intro f hf
      rw [List.foldl_cons]
      refine ih _ ?_
      unfold spentStep
      split
      · exact put_all (P := fun e : Ent => PyData.strOk e.way = true) hf hfree
      · exact hf
  have h3 : ∀ (r f : List (Int × Ent)), (∀ q ∈ r, PyData.strOk q.2.way = true) → (∀ q ∈ f, PyData.strOk q.2.way = true) → ∀ q ∈ mergeE f r, PyData.strOk q.2.way = true := by
    intro r
    induction r with
    | nil => intro f _ hf; exact hf
    | cons p r ih => intro f hr hf; exact ih _ (fun q hq => hr q (.tail _ hq)) (put_all (P := fun e : Ent => PyData.strOk e.way = true) hf (hr p (.head _)))
  unfold newEnts
  split
  · exact h
  · exact h3 _ _ (h2 _ _ (h1 _ _)) h
/-- the beginning -/
theorem book_keys (m : List (Int × Ent)) : ∀ (j : Nat) (x : Int), (x ∈ (bookTo m j).1.map (·.1) ∨ x ∈ (bookTo m j).2.1.map (·.1)) → 1 ≤ x ∧ x ≤ j
  | 0, x, h => by simp [bookTo] at h
  | j + 1, x, h => by
    have ih := book_keys m j x
    unfold bookTo bookStep at h
    split at h
    · rcases h with h | h
      · have := ih (.inl h); omega
      · rcases (put_keys x).mp h with e | h
        · omega
        · have := ih (.inr h); omega
    · rcases h with h | h
      · rcases (put_keys x).mp h with e | h
        · omega
        · have := ih (.inl h); omega
      · have := ih (.inr h); omega
theorem hold_eq {m : List (Int × Ent)} {N : Nat} (hn : (m.map (·.1)).Nodup) (hk : ∀ k : Int, k ∈ m.map (·.1) → 0 ≤ k ∧ k ≤ (N : Int)) (h0 : ∀ e, look m 0 = some e → e.way = ("free" : Str)) (x : Int) : (look (holdersOf m) x).isSome = true ↔ x ∈ (bookTo m N).2.2 := by
  rw [holders_mem, book_holders]
  have hfp : ("free" : Str) ≠ ("packed" : Str) := by decide +kernel
  constructor
  · rintro ⟨p, hp, h1, h2⟩
    have hl := look_of_mem hn hp
    have hb := hk p.1 (List.mem_map.mpr ⟨p, hp, rfl⟩)
    have hp0 : p.1 ≠ 0 := fun e => by
      rw [e] at hl
      have := h0 _ hl
      rw [h1] at this; exact hfp this.symm
    refine ⟨(p.1 - 1).toNat, by omega, ?_⟩
    rw [show (((p.1 - 1).toNat : Int) + 1) = p.1 by omega]
    unfold bookEnt
    rw [hl]; exact ⟨h1, h2⟩
  · rintro ⟨n, hn', h1, h2⟩
    unfold bookEnt at h1 h2
    cases hl : look m ((n : Int) + 1) with
    | none => rw [hl] at h1; exact absurd h1 hfp
    | some e => rw [hl] at h1 h2; exact ⟨_, mem_of_look hl, h1, h2⟩
theorem entAll_zero (D : Nat → Int → Int) (k : Nat) : ∀ e, look (entAll D k).1 0 = some e → e.way = ("free" : Str) := by
  intro e h
  have hz : look (entTo D (k + 1) (entSize D k - 1).toNat).1 0 = none := by
    rw [look_none_iff]
    intro hm
    have := entTo_keys D (k + 1) _ 0 hm
    omega
  unfold entAll at h
  dsimp only at h
  split at h
  · rw [look_put, if_pos rfl] at h
    cases h; rfl
  · rw [hz] at h; cases h
end Mine
namespace Mine
set_option maxRecDepth 100000
section
variable {w : World} {A : Around} {E : Value → Shared → Prop} {H h : Heap} {g : Array GenState} {d : Drawn} {t : Nat} {os : OsState} {env : Env} {l : Ledger} {Lf a : Addr} {fo o : Obj} {names : List Str} {vals : List (Option Value)} {vs : List Value} {ns : List Int} {p : Addr × Obj} {x : Str} {px sp cp : Pos} {kk : Nat}
/-- xs[:60], the list of the base heap -/
theorem l_upto60 {Q : Value → Shared → Prop} (L : Led H h ((Lf, fo) :: l)) (N : Loc fo names vals) (hp : p ∈ l) (hS : H.IsList a vs.toArray) (hI : IntsAre vs ns) (hz : vs.length ≤ 1000)
    (q : ∀ D h' t' fo' ws, Led H h' ((Lf, fo') :: (D, lstO ws) :: l) → Loc fo' names vals → IntsAre ws (ns.take 60) → Q (.ref D) ⟨h', g, d, t', os⟩) :
    Wp w A (eval (.Slice none (some (.Constant (.int 60) kk cp)) none sp) env) (fun i s => Wp w A (subscriptTail (.Name x px) (.Slice none (some (.Constant (.int 60) kk cp)) none sp) (.ref a) i) Q E s) E ⟨h, g, d, t, os⟩ := by
  delta Wp
  obtain ⟨m, n, hm⟩ := N
  refine wpAny_Slice ?_
  refine wpAny_pure (wpAny_Constant_int (k := kk) (pos := cp) (wpAny_pure ?_))
  have hl : h.IsList a vs.toArray := hS.at fun o e => L.base _ _ e
  refine slice_list (s := ⟨h, g, d, _, os⟩) (L.fr n) L.news hl .none (.int 60 _) (fun h' F' N' => ?_) (hsz := by rw [List.size_toArray, sizeLine_eq]; omega)
  obtain ⟨fo', L', n'⟩ := back (l' := l) L F' N' (fun q hq => Nat.lt_succ_of_lt (Heap.lt_size (L.here q (.tail _ hq)))) _ hp
  have e := slice_ints_uptoW hI (y := 60) (by decide)
  refine q _ h' _ fo' (slicePick vs.toArray none (some 60) none).toList ?_ ⟨m, n', hm⟩ e
  rw [show lstO (slicePick vs.toArray none (some 60) none).toList = { cls := .type "list", data := .seq (slicePick vs.toArray none (some 60) none) } by simp]
  exact L'
theorem c_sum {Q : Value → Shared → Prop} (i : Nat) (hh : A.handled = none) (L : Led H h ((Lf, fo) :: l)) (N : Loc fo names vals) (hi : l[i]? = some (a, o)) (c : LstO o vs) (hI : IntsAre vs ns)
    (q : ∀ h' t' fo' tk, Led H h' ((Lf, fo') :: l) → Loc fo' names vals → Q (.int ns.sum tk) ⟨h', g, d, t', os⟩) : Wp w A (call (.builtin "sum") [.ref a]) Q E ⟨h, g, d, t, os⟩ := by
  delta Wp
  obtain ⟨m, n, hm⟩ := N
  refine LSm.sum_ints (s := ⟨h, g, d, t, os⟩) (L.fr n) L.news hh (c.at (i := i) L.tail hi) hI fun h' tk t' F' N' => ?_
  obtain ⟨fo', L', n'⟩ := Led.of F' N' L.tail.nodup fun p hp => L.new p (.tail _ hp)
  exact q h' tk fo' t' L' ⟨m, n', hm⟩
end
end Mine
namespace Mine
set_option maxRecDepth 100000
def lawB : List Stmt := fnB (topS pw 35)
def forB : Stmt → List Stmt
  | .For _ _ body _ _ => body
  | _ => []
abbrev lawN : List Str := ["script", "cells", "pen", "entries", "size", "is_touched", "turn", "act", "number", "due"]
abbrev lawG : List Str := ["sum", "_law_entries", "Changes", "_law_book", "range", "_law_draw", "_law_act", "_law_done", "sorted", "_law_told_reference", "dict", "_law_chain_right"]
/-- what stays in the law -/
structure Fx where
  (c1 c2 c3 c4 p cl B Hd F : Addr) (o1 o2 o3 o4 oc ho fo2 wo hh : Obj) (c : Cha)
/-- what changes -/
structure Vr where
  (op bo uo so lo ku ks oo ro : Obj) (U S La : Addr) (ts : Tok) (ex : Ledger)
noncomputable abbrev LW (w : World) (f : Fx) (v : Vr) : Ledger := (f.c1, f.o1) :: (f.c2, f.o2) :: (f.c3, f.o3) :: (f.c4, f.o4) :: (f.p, v.op) :: (f.cl, f.oc) :: bkL f.B v.bo v.U v.uo v.S v.so f.Hd f.ho v.La v.lo f.F f.fo2 (chL w f.c v.ku v.ks f.wo f.hh v.oo v.ro v.ex)
structure FxOk (w : World) (env : Env) (f : Fx) (hs : List Int) (mh : List (Int × Unit)) (mw : List (Int × Int)) : Prop where
  C1 : CellOk env "changes" f.c1
  v1 : f.o1.data = .cell (some (.ref f.c.x))
  C2 : CellOk env "book" f.c2
  v2 : f.o2.data = .cell (some (.ref f.B))
  C3 : CellOk env "laid" f.c3
  v3 : f.o3.data = .cell none
  C4 : CellOk env "found" f.c4
  v4 : f.o4.data = .cell none
  cH : ∃ hv, LstO f.ho hv ∧ IntsAre hv hs
  cK : DR w IsT f.hh mh
  hm : ∀ x, (look mh x).isSome = true ↔ x ∈ hs
  cW : DR w IsI f.wo mw
  cF : DR w IsI f.fo2 mw
  k3 : env.kindOf "laid" = some .cell
  k4 : env.kindOf "found" = some .cell
structure StB (w : World) (f : Fx) (b : Bk) (v : Vr) : Prop where
  B : v.bo.IsDictOf (sK w) (bookKV v.U v.S f.Hd v.La f.F b.sz v.ts)
  U : DR w IsI v.uo b.mu
  S : DR w IsI v.so b.ms
  L : DR w (ObR v.ex) v.lo b.mo
structure StC (w : World) (f : Fx) (b : Bk) (v : Vr) : Prop where
  U : DR w IsI v.ku b.mu
  S : DR w IsI v.ks b.ms
  O : DR w (ObR v.ex) v.oo b.mo
  R : DR w IsT v.ro b.mf
section
variable {w : World} {A : Around} {E : Value → Shared → Prop} {H h : Heap} {g : Array GenState} {d : Drawn} {t : Nat} {os : OsState} {env : Env} {l : Ledger} {fo iob : Obj} {I : Addr} {f : Fx} {v : Vr} {b : Bk} {hs : List Int} {mh : List (Int × Unit)} {mw : List (Int × Int)}
theorem i_ne_nn {Q : Value → Shared → Prop} (hA : Room 5 A) (q : Q (.bool false) ⟨h, g, d, t, os⟩) : Wp w A (compareOp .NotEq .none .none) Q E ⟨h, g, d, t, os⟩ := by
  delta Wp
  refine ne_dataH (s := ⟨h, g, d, t, os⟩) .none .none rfl rfl (by obtain ⟨_, _, x⟩ := hA; omega) ?_
  simpa [PyData.eqv] using q
theorem i_ne_ns {Q : Value → Shared → Prop} {u : Tok} (hA : Room 5 A) (q : Q (.bool true) ⟨h, g, d, t, os⟩) : Wp w A (compareOp .NotEq .none (.str "refused" u)) Q E ⟨h, g, d, t, os⟩ := by
  delta Wp
  refine ne_dataH (s := ⟨h, g, d, t, os⟩) .none (.str _ _) rfl (by decide +kernel) (by obtain ⟨_, _, x⟩ := hA; omega) ?_
  simpa [PyData.eqv] using q
theorem i_ne_ts {Q : Value → Shared → Prop} {u u1 u2 : Tok} {T : Addr} {x y : Int} (i : Nat) (hA : Room 5 A) (L : Led H h l) (hi : l[i]? = some (T, tupO [.int x u1, .int y u2])) (q : Q (.bool true) ⟨h, g, d, t, os⟩) : Wp w A (compareOp .NotEq (.ref T) (.str "refused" u)) Q E ⟨h, g, d, t, os⟩ := by
  delta Wp
  refine ne_dataH (s := ⟨h, g, d, t, os⟩) (reads_tup L hi (.cons (.int _ _) (.cons (.int _ _) .nil))) (.str _ _) rfl (by decide +kernel) (by obtain ⟨_, _, x⟩ := hA; omega) ?_
  simpa [PyData.eqv] using q
theorem i_ne_bb {Q : Value → Shared → Prop} {x y : Bool} (hA : Room 5 A) (q : Q (.bool (x != y)) ⟨h, g, d, t, os⟩) : Wp w A (compareOp .NotEq (.bool x) (.bool y)) Q E ⟨h, g, d, t, os⟩ := by
  delta Wp
  refine ne_dataH (s := ⟨h, g, d, t, os⟩) (.bool _) (.bool _) rfl rfl (by obtain ⟨_, _, x⟩ := hA; omega) ?_
  have e : (!PyData.eqv (.bool x) (.bool y)) = (x != y) := by cases x <;> cases y <;> rfl
  rw [e]; exact q
/-- what an act answers, and the state behind it -/
inductive Ans (hs : List Int) (act : Str) (num turn : Int) (b : Bk) (ex : Ledger) : Value → Bk → Prop
  | no (tk : Tok) : (refC act b.mu hs num ∨ (act ≠ ("lay" : Str) ∧ spent b.mu b.ms num)) → Ans hs act num turn b ex (.str "refused" tk) b
  | free (gn : Int) : act = ("free" : Str) → ¬ refC act b.mu hs num → look b.mu num = some gn → Ans hs act num turn b ex .none (b.freed num gn)
  | lay (T : Addr) (gen : Int) (u1 u2 : Tok) : act ≠ ("free" : Str) → ¬ refC act b.mu hs num → ¬ (act ≠ ("lay" : Str) ∧ spent b.mu b.ms num) → gen = (if act = ("lay" : Str) then 5 else genFor b.mu b.ms num) → (T, tupO [.int num u1, .int gen u2]) ∈ ex → Ans hs act num turn b ex (.ref T) (b.laid num gen turn)
theorem Ans.mono {act : Str} {num turn : Int} {ex ex' : Ledger} {x : Value} {b' : Bk} (a : Ans hs act num turn b ex x b') (k : ∀ p ∈ ex, p ∈ ex') : Ans hs act num turn b ex' x b' := by
  cases a with
  | no tk h => exact .no tk h
  | free gn h1 h2 h3 => exact .free gn h1 h2 h3
  | lay T gen u1 u2 h1 h2 h3 h4 h5 => exact .lay T gen u1 u2 h1 h2 h3 h4 (k _ h5)
structure Bds (b : Bk) : Prop where
  b1 : b.mu.length ≤ 100
  b2 : b.ms.length ≤ 100
  b3 : b.mo.length ≤ 100
  b5 : -100 ≤ b.sz ∧ b.sz ≤ 100
/-- the book's side of an act -/
theorem do_act {R : Result → Shared → Prop} {act : Str} {n : Int} {j : Nat} {u ua ut : Tok} {Vn : Addr}
    (G : Gd w H) (hA : Room 6 A) (X : FxOk w env f hs mh mw) (L : Led H h ((env.locals, fo) :: (Vn, lstO [.int j ut]) :: (I, iob) :: LW w f v)) (S : StB w f b v) (bd : Bds b) (hn : -1 ≤ n ∧ n < 100) (hact : act = ("add" : Str) → goodTo b.mu b.ms 29 ≠ [])
    (q : ∀ h t v' b' x, Led H h ((env.locals, fo) :: (I, iob) :: LW w f v') → v'.op = v.op → (v'.ku = v.ku ∧ v'.ks = v.ks ∧ v'.oo = v.oo ∧ v'.ro = v.ro) → (∀ p ∈ v.ex, p ∈ v'.ex) → Ans hs act (actNum act n b.mu b.ms) j b v'.ex x b' → StB w f b' v' → R (.ok (.ret x)) ⟨h, g, d, t, os⟩) :
    Cd w A (.call (.ref 461) ⟨[.ref f.B, .str act ua, .int n u, .ref Vn], []⟩) R ⟨h, g, d, t, os⟩ := by
  obtain ⟨hv, cH, cI⟩ := X.cH
  have L1 : Led H h ((env.locals, fo) :: bkL f.B v.bo v.U v.uo v.S v.so f.Hd f.ho v.La v.lo f.F f.fo2 ((I, iob) :: (f.c1, f.o1) :: (f.c2, f.o2) :: (f.c3, f.o3) :: (f.c4, f.o4) :: (f.p, v.op) :: (f.cl, f.oc) :: chL w f.c v.ku v.ks f.wo f.hh v.oo v.ro ((Vn, lstO [.int j ut]) :: v.ex))) :=
    L.re 23 [0, 9, 10, 11, 12, 13, 14, 2, 3, 4, 5, 6, 7, 8, 15, 16, 17, 18, 19, 20, 21, 22, 1]
  refine law_act (lb := (Vn, lstO [.int j ut]) :: v.ex) G hA L1 S.B S.U S.S cH cI (S.L.mono fun v b z => z.mono fun p hp => .tail _ hp) (.head _) LstO.mk hact bd.b1 bd.b2 bd.b3 bd.b5 hn (fun h t tk k L => ?_) (fun h t bo U uo so La lo ex gn k1 k2 k3 L cB cU cS cL => ?_) (fun h t T bo uo S' so lo ts ex u2 ug gen k1 k2 k3 k4 L cB cU cS cL => ?_)
  · refine q h t { v with ex := (Vn, lstO [.int j ut]) :: v.ex } b _ (L.re 22 [0, 7, 8, 9, 10, 11, 12, 13, 1, 2, 3, 4, 5, 6, 14, 15, 16, 17, 18, 19, 20, 21]) rfl ⟨rfl, rfl, rfl, rfl⟩ (fun p hp => .tail _ hp) (.no tk k) ⟨S.B, S.U, S.S, S.L.mono fun v b z => z.mono fun p hp => .tail _ hp⟩
  · have L2 := L.perm (.cons _ (.cons _ (.cons _ (.cons _ (.cons _ (.cons _ (.cons _ (mvK 15 ex _))))))))
    refine q h t { v with bo := bo, U := U, uo := uo, so := so, La := La, lo := lo, ex := ex ++ (Vn, lstO [.int j ut]) :: v.ex } _ _ (L2.re 22 [0, 7, 8, 9, 10, 11, 12, 13, 1, 2, 3, 4, 5, 6, 14, 15, 16, 17, 18, 19, 20, 21]) rfl ⟨rfl, rfl, rfl, rfl⟩ (fun p hp => List.mem_append_right _ (.tail _ hp)) (.free gn k1 k2 k3) ⟨cB, cU, cS, cL.mono fun v b z => z.mono fun p hp => List.mem_append_right _ hp⟩
  · have L2 := L.perm (.cons _ (.cons _ (.cons _ (.cons _ (.cons _ (.cons _ (.cons _ (.cons _ (mvK 15 ex _)))))))))
    refine q h t { v with bo := bo, uo := uo, S := S', so := so, lo := lo, ts := ts, ex := (T, tupO [.int (actNum act n b.mu b.ms) u2, .int gen ug]) :: (ex ++ (Vn, lstO [.int j ut]) :: v.ex) } _ _ (L2.re 23 [0, 8, 9, 10, 11, 12, 13, 14, 2, 3, 4, 5, 6, 7, 15, 16, 17, 18, 19, 20, 21, 22, 1]) rfl ⟨rfl, rfl, rfl, rfl⟩ (fun p hp => .tail _ (List.mem_append_right _ (.tail _ hp))) (.lay T gen u2 ug k1 k2 k3 k4 (.head _)) ⟨cB, cU, cS, cL.mono fun v b z => z.mono fun p hp => .tail _ hp⟩
end
end Mine
namespace Mine
set_option maxRecDepth 100000
section
variable {w : World} {A : Around} {E : Value → Shared → Prop} {H h : Heap} {g : Array GenState} {d : Drawn} {t : Nat} {os : OsState} {env : Env} {l : Ledger} {fo iob : Obj} {I : Addr} {f : Fx} {v : Vr} {b b1 b2 : Bk} {hs : List Int} {mh : List (Int × Unit)} {mw : List (Int × Int)} {act : Str} {num turn : Int} {ex : Ledger} {x y : Value}
theorem Ans.both (a : Ans hs act num turn b ex x b1) (c : Ans hs act num turn b ex y b2) : b1 = b2 ∧ ((∃ t1 t2, x = .str "refused" t1 ∧ y = .str "refused" t2 ∧ b1 = b) ∨ (x = .none ∧ y = .none ∧ ∃ gn, b1 = b.freed num gn) ∨
    ∃ T1 T2 gen u1 u2 u3 u4, x = .ref T1 ∧ y = .ref T2 ∧ (T1, tupO [.int num u1, .int gen u2]) ∈ ex ∧ (T2, tupO [.int num u3, .int gen u4]) ∈ ex ∧ b1 = b.laid num gen turn) := by
  cases a with
  | no t1 h =>
    cases c with
    | no t2 h' => exact ⟨rfl, .inl ⟨t1, t2, rfl, rfl, rfl⟩⟩
    | free gn h1 h2 h3 =>
      rcases h with h | h
      · exact absurd h h2
      · rw [h.2.1] at h3; cases h3
    | lay T gen u1 u2 h1 h2 h3 h4 h5 =>
      rcases h with h | h
      · exact absurd h h2
      · exact absurd h h3
  | free gn h1 h2 h3 =>
    cases c with
    | no t2 h =>
      rcases h with h | h
      · exact absurd h h2
      · rw [h.2.1] at h3; cases h3
    | free gn' h1' h2' h3' =>
      rw [h3] at h3'; cases h3'
      exact ⟨rfl, .inr (.inl ⟨rfl, rfl, gn, rfl⟩)⟩
    | lay T gen u1 u2 h1' h2' h3' h4' h5' => exact absurd h1 h1'
  | lay T gen u1 u2 h1 h2 h3 h4 h5 =>
    cases c with
    | no t2 h =>
      rcases h with h | h
      · exact absurd h h2
      · exact absurd h h3
    | free gn h1' h2' h3' => exact absurd h1' h1
    | lay T' gen' u3 u4 h1' h2' h3' h4' h5' =>
      rw [← h4] at h4'
      subst h4'
      exact ⟨rfl, .inr (.inr ⟨T, T', _, u1, u2, u3, u4, rfl, rfl, h5, h5', rfl⟩)⟩
theorem Ans.inv {fs : Int} {j : Nat} (a : Ans hs act num turn b ex x b1) (Iv : Inv fs j b) (hn : num ≤ 7 ∨ num ≤ b.sz) : Inv fs (j + 1) b1 := by
  cases a with
  | no t1 h => exact Iv.next
  | free gn h1 h2 h3 => exact Iv.freed h3
  | lay T gen u1 u2 h1 h2 h3 h4 h5 =>
    refine Iv.laid ?_ hn
    rcases Int.lt_or_le num 1 with h | h
    · exact absurd (.inr (.inl h)) h2
    · exact h
theorem any_mem {x : Int} : hs.any (· == x) = true ↔ x ∈ hs := by simp
theorem Inv.bds {fs : Int} {j : Nat} (Iv : Inv fs j b) (hj : j ≤ 8) (n1 : (b.mu.map (·.1)).Nodup) (n2 : (b.ms.map (·.1)).Nodup) (n3 : (b.mo.map (·.1)).Nodup) : Bds b := by
  have h1 := Iv.ku.len n1
  have h2 := Iv.ks.len n2
  have h3 := Iv.ko.len n3
  have h4 := Iv.s8
  have h5 := Iv.s1
  exact ⟨by omega, by omega, by omega, by omega⟩
theorem Led.front {X : Ledger} {p : Addr × Obj} (L : Led H h (X ++ [p])) : Led H h (p :: X) := L.perm (List.perm_append_singleton _ _)
/-- the side of the changes -/
theorem do_done {R : Result → Shared → Prop} {n : Int} {j : Nat} {u ua ut : Tok} {Vn : Addr} {vals : List (Option Value)} (N₀ : Nat)
    (G : Gd w H) (hA : Room 18 A) (hF : A.frames = some [env]) (V : EnvOk env lawN lawG) (eF : env.frame = some env.locals) (X : FxOk w env f hs mh mw) (L : Led H h ((env.locals, fo) :: (Vn, lstO [.int j ut]) :: (I, iob) :: LW w f v)) (N : Loc fo lawN vals) (S : StC w f b v) (Iv : Inv f.c.fs j b) (hj : j ≤ 8) (hn : -1 ≤ n ∧ n < 100) (hN : N₀ < 90)
    (hadd : (∀ j : Nat, j < N₀ → (look b.mu (j + 1)).isSome = true ∨ 65535 ≤ (look b.ms (j + 1)).getD 0) ∧ ¬ ((look b.mu (N₀ + 1)).isSome = true ∨ 65535 ≤ (look b.ms (N₀ + 1)).getD 0)) (hnum : (goodTo b.mu b.ms 29).getD 0 0 = (N₀ : Int) + 1)
    (hact : act = ("put" : Str) ∨ act = ("free" : Str) ∨ act = ("add" : Str) ∨ act = ("lay" : Str))
    (q : ∀ h t fo v' b' x, Led H h ((env.locals, fo) :: (I, iob) :: LW w f v') → Loc fo lawN vals → v'.op = v.op → (v'.bo = v.bo ∧ v'.U = v.U ∧ v'.uo = v.uo ∧ v'.S = v.S ∧ v'.so = v.so ∧ v'.La = v.La ∧ v'.lo = v.lo ∧ v'.ts = v.ts) → (∀ p ∈ v.ex, p ∈ v'.ex) → Ans hs act (actNum act n b.mu b.ms) j b v'.ex x b' → StC w f b' v' → R (.ok (.ret x)) ⟨h, g, d, t, os⟩) :
    Cd w A (.call (.ref 468) ⟨[.ref f.c.x, .str act ua, .int n u, .ref Vn], []⟩) R ⟨h, g, d, t, os⟩ := by
  have bd := Iv.bds hj S.U.nodup S.S.nodup S.O.nodup
  have b4 := Iv.kf.len S.R.nodup
  have s8 := Iv.s8
  have f2 := Iv.f2
  have f1 := Iv.f1
  have hs1 := Iv.size
  have L1 : Led H h ((env.locals, fo) :: chL w f.c v.ku v.ks f.wo f.hh v.oo v.ro ((I, iob) :: (f.c1, f.o1) :: (f.c2, f.o2) :: (f.c3, f.o3) :: (f.c4, f.o4) :: (f.p, v.op) :: (f.cl, f.oc) :: bkL f.B v.bo v.U v.uo v.S v.so f.Hd f.ho v.La v.lo f.F f.fo2 ((Vn, lstO [.int j ut]) :: v.ex))) :=
    L.re 23 [0, 15, 16, 17, 18, 19, 20, 21, 22, 2, 3, 4, 5, 6, 7, 8, 9, 10, 11, 12, 13, 14, 1]
  generalize hr : ((I, iob) :: (f.c1, f.o1) :: (f.c2, f.o2) :: (f.c3, f.o3) :: (f.c4, f.o4) :: (f.p, v.op) :: (f.cl, f.oc) :: bkL f.B v.bo v.U v.uo v.S v.so f.Hd f.ho v.La v.lo f.F f.fo2 ((Vn, lstO [.int j ut]) :: v.ex)) = lr at L1
  have L2 : Led H h (chL w f.c v.ku v.ks f.wo f.hh v.oo v.ro (lr ++ [(env.locals, fo)])) := L1.perm (List.perm_append_singleton _ _).symm
  have F1 : FrsOk [env] [(env.locals, fo)] := frs_next (outer := []) (fl := []) trivial eF V N
  have en : (if act = ("add" : Str) then (N₀ : Int) + 1 else n) = actNum act n b.mu b.ms := by unfold actNum; rw [hnum]
  have hvm : (Vn, lstO [.int j ut]) ∈ lr := by rw [← hr]; simp
  refine law_done (lb := (Vn, lstO [.int j ut]) :: v.ex) (l := lr) (fl := [(env.locals, fo)]) (outer := [env]) N₀ G hA hF F1 L2 S.U S.S X.cK (S.O.mono fun v b z => z.mono fun p hp => .tail _ hp) S.R hvm LstO.mk hn hN (fun _ => hadd) hact bd.b1 bd.b2 bd.b3 (by omega) (by omega) (fun k hk => by have := Iv.ku k hk; omega) (fun k hk => by have := Iv.ks k hk; omega) (actNum act n b.mu b.ms) en.symm
    (fun h t tk fl' k Sd L => ?_) (fun h t uo so oo ro gn k1 k2 k3 k4 L cU cS cO cF => ?_) (fun h t uo so oo ro ex T u1 u2 gen k1 k2 k3 k4 k5 L cU cS cO cF => ?_)
  · cases fl' with
    | nil => exact Sd.elim
    | cons p fl2 =>
      obtain ⟨a, fo'⟩ := p
      obtain ⟨⟨s1, s2⟩, s3⟩ := Sd
      dsimp only at s1 s2
      subst s1
      cases fl2 with
      | cons _ _ => exact s3.elim
      | nil =>
        have L3 : Led H h ((env.locals, fo') :: chL w f.c v.ku v.ks f.wo f.hh v.oo v.ro lr) := Led.front (X := chL w f.c v.ku v.ks f.wo f.hh v.oo v.ro lr) L
        rw [← hr] at L3
        refine q h t fo' { v with ex := (Vn, lstO [.int j ut]) :: v.ex } b _ (L3.re 22 [0, 9, 10, 11, 12, 13, 14, 15, 16, 17, 18, 19, 20, 21, 1, 2, 3, 4, 5, 6, 7, 8]) (N.same s2) rfl ⟨rfl, rfl, rfl, rfl, rfl, rfl, rfl, rfl⟩ (fun p hp => .tail _ hp) (.no tk ?_) ⟨S.U, S.S, S.O.mono fun v b z => z.mono fun p hp => .tail _ hp, S.R⟩
        rcases k with k | k | k | k
        · exact .inl (.inl k)
        · exact .inl (.inr (.inl k))
        · exact .inl (.inr (.inr (any_mem.mpr ((X.hm _).mp k))))
        · exact .inr k.2
  · have L3 : Led H h ((env.locals, fo) :: chL w f.c uo so f.wo f.hh oo ro lr) := Led.front (X := chL w f.c uo so f.wo f.hh oo ro lr) L
    rw [← hr] at L3
    refine q h t fo { v with ku := uo, ks := so, oo := oo, ro := ro, ex := (Vn, lstO [.int j ut]) :: v.ex } _ _ (L3.re 22 [0, 9, 10, 11, 12, 13, 14, 15, 16, 17, 18, 19, 20, 21, 1, 2, 3, 4, 5, 6, 7, 8]) N rfl ⟨rfl, rfl, rfl, rfl, rfl, rfl, rfl, rfl⟩ (fun p hp => .tail _ hp) (.free gn k1 ?_ k4) ⟨cU, cS, cO, cF⟩
    rintro (k | k | k)
    · rw [k4] at k; cases k.2
    · exact k2 k
    · have := (X.hm _).mpr (any_mem.mp k); rw [k3] at this; cases this
  · have L3 : Led H h ((env.locals, fo) :: chL w f.c uo so f.wo f.hh oo ro ((T, tupO [.int (actNum act n b.mu b.ms) u1, .int gen u2]) :: (ex ++ lr))) := Led.front (X := chL w f.c uo so f.wo f.hh oo ro ((T, tupO [.int (actNum act n b.mu b.ms) u1, .int gen u2]) :: (ex ++ lr))) L
    rw [← hr] at L3
    have L4 := L3.perm (.cons _ (.cons _ (.cons _ (.cons _ (.cons _ (.cons _ (.cons _ (.cons _ (.cons _ (.cons _ (mvK 13 ex _)))))))))))
    rw [hs1] at cS
    refine q h t fo { v with ku := uo, ks := so, oo := oo, ro := ro, ex := (T, tupO [.int (actNum act n b.mu b.ms) u1, .int gen u2]) :: (ex ++ (Vn, lstO [.int j ut]) :: v.ex) } _ _ (L4.re 23 [0, 10, 11, 12, 13, 14, 15, 16, 17, 18, 19, 20, 21, 22, 1, 2, 3, 4, 5, 6, 7, 8, 9]) N rfl ⟨rfl, rfl, rfl, rfl, rfl, rfl, rfl, rfl⟩ (fun p hp => .tail _ (List.mem_append_right _ (.tail _ hp))) (.lay T gen u1 u2 k1 ?_ k4 k5 (.head _)) ⟨cU, cS, cO.mono fun v b z => z.mono fun p hp => .tail _ hp, cF⟩
    rintro (k | k | k)
    · exact k1 k.1
    · exact k2 k
    · have := (X.hm _).mpr (any_mem.mp k); rw [k3] at this; cases this
end
end Mine
namespace Mine
set_option maxRecDepth 100000
section
variable {w : World} {A : Around} {E : Value → Shared → Prop} {H h : Heap} {g : Array GenState} {d : Drawn} {t : Nat} {os : OsState} {env : Env} {l : Ledger} {fo iob : Obj} {I : Addr} {f : Fx} {v : Vr} {b b1 b2 : Bk} {hs : List Int} {mh : List (Int × Unit)} {mw : List (Int × Int)}
theorem act_name {D : Int} {ta tb tc td : Tok} (h : 0 ≤ D ∧ D < 4) : ∃ act ua, (act = ("put" : Str) ∨ act = ("free" : Str) ∨ act = ("add" : Str) ∨ act = ("lay" : Str)) ∧ ([.str "put" ta, .str "free" tb, .str "add" tc, .str "lay" td] : List Value)[D.toNat]? = some (.str act ua) := by
  have : D = 0 ∨ D = 1 ∨ D = 2 ∨ D = 3 := by omega
  rcases this with rfl | rfl | rfl | rfl
  · exact ⟨_, ta, .inl rfl, rfl⟩
  · exact ⟨_, tb, .inr (.inl rfl), rfl⟩
  · exact ⟨_, tc, .inr (.inr (.inl rfl)), rfl⟩
  · exact ⟨_, td, .inr (.inr (.inr rfl)), rfl⟩
theorem touched {act : Str} {num turn gn gen : Int} : (decide ((b.freed num gn).mo ≠ []) || decide ((b.freed num gn).mf ≠ [])) = true ∧ (decide ((b.laid num gen turn).mo ≠ []) || decide ((b.laid num gen turn).mf ≠ [])) = true := by
  have hp : ∀ {α : Type} (m : List (Int × α)) (k : Int) (a : α), put m k a ≠ [] := fun m k a e => by
    have := look_put m k k a
    rw [e, if_pos rfl] at this; cases this
  constructor
  · show (_ || decide (put b.mf num () ≠ [])) = true
    rw [decide_eq_true (hp _ _ _), Bool.or_true]
  · show (decide (put b.mo num (gen, turn) ≠ []) || _) = true
    rw [decide_eq_true (hp _ _ _), Bool.true_or]
theorem law_turn {cells : List Int} {sm s0 : Int} {k j : Nat} {sc De : Addr} {ts0 tj : Tok} {tc : Bool} {Q : Flow → Shared → Prop}
    (G : Gd w H) (hA : Room 19 A) (hF : A.frames = some [env]) (V : EnvOk env lawN lawG) (eF : env.frame = some env.locals) (X : FxOk w env f hs mh mw) (L : Led H h ((env.locals, fo) :: (I, iob) :: LW w f v))
    (N : Loc fo lawN [some (.ref sc), some (.ref f.cl), some (.ref f.p), some (.ref De), some (.int s0 ts0), some (.bool tc), some (.int j tj)])
    (P : PenO v.op f.oc f.cl cells k sm) (SB : StB w f b v) (SC : StC w f b v) (Iv : Inv f.c.fs j b) (hj : j < 8) (hk : k ≤ 100) (hc : cells.length ≤ 100) (htc : tc = (decide (b.mo ≠ []) || decide (b.mf ≠ [])))
    (q : ∀ h t fo v b tc vals, Led H h ((env.locals, fo) :: (I, iob) :: LW w f v) → Loc fo lawN vals → vals.take 6 = [some (.ref sc), some (.ref f.cl), some (.ref f.p), some (.ref De), some (.int s0 ts0), some (.bool tc)] → PenO v.op f.oc f.cl cells (k + 2) sm → StB w f b v → StC w f b v → Inv f.c.fs (j + 1) b → tc = (decide (b.mo ≠ []) || decide (b.mf ≠ [])) → Q .next ⟨h, g, d, t, os⟩) :
    Wp w A (execs (forB (lawB.getD 4 (.Pass ⟨0, 0, 0, 0⟩))) env) Q (fun _ _ => False) ⟨h, g, d, t, os⟩ := by
  have s1 := Iv.s1
  have s8 := Iv.s8
  obtain ⟨N₀, hN0, hNs, hne, hno, hyes⟩ := least_good (mu := b.mu) (ms := b.ms) (s := b.sz) s1 (by omega) Iv.ku Iv.ks
  -- act, number = ..
  refine x_swap2 (H := H) (g := g) (d := d) (os := os) 7 8 V hA.u ?_ (by decide +kernel)
  refine a_cons (e_sub (e_lst (a_cons (e_str fun ta t => a_cons (e_str fun tb t => a_cons (e_str fun tc' t => a_cons (e_str fun td t => a_nil (n_lst L (by simp) fun Ls h L => ?_))))))))
  refine e_draw 6 7 2 5 G (hA.mono (by decide)) V N L P (by omega) hc (by decide) rfl rfl (by decide) fun h t op tk1 L P => ?_
  replace L : Led H h ((env.locals, fo) :: (Ls, lstO [.str "put" ta, .str "free" tb, .str "add" tc', .str "lay" td]) :: (I, iob) :: LW w f { v with op := op }) := L
  have hd4 := drawV_lt (cells := cells) (sm := sm) (k := k) (many := 4) (by decide)
  obtain ⟨act, ua, hact, hx⟩ := act_name (ta := ta) (tb := tb) (tc := tc') (td := td) hd4
  refine l_item 1 L rfl LstO.mk hd4.1 (by omega) hx ?_
  refine a_cons (e_bin (e_draw 6 7 2 5 G (hA.mono (by decide)) V N L P (by omega) hc (by decide) rfl rfl (by decide) fun h t op2 tk2 L P => e_int fun _ _ => i_sub fun tn t => a_nil ?_))
  have hd9 := drawV_lt (cells := cells) (sm := sm) (k := k + 1) (many := 9) (by decide)
  generalize hn : drawV cells sm (k + 1) 9 - 1 = n
  replace L : Led H h ((env.locals, fo) :: (I, iob) :: LW w f { v with op := op2 }) := L.re 2 [0]
  refine ⟨.str act ua, .int n tn, h, t, fo, _, _, rfl, rfl, L, N, fun h t fo L N => ?_⟩
  have hn' : -1 ≤ n ∧ n ≤ 7 := by omega
  clear hn
  -- due = _law_act(book, act, number, [turn])
  refine x_assign (Wp.mono (Q := fun x s => ∃ h t v' b', s = ⟨h, g, d, t, os⟩ ∧ Led H h ((env.locals, fo) :: (I, iob) :: LW w f v') ∧ v'.op = op2 ∧ (v'.ku = v.ku ∧ v'.ks = v.ks ∧ v'.oo = v.oo ∧ v'.ro = v.ro) ∧ (∀ p ∈ v.ex, p ∈ v'.ex) ∧ Ans hs act (actNum act n b.mu b.ms) j b v'.ex x b' ∧ StB w f b' v') (E := fun _ _ => False) ?_ (fun x s z => ?_) fun _ _ z => z.elim)
  · refine e_call (e_glob 6 G V L (g_law_act _) (cw_f G (by kernel_rfl!) (a_cons (e_cell 3 V X.C2 L X.v2 (a_cons (e_loc 7 V L N (a_cons (e_loc 8 V L N (a_cons (e_lst (a_cons (e_loc 6 V L N (a_nil (n_lst L (by simp) fun Vn h L => a_nil ⟨⟨_, L⟩, e_code ?_⟩))))))))))))))
    refine do_act G (hA.mono (by decide)) X L ⟨SB.B, SB.U, SB.S, SB.L⟩ (Iv.bds (by omega) SB.U.nodup SB.S.nodup SB.L.nodup) (by omega) (fun _ => hne) fun h t v' b' x L e1 e2 e3 e4 e5 => ?_
    exact ⟨h, t, v', b', rfl, L, e1, e2, e3, e4, e5⟩
  obtain ⟨h, t, v1, b', rfl, L, p1, p2, p3, a1, SB1⟩ := z
  refine s_loc 9 V L N fun h t fo L N => ?_
  have hrw : actNum act n b.mu b.ms ≤ 7 ∨ actNum act n b.mu b.ms ≤ b.sz := by
    unfold actNum
    split
    · right; omega
    · left; omega
  -- if _law_done(changes, act, number, [turn]) != due
  refine x_if (t_cmp (Wp.mono (Q := fun y s => ∃ h t fo v2 b2, s = ⟨h, g, d, t, os⟩ ∧ Led H h ((env.locals, fo) :: (I, iob) :: LW w f v2) ∧ Loc fo lawN (setV (setV (setV [some (.ref sc), some (.ref f.cl), some (.ref f.p), some (.ref De), some (.int s0 ts0), some (.bool tc), some (.int j tj)] 8 (.int n tn)) 7 (.str act ua)) 9 x) ∧ v2.op = v1.op ∧ (v2.bo = v1.bo ∧ v2.U = v1.U ∧ v2.uo = v1.uo ∧ v2.S = v1.S ∧ v2.so = v1.so ∧ v2.La = v1.La ∧ v2.lo = v1.lo ∧ v2.ts = v1.ts) ∧ (∀ p ∈ v1.ex, p ∈ v2.ex) ∧ Ans hs act (actNum act n b.mu b.ms) j b v2.ex y b2 ∧ StC w f b2 v2) (E := fun _ _ => False) ?_ (fun y s z => ?_) fun _ _ z => z.elim))
  · refine e_call (e_glob 7 G V L (g_law_done _) (cw_f G (by kernel_rfl!) (a_cons (e_cell 2 V X.C1 L X.v1 (a_cons (e_loc 7 V L N (a_cons (e_loc 8 V L N (a_cons (e_lst (a_cons (e_loc 6 V L N (a_nil (n_lst L (by simp) fun Vn h L => a_nil ⟨⟨_, L⟩, e_code ?_⟩))))))))))))))
    refine do_done N₀ G (hA.mono (by decide)) hF V eF X L N (S := ⟨by rw [p2.1]; exact SC.U, by rw [p2.2.1]; exact SC.S, by rw [p2.2.2.1]; exact SC.O.mono fun v b z => z.mono p3, by rw [p2.2.2.2]; exact SC.R⟩) Iv (by omega) (by omega) (by omega) ⟨hno, hyes⟩ hN0 hact fun h t fo v' b' x L N e1 e2 e3 e4 e5 => ?_
    exact ⟨h, t, fo, v', b', rfl, L, N, e1, e2, e3, e4, e5⟩
  obtain ⟨h, t, fo, v2, b2, rfl, L, N, r1, r2, r3, a2, SC2⟩ := z
  obtain ⟨hb, hm⟩ := (a1.mono r3).both a2
  subst hb
  have Iv2 := a2.inv Iv hrw
  have SB2 : StB w f b' v2 := by
    obtain ⟨e1, e2, e3, e4, e5, e6, e7, e8⟩ := r2
    exact ⟨by rw [e1, e2, e4, e6, e8]; exact SB1.B, by rw [e3]; exact SB1.U, by rw [e5]; exact SB1.S, by rw [e7]; exact SB1.L.mono fun v b z => z.mono r3⟩
  have P2 : PenO v2.op f.oc f.cl cells (k + 2) sm := by rw [r1, p1]; exact P
  clear a1 a2 SB1 r1 r2 r3 p1 p2 p3 SC SB P
  have R5 : Room 5 A := hA.mono (by decide)
  refine e_loc 9 V L N (Wp.mono (Q := fun c s => ∃ t, c = .bool false ∧ s = ⟨h, g, d, t, os⟩) (E := fun _ _ => False) ?_ (fun c s z => ?_) fun _ _ z => z.elim)
  · rcases hm with ⟨t1, t2, rfl, rfl, _⟩ | ⟨rfl, rfl, _⟩ | ⟨T1, T2, gen, u1, u2, u3, u4, rfl, rfl, m1, m2, _⟩
    · refine i_nes ⟨t, ?_, rfl⟩
      simp
    · exact i_ne_nn R5 ⟨t, rfl, rfl⟩
    · obtain ⟨i1, h1⟩ := at_of_mem (show (T1, tupO [.int (actNum act n b.mu b.ms) u1, .int gen u2]) ∈ (env.locals, fo) :: (I, iob) :: LW w f v2 by simp [m1])
      obtain ⟨i2, h2⟩ := at_of_mem (show (T2, tupO [.int (actNum act n b.mu b.ms) u3, .int gen u4]) ∈ (env.locals, fo) :: (I, iob) :: LW w f v2 by simp [m2])
      refine i_nepair i2 i1 R5 L h2 h1 ⟨t, ?_, rfl⟩
      simp
  obtain ⟨t, rfl, rfl⟩ := z
  refine t_bool (if_ff (x_nil ?_))
  -- is_touched = is_touched or due != 'refused'
  refine x_assign (Wp.mono (Q := fun c s => ∃ t, c = .bool (decide (b'.mo ≠ []) || decide (b'.mf ≠ [])) ∧ s = ⟨h, g, d, t, os⟩) (E := fun _ _ => False) ?_ (fun c s z => ?_) fun _ _ z => z.elim)
  · refine e_or2 (e_loc 5 V L N (t_bool ?_))
    have hyes : (b' = b ∧ ∃ tk, x = .str "refused" tk) ∨ ((decide (b'.mo ≠ []) || decide (b'.mf ≠ [])) = true ∧ (x = .none ∨ ∃ T u1 u2 gen, x = .ref T ∧ (T, tupO [.int (actNum act n b.mu b.ms) u1, .int gen u2]) ∈ v2.ex)) := by
      rcases hm with ⟨t1, t2, rfl, rfl, e⟩ | ⟨rfl, rfl, gn, e⟩ | ⟨T1, T2, gen, u1, u2, u3, u4, rfl, rfl, m1, m2, e⟩
      · exact .inl ⟨e, t1, rfl⟩
      · exact .inr ⟨by rw [e]; exact (touched (act := act) (turn := 0) (gen := 0)).1, .inl rfl⟩
      · exact .inr ⟨by rw [e]; exact (touched (act := act) (gn := 0)).2, .inr ⟨T1, u1, u2, gen, rfl, m1⟩⟩
    rcases hyes with ⟨rfl, tk, rfl⟩ | ⟨ht, hx⟩
    · cases htc' : tc with
      | true =>
        rw [if_pos rfl]
        exact ⟨t, by rw [← htc, htc'], rfl⟩
      | false =>
        rw [if_neg Bool.false_ne_true]
        refine e_cmp (e_loc 9 V L N (e_str fun kr t => i_nes ⟨t, ?_, rfl⟩))
        rw [← htc, htc']; simp
    · rw [ht]
      cases tc with
      | true =>
        rw [if_pos rfl]
        exact ⟨t, rfl, rfl⟩
      | false =>
        rw [if_neg Bool.false_ne_true]
        refine e_cmp (e_loc 9 V L N (e_str fun kr t => ?_))
        rcases hx with rfl | ⟨T, u1, u2, gen, rfl, m⟩
        · exact i_ne_ns R5 ⟨t, rfl, rfl⟩
        · obtain ⟨i1, h1⟩ := at_of_mem (show (T, tupO [.int (actNum act n b.mu b.ms) u1, .int gen u2]) ∈ (env.locals, fo) :: (I, iob) :: LW w f v2 by simp [m])
          exact i_ne_ts i1 R5 L h1 ⟨t, rfl, rfl⟩
  obtain ⟨t, rfl, rfl⟩ := z
  refine s_loc 5 V L N fun h t fo L N => ?_
  have bd := Iv2.bds (by omega) SB2.U.nodup SB2.S.nodup SB2.L.nodup
  -- the last test
  refine x_if (t_or (t_cmp (e_attr (e_cell 2 V X.C1 L X.v1 ?_))))
  refine o_get 14 15 G L rfl rfl (by kernel_rfl!) rfl rfl fun t => e_sub (e_cell 3 V X.C2 L X.v2 (e_str fun k1 t => ?_))
  refine s_item 8 L rfl SB2.B rfl fun t => ?_
  refine r_ne 16 9 G R5 L rfl rfl SC2.U SB2.U (t_bool ?_)
  rw [eqI_refl SB2.U.nodup]
  refine if_ff (t_or (t_cmp (e_mcall (e_cell 2 V X.C1 L X.v1 ?_))))
  refine o_meth (f := 367) 14 15 G L rfl rfl (by kernel_rfl!) rfl (cw_f0 G L (by kernel_rfl!) (e_code ?_))
  have L1 : Led H h ((env.locals, fo) :: chL w f.c v2.ku v2.ks f.wo f.hh v2.oo v2.ro ((I, iob) :: (f.c1, f.o1) :: (f.c2, f.o2) :: (f.c3, f.o3) :: (f.c4, f.o4) :: (f.p, v2.op) :: (f.cl, f.oc) :: bkL f.B v2.bo v2.U v2.uo v2.S v2.so f.Hd f.ho v2.La v2.lo f.F f.fo2 v2.ex)) := L.re 22 [0, 14, 15, 16, 17, 18, 19, 20, 21, 1, 2, 3, 4, 5, 6, 7, 8, 9, 10, 11, 12, 13]
  refine ch_size G (hA.mono (by decide)) L1 SC2.U SC2.S bd.b1 bd.b2 fun h t tz L1 => ?_
  have L : Led H h ((env.locals, fo) :: (I, iob) :: LW w f v2) := L1.re 22 [0, 9, 10, 11, 12, 13, 14, 15, 16, 17, 18, 19, 20, 21, 1, 2, 3, 4, 5, 6, 7, 8]
  refine e_sub (e_cell 3 V X.C2 L X.v2 (e_str fun k2 t => ?_))
  refine s_item 8 L rfl SB2.B rfl fun t => i_nei (t_bool ?_)
  rw [Iv2.size, decide_eq_false (fun h => h rfl)]
  refine if_ff (t_or (t_cmp (e_mcall (e_cell 2 V X.C1 L X.v1 ?_))))
  refine o_meth (f := 362) 14 15 G L rfl rfl (by kernel_rfl!) rfl (cw_f0 G L (by kernel_rfl!) (e_code ?_))
  have L1 : Led H h ((env.locals, fo) :: chL w f.c v2.ku v2.ks f.wo f.hh v2.oo v2.ro ((I, iob) :: (f.c1, f.o1) :: (f.c2, f.o2) :: (f.c3, f.o3) :: (f.c4, f.o4) :: (f.p, v2.op) :: (f.cl, f.oc) :: bkL f.B v2.bo v2.U v2.uo v2.S v2.so f.Hd f.ho v2.La v2.lo f.F f.fo2 v2.ex)) := L.re 22 [0, 14, 15, 16, 17, 18, 19, 20, 21, 1, 2, 3, 4, 5, 6, 7, 8, 9, 10, 11, 12, 13]
  refine ch_changed G (hA.mono (by decide)) L1 SC2.O SC2.R fun h t L1 => ?_
  have L : Led H h ((env.locals, fo) :: (I, iob) :: LW w f v2) := L1.re 22 [0, 9, 10, 11, 12, 13, 14, 15, 16, 17, 18, 19, 20, 21, 1, 2, 3, 4, 5, 6, 7, 8]
  refine e_loc 5 V L N (i_ne_bb R5 (t_bool ?_))
  rw [bne_self_eq_false]
  refine if_ff (t_or0 (if_ff (x_nil (x_end ?_))))
  exact q h t fo v2 b' _ _ L N rfl P2 SB2 SC2 Iv2 rfl
end
end Mine
namespace Mine
set_option maxRecDepth 100000
def objL : PySem.Expr := match lawB.getD 5 (.Pass ⟨0, 0, 0, 0⟩) with
  | .If (.Compare a _ _ _) _ _ _ => a
  | _ => .Constant .none 0 ⟨0, 0, 0, 0⟩
def objR : PySem.Expr := match lawB.getD 5 (.Pass ⟨0, 0, 0, 0⟩) with
  | .If (.Compare _ _ [b] _) _ _ _ => b
  | _ => .Constant .none 0 ⟨0, 0, 0, 0⟩
/-- what is told of an object -/
def ItemR (ex : Ledger) (v : Value) (k : Int × Int × Int) : Prop := ∃ T u1 u2 T2 T3 s1 s2 u3, v = .ref T ∧ (T, tupO [.int k.1 u1, .int k.2.1 u2, .ref T2]) ∈ ex ∧ (T2, tupO [.str "array" s1, .ref T3]) ∈ ex ∧ (T3, tupO [.str "int" s2, .int k.2.2 u3]) ∈ ex
theorem ItemR.mono {ex ex' : Ledger} {v : Value} {k : Int × Int × Int} (h : ItemR ex v k) (m : ∀ p ∈ ex, p ∈ ex') : ItemR ex' v k := let ⟨T, u1, u2, T2, T3, s1, s2, u3, a, b, c, d⟩ := h; ⟨T, u1, u2, T2, T3, s1, s2, u3, a, m _ b, m _ c, m _ d⟩
def ItsR (ex : Ledger) : List Value → List (Int × Int × Int) → Prop
  | [], [] => True
  | v :: vs, k :: ks => ItemR ex v k ∧ ItsR ex vs ks
  | _, _ => False
theorem ItsR.mono {ex ex' : Ledger} (m : ∀ p ∈ ex, p ∈ ex') : ∀ {vs : List Value} {ks : List (Int × Int × Int)}, ItsR ex vs ks → ItsR ex' vs ks
  | [], [], _ => trivial
  | _ :: _, _ :: _, h => ⟨h.1.mono m, h.2.mono m⟩
  | [], _ :: _, h => h.elim
  | _ :: _, [], h => h.elim
theorem ItsR.snoc {ex : Ledger} {v : Value} {k : Int × Int × Int} (hv : ItemR ex v k) : ∀ {vs : List Value} {ks : List (Int × Int × Int)}, ItsR ex vs ks → ItsR ex (vs ++ [v]) (ks ++ [k])
  | [], [], _ => ⟨hv, trivial⟩
  | _ :: _, _ :: _, h => ⟨h.1, ItsR.snoc hv h.2⟩
  | [], _ :: _, h => h.elim
  | _ :: _, [], h => h.elim
theorem ItsR.len {ex : Ledger} : ∀ {vs : List Value} {ks : List (Int × Int × Int)}, ItsR ex vs ks → vs.length = ks.length
  | [], [], _ => rfl
  | _ :: _, _ :: _, h => by simp [ItsR.len h.2]
  | [], _ :: _, h => h.elim
  | _ :: _, [], h => h.elim
def tripD (k : Int × Int × Int) : PyData := .tuple [.int k.1, .int k.2.1, .tuple [.str "array", .tuple [.str "int", .int k.2.2]]]
theorem trips_eqv : ∀ ks : List (Int × Int × Int), PyData.eqvAll (ks.map tripD) (ks.map tripD) = true
  | [] => rfl
  | k :: r => by
    rw [List.map_cons]
    simp only [PyData.eqvAll, trips_eqv r, Bool.and_true]
    simp [tripD, PyData.eqv, PyData.eqvAll]
theorem trips_lay : ∀ ks : List (Int × Int × Int), PyData.canLayAll0 (ks.map tripD) = true ∧ PyData.depthAll (ks.map tripD) ≤ 3
  | [] => ⟨rfl, Nat.zero_le _⟩
  | k :: r => by
    obtain ⟨h1, h2⟩ := trips_lay r
    have s1 : PyData.strOk ("array" : Str) = true := by decide +kernel
    have s2 : PyData.strOk ("int" : Str) = true := by decide +kernel
    rw [List.map_cons]
    simp only [PyData.canLayAll0, PyData.depthAll, h1, Bool.and_true]
    refine ⟨?_, ?_⟩
    · simp [tripD, PyData.canLay0, PyData.canLayAll0, s1, s2]
    · simp [tripD, PyData.depth, PyData.depthAll]; omega
theorem trips_shaped (ks : List (Int × Int × Int)) : SeqAt.shaped (.list (ks.map tripD)) = true := by
  obtain ⟨h1, h2⟩ := trips_lay ks
  simp [SeqAt.shaped, PyData.canLay0, PyData.depth, h1]; omega
theorem ItsR.reads {H h : Heap} {l ex : Ledger} (L : Led H h l) (m : ∀ p ∈ ex, p ∈ l) : ∀ {vs : List Value} {ks : List (Int × Int × Int)}, ItsR ex vs ks → ∃ as, ReadsAll h vs (ks.map tripD) as
  | [], [], _ => ⟨_, .nil⟩
  | _ :: _, _ :: _, h => by
    obtain ⟨as, ra⟩ := ItsR.reads L m h.2
    obtain ⟨T, u1, u2, T2, T3, s1, s2, u3, rfl, b, c, d⟩ := h.1
    obtain ⟨i1, h1⟩ := at_of_mem (m _ b)
    obtain ⟨i2, h2⟩ := at_of_mem (m _ c)
    obtain ⟨i3, h3⟩ := at_of_mem (m _ d)
    exact ⟨_, .cons (reads_tup L h1 (.cons (.int _ _) (.cons (.int _ _) (.cons (reads_tup L h2 (.cons (.str _ _) (.cons (reads_tup L h3 (.cons (.str _ _) (.cons (.int _ _) .nil))) .nil))) .nil)))) ra⟩
  | [], _ :: _, h => h.elim
  | _ :: _, [], h => h.elim
def trip (mo : List (Int × Int × Int)) (k : Int) : Int × Int × Int := (k, (look mo k).getD (0, 0))
section
variable {w : World} {A : Around} {E : Value → Shared → Prop} {H h : Heap} {g : Array GenState} {d : Drawn} {t : Nat} {os : OsState} {env : Env} {l : Ledger} {fo iob : Obj} {I : Addr} {f : Fx} {v : Vr} {b : Bk} {hs : List Int} {mh : List (Int × Unit)} {mw : List (Int × Int)} {vals : List (Option Value)}
theorem t_item {T : Addr} {vs : List Value} {k : Int} {u : Tok} {x : Value} {value slice : PySem.Expr} {Q : Value → Shared → Prop} (i : Nat) (j : Nat) (L : Led H h l) (hi : l[i]? = some (T, tupO vs)) (hk : k = j) (hx : vs[j]? = some x) (hz : vs.length ≤ 1000) (q : Q x ⟨h, g, d, t, os⟩)
    (hs : subscripted slice false (.ref T) (.int k u) = operate [.ref T, .int k u] (getItem (.ref T) (.int k u)) := by with_unfolding_all rfl) : Wp w A (subscriptTail value slice (.ref T) (.int k u)) Q E ⟨h, g, d, t, os⟩ := by
  delta Wp
  have hj := (List.getElem?_eq_some_iff.mp hx).1
  have e : seqIndex? k vs.length = some j := by
    have h0 : 0 ≤ k := by omega
    have h1 : k < vs.length := by omega
    rw [seqIndex_of h0 h1]; congr 1; omega
  exact item_tupleT (s := ⟨h, g, d, t, os⟩) ⟨_, L.get hi, rfl, 0, rfl⟩ (by omega) (by omega) e hx q hs
theorem obj_left {Q : Value → Shared → Prop} (G : Gd w H) (hA : Room 19 A) (V : EnvOk env lawN lawG) (X : FxOk w env f hs mh mw) (L : Led H h ((env.locals, fo) :: LW w f v)) (N : Loc fo lawN vals) (SC : StC w f b v) (hz : b.mo.length < 60)
    (q : ∀ h t fo D ex ys o, Led H h ((env.locals, fo) :: (D, o) :: (ex ++ LW w f v)) → Loc fo lawN vals → LstO o ys → ItsR ex ys ((sortI (b.mo.map (·.1))).map (trip b.mo)) → Q (.ref D) ⟨h, g, d, t, os⟩) : Wp w A (eval objL env) Q E ⟨h, g, d, t, os⟩ := by
  refine e_comp ["one"] ["told"] ["changes"] (by decide +kernel) (fun z hz => by rw [List.mem_singleton.mp hz, X.C1.look]; rfl) (e_call (e_blt 8 G V L (b_sorted _) (cw_b rfl (a_cons (e_attr (e_cell 1 V X.C1 L X.v1 ?_))))))
  refine o_get 13 14 G L rfl rfl (by kernel_rfl!) rfl rfl fun t => a_nil ?_
  refine c_sorted_dict 18 G hA.u L N rfl SC.O (by omega) fun Sd h t fo so ws L N cS hW => ?_
  have hlen : (sortI (b.mo.map (·.1))).length = b.mo.length := by rw [(sortI_perm _).length_eq, List.length_map]
  refine it_list 1 L rfl cS fun I iob h LI c0 src => ?_
  refine cb_run ["one"] ["told"] ["changes"] 0 (fun j ex ys => ItsR ex ys (((sortI (b.mo.map (·.1))).take j).map (trip b.mo))) V (by decide +kernel) hA.u src (by rw [hW.length]; omega) c0 LI trivial (fun p' hp' => by rw [List.mem_singleton.mp hp']; exact .head _) (fun j ex ys e => by rw [e.len]; simp; omega) ?_ ?_
  · intro j x ex ys C' co' D dob iob h t hj hv hP V' eL eF L N'
    rw [hW.length] at hj
    obtain ⟨u, e⟩ := ints_at hW j hj
    rw [hv] at e; cases e
    have hk := getD_at hj
    generalize (sortI (b.mo.map (·.1))).getD j 0 = k at hk N'
    obtain ⟨⟨gn, tn⟩, hkv⟩ := look_mem ((sortI_perm _).mem_iff.mp (List.mem_of_getElem? hk))
    refine tests_nil ?_
    rw [if_pos rfl]
    have sub : ∀ p ∈ LW w f v, p ∈ (C', co') :: (D, dob) :: (I, iob) :: (env.locals, fo) :: (ex ++ (Sd, so) :: LW w f v) := fun p hp => .tail _ (.tail _ (.tail _ (.tail _ (List.mem_append_right _ (.tail _ hp)))))
    obtain ⟨i1, hi1⟩ := at_of_mem (sub (f.c1, f.o1) (by simp))
    obtain ⟨i2, hi2⟩ := at_of_mem (sub (f.c.x, instObj 426 f.c.dx) (by simp))
    obtain ⟨i3, hi3⟩ := at_of_mem (sub (f.c.dx, f.c.d w) (by simp))
    obtain ⟨i4, hi4⟩ := at_of_mem (sub (f.c.Ob, v.oo) (by simp))
    refine e_tup (a_cons (e_loc 0 V' L N' (a_cons (e_sub (e_sub (e_attr (e_cell i1 V' (compE_cell rfl X.C1) L X.v1 ?_ hi1)))))))
    refine o_get i2 i3 G L hi2 hi3 (by kernel_rfl!) rfl rfl fun t => e_loc 0 V' L N' ?_
    refine r_item i4 L hi4 SC.O hkv fun t x hx => ?_
    obtain ⟨T, K, ko, u1, u2, rfl, hT, hK, cK⟩ := hx
    obtain ⟨i5, hi5⟩ := at_of_mem (sub _ (show (T, tupO [.int gn u1, .ref K]) ∈ LW w f v by simp [hT]))
    obtain ⟨i6, hi6⟩ := at_of_mem (sub _ (show (K, ko) ∈ LW w f v by simp [hK]))
    refine e_int fun _ t => t_item i5 0 L hi5 rfl rfl (by simp) (a_cons ?_)
    refine e_call (e_glob 0 G V' L (g_told _) (cw_f G (by kernel_rfl!) (a_cons (e_sub (e_sub (e_attr (e_cell i1 V' (compE_cell rfl X.C1) L X.v1 ?_ hi1)))))))
    refine o_get i2 i3 G L hi2 hi3 (by kernel_rfl!) rfl rfl fun t => e_loc 0 V' L N' ?_
    refine r_item i4 L hi4 SC.O hkv fun t x hx => ?_
    obtain ⟨T', K', ko', u1', u2', rfl, hT', hK', cK'⟩ := hx
    obtain ⟨i5', hi5'⟩ := at_of_mem (sub _ (show (T', tupO [.int gn u1', .ref K']) ∈ LW w f v by simp [hT']))
    obtain ⟨i6', hi6'⟩ := at_of_mem (sub _ (show (K', ko') ∈ LW w f v by simp [hK']))
    refine e_int fun _ t => t_item i5' 1 L hi5' rfl rfl (by simp) (a_nil ⟨⟨_, L⟩, e_code ?_⟩)
    refine told_list (i := i6') G (hA.mono (by decide)) L hi6' cK' fun h t T2 T3 k1 k2 L => a_nil ?_
    refine n_tup L (by simp) fun T h L => ?_
    refine ⟨h, t, (T, tupO [.int k u, .int gn u1, .ref T2]) :: (T2, tupO [.str "array" k1, .ref T3]) :: (T3, tupO [.str "int" k2, .int tn u2']) :: ex, rfl, L.re 7 [0, 4, 5, 6, 1, 2, 3], ?_⟩
    have et : ((sortI (b.mo.map (·.1))).take (j + 1)).map (trip b.mo) = ((sortI (b.mo.map (·.1))).take j).map (trip b.mo) ++ [(k, gn, tn)] := by
      rw [List.take_add_one, hk, List.map_append]
      simp [trip, hkv]
    rw [et]
    exact ItsR.snoc (k := (k, gn, tn)) ⟨T, u, u1, T2, T3, k1, k2, u2', rfl, .head _, .tail _ (.head _), .tail _ (.tail _ (.head _))⟩ (hP.mono fun p hp => .tail _ (.tail _ (.tail _ hp)))
  · intro h t D dob ex ys L c1 hP
    rw [hW.length, List.take_length] at hP
    exact q h t fo D ((ex ++ [(Sd, so)])) ys dob (by simpa using L) N c1 (hP.mono fun p hp => List.mem_append_left _ hp)
theorem obj_right {Q : Value → Shared → Prop} (G : Gd w H) (hA : Room 19 A) (V : EnvOk env lawN lawG) (X : FxOk w env f hs mh mw) (L : Led H h ((env.locals, fo) :: LW w f v)) (N : Loc fo lawN vals) (SB : StB w f b v) (hz : b.mo.length < 60)
    (q : ∀ h t fo D ex ys o, Led H h ((env.locals, fo) :: (D, o) :: (ex ++ LW w f v)) → Loc fo lawN vals → LstO o ys → ItsR ex ys ((sortI (b.mo.map (·.1))).map (trip b.mo)) → Q (.ref D) ⟨h, g, d, t, os⟩) : Wp w A (eval objR env) Q E ⟨h, g, d, t, os⟩ := by
  refine e_comp ["one"] ["told"] ["book"] (by decide +kernel) (fun z hz => by rw [List.mem_singleton.mp hz, X.C2.look]; rfl) (e_call (e_blt 8 G V L (b_sorted _) (cw_b rfl (a_cons (e_sub (e_cell 2 V X.C2 L X.v2 (e_str fun k1 t => ?_)))))))
  refine s_item 7 L rfl SB.B rfl fun t => a_nil ?_
  refine c_sorted_dict 10 G hA.u L N rfl SB.L (by omega) fun Sd h t fo so ws L N cS hW => ?_
  have hlen : (sortI (b.mo.map (·.1))).length = b.mo.length := by rw [(sortI_perm _).length_eq, List.length_map]
  refine it_list 1 L rfl cS fun I iob h LI c0 src => ?_
  refine cb_run ["one"] ["told"] ["book"] 0 (fun j ex ys => ItsR ex ys (((sortI (b.mo.map (·.1))).take j).map (trip b.mo))) V (by decide +kernel) hA.u src (by rw [hW.length]; omega) c0 LI trivial (fun p' hp' => by rw [List.mem_singleton.mp hp']; exact .head _) (fun j ex ys e => by rw [e.len]; simp; omega) ?_ ?_
  · intro j x ex ys C' co' D dob iob h t hj hv hP V' eL eF L N'
    rw [hW.length] at hj
    obtain ⟨u, e⟩ := ints_at hW j hj
    rw [hv] at e; cases e
    have hk := getD_at hj
    generalize (sortI (b.mo.map (·.1))).getD j 0 = k at hk N'
    obtain ⟨⟨gn, tn⟩, hkv⟩ := look_mem ((sortI_perm _).mem_iff.mp (List.mem_of_getElem? hk))
    refine tests_nil ?_
    rw [if_pos rfl]
    have sub : ∀ p ∈ LW w f v, p ∈ (C', co') :: (D, dob) :: (I, iob) :: (env.locals, fo) :: (ex ++ (Sd, so) :: LW w f v) := fun p hp => .tail _ (.tail _ (.tail _ (.tail _ (List.mem_append_right _ (.tail _ hp)))))
    obtain ⟨i1, hi1⟩ := at_of_mem (sub (f.c2, f.o2) (by simp))
    obtain ⟨i2, hi2⟩ := at_of_mem (sub (f.B, v.bo) (by simp))
    obtain ⟨i4, hi4⟩ := at_of_mem (sub (v.La, v.lo) (by simp))
    refine e_tup (a_cons (e_loc 0 V' L N' (a_cons (e_sub (e_sub (e_sub (e_cell i1 V' (compE_cell rfl X.C2) L X.v2 (e_str fun k2 t => ?_) hi1)))))))
    refine s_item i2 L hi2 SB.B rfl fun t => e_loc 0 V' L N' ?_
    refine r_item i4 L hi4 SB.L hkv fun t x hx => ?_
    obtain ⟨T, K, ko, u1, u2, rfl, hT, hK, cK⟩ := hx
    obtain ⟨i5, hi5⟩ := at_of_mem (sub _ (show (T, tupO [.int gn u1, .ref K]) ∈ LW w f v by simp [hT]))
    obtain ⟨i6, hi6⟩ := at_of_mem (sub _ (show (K, ko) ∈ LW w f v by simp [hK]))
    refine e_int fun _ t => t_item i5 0 L hi5 rfl rfl (by simp) (a_cons ?_)
    refine e_call (e_glob 0 G V' L (g_told _) (cw_f G (by kernel_rfl!) (a_cons (e_sub (e_sub (e_sub (e_cell i1 V' (compE_cell rfl X.C2) L X.v2 (e_str fun k2 t => ?_) hi1)))))))
    refine s_item i2 L hi2 SB.B rfl fun t => e_loc 0 V' L N' ?_
    refine r_item i4 L hi4 SB.L hkv fun t x hx => ?_
    obtain ⟨T', K', ko', u1', u2', rfl, hT', hK', cK'⟩ := hx
    obtain ⟨i5', hi5'⟩ := at_of_mem (sub _ (show (T', tupO [.int gn u1', .ref K']) ∈ LW w f v by simp [hT']))
    obtain ⟨i6', hi6'⟩ := at_of_mem (sub _ (show (K', ko') ∈ LW w f v by simp [hK']))
    refine e_int fun _ t => t_item i5' 1 L hi5' rfl rfl (by simp) (a_nil ⟨⟨_, L⟩, e_code ?_⟩)
    refine told_list (i := i6') G (hA.mono (by decide)) L hi6' cK' fun h t T2 T3 k1 k2 L => a_nil ?_
    refine n_tup L (by simp) fun T h L => ?_
    refine ⟨h, t, (T, tupO [.int k u, .int gn u1, .ref T2]) :: (T2, tupO [.str "array" k1, .ref T3]) :: (T3, tupO [.str "int" k2, .int tn u2']) :: ex, rfl, L.re 7 [0, 4, 5, 6, 1, 2, 3], ?_⟩
    have et : ((sortI (b.mo.map (·.1))).take (j + 1)).map (trip b.mo) = ((sortI (b.mo.map (·.1))).take j).map (trip b.mo) ++ [(k, gn, tn)] := by
      rw [List.take_add_one, hk, List.map_append]
      simp [trip, hkv]
    rw [et]
    exact ItsR.snoc (k := (k, gn, tn)) ⟨T, u, u1, T2, T3, k1, k2, u2', rfl, .head _, .tail _ (.head _), .tail _ (.tail _ (.head _))⟩ (hP.mono fun p hp => .tail _ (.tail _ (.tail _ hp)))
  · intro h t D dob ex ys L c1 hP
    rw [hW.length, List.take_length] at hP
    exact q h t fo D ((ex ++ [(Sd, so)])) ys dob (by simpa using L) N c1 (hP.mono fun p hp => List.mem_append_left _ hp)
/-- the two lists of objects are equal -/
theorem objs_test {Q : Bool → Shared → Prop} {p1 : Pos} {whole : Sem Value} (G : Gd w H) (hA : Room 19 A) (V : EnvOk env lawN lawG) (X : FxOk w env f hs mh mw) (L : Led H h ((env.locals, fo) :: LW w f v)) (N : Loc fo lawN vals) (SB : StB w f b v) (SC : StC w f b v) (hz : b.mo.length < 60)
    (q : ∀ h t fo ex, Led H h ((env.locals, fo) :: LW w f { v with ex := v.ex ++ ex }) → Loc fo lawN vals → Q false ⟨h, g, d, t, os⟩) : Wp w A (isTrue (.Compare objL [.NotEq] [objR] p1) env whole) Q E ⟨h, g, d, t, os⟩ := by
  refine t_cmp (obj_left G hA V X L N SC hz fun h t fo D ex ys o L N c R => ?_)
  have L1 : Led H h ((env.locals, fo) :: LW w f { v with ex := v.ex ++ ((D, o) :: ex) }) := by
    refine L.perm (.cons _ ?_)
    have e : LW w f { v with ex := v.ex ++ ((D, o) :: ex) } = LW w f v ++ ((D, o) :: ex) := rfl
    rw [e]
    exact (List.perm_append_comm (l₁ := (D, o) :: ex) (l₂ := LW w f v))
  have m1 : ∀ p ∈ v.ex, p ∈ v.ex ++ ((D, o) :: ex) := fun p hp => List.mem_append_left _ hp
  refine obj_right G hA V X L1 N (b := b) ⟨SB.B, SB.U, SB.S, SB.L.mono fun v b z => z.mono m1⟩ hz fun h t fo D2 ex2 ys2 o2 L N c2 R2 => ?_
  obtain ⟨as, ra⟩ := R.reads L (fun p hp => .tail _ (.tail _ (List.mem_append_right _ (by simp [hp]))))
  obtain ⟨bs, rb⟩ := R2.reads L (fun p hp => .tail _ (.tail _ (List.mem_append_left _ hp)))
  obtain ⟨k1, n1, d1⟩ := c
  obtain ⟨k2, n2, d2⟩ := c2
  have hD : h.get? D = some o := L.mem (.tail _ (.tail _ (List.mem_append_right _ (by simp))))
  have hD2 : h.get? D2 = some o2 := L.mem (.tail _ (.head _))
  refine Wp.of (ne_dataH (s := ⟨h, g, d, t, os⟩) (.list hD k1 d1 ra) (.list hD2 k2 d2 rb) (trips_shaped _) (trips_shaped _) (by obtain ⟨_, _, x⟩ := hA; omega) ?_)
  have e : PyData.eqv (.list (((sortI (b.mo.map (·.1))).map (trip b.mo)).map tripD)) (.list (((sortI (b.mo.map (·.1))).map (trip b.mo)).map tripD)) = true := by
    simp only [PyData.eqv]; exact trips_eqv _
  rw [e]
  refine t_bool ?_
  refine q h t fo ((D, o) :: ex ++ ((D2, o2) :: ex2)) ?_ N
  refine L.perm (.cons _ ?_)
  have e : LW w f { v with ex := v.ex ++ ((D, o) :: ex ++ ((D2, o2) :: ex2)) } = LW w f { v with ex := v.ex ++ ((D, o) :: ex) } ++ ((D2, o2) :: ex2) := by simp
  rw [e]
  exact (List.perm_append_comm (l₁ := (D2, o2) :: ex2) (l₂ := LW w f { v with ex := v.ex ++ ((D, o) :: ex) }))
end
end Mine
namespace Mine
set_option maxRecDepth 100000
section
variable {w : World} {A : Around} {E : Value → Shared → Prop} {H h : Heap} {g : Array GenState} {d : Drawn} {t : Nat} {os : OsState} {env : Env} {l : Ledger} {fo iob : Obj} {I : Addr} {f : Fx} {v : Vr} {b : Bk} {hs : List Int} {mh : List (Int × Unit)} {mw : List (Int × Int)} {vals : List (Option Value)}
/-- the references that are told -/
theorem ref_turn {j : Nat} {tj : Tok} {Q : Flow → Shared → Prop} (G : Gd w H) (hA : Room 19 A) (hF : A.frames = some [env]) (V : EnvOk env lawN lawG) (eF : env.frame = some env.locals) (X : FxOk w env f hs mh mw) (L : Led H h ((env.locals, fo) :: (I, iob) :: LW w f v)) (N : Loc fo lawN vals) (hv : vals[8]? = some (some (.int j tj))) (SB : StB w f b v) (SC : StC w f b v) (hj : j < 9)
    (q : ∀ h t fo ex, Led H h ((env.locals, fo) :: (I, iob) :: LW w f { v with ex := ex }) → Loc fo lawN vals → (∀ p ∈ v.ex, p ∈ ex) → Q .next ⟨h, g, d, t, os⟩) :
    Wp w A (execs (forB (lawB.getD 6 (.Pass ⟨0, 0, 0, 0⟩))) env) Q (fun _ _ => False) ⟨h, g, d, t, os⟩ := by
  refine x_if (t_cmp (Wp.mono (Q := fun y s => ∃ h t fo ex, s = ⟨h, g, d, t, os⟩ ∧ Led H h ((env.locals, fo) :: (I, iob) :: LW w f { v with ex := ex }) ∧ Loc fo lawN vals ∧ (∀ p ∈ v.ex, p ∈ ex) ∧ ((look b.mu j = none ∧ ∃ tk, y = .str "refused" tk) ∨ ∃ T u1 u2 gn, look b.mu j = some gn ∧ y = .ref T ∧ (T, tupO [.int j u1, .int gn u2]) ∈ ex)) (E := fun _ _ => False) ?_ (fun y s z => ?_) fun _ _ z => z.elim))
  · refine e_call (e_glob 9 G V L (g_law_told_reference _) (cw_f G (by kernel_rfl!) (a_cons (e_cell 2 V X.C1 L X.v1 (a_cons (e_loc 8 V L N (a_nil ⟨⟨_, L⟩, e_code ?_⟩) rfl hv))))))
    have L1 : Led H h ((env.locals, fo) :: chL w f.c v.ku v.ks f.wo f.hh v.oo v.ro ((I, iob) :: (f.c1, f.o1) :: (f.c2, f.o2) :: (f.c3, f.o3) :: (f.c4, f.o4) :: (f.p, v.op) :: (f.cl, f.oc) :: bkL f.B v.bo v.U v.uo v.S v.so f.Hd f.ho v.La v.lo f.F f.fo2 v.ex)) := L.re 22 [0, 14, 15, 16, 17, 18, 19, 20, 21, 1, 2, 3, 4, 5, 6, 7, 8, 9, 10, 11, 12, 13]
    generalize hr : ((I, iob) :: (f.c1, f.o1) :: (f.c2, f.o2) :: (f.c3, f.o3) :: (f.c4, f.o4) :: (f.p, v.op) :: (f.cl, f.oc) :: bkL f.B v.bo v.U v.uo v.S v.so f.Hd f.ho v.La v.lo f.F f.fo2 v.ex) = lr at L1
    have L2 : Led H h (chL w f.c v.ku v.ks f.wo f.hh v.oo v.ro (lr ++ [(env.locals, fo)])) := L1.perm (List.perm_append_singleton _ _).symm
    have F1 : FrsOk [env] [(env.locals, fo)] := frs_next (outer := []) (fl := []) trivial eF V N
    refine law_toldref (l := lr) (fl := [(env.locals, fo)]) (outer := [env]) G (hA.mono (by decide)) hF F1 L2 SC.U (by omega) (fun h t tk fl' hk Sd L => ?_) (fun h t T u1 u2 gn ex hk L => ?_)
    · cases fl' with
      | nil => exact Sd.elim
      | cons p fl2 =>
        obtain ⟨a, fo'⟩ := p
        obtain ⟨⟨s1, s2⟩, s3⟩ := Sd
        dsimp only at s1 s2
        subst s1
        cases fl2 with
        | cons _ _ => exact s3.elim
        | nil =>
          have L3 : Led H h ((env.locals, fo') :: chL w f.c v.ku v.ks f.wo f.hh v.oo v.ro lr) := Led.front (X := chL w f.c v.ku v.ks f.wo f.hh v.oo v.ro lr) L
          rw [← hr] at L3
          exact ⟨h, t, fo', v.ex, rfl, L3.re 22 [0, 9, 10, 11, 12, 13, 14, 15, 16, 17, 18, 19, 20, 21, 1, 2, 3, 4, 5, 6, 7, 8], N.same s2, fun p hp => hp, .inl ⟨hk, tk, rfl⟩⟩
    · have L3 : Led H h ((env.locals, fo) :: chL w f.c v.ku v.ks f.wo f.hh v.oo v.ro ((T, tupO [.int j u1, .int gn u2]) :: (ex ++ lr))) := Led.front (X := chL w f.c v.ku v.ks f.wo f.hh v.oo v.ro ((T, tupO [.int j u1, .int gn u2]) :: (ex ++ lr))) L
      rw [← hr] at L3
      have L4 := L3.perm (.cons _ (.cons _ (.cons _ (.cons _ (.cons _ (.cons _ (.cons _ (.cons _ (.cons _ (.cons _ (mvK 13 ex _)))))))))))
      exact ⟨h, t, fo, (T, tupO [.int j u1, .int gn u2]) :: (ex ++ v.ex), rfl, L4.re 23 [0, 10, 11, 12, 13, 14, 15, 16, 17, 18, 19, 20, 21, 22, 1, 2, 3, 4, 5, 6, 7, 8, 9], N, fun p hp => .tail _ (List.mem_append_right _ hp), .inr ⟨T, u1, u2, gn, hk, rfl, .head _⟩⟩
  obtain ⟨h, t, fo, ex, rfl, L, N, hsub, hy⟩ := z
  have R5 : Room 5 A := hA.mono (by decide)
  refine e_ife (t_cmp (e_loc 8 V L N (e_sub (e_cell 3 V X.C2 L X.v2 (e_str fun k1 t => ?_))) rfl hv))
  refine s_item 8 L rfl SB.B rfl fun t => ?_
  refine r_in 9 G L rfl SB.U fun t => t_bool ?_
  rcases hy with ⟨hk, tk, rfl⟩ | ⟨T, u1, u2, gn, hk, rfl, hm⟩
  · rw [hk]
    refine if_ff (e_str fun kr t => i_nes (t_bool ?_))
    rw [decide_eq_false (fun h => h rfl)]
    exact if_ff (x_nil (x_end (q h _ fo ex L N hsub)))
  · rw [hk]
    refine if_tt (e_tup (a_cons (e_loc 8 V L N (a_cons (e_sub (e_sub (e_cell 3 V X.C2 L X.v2 (e_str fun k2 t => ?_))))) rfl hv)))
    refine s_item 8 L rfl SB.B rfl fun t => e_loc 8 V L N ?_ rfl hv
    refine r_item 9 L rfl SB.U hk fun t v' hv' => ?_
    obtain ⟨u3, rfl⟩ := hv'
    refine a_nil (n_tup L (by simp) fun T2 h L => ?_)
    obtain ⟨i1, h1⟩ := at_of_mem (show (T, tupO [.int j u1, .int gn u2]) ∈ (env.locals, fo) :: (T2, tupO [.int j tj, .int gn u3]) :: (I, iob) :: LW w f { v with ex := ex } by simp [hm])
    refine i_nepair i1 1 R5 L h1 rfl (t_bool ?_)
    rw [decide_eq_true ⟨rfl, rfl⟩]
    exact if_ff (x_nil (x_end (q h _ fo ex L.drop1 N hsub)))
def laidOf (mo : List (Int × Int × Int)) : List (Int × Ent) := mo.map fun p => (p.1, ⟨"used", 9 * p.1, p.2.1⟩)
theorem laidOf_keys (mo : List (Int × Int × Int)) : (laidOf mo).map (·.1) = mo.map (·.1) := by
  unfold laidOf; rw [List.map_map]; rfl
end
end Mine
namespace Mine
set_option maxRecDepth 100000
theorem new_len (ml : List (Int × Ent)) (ms mw : List (Int × Int)) : (newEnts ml ms mw).length ≤ ml.length + (2 * ms.length + 1) := by
  unfold newEnts
  split
  · omega
  · have h1 := fold_len (fun (f : List (Int × Ent)) (p : Int × Ent) => put f p.1 p.2) (fun b a => put_len _ _ _) (freeOf ms) ml
    have h2 := freeOf_len ms
    unfold mergeE; omega
section
variable {w : World} {A : Around} {E : Value → Shared → Prop} {H h : Heap} {g : Array GenState} {d : Drawn} {t : Nat} {os : OsState} {env : Env} {l : Ledger} {fo iob : Obj} {I : Addr} {f : Fx} {v : Vr} {b : Bk} {hs : List Int} {mh : List (Int × Unit)} {mw : List (Int × Int)} {vals : List (Option Value)}
theorem LW_more (L : Led H h ((env.locals, fo) :: (l ++ LW w f v))) : Led H h ((env.locals, fo) :: LW w f { v with ex := v.ex ++ l }) := by
  refine L.perm (.cons _ ?_)
  have e : LW w f { v with ex := v.ex ++ l } = LW w f v ++ l := rfl
  rw [e]
  exact List.perm_append_comm
theorem law_end {j : Nat} {Q : Flow → Shared → Prop} (G : Gd w H) (hA : Room 19 A) (V : EnvOk env lawN lawG) (X : FxOk w env f hs mh mw) (L : Led H h ((env.locals, fo) :: LW w f v)) (N : Loc fo lawN vals) (SB : StB w f b v) (SC : StC w f b v) (Iv : Inv f.c.fs j b) (hj : j ≤ 8)
    (q : ∀ h t l, Led H h l → Q (.ret (.bool true)) ⟨h, g, d, t, os⟩) : Wp w A (execs (lawB.drop 7) env) Q (fun _ _ => False) ⟨h, g, d, t, os⟩ := by
  have bd := Iv.bds hj SB.U.nodup SB.S.nodup SB.L.nodup
  have hmo := Iv.ko.len SB.L.nodup
  have hms := Iv.ks.len SB.S.nodup
  have s8 := Iv.s8
  -- laid = dict([..])
  refine x_assign (e_call (e_blt 10 G V L (b_dict _) (cw_b rfl (a_cons (e_comp ["one"] ["Entry"] ["changes"] (by decide +kernel) (fun z hz => by rw [List.mem_singleton.mp hz, X.C1.look]; rfl) (e_attr (e_cell 1 V X.C1 L X.v1 ?_)))))))
  refine o_get 13 14 G L rfl rfl (by kernel_rfl!) rfl rfl fun t => ?_
  refine r_it 19 G L rfl SC.O fun I iob h It LI c0 src => ?_
  refine cb_runP ["one"] ["Entry"] ["changes"] 0 (fun j ex ys => PairP w (EntR w ex) ex ys (laidOf (b.mo.take j))) V (by decide +kernel) hA.u src (by omega) c0 LI PairP.nil (fun p' hp' => by rw [List.mem_singleton.mp hp']; simp) (fun j ex ys P => by rw [P.len]; simp [laidOf]; omega) ?_ ?_
  · intro j x ex ys C' co' D dob iob h t hj hvv P V' eL eF L N'
    obtain ⟨k, e, tk, hme, rfl⟩ := hvv
    have hk := look_at SC.O.nodup hme
    have sub : ∀ p ∈ LW w f v, p ∈ (C', co') :: (D, dob) :: (I, iob) :: (env.locals, fo) :: (ex ++ LW w f v) := fun p hp => .tail _ (.tail _ (.tail _ (.tail _ (List.mem_append_right _ hp))))
    obtain ⟨i1, hi1⟩ := at_of_mem (sub (f.c1, f.o1) (by simp))
    obtain ⟨i2, hi2⟩ := at_of_mem (sub (f.c.x, instObj 426 f.c.dx) (by simp))
    obtain ⟨i3, hi3⟩ := at_of_mem (sub (f.c.dx, f.c.d w) (by simp))
    obtain ⟨i4, hi4⟩ := at_of_mem (sub (f.c.Ob, v.oo) (by simp))
    refine tests_nil ?_
    rw [if_pos rfl]
    refine e_tup (a_cons (e_loc 0 V' L N' (a_cons (e_call (e_glob 0 G V' L (g_Entry _) (cw_f G (by kernel_rfl!) (a_cons (e_str fun uw t => a_cons (e_bin (e_int fun _ t => e_loc 0 V' L N' ?_))))))))))
    refine i_mul (IntMulOk.of_left (by decide)) fun uo t => a_cons (e_sub (e_sub (e_attr (e_cell i1 V' (compE_cell rfl X.C1) L X.v1 ?_ hi1))))
    refine o_get i2 i3 G L hi2 hi3 (by kernel_rfl!) rfl rfl fun t => e_loc 0 V' L N' ?_
    refine r_item i4 L hi4 SC.O hk fun t x hx => ?_
    obtain ⟨T, K, ko, u1, u2, rfl, hT, hK, cK⟩ := hx
    obtain ⟨i5, hi5⟩ := at_of_mem (sub _ (show (T, tupO [.int e.1 u1, .ref K]) ∈ LW w f v by simp [hT]))
    refine e_int fun _ t => t_item i5 0 L hi5 rfl rfl (by simp) (a_nil ⟨⟨_, L⟩, ?_⟩)
    refine c_cls (fI := 35) G L (by kernel_rfl!) fun x dx h L => ?_
    refine entry_init G (Room.make (hA.mono (by decide : 4 ≤ 19)) _ _ _).depth (L.re 3 [1, 2, 0]) fun h t t1 t2 t3 L => ⟨rfl, ?_⟩
    refine a_nil (n_tup L (by simp) fun T2 h L => ?_)
    refine ⟨h, t, (T2, tupO [.int k tk, .ref x]) :: (x, instObj 45 dx) :: (dx, entryD w (.str "used" uw) (.int (9 * k) uo) (.int e.1 u1) t1 t2 t3) :: ex, rfl, L.re 7 [3, 4, 5, 6, 1, 0, 2], ?_⟩
    have et : laidOf (b.mo.take (j + 1)) = laidOf (b.mo.take j) ++ [(k, ⟨"used", 9 * k, e.1⟩)] := by
      unfold laidOf
      rw [List.take_add_one, hme, List.map_append]; rfl
    rw [et]
    have P2 : PairP w (EntR w ((T2, tupO [.int k tk, .ref x]) :: (x, instObj 45 dx) :: (dx, entryD w (.str "used" uw) (.int (9 * k) uo) (.int e.1 u1) t1 t2 t3) :: ex)) ((x, instObj 45 dx) :: (dx, entryD w (.str "used" uw) (.int (9 * k) uo) (.int e.1 u1) t1 t2 t3) :: ex) ys (laidOf (b.mo.take j)) := P.mono (fun v a z => z.mono fun p hp => .tail _ (.tail _ (.tail _ hp))) (fun p hp => .tail _ (.tail _ hp))
    exact P2.snoc ⟨x, dx, t1, t2, t3, uw, uo, u1, rfl, .tail _ (.head _), .tail _ (.tail _ (.head _))⟩
  intro h t D dob exA ys L cD cDd P
  rw [List.take_length] at P
  have hlm : (laidOf b.mo).length = b.mo.length := by simp [laidOf]
  have hln : ((laidOf b.mo).map (·.1)).Nodup := by rw [laidOf_keys]; exact SC.O.nodup
  have hlw : ∀ q ∈ laidOf b.mo, PyData.strOk q.2.way = true := by
    intro q hq
    obtain ⟨p, _, rfl⟩ := List.mem_map.mp hq
    show PyData.strOk ("used" : Str) = true
    decide +kernel
  refine a_nil (c_pairs 1 hA.u L rfl cD cDd P (fun q hq => .tail _ (List.mem_append_left _ hq)) hln (by omega) fun Ln h t lno L cL => ?_)
  generalize laidOf b.mo = ml at *
  have L1 := LW_more (l := (Ln, lno) :: (D, dob) :: exA) L
  refine s_cell 3 V X.C3 X.k3 L1 X.v3 rfl fun h o3 L v3 => ?_
  replace L : Led H h ((env.locals, fo) :: LW w { f with o3 := o3 } { v with ex := v.ex ++ ((Ln, lno) :: (D, dob) :: exA) }) := L
  -- found = changes.new_entries(laid)
  refine x_assign (e_mcall (e_cell 1 V X.C1 L X.v1 ?_))
  refine o_meth (f := 423) 13 14 G L rfl rfl (by kernel_rfl!) rfl (cw_f G (by kernel_rfl!) (a_cons (e_cell 3 V X.C3 L v3 (a_nil ⟨⟨_, L⟩, e_code ?_⟩))))
  have L2 : Led H h ((env.locals, fo) :: chL w f.c v.ku v.ks f.wo f.hh v.oo v.ro ((f.c1, f.o1) :: (f.c2, f.o2) :: (f.c3, o3) :: (f.c4, f.o4) :: (f.p, v.op) :: (f.cl, f.oc) :: bkL f.B v.bo v.U v.uo v.S v.so f.Hd f.ho v.La v.lo f.F f.fo2 (v.ex ++ ((Ln, lno) :: (D, dob) :: exA)))) := L.re 21 [0, 13, 14, 15, 16, 17, 18, 19, 20, 1, 2, 3, 4, 5, 6, 7, 8, 9, 10, 11, 12]
  refine ch_new (lb := exA) G (hA.mono (by decide)) L2 SC.S X.cW (by simp) cL (by omega) (by omega) fun h t Fd od ex2 L cN => ?_
  have L3 := L.perm (.cons _ (.cons _ (.cons _ (.cons _ (.cons _ (.cons _ (.cons _ (.cons _ (.cons _ (.cons _ (mvK 12 ex2 _)))))))))))
  have L4 : Led H h ((env.locals, fo) :: LW w { f with o3 := o3 } { v with ex := (Fd, od) :: (ex2 ++ (v.ex ++ ((Ln, lno) :: (D, dob) :: exA))) }) := L3.re 22 [0, 10, 11, 12, 13, 14, 15, 16, 17, 18, 19, 20, 21, 2, 3, 4, 5, 6, 7, 8, 9, 1]
  refine s_cell 4 V X.C4 X.k4 L4 X.v4 rfl fun h o4 L v4 => ?_
  replace L : Led H h ((env.locals, fo) :: LW w { f with o3 := o3, o4 := o4 } { v with ex := (Fd, od) :: (ex2 ++ (v.ex ++ ((Ln, lno) :: (D, dob) :: exA))) }) := L
  have hnl := new_len ml b.ms mw
  have m1 : ∀ p ∈ ex2 ++ exA, p ∈ LW w { f with o3 := o3, o4 := o4 } { v with ex := (Fd, od) :: (ex2 ++ (v.ex ++ ((Ln, lno) :: (D, dob) :: exA))) } := fun p hp => by
    rcases List.mem_append.mp hp with hp | hp <;> simp [hp]
  have m2 : ∀ p ∈ exA, p ∈ LW w { f with o3 := o3, o4 := o4 } { v with ex := (Fd, od) :: (ex2 ++ (v.ex ++ ((Ln, lno) :: (D, dob) :: exA))) } := fun p hp => m1 p (List.mem_append_right _ hp)
  -- if book['spare'] == book['first']
  refine x_if (t_cmp (e_sub (e_cell 2 V X.C2 L X.v2 (e_str fun k1 t => ?_))))
  refine s_item 7 L rfl SB.B rfl fun t => e_sub (e_cell 2 V X.C2 L X.v2 (e_str fun k2 t => ?_))
  refine s_item 7 L rfl SB.B rfl fun t => ?_
  refine r_eq 9 12 G (hA.mono (by decide)) L rfl rfl SB.S X.cF (t_bool ?_)
  cases hq : eqI b.ms mw with
  | true =>
    refine if_tt (x_ret (e_cmp (told_dict (m := newEnts ml b.ms mw) 10 G (hA.mono (by decide)) V X.C4 v4 L (by simp) (show (Fd, od) ∈ _ by simp) (cN.mono fun v e z => z.mono m1) (new_ok hlw) (by omega) (by decide +kernel) rfl fun h t D1 d1 ex3 L c1 => ?_)))
    refine told_dict (m := ml) 10 G (hA.mono (by decide)) V X.C3 v3 L (by simp) (show (Ln, lno) ∈ _ by simp) (cL.mono fun v e z => z.mono fun p hp => .tail _ (List.mem_append_right _ (m2 p hp))) hlw (by omega) (by decide +kernel) rfl fun h t D2 d2 ex4 L c2 => ?_
    obtain ⟨i1, hi1⟩ := at_of_mem (show (D1, d1) ∈ (env.locals, fo) :: (D2, d2) :: (ex4 ++ (D1, d1) :: (ex3 ++ LW w { f with o3 := o3, o4 := o4 } { v with ex := (Fd, od) :: (ex2 ++ (v.ex ++ ((Ln, lno) :: (D, dob) :: exA))) })) by simp)
    refine r_eqE i1 1 G (hA.mono (by decide)) L hi1 rfl (c1.mono fun v e z => z.mono fun p hp => by simp [hp]) (c2.mono fun v e z => z.mono fun p hp => by simp [hp]) ?_
    rw [found_same hln hq]
    exact q h _ _ L
  | false =>
    refine if_ff (x_nil (x_ret (e_call (e_glob 11 G V L (g_law_chain_right _) (cw_f G (by kernel_rfl!) (a_cons (e_cell 4 V X.C4 L v4 (a_cons (e_cell 3 V X.C3 L v3 (a_cons (e_sub (e_cell 2 V X.C2 L X.v2 (e_str fun k3 t => ?_)))))))))))))
    refine s_item 7 L rfl SB.B rfl fun t => a_nil ⟨⟨_, L⟩, e_code ?_⟩
    refine chain_right G (hA.mono (by decide)) L (show (Fd, od) ∈ _ by simp) (show (Ln, lno) ∈ _ by simp) (show (v.S, v.so) ∈ _ by simp) (cN.mono fun v e z => z.mono m1) (cL.mono fun v e z => z.mono m2) SB.S (new_ok hlw) hlw (by omega) (by omega) (by omega) fun h t l L => ?_
    rw [found_due hln SB.S.nodup (fun k hk => (Iv.ks k hk).1) hq]
    exact q h t l L
end
end Mine
namespace Mine
set_option maxRecDepth 100000
section
variable {w : World} {A : Around} {E : Value → Shared → Prop} {H h : Heap} {g : Array GenState} {d : Drawn} {t : Nat} {os : OsState} {env : Env} {fo : Obj} {f : Fx} {v : Vr} {b : Bk} {hs : List Int} {mh : List (Int × Unit)} {mw : List (Int × Int)}
theorem law_rest {cells : List Int} {sm s0 : Int} {k : Nat} {sc De : Addr} {ts0 : Tok} {Q : Flow → Shared → Prop} (G : Gd w H) (hA : Room 19 A) (hF : A.frames = some [env]) (V : EnvOk env lawN lawG) (eF : env.frame = some env.locals) (X : FxOk w env f hs mh mw) (L : Led H h ((env.locals, fo) :: LW w f v))
    (N : Loc fo lawN [some (.ref sc), some (.ref f.cl), some (.ref f.p), some (.ref De), some (.int s0 ts0), some (.bool false)]) (P : PenO v.op f.oc f.cl cells k sm) (SB : StB w f b v) (SC : StC w f b v) (Iv : Inv f.c.fs 0 b) (hk : k ≤ 50) (hc : cells.length ≤ 100) (htc : false = (decide (b.mo ≠ []) || decide (b.mf ≠ [])))
    (q : ∀ h t l, Led H h l → Q (.ret (.bool true)) ⟨h, g, d, t, os⟩) : Wp w A (execs (lawB.drop 4) env) Q (fun _ _ => False) ⟨h, g, d, t, os⟩ := by
  -- for turn in range(_law_draw(pen, 9))
  refine x_for (e_call (e_blt 4 G V L (b_range _) (cw_b rfl (a_cons (e_draw 4 5 2 5 G (hA.mono (by decide)) V N L P (by omega) hc (by decide) rfl rfl (by decide) fun h t op tk L P => a_nil ?_)))))
  have hd := drawV_lt (cells := cells) (sm := sm) (k := k) (many := 9) (by decide)
  generalize drawV cells sm k 9 = T at *
  replace L : Led H h ((env.locals, fo) :: LW w f { v with op := op }) := L
  refine it_range1 L (by omega) fun I iob h t LI cI src => ?_
  have hT : (T - 0).toNat ≤ 8 := by omega
  generalize (T - 0).toNat = n at *
  refine for_name 6 (fun j l' vals => ∃ v b tc, vals = [some (.ref sc), some (.ref f.cl), some (.ref f.p), some (.ref De), some (.int s0 ts0), some (.bool tc)] ∧ l' = LW w f v ∧ PenO v.op f.oc f.cl cells (k + 1 + 2 * j) sm ∧ StB w f b v ∧ StC w f b v ∧ Inv f.c.fs j b ∧ tc = (decide (b.mo ≠ []) || decide (b.mf ≠ []))) V hA.u src cI LI (N.take 6) ⟨{ v with op := op }, b, false, rfl, rfl, P, ⟨SB.B, SB.U, SB.S, SB.L⟩, ⟨SC.U, SC.S, SC.O, SC.R⟩, Iv, htc⟩ (fun _ _ _ _ p hp => by cases hp) ?_ ?_
  · intro j x l' vals h t fo iob hj hv hJ L c0 N
    obtain ⟨tk, rfl⟩ := hv
    obtain ⟨v, b, tc, rfl, rfl, P, SB, SC, Iv, htc⟩ := hJ
    rw [show (0 : Int) + (j : Int) = (j : Int) by omega] at N
    refine law_turn (k := k + 1 + 2 * j) G hA hF V eF X L N P SB SC Iv (by omega) (by omega) hc htc fun h t fo v b tc vals L N hv6 P SB SC Iv htc => ?_
    exact ⟨h, t, fo, _, vals.take 6, iob, rfl, L, c0, N.take 6, v, b, tc, hv6, rfl, P, SB, SC, Iv, htc⟩
  intro h t fo l' vals L N hJ
  obtain ⟨v, b, tc, rfl, rfl, P, SB, SC, Iv, htc⟩ := hJ
  have hmo := Iv.ko.len SB.L.nodup
  have s8 := Iv.s8
  -- the objects
  refine x_if (objs_test G hA V X L N SB SC (by omega) fun h t fo ex L N => if_ff (x_nil ?_))
  have m1 : ∀ p ∈ v.ex, p ∈ v.ex ++ ex := fun p hp => List.mem_append_left _ hp
  replace SB : StB w f b { v with ex := v.ex ++ ex } := ⟨SB.B, SB.U, SB.S, SB.L.mono fun v b z => z.mono m1⟩
  replace SC : StC w f b { v with ex := v.ex ++ ex } := ⟨SC.U, SC.S, SC.O.mono fun v b z => z.mono m1, SC.R⟩
  generalize ({ v with ex := v.ex ++ ex } : Vr) = vv at *
  clear m1 P
  -- for number in range(9)
  refine x_for (e_call (e_blt 4 G V L (b_range _) (cw_b rfl (a_cons (e_int fun _ _ => a_nil ?_)))))
  refine it_range1 L (by decide) fun I iob h t LI cI src => ?_
  refine for_name 8 (fun j l' vals => vals = [some (.ref sc), some (.ref f.cl), some (.ref f.p), some (.ref De), some (.int s0 ts0), some (.bool tc)] ∧ ∃ ex, l' = LW w f { vv with ex := ex } ∧ ∀ p ∈ vv.ex, p ∈ ex) V hA.u src cI LI N ⟨rfl, vv.ex, rfl, fun p hp => hp⟩ (fun _ _ _ _ p hp => by cases hp) ?_ ?_
  · intro j x l' vals h t fo iob hj hv hJ L c0 N
    obtain ⟨tk, rfl⟩ := hv
    obtain ⟨rfl, ex, rfl, hsub⟩ := hJ
    rw [show (0 : Int) + (j : Int) = (j : Int) by omega] at N
    refine ref_turn G hA hF V eF X L N rfl ⟨SB.B, SB.U, SB.S, SB.L.mono fun v b z => z.mono hsub⟩ ⟨SC.U, SC.S, SC.O.mono fun v b z => z.mono hsub, SC.R⟩ (by omega) fun h t fo ex2 L N hsub2 => ?_
    exact ⟨h, t, fo, _, _, iob, rfl, L, c0, N.take 6, rfl, ex2, rfl, fun p hp => hsub2 p (hsub p hp)⟩
  intro h t fo l' vals L N hJ
  obtain ⟨rfl, ex, rfl, hsub⟩ := hJ
  refine law_end G hA V X L N ⟨SB.B, SB.U, SB.S, SB.L.mono fun v b z => z.mono hsub⟩ ⟨SC.U, SC.S, SC.O.mono fun v b z => z.mono hsub, SC.R⟩ Iv hT fun h t l L => ?_
  exact q h t l L
end
end Mine
namespace Mine
set_option maxRecDepth 100000
section
variable {w : World} {A : Around} {E : Value → Shared → Prop} {H h : Heap} {g : Array GenState} {d : Drawn} {t : Nat} {os : OsState} {env : Env} {fo : Obj}
theorem law_walk {cs : Ledger} {bf : Str → Option Value} {sc : Addr} {ss : List Value} {ns : List Int} {Q : Flow → Shared → Prop} (G : Gd w H) (hA : Room 19 A) (hF : A.frames = some [env]) (V : EnvOk env lawN lawG) (eF : env.frame = some env.locals) (hck : ∀ x ∈ (["changes", "book", "laid", "found"] : List Str), env.kindOf x = some .cell) (CI : CellsIn env bf ["changes", "book", "laid", "found"] cs)
    (b1 : bf "changes" = none) (b2 : bf "book" = none) (b3 : bf "laid" = none) (b4 : bf "found" = none) (L : Led H h ((env.locals, fo) :: cs)) (N : Loc fo lawN [some (.ref sc)]) (hS : H.IsList sc ss.toArray) (hI : IntsAre ss ns) (hz : ss.length ≤ 64)
    (q : ∀ h t l, Led H h l → Q (.ret (.bool true)) ⟨h, g, d, t, os⟩) : Wp w A (execs lawB env) Q (fun _ _ => False) ⟨h, g, d, t, os⟩ := by
  obtain ⟨c1, o1, c2, o2, c3, o3, c4, o4, rfl, ⟨C1, v1⟩, ⟨C2, v2⟩, ⟨C3, v3⟩, C4, v4⟩ := cells_4 CI
  rw [b1] at v1
  rw [b2] at v2
  rw [b3] at v3
  rw [b4] at v4
  -- cells = [int(cell) % 1000003 for cell in script[:60]]
  refine x_assign_comp ["cell"] ["int"] [] (by decide +kernel) (fun z hz => by cases hz) (e_sub (e_loc 0 V L N ?_)) (hsw := swaps_true V (.tail _ (.head _)) (by decide +kernel))
  refine l_upto60 L N (.head _) hS hI (by omega) fun D0 h t fo ws L N hW => ?_
  refine it_list 1 L rfl LstO.mk fun I iob h L c0 src => ?_
  refine cb_run_loc ["cell"] ["int"] [] 0 1 (fun j ex ys => ex = [] ∧ ys.length ≤ j ∧ IntsAre ys (((ns.take 60).take j).map (fun n => n.fmod 1000003))) V N (by decide +kernel) hA.u src (by have := hI.length; rw [hW.length]; simp; omega) c0 L ⟨rfl, Nat.le_refl _, .nil⟩ (fun p' hp' => by rw [List.mem_singleton.mp hp']; exact .head _) (fun j ex ys e => e.2.1) ?_ ?_
  · intro j x ex ys C' co' D dob iob h t hj hv hP V' eL eF L N'
    obtain ⟨rfl, hl, hY⟩ := hP
    rw [hW.length] at hj
    obtain ⟨u, e⟩ := ints_at hW j hj
    rw [hv] at e; cases e
    have hk := getD_at hj
    generalize (ns.take 60).getD j 0 = k at hk N'
    refine tests_nil ?_
    rw [if_pos rfl]
    refine e_bin (e_call (e_blt 0 G V' L (b_int _) (cw_b rfl (a_cons (e_loc 0 V' L N' (a_nil (c_inti ?_)))))))
    refine e_int fun _ t => i_mod (by decide) fun tk t => ⟨h, _, [], rfl, L, rfl, by simp; omega, ?_⟩
    rw [List.take_add_one, hk, List.map_append]
    exact ints_snoc hY
  intro h t fo cl oc ex ys L N cC hP
  obtain ⟨rfl, hl, hY⟩ := hP
  rw [hW.length, List.take_length] at hY
  have hcl : ((ns.take 60).map (fun n => n.fmod 1000003)).length ≤ 60 := by simp; omega
  generalize (ns.take 60).map (fun n => n.fmod 1000003) = cells at *
  replace L : Led H h ((env.locals, fo) :: (cl, oc) :: (c1, o1) :: (c2, o2) :: (c3, o3) :: (c4, o4) :: []) := L.re 3 [0, 1]
  -- pen = [cells, 0, sum(cells) % 997]
  refine x_assign (e_lst (a_cons (e_loc 1 V L N (a_cons (e_int fun t0 t => a_cons (e_bin (e_call (e_blt 0 G V L (b_sum _) (cw_b rfl (a_cons (e_loc 1 V L N (a_nil ?_)))))))))))) 
  refine c_sum 0 hA.u L N rfl cC hY fun h t fo tk L N => e_int fun _ _ => i_mod (by decide) fun ts t => a_nil (n_lst L (by simp) fun p h L => ?_)
  have P : PenO (lstO [.ref cl, .int 0 t0, .int (cells.sum.fmod 997) ts]) oc cl cells 0 (cells.sum.fmod 997) := ⟨ys, t0, ts, cC, hY, LstO.mk⟩
  generalize cells.sum.fmod 997 = sm at *
  generalize lstO [.ref cl, .int 0 t0, .int sm ts] = op at *
  refine s_loc 2 V L N fun h t fo L N => ?_
  -- entries, size = _law_entries(pen)
  refine x_unpack (e_call (e_glob 1 G V L (g_law_entries _) (cw_f G (by kernel_rfl!) (a_cons (e_loc 2 V L N (a_nil ⟨⟨_, L⟩, e_code ?_⟩)))))) (by rfl)
  refine law_entries G (hA.mono (by decide)) L P (by omega) (by omega) fun h t op T De od exE ts2 L P cD => ?_
  have hkeys := entAll_keys (drawV cells sm) 0
  have hzero := entAll_zero (drawV cells sm) 0
  have hd5 := drawV_lt (cells := cells) (sm := sm) (k := 0) (many := 5) (by decide)
  have hsz : 1 ≤ entSize (drawV cells sm) 0 ∧ entSize (drawV cells sm) 0 ≤ 5 := by unfold entSize; omega
  have hlk : (entAll (drawV cells sm) 0).1.length ≤ 20 ∧ (entAll (drawV cells sm) 0).2 ≤ 40 := by
    obtain ⟨l1, l2⟩ := entTo_len (drawV cells sm) (0 + 1) (entSize (drawV cells sm) 0 - 1).toNat
    unfold entAll
    dsimp only
    refine ⟨?_, by omega⟩
    split
    · exact Nat.le_trans (put_len _ _ _) (by omega)
    · omega
  generalize entAll (drawV cells sm) 0 = mk at *
  obtain ⟨m, k1⟩ := mk
  dsimp only at P cD hkeys hzero hlk
  generalize entSize (drawV cells sm) 0 = s at *
  refine u_two 1 hA.u L rfl fun h L => s_loc 3 V L N fun h t fo L N => s_loc 4 V L N fun h t fo L N => ?_
  have L1 := L.perm (.cons _ (.cons _ (.cons _ (.cons _ (.cons _ List.perm_append_comm)))))
  replace L : Led H h ((env.locals, fo) :: (c1, o1) :: (c2, o2) :: (c3, o3) :: (c4, o4) :: (p, op) :: (cl, oc) :: (De, od) :: exE) := L1.re 9 [0, 5, 6, 7, 8, 2, 3, 4]
  clear L1
  -- changes, book, is_touched = ..
  refine x_unpack (e_tup (a_cons (e_call (e_glob 2 G V L (g_Changes _) (cw_f G (by kernel_rfl!) (a_cons (e_loc 3 V L N (a_cons (e_loc 4 V L N (a_nil ⟨⟨_, L⟩, ?_⟩)))))))))) (swappedNo3 V (hck "changes" (.head _)) (by decide +kernel))
  refine c_cls (fI := 355) G L (by kernel_rfl!) fun x dx h L => ?_
  refine changes_init (i := 6) G (Room.make (hA.mono (by decide : 8 ≤ 19)) _ _ _) L rfl (cD.mono fun v e z => z.mono fun q hq => by simp [hq]) (by omega) (by omega) fun h t c uo so wo ho oo ro L ex1 ex2 cU cS cW cH cO cF => ⟨rfl, ?_⟩
  rw [← ex1]
  refine a_cons (e_call (e_glob 3 G V L (g_law_book _) (cw_f G (by kernel_rfl!) (a_cons (e_loc 3 V L N (a_cons (e_loc 4 V L N (a_nil ⟨⟨_, L⟩, e_code ?_⟩))))))))
  refine law_book (m := m) G (hA.mono (by decide)) L (a := De) (o := od) (by simp) (cD.mono fun v e z => z.mono fun q hq => by simp [hq]) (by omega) fun h t B bo U uo2 S so2 Hd ho2 La lo F fo2 ts3 hvs L cB cU2 cS2 cH2 hI2 cL2 cF2 => ?_
  refine a_cons (e_bool (a_nil (n_tup L (by simp) fun T0 h L => ?_)))
  refine u_three 1 hA.u L rfl fun h L => ?_
  replace L : Led H h ((env.locals, fo) :: (c1, o1) :: (c2, o2) :: (c3, o3) :: (c4, o4) :: (p, op) :: (cl, oc) :: bkL B bo U uo2 S so2 Hd ho2 La lo F fo2 (chL w c uo so wo ho oo ro ((De, od) :: exE))) := L.re 23 [0, 16, 17, 18, 19, 20, 21, 2, 3, 4, 5, 6, 7, 8, 9, 10, 11, 12, 13, 14, 15, 22]
  refine s_cell 1 V C1 (hck _ (.head _)) L v1 rfl fun h o1 L v1 => ?_
  refine s_cell 2 V C2 (hck _ (.tail _ (.head _))) L v2 rfl fun h o2 L v2 => ?_
  refine s_loc 5 V L N fun h t fo L N => ?_
  have hmn := cD.nodup
  rw [used_eq hmn hkeys] at cU
  rw [nextGen_eq] at cS cW
  have hho := fun x => hold_eq (N := (s - 1).toNat) hmn hkeys hzero x
  have hbk := book_keys m (s - 1).toNat
  have hmo : DR w (ObR ((De, od) :: exE)) oo [] := cO _ _
  have X : FxOk w env ⟨c1, c2, c3, c4, p, cl, B, Hd, F, o1, o2, o3, o4, oc, ho2, fo2, wo, ho, c⟩ (bookTo m (s - 1).toNat).2.2 (holdersOf m) (bookTo m (s - 1).toNat).2.1 :=
    ⟨C1, v1, C2, v2, C3, v3, C4, v4, ⟨hvs, cH2, hI2⟩, cH, hho, cW, cF2, hck _ (.tail _ (.tail _ (.head _))), hck _ (.tail _ (.tail _ (.tail _ (.head _))))⟩
  refine law_rest (b := ⟨(bookTo m (s - 1).toNat).1, (bookTo m (s - 1).toNat).2.1, [], [], s⟩) (v := ⟨op, bo, uo2, so2, lo, uo, so, oo, ro, U, S, La, ts3, (De, od) :: exE⟩) G hA hF V eF X L N P ⟨cB, cU2, cS2, cL2 _ _⟩ ⟨cU, cS, hmo, cF⟩ ?_ (by omega) (by omega) (by simp) q
  refine ⟨fun k hk => ?_, fun k hk => ?_, fun k hk => by simp at hk, fun k hk => by simp at hk, hsz.1, by show s ≤ _; omega, by show c.fs ≤ s; omega, by show 1 ≤ c.fs; omega, .inl ex2.symm⟩
  · have := hbk k (.inl hk)
    show 1 ≤ k ∧ k < s
    omega
  · have := hbk k (.inr hk)
    show 1 ≤ k ∧ k < s
    omega
end
end Mine
namespace Mine
set_option maxRecDepth 100000
set_option maxHeartbeats 4000000
theorem topFrom_of {p : Program} {w : World} {N m : Nat} {ann : Option Value} {s₀ s₁ : Shared} (z1 : s₀.heap.isNs mainGlobals = true) (z0 : (s₀.gens.size == 0) = true) (z2 : s₀.heap.objs.size = m) (z3 : s₀.heap.nsMap mainGlobals "__annotations__" = ann) (t : topRun treeTable p w m ann N s₀ (topStub p) = some s₁)
    (l1 : (staticsOk (importedModules p.main.body) s₀.heap s₁.heap && namesBound p s₁.heap && gensDone s₁ && laidKept s₀.heap s₁.heap) = true) : topFrom treeTable p w N s₀ = some s₁ := by
  unfold topFrom
  rw [z1, z0, z2, z3, t]
  show (match staticsOk (importedModules p.main.body) s₀.heap s₁.heap && namesBound p s₁.heap && gensDone s₁ && laidKept s₀.heap s₁.heap with | true => some s₁ | false => none) = _
  rw [l1]
theorem left_of {p q : Program} {loose : List Str} {Xt : Shared → Bool} {α : Type} {Yf : Shared → α} {Ya : World → α} {N m : Nat} {ann : Option Value} {H₀ : Params → Heap} {d₀ : Drawn} {k₀ : Nat} {T : World → OsState → SharedT}
    (open_ : ∀ w : World, (fencedOpening treeTable p w N).map (fun s => (s.heap, s.gens, s.drawn, s.toks)) = some (H₀ w.params, Array.mk [], d₀, k₀))
    (size : ∀ P : Params, ((H₀ P).isNs mainGlobals, (H₀ P).objs.size, (H₀ P).nsMap mainGlobals "__annotations__") = (true, m, ann)) (tabs : ∀ w os, (T w os).abs = ⟨H₀ w.params, #[], d₀, k₀, os⟩)
    (run : ∀ w : World, (fun os => (topRunT (stepT (denote treeTable) p w) (stepOk m ann) N (T w os) (topStub p)).map fun r => ((staticsOk (importedModules p.main.body) (H₀ w.params) r.abs.heap && namesBound p r.abs.heap && gensDone r.abs && laidKept (H₀ w.params) r.abs.heap),
      openSeen q loose (importedModules p.main.body) Xt true r.abs, Yf r.abs)) = fun _ => some (true, openGood q loose, Ya w)) : LeftO p q loose Xt Yf Ya N := by
  intro w
  obtain ⟨⟨h, gs, d, k, os⟩, e, e'⟩ := Option.map_eq_some_iff.mp (open_ w)
  obtain ⟨rfl, rfl, rfl, rfl⟩ : h = H₀ w.params ∧ gs = #[] ∧ d = d₀ ∧ k = k₀ := by simpa using e'
  obtain ⟨r, hr, hl⟩ := Option.map_eq_some_iff.mp (congrFun (run w) os)
  obtain ⟨l1, l2, l3⟩ : _ ∧ _ ∧ _ := by simpa only [Prod.mk.injEq] using hl
  obtain ⟨z1, z2, z3⟩ : _ ∧ _ ∧ _ := by simpa only [Prod.mk.injEq] using size w.params
  have t := topRunT_of hr
  rw [tabs] at t
  have tf := topFrom_of (s₀ := ⟨H₀ w.params, #[], d, k, os⟩) z1 rfl z2 z3 t l1
  unfold openEnds
  rw [e]
  show (topFrom treeTable p w N _).map _ = _
  rw [tf]
  exact congrArg some (Prod.ext l2 l3)
theorem boot0 (w : World) : (fencedOpening treeTable pw w 7000).map (fun s => (s.heap, s.gens, s.drawn, s.toks)) = some (boot_heap w.params, Array.mk [], boot_drawn, boot_toks) := boot_open (by kernel_rfl!) (by rfl) (fun s => by rfl) w
theorem tabs0 (w : World) (os : OsState) : (S0T w os).abs = ⟨boot_heap w.params, #[], boot_drawn, boot_toks, os⟩ := by
  show Shared.mk (absHeap (T0 w.params) (boot_heap w.params).objs.size (boot_heap w.params).life) #[] boot_drawn boot_toks os = _
  rw [S0_abs]
open PySem.W.Fast in
theorem runN (w : World) : (fun os => (topRunT (stepT (denote treeTable) pw w) (stepOk 11 (some (.ref 6))) 7000 (S0T w os) (topStub pw)).map fun r =>
      ((staticsOk (importedModules pw.main.body) (boot_heap w.params) r.abs.heap && namesBound pw r.abs.heap && gensDone r.abs && laidKept (boot_heap w.params) r.abs.heap),
        openSeen (Qp pw) lo (importedModules pw.main.body) (fun s => xlAt (Qp pw) [] s && recOk [] s) true r.abs, obsK r.abs))
    = fun _ => some (true, openGood (Qp pw) lo, (K w.params).map fun x => some x.2) := by
  have R := runT w
  rw [← te10156331382660048174, ← te11892475500146522536, ← te14364793385576792824, ← te6613529449190102663, ← te5923862056798008813, ← te4187177175401517315, K_eq] at R
  exact R
theorem left : LeftO pw (Qp pw) lo (fun s => xlAt (Qp pw) [] s && recOk [] s) obsK (fun w => (K w.params).map fun x => some x.2) 7000 := left_of boot0 bootSize tabs0 runN
theorem as_ok (P : Params) : as = (K P).map (·.1) := by kernel_rfl!
def KIn (w : World) (h : Heap) : Prop := (K w.params).In h
theorem KIn_of (w : World) (s : Shared) (e : obsK s = (K w.params).map fun x => some x.2) : KIn w s.heap := Frag.in_of (as_ok _) e
theorem KIn_keeps (w : World) (h h' : Heap) (x : KIn w h) (k : ∀ b o, h.get? b = some o → h'.get? b = some o) : KIn w h' := Frag.In.keeps x k
end Mine
namespace Mine
set_option maxRecDepth 100000
set_option maxHeartbeats 4000000
abbrev lawC : List Str := ["changes", "book", "laid", "found"]
theorem Cd.out {w : World} {A : Around} {c : Code} {R : Result → Shared → Prop} {s : Shared} (q : Cd w A c R s) : codeAny (model pw w) A c R s := by delta Cd at q; exact q
def lawS : Scope := fnS (topS pw 35)
theorem law_ck : (cellNames lawS.names == lawC && lawN.all (fun x => lawS.names.lookup x == some .local) && lawC.all (fun x => lawS.names.lookup x == some .cell && x != ("__classdict__" : Str)) && lawG.all (fun x => lawS.names.lookup x == some .globalImplicit) && (lawN ++ lawG ++ lawC).all (fun x => !(x == ("__debug__" : Str)))
      && (["script"] : List Str).all (fun x => lawN.contains x || lawC.contains x) && placesOk ["script"] lawN [some 0, none, none, none, none, none, none, none, none, none] && placesOk ["script"] lawC [none, none, none, none] && decide lawN.Nodup && decide lawC.Nodup && decide (["script"] : List Str).Nodup && lawS.kind == .function && !lawS.isCoroutine && !lawS.isGenerator && mainGlobals == mainGlobals && builtinsNs == builtinsNs) = true := by decide +kernel
theorem row_said0 : PySem.Challenge.rw_nn0129_01.row.wellSaid = true := by kernel_rfl!
theorem law_said : PySem.Challenge.rw_nn0129_01.wellSaid = true := by
  unfold PySem.W.OpenLaw.wellSaid
  rewrite [row_said0]
  kernel_rfl!
theorem main0 : PySem.Challenge.rw_nn0129_01.Holds := by
  w_on
  refine PySem.W.holds_law law_said fun said => ?_
  refine PySem.W.holds_open (q := Qp pw) (loose := lo) (Xt := fun s => xlAt (Qp pw) [] s && recOk [] s) (XP := XL (Qp pw) []) (Yf := obsK) (Ya := fun w => (K w.params).map fun (x : Addr × Obj) => some x.2) (YP := KIn) (N := 7000) left KIn_of KIn_keeps (fun s e => xl_of s (Bool.and_eq_true_iff.mp e).1) XL.keeps (by rfl) (by rfl) (by rfl) (fun s e => recFacts_of (Bool.and_eq_true_iff.mp e).2) (by rfl) (by first | assumption | decide +kernel) (by decide +kernel) ⟨rfl, rfl, rfl, rfl, rfl, by decide +kernel⟩ ?hw ?hc
  case hw => w_witness2
  case hc =>
    intro w s₀ s₁ mg mb G Y fa o pm cd doc dV kV ho hd hcd hD hmg hg args vals as hpre hlay hrd hwl hlo
    have e1 := hD.none rfl
    have e2 := hD.noKw
    subst e1 e2
    refine Ground.open G ?_
    intro T B D TE TW
    clear hmg
    wrow_args hpre hlay hrd hwl hlo
    refine enter_call ?_
    refine codeAny_mono ?_ (fun _ _ g => GoodW.toG g)
    rename_i ns _ _ _ _ _ _ _ la vs _ hL ra w1 r0 hI hr hcond _
    have Gd' : Gd w s₁.heap := ⟨Y, ⟨mg, T.g⟩, ⟨mb, T.b, T.builtins⟩, T.nolimit⟩
    have hlen : vs.length ≤ 64 := by have := hI.length; omega
    have L0 : Led s₁.heap s₁.heap [] := ⟨fun _ _ e => e, Nat.le_refl _, fun p hp => (by cases hp), fun p hp => (by cases hp), List.nodup_nil⟩
    have fin : ∀ (h : Heap) (t : Nat) (l : Ledger), Led s₁.heap h l → GoodW PySem.Challenge.rw_nn0129_01.row.claim (classAt s₀.heap) (ExcName.means s₀.heap) [ofPy (.list (ns.map .int))] s₁ (.ok (.ret (.bool true))) ⟨h, s₁.gens, s₁.drawn, t, s₁.os⟩ := by
      intro h t l L
      refine ⟨.inl ⟨_, _, _, rfl, fun _ => rfl, .bool true, ?_, ?_⟩, L.base, rfl, hg⟩
      · with_unfolding_all rfl
      · exact fun _ => ⟨List.nodup_nil, fun a ha => by cases ha⟩
    clear T B TE TW G ra w1 r0 hr hcond
    have R20 : Room 20 callerA := ⟨rfl, by decide, by decide⟩
    have key := call_fn_h (w := w) (A := callerA) (h := s₁.heap) (g := s₁.gens) (d := s₁.drawn) (t := s₁.toks) (os := s₁.os) (R := GoodW PySem.Challenge.rw_nn0129_01.row.claim (classAt s₀.heap) (ExcName.means s₀.heap) [ofPy (.list (ns.map .int))] s₁) (body := lawB) (args := ⟨[.ref la], []⟩) ["script"] lawN lawC lawG [some 0, none, none, none, none, none, none, none, none, none] [none, none, none, none] [.ref la] Gd' L0 R20.depth ho hd hcd rfl (BindsTo.of_eq rfl) rfl law_ck rfl ?_
    · exact key.out
    · intro h t fo env cs V eF hck CI L N
      refine calm (law_walk Gd' (R20.deeper env) (frames_next rfl) V eF hck CI rfl rfl rfl rfl (L.perm (by simp)) (N.take 1) hL hI hlen fun h t l L => fin h t l L)
end Mine
theorem PySem.Challenge.cw_nn0129_01_holds : PySem.Challenge.rw_nn0129_01.Holds := by
  exact Mine.main0
